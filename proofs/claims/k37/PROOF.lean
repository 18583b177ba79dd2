import PyProof.Rows.All
import Wide.All
import OpenK.AllK
import Wide.FinOn
import HandS.ForMost
import HandS.ForExc
import HandS.ExcIs
import HandS.ExcOwn
import HandS.ExcValue
import HandS.IsInst
import HandS.Deep
import HandS.More
import HandS.Style
import HandS.SortInts
import HandS.SortRule
import HandS.Conv
import HandS.Flow
import HandS.CallSlots
import HandS.StrMore
import PyProof.StrOps2
import HandS.SetFor
import HandS.Strs
import HandS.TupSets
import KE.SortKeyHeap
import HandS.Text
import PySem.Challenge.RW_arcpins_k37_texts_that_write_no_ring
set_option Elab.async false
set_option linter.all false
set_option maxRecDepth 100000
set_option maxHeartbeats 4000000
namespace Ac
open PySem PySem.Spec PyProof.Rows L2
/-! ### a caught error, kept as a thing -/
/-- an error of a class, caught or not -/
def ErrO (cls : Value) (a : Addr) : HO := .ext fun h => ∃ (oe : Obj) (vs : Array Value), h.get? a = some oe ∧ Zc cls none oe ∧ oe.data = .fields vs
theorem errO_ok {P : Program} {w : World} {H : Hp} {h : Heap} {a : Addr} {cls : Value} {oe : Obj} {vs : Array Value} (e : h.get? a = some oe) (z : Zc cls none oe) (d : oe.data = .fields vs) : ObjOk P w H h a (ErrO cls a) :=
  ⟨⟨oe, vs, e, z, d⟩, ⟨oe, e⟩, fun _ _ ⟨o, v, q, r⟩ k => ⟨o, v, k o q, r⟩⟩
section
variable {X : Cx} {pins : List (Addr × Obj)} {σ : L2.St} {H : Hp} {s : Shared}
/-- the error is kept from here on: the state as a suite reads it -/
theorem Inv.keepErr {a : Addr} {oe : Obj} {vs : Array Value} {cls : Value} (I : Inv X pins σ H s) (n0 : X.s_0.heap.get? a = none) (ha : s.heap.get? a = some oe) (hz : Zc cls none oe) (hd : oe.data = .fields vs) (na : H a = none)
    (nL : a ≠ X.env.locals) (nC : ∀ x c, X.env.cells.lookup x = some c → c ≠ a) (nP : ∀ p ∈ X.pn ++ pins, p.1 ≠ a) : Inv (X.suite a (X.pn ++ pins)) [] σ (upd H a (ErrO cls a)) s where
  ok := I.ok.suite a _
  os := I.os
  bare := I.bare
  base := {
    keep := I.base.keep
    slot := I.base.slot
    free := fun b o e n hx => by
      have nb : b ≠ a := fun z => by rw [z, n0] at e; cases e
      rw [upd_ne nb]
      exact I.base.free b o e n hx
    there := I.base.there
    tups := fun b xs e => by
      have q := I.base.tups b xs e
      rw [upd_ne (ne_of_none q na)]
      exact q
    frzs := fun b o u e => by
      have q := I.base.frzs b o u e
      rw [upd_ne (ne_of_none q na)]
      exact q
    tbls := fun b ps e => by
      obtain ⟨m, q⟩ := I.base.tbls b ps e
      exact ⟨m, by rw [upd_ne (ne_of_none q na)]; exact q⟩ }
  loc := I.loc
  cell := I.cell
  free := by rw [upd_ne (Ne.symm nL)]; exact I.free
  freeC := fun x c e => by rw [upd_ne (nC x c e)]; exact I.freeC x c e
  pin := fun p hp => by
    have hp' : p ∈ X.pn ++ pins := by rw [List.append_nil] at hp; exact hp
    obtain ⟨h1, h2, h3⟩ := I.pin p hp'
    exact ⟨h1, by rw [upd_ne (nP p hp')]; exact h2, h3⟩
  hok := I.hok.laidN (fun _ _ q => q) na (errO_ok ha hz hd)
  len := I.len
theorem Inv.outSuite {a : Addr} {pn' : List (Addr × Obj)} (I : Inv (X.suite a (X.pn ++ pins)) pn' σ H s) (ok : X.Ok) : Inv X pins σ H s where
  ok := ok
  os := I.os
  bare := I.bare
  base := I.base
  loc := I.loc
  cell := I.cell
  free := I.free
  freeC := I.freeC
  pin := fun p hp => I.pin p (List.mem_append.mpr (.inl hp))
  hok := I.hok
  len := I.len
end
/-- what 'except c as n' (n's slot: i) wishes where the error is kept -/
def wKeep (K : PySem.W.Frag) (c : Value) (i : Nat) (ts : Addr → Value → TS) (Wo : WX) (D : Ends) : WX := fun cls d σ H =>
  d = none ∧ ∃ b, PySem.W.exmOne K cls c = some b ∧ (b = false → Wo cls d σ H) ∧
    (b = true → i < σ.length → ∀ a, H a = none → ts a cls { nx := fun σ' => D.nx (σ'.set i none), rt := D.rt, bk := fun σ' => D.bk (σ'.set i none), ct := fun σ' => D.ct (σ'.set i none) } (σ.set i (some (.ref a))) (upd H a (ErrO cls a)))
section
variable {X : Cx} {x n : Str} {c : Value} {i : Nat} {bd su : List Stmt} {s0 : Stmt} {np p0 p1 : Pos} {tb : WX → TS} {ts : Addr → Value → TS} {Wo : WX}
theorem ps_tryK (hs : X.stack = X.env :: X.outer) (hf : X.env.frame = some X.env.locals) (hx : X.ex = []) (hN : X.N.Nodup) (hi : X.N[i]? = some n) (hl : X.env.kindOf n = some .local) (hc : Names X x c) (tk : Takes X Wo)
    (hb : ∀ (W : WX) (pn : List (Addr × Obj)) (xe : Value → Shared → Prop), Takes (X.tr pn xe) W → PassesOwn (model X.prog X.w) X.A X.env xe → PSs (X.tr pn xe) bd (tb W))
    (hsu : ∀ (a : Addr) (cls : Value) (pn : List (Addr × Obj)), PSs (X.suite a pn) (s0 :: su) (ts a cls)) :
    PS X (.Try bd [.ExceptHandler (some (.Name x np)) (some n) (s0 :: su) p1] [] [] p0) (fun D σ H => tb (wKeep X.K c i ts Wo D) D σ H) := ⟨fun pins s σ H D I q => by
  have xok := I.ok
  have frm : X.A.frames = some (X.env :: X.outer) := by rw [xok.frames, hs]
  have back : ∀ {pn' : List (Addr × Obj)} {xe : Value → Shared → Prop} {f : Flow} {s1 : Shared}, SP (X.tr (X.pn ++ pins) xe) pn' D f s1 → SP X pins D f s1 := fun {pn' xe f s1} z => by
    cases f with
    | next => obtain ⟨σ1, H1, J1, q1⟩ := z; exact ⟨σ1, H1, J1.ofTry xok, q1⟩
    | brk => obtain ⟨σ1, H1, J1, q1⟩ := z; exact ⟨σ1, H1, J1.ofTry xok, q1⟩
    | cont => obtain ⟨σ1, H1, J1, q1⟩ := z; exact ⟨σ1, H1, J1.ofTry xok, q1⟩
    | ret u => obtain ⟨v1, σ1, H1, J1, r1, q1⟩ := z; exact ⟨v1, σ1, H1, J1.ofTry xok, r1, q1⟩
  refine wpAny_Try_except (wpAny_mono ((hb (wKeep X.K c i ts Wo D) (X.pn ++ pins) (fun u s1 => wpAny (model X.prog X.w) X.A (noteFrame u X.env) (fun _ s2 => wpAny (model X.prog X.w) X.A (setFlight u none)
    (fun _ s3 => wpAny (model X.prog X.w) X.A (handleBy u X.env [.ExceptHandler (some (.Name x np)) (some n) (s0 :: su) p1]) (SP X pins D) X.xe s3) X.xe s2) X.xe s1) (fun u sE air => ?_) PassesOwn.looking).run [] s σ H D (I.toTry _) q) (fun f s1 z => ?_) (fun _ _ z => z))
  · obtain ⟨a, B, sI, pn1, σ1, H1, cls, d, rfl, J0, nb, up, sky, na, os, ag, rfl, b, hm, hno, hyes⟩ := air
    have J : Inv X pins σ1 H1 sI := J0.ofTry xok
    rw [show X.stack = X.env :: X.outer from hs] at nb
    have sky1 : Sky B (X.env :: X.outer) a (Zc cls none) X.env.locals sE.heap := by rw [← hs]; exact sky
    show wpAny (model X.prog X.w) X.A (noteFrame (.ref a) X.env) _ _ _
    refine Sky.land Zc.steady frm hf sky1 fun h3 fl up3 => ?_
    have nbx : ∀ b o, sI.heap.get? b = some o → b ∉ frs X.stack → B.get? b = some o := by rw [hs]; exact nb
    have J3 : Inv X pins σ1 H1 { sE with heap := h3 } := J.landed nbx fl.1 (up.trans up3) os ag
    obtain ⟨oe3, vs3, he3, hz3, hd3⟩ := fl.there
    have nfr : a ∉ frs (X.env :: X.outer) := fun hin => by
      obtain ⟨_, o', e', hnf⟩ := fl.2.2.1.mem hin
      rw [he3] at e'
      cases e'
      exact hnf _ hd3
    have nI : sI.heap.get? a = none := by
      cases e : sI.heap.get? a with
      | none => rfl
      | some o =>
        have z := nb a o e nfr
        rw [fl.2.1] at z
        cases z
    have n0 : X.s_0.heap.get? a = none := by
      cases e : X.s_0.heap.get? a with
      | none => rfl
      | some o =>
        obtain ⟨o', z⟩ := J.base.there a o e (by rw [hx]; exact fun z => nomatch z)
        rw [nI] at z
        cases z
    have nL : a ≠ X.env.locals := fun z => nfr (List.mem_filterMap.mpr ⟨X.env, List.mem_cons_self, by rw [hf, z]⟩)
    have nC : ∀ y e, X.env.cells.lookup y = some e → e ≠ a := fun y e h z => by
      obtain ⟨v, o, ho, _⟩ := J.cell y e h
      rw [z, nI] at ho
      cases ho
    have nP : ∀ p ∈ X.pn ++ pins, p.1 ≠ a := fun p hp z => by
      have h1 := (J.pin p hp).1
      rw [z, nI] at h1
      cases h1
    have S3 := Ac.Inv.keepErr J3 n0 he3 hz3 hd3 na nL nC nP
    refine wpAny_handleBy_cons (codeAny_handlers_test ?_) (by intro z; cases z)
    have lt : PySem.W.Looks (model X.prog X.w) h3 (typeOf (.ref a)) cls := fun A Q E s k z => wpAny_typeOf_ref (k _ _ he3) (by rw [hz3.1]; exact z)
    have lm := PySem.W.exm_one (M := model X.prog X.w) J3.kIn lt hm
    have tst : ∀ {Q : Value → Shared → Prop} {E : Value → Shared → Prop}, Q c { sE with heap := h3 } → wpAny (model X.prog X.w) (X.A.mark (some (.ref a))) (eval (.Name x np) X.env) Q E { sE with heap := h3 } := fun {Q E} z => by
      obtain ⟨hg, hdb, e | ⟨e1, e2, e3⟩⟩ := hc
      · exact ld_glob (X := X.suite a (X.pn ++ pins)) S3 hg e z hdb
      · exact ld_blt (X := X.suite a (X.pn ++ pins)) S3 hg e1 e2 z e3 hdb
    refine tst (lm.here ?_)
    cases b with
    | true =>
      refine codeAny_handlers_suite_as (HandSPX.lands_againZ fl fun h4 fl4 up4 => ?_)
      have J4 : Inv X pins σ1 H1 { sE with heap := h4 } := J.landed nbx fl4.1 ((up.trans up3).trans up4) os ag
      obtain ⟨oe4, vs4, he4, hz4, hd4⟩ := fl4.there
      have S4 := Ac.Inv.keepErr J4 n0 he4 hz4 hd4 na nL nC nP
      refine store_ok (X := X.suite a (X.pn ++ pins)) (v := .ref a) S4 hN hi (.inl hl) rfl (fun s5 S5 => ?_) (.inr hl)
      refine wpAny_mono ((hsu a cls (X.pn ++ pins)).run [] s5 _ _ _ S5 (hyes rfl (by rw [J.len]; exact (List.getElem?_eq_some_iff.mp hi).1) a na)) (fun f s6 z => ?_) (fun _ _ z => z.elim)
      have fin : ∀ {σ6 : L2.St} {H6 : Hp} {Q : Shared → Prop}, Inv (X.suite a (X.pn ++ pins)) [] σ6 H6 s6 → (∀ s7, Inv X pins (σ6.set i none) H6 s7 → Q s7) →
          wpAny (model X.prog X.w) X.A (do bindName X.env n .none; unbindBehindTheSuite X.env n p1) (fun _ s7 => Q s7) X.xe s6 := fun {σ6 H6 Q} S6 hq => gone_ok (Ac.Inv.outSuite S6 xok) hN hi hl hq
      cases f with
      | next => obtain ⟨σ6, H6, S6, q6⟩ := z; exact fin S6 fun s7 J7 => ⟨_, _, J7, q6⟩
      | brk => obtain ⟨σ6, H6, S6, q6⟩ := z; exact fin S6 fun s7 J7 => ⟨_, _, J7, q6⟩
      | cont => obtain ⟨σ6, H6, S6, q6⟩ := z; exact fin S6 fun s7 J7 => ⟨_, _, J7, q6⟩
      | ret u => obtain ⟨v6, σ6, H6, S6, r6, q6⟩ := z; exact fin S6 fun s7 J7 => ⟨_, _, _, J7, r6, q6⟩
    | false =>
      show wpAny _ X.A (handleBy (.ref a) X.env []) _ _ _
      refine wpAny_handleBy_nil ?_
      obtain ⟨_, _, _, oeF, vsF, T, oT, tsF, heF, hzF, hdF, h1F, hrF⟩ := id fl
      unfold PySem.passOn
      refine wpAny_bind (wpAny_field heF hdF h1F ?_)
      rw [if_neg (show ¬ ((Value.ref T == Value.none) = true) from by simp)]
      have out : wpAny (model X.prog X.w) X.A (setFlight (.ref a) X.env.frame) (fun _ s4 => wpAny (model X.prog X.w) X.A (throw (.ref a) : Sem Flow) (SP X pins D) X.xe s4) X.xe { sE with heap := h3 } := by
        rw [hf]
        exact HandSPX.setFlight_upZ fl fun h4 hh4 up4 => wpAny_throw (tk _ _ ⟨a, B, sI, pins, σ1, H1, cls, none, rfl, J, nbx, (up.trans up3).trans up4, .inr (.inr (by rw [hs]; exact hh4)), na, os, ag, hno rfl⟩)
      first
        | exact wpAny_bind (wpAny_pure (wpAny_bind out))
        | exact wpAny_bind out
  · cases f with
    | next => exact wpAny_execs_nil (back z)
    | brk => exact back z
    | cont => exact back z
    | ret u => exact back z⟩
end
/-! ### isinstance of such a thing -/
/-- a value's type: data, or an error that is kept -/
def TyE (K : PySem.W.Frag) (H : Hp) (x : V) (t : Value) : Prop := TyX K H x t ∨ ∃ a C, x = .ref a ∧ t = .ref C ∧ H a = some (ErrO (.ref C) a) ∧ ExcC K C
section
variable {X : Cx} {pins : List (Addr × Obj)} {σ : L2.St} {H : Hp} {s : Shared}
theorem kit_ofE {x : V} {u t : Value} (I : Inv X pins σ H s) (rx : RelV x u) (ty : TyE X.K H x t) : ∃ P : Heap → Prop, PySem.W.KitX X.K u t P ∧ P s.heap ∧ u ≠ .builtin "__main__.__loader__#opaque" := by
  rcases ty with ty | ⟨a, C, rfl, rfl, e, hC⟩
  · exact kit_of I rx ty
  · cases (show u = Value.ref a from rx)
    obtain ⟨⟨oe, vs, h1, ⟨h2, h3⟩, h4⟩, _⟩ := (show ObjOk X.prog X.w H s.heap a (ErrO (.ref C) a) from I.hok a _ e)
    refine ⟨_, PySem.W.handS_kitx_exc (x := a) (ox := oe) hC.hg hC.hk hC.hs hC.hd hC.ha hC.hn hC.ht hC.hm, ?_, fun z => nomatch z⟩
    obtain ⟨oc, od, oda, osl⟩ := oe
    dsimp only at h2 h3 h4
    subst h2 h3 h4
    exact ⟨h1, rfl, rfl, trivial⟩
end
def rIsX (K : PySem.W.Frag) : List V → Hp → VK → Prop := fun xs H Q => ∃ (x c : V) (t u : Value) (b : Bool), xs = [x, c] ∧ ClsV c u ∧ TyE K H x t ∧ PySem.W.kitOne K t u = some b ∧ Q (.bl b) H
def rIsXT (K : PySem.W.Frag) : List V → Hp → VK → Prop := fun xs H Q => ∃ (x : V) (tp : Addr) (cs : List V) (t : Value) (us : List Value) (b : Bool), xs = [x, .ref tp] ∧ H tp = some (.tup cs) ∧ Paired ClsV cs us ∧ TyE K H x t ∧ PySem.W.kitAny K t us = some b ∧ Q (.bl b) H
section
variable {X : Cx}
theorem call_isX : CallR X (.builtin "isinstance") (rIsX X.K) := fun pins s σ H xs us Q I r h => by
  obtain ⟨x, c, t, u, b, rfl, k, ty, e, q⟩ := h
  obtain ⟨u1, u2, rfl, r1, r2⟩ := vals2 r
  have e2 := k.eq r2
  subst e2
  obtain ⟨P, Z, p, hx⟩ := kit_ofE I r1 ty
  exact PySem.W.kia_one Z I.kIn p e hx fun tk => ⟨.bl b, H, I.tok tk, rfl, q⟩
theorem call_isXT : CallR X (.builtin "isinstance") (rIsXT X.K) := fun pins s σ H xs us Q I r h => by
  obtain ⟨x, tp, cs, t, ws, b, rfl, hT, k, ty, e, q⟩ := h
  obtain ⟨u1, u2, rfl, r1, r2⟩ := vals2 r
  cases (show u2 = Value.ref tp from r2)
  obtain ⟨P, Z, p, hx⟩ := kit_ofE I r1 ty
  obtain ⟨_, its, rv, o, h1, h2, m, h3⟩ := (show ObjOk X.prog X.w H s.heap tp (.tup cs) from I.hok tp _ hT)
  have e3 := ClsV.all k rv
  subst e3
  obtain ⟨oc, od, dt, sl⟩ := o
  dsimp only at h2 h3
  subst h2 h3
  exact PySem.W.kia_tup Z I.kIn p h1 e hx fun tk => ⟨.bl b, H, I.tok tk, rfl, q⟩
end
end Ac
namespace Ac
open PySem PySem.Spec PyProof.Rows L2

abbrev D := PyData
/-- what a name holds: data that stays, a list of one's own (may grow), a list just made, a handle; a tree of one's own (its lists lie at ads), a list whose things are another's by now, a list of handles -/
inductive Val where
  | dat (d : D) | own (xs : List D) | new (xs : List D) | hdl (k : Nat)
  | tre (ads : List Addr) (d : D) | shl (b : Addr) | hds (ks : List Nat)
  | odi (b : Addr) (n : Nat) (f : Str → Option D)
abbrev Ctx := List (Option Val)
def look : Ctx → Nat → Option Val
  | [], _ => none
  | v :: _, 0 => v
  | _ :: r, i + 1 => look r i
def put : Ctx → Nat → Option Val → Ctx
  | [], _, _ => []
  | _ :: r, 0, v => v :: r
  | w :: r, i + 1, v => w :: put r i v
def scal : D → Bool
  | .none | .bool _ | .int _ | .str _ => true
  | _ => false
/-- what a def of plain data gives -/
structure Summ where
  run : List D → (Val → Prop) → (Nat → Prop) → Prop
  mono : ∀ {ds : List D} {Q Q' : Val → Prop} {Y Y' : Nat → Prop}, (∀ v, Q v → Q' v) → (∀ n, Y n → Y' n) → run ds Q Y → run ds Q' Y'
/-- what a def with a state gives -/
structure ESumm (S : Type) where
  run : List Val → S → (Val → S → Prop) → (Nat → S → Prop) → Prop
  mono : ∀ {vs : List Val} {s : S} {Q Q' : Val → S → Prop} {Y Y' : Nat → S → Prop}, (∀ v s', Q v s' → Q' v s') → (∀ n s', Y n s' → Y' n s') → run vs s Q Y → run vs s Q' Y'
inductive BI where
  | len | min2 | max2 | minL | maxL | sum | sorted | list | tuple | abs | int | str | isint | isbool | islist | istuple | isstr | sortP | sortT | dictP | repr
/-- of two texts; a text and a number; a text and a list -/
inductive T2 where
  | split | part | join | strip | mulS
def isMul : T2 → Bool
  | .mulS => true
  | _ => false
def txN : T2 → Str
  | .split => "split"
  | .part => "partition"
  | .join => "join"
  | .strip => "strip"
  | .mulS => ""
inductive MT where
  | index
/-- a step of a path: a number, or a name that holds one -/
inductive Px where
  | c (i : Int) | v (i : Nat)
inductive Tg where
  | nm (i : Nat) | tp (is : List Nat)
mutual
inductive E (S : Type) where
  | var (i : Nat) | non | bl (b : Bool) | int (i : Int) | str (x : Str)
  | glb (x : Str) (i : Int)
  | op (o : Operator) (a b : E S)
  | neg (a : E S)
  | nt (a : E S) | an (a b : E S) | or (a b : E S)
  | cmp (o : CmpOp) (a b : E S)
  | ch (o o' : CmpOp) (a b c : E S)
  | isn (pos : Bool) (a : E S)
  | isb (pos : Bool) (b : Bool) (a : E S)
  | ix (a b : E S)
  | sl (a : E S) (lo hi : Es S)
  | rv (a : E S)
  | ls (es : Es S) | tp (es : Es S) | rep (es : Es S) (b : E S)
  | comp (own : List Nat) (tg : Tg) (it : It S) (c : Es S) (e : E S)
  | call (x : Str) (φ : Summ) (es : Es S)
  | cal0 (x : Str) (φ : Summ)
  | calE (x : Str) (φ : ESumm S) (es : Es S)
  | bi (b : BI) (es : Es S)
  | mt (m : MT) (a : E S) (es : Es S)
  | pop (i : Nat) (a : E S)
  | d0 | d1 (k v : E S)
  | compM (own : List Nat) (tg : Tg) (it : It S) (i : Nat) (a : E S)
  | srtS (a : E S) | srtL (a : E S) | lenS (a : E S) | lr (es : Es S)
  | callT (x : Str) (φ : Summ) (i j k : Nat)
  | isC (i : Nat) (tp : Bool) (ns : List Nat)
  | isnH (pos : Bool) (a : E S)
  | met (m : Str) (φ : ESumm S) (o : E S) (es : Es S)
  | mk (x : Str) (φ : ESumm S) (es : Es S)
  | calB (x : Str) (φ : ESumm S) (is : List Nat)
  | lend (is : List Nat) (e : E S)
  | mv (i : Nat)
  | tT (es : Es S) | lT (es : Es S)
  | compT (own : List Nat) (tg : Tg) (it : It S) (e : E S)
  | catT (i j : Nat)
  | hl (es : Es S) | hix (i : Nat) (e : E S)
  | isnS (pos : Bool) (i : Nat)
  | mvI (i n : Nat)
  | tx (o : T2) (a b : E S)
  | glbS (x : Str) (z : Str)
  | dGet (i j k : Nat)
inductive Es (S : Type) where
  | nil | cons (e : E S) (es : Es S)
inductive It (S : Type) where
  | seq (e : E S) | rng (es : Es S) | enu (e : E S) | zip (a b : E S)
end
inductive St1 (S : Type) where
  | nop
  | asg (i : Nat) (e : E S)
  | asgL (i : Nat) (e : E S)
  | asgT (is : List Nat) (e : E S)
  | asgH (i : Nat) (φ : ESumm S) (e : E S)
  | app (i : Nat) (e : E S)
  | ins (i : Nat) (j : E S) (e : E S)
  | setI (i : Nat) (j : E S) (e : E S)
  | aug (i : Nat) (o : Operator) (e : E S)
  | expr (e : E S)
  | ret (e : E S)
  | brk | cnt | never
  | raise (x : Str) (n : Nat)
  | asgTT (is : List Nat) (e : E S)
  | asgP (i j : Nat) (a b : E S)
  | appP (i : Nat) (ps : List Px) (e : E S)
  | insP (i : Nat) (ps : List Px) (e : E S)
  | setP (i : Nat) (ps : List Px) (j : E S) (e : E S)
  | appS (i : Nat) (e : E S)
  | asgD (i : Nat)
  | dSet (i j k : Nat)
mutual
inductive Sm (S : Type) where
  | one (s : St1 S)
  | ite (c : E S) (t f : Sms S)
  | whl (c : E S) (b : Sms S)
  | for (tg : Tg) (it : It S) (b : Sms S)
  | tryC (b : Sms S) (i j : Nat) (c : E S)
  | tryS (b : Sms S) (i : Nat) (su : Sms S)
  | forA (i j : Nat) (c : Int)
  | ifO (x : Str) (φ : Summ) (i : Nat) (js : List Nat) (c : E S) (t : Sms S)
inductive Sms (S : Type) where
  | nil | cons (s : Sm S) (r : Sms S)
end

/-! ### meaning -/
section
variable {S : Type}
def asD : Val → (D → Prop) → Prop
  | .dat d, k => k d
  | .new xs, k => k (.list xs)
  | .tre _ d, k => k d
  | _, _ => False
def rdO : Option Val → (D → Prop) → Prop
  | some (.dat d), k => k d
  | some (.own xs), k => k (.list xs)
  | _, _ => False
/-- an operand: a name is read, and stays as it is -/
def opn (a : E S) (wa : Ctx → S → (Val → Ctx → S → Prop) → Prop) (Γ : Ctx) (s : S) (Q : D → Ctx → S → Prop) : Prop :=
  match a with
  | .var i => rdO (look Γ i) fun d => Q d Γ s
  | _ => wa Γ s fun v Γ' s' => asD v fun d => Q d Γ' s'
def frzV (Γ : Ctx) (i : Nat) : Ctx := match look Γ i with
  | some (.own xs) => put Γ i (some (.dat (.list xs)))
  | _ => Γ
/-- names that are lent to a call: handles, and lists that come back -/
def lend1 : Option Val → Option Val
  | some (.dat d) => some (.dat d)
  | some (.own xs) => some (.dat (.list xs))
  | some (.hdl k) => some (.hdl k)
  | some (.hds ks) => some (.hds ks)
  | _ => none
def bV (Γ : Ctx) : List Nat → Option (List Val)
  | [] => some []
  | i :: r => (lend1 (look Γ i)).bind fun v => (bV Γ r).map (v :: ·)
/-- names handed in: their lists stay from then on -/
def frzA : Es S → Ctx → Ctx
  | .nil, Γ => Γ
  | .cons (.var i) r, Γ => frzA r (frzV Γ i)
  | .cons _ r, Γ => frzA r Γ
/-- names handed in are known -/
def argsOk : Es S → Ctx → Prop
  | .nil, _ => True
  | .cons (.var i) r, Γ => (match look Γ i with | some (.dat _) => True | some (.own _) => True | _ => False) ∧ argsOk r Γ
  | .cons _ r, Γ => argsOk r Γ
def big : Nat := 100000
def ixD (xs : List D) (i : Int) (k : D → Prop) : Prop := match (ixN xs.length i).bind fun j => xs[j]? with
  | some d => k d
  | none => False
def cutD (xs : List D) (lo hi : Option Int) : List D := (xs.drop (HT.sIx xs.length 0 lo)).take (HT.sIx xs.length xs.length hi - HT.sIx xs.length 0 lo)
def addD : D → D → (Val → Prop) → Prop
  | .int i, .int j, k => k (.dat (.int (i + j)))
  | .list xs, .list ys, k => xs.length + ys.length ≤ big ∧ k (.new (xs ++ ys))
  | .str x, .str y, k => x.length + y.length ≤ big ∧ k (.dat (.str (x ++ y)))
  | .tuple xs, .tuple ys, k => (xs ≠ [] ∧ ys ≠ [] ∧ xs.length + ys.length ≤ big) ∧ k (.dat (.tuple (xs ++ ys)))
  | _, _, _ => False
def intD (C : Int → Int → Prop) (f : Int → Int → Int) : D → D → (Val → Prop) → Prop
  | .int i, .int j, k => C i j ∧ k (.dat (.int (f i j)))
  | _, _, _ => False
def subD : D → D → (Val → Prop) → Prop
  | .int i, .int j, k => k (.dat (.int (i - j)))
  | _, _, _ => False
def noD : D → D → (Val → Prop) → Prop := fun _ _ _ => False
def opD : Operator → D → D → (Val → Prop) → Prop
  | .Add => addD
  | .Sub => subD
  | .Mult => intD CMul fun i j => i * j
  | .Mod => intD (fun _ j => 0 < j) fun i j => i % j
  | .FloorDiv => intD (fun _ j => 0 < j ∧ j < 1073741824) fun i j => i / j
  | .Pow => intD (fun i j => 0 ≤ j ∧ j ≤ 1000 ∧ i.natAbs < 2 ^ 64) fun i j => i ^ j.toNat
  | _ => noD
def eqD (x y : D) (k : Bool → Prop) : Prop := match x, y with
  | .int i, .int j => k (decide (i = j))
  | .bool i, .bool j => k (decide (i = j))
  | .str i, .str j => k (decide (i = j))
  | .none, .none => k true
  | .list [], .list [] => k true
  | .list (_ :: _), .list [] => k false
  | x, y => SeqAt.shaped x = true ∧ SeqAt.shaped y = true ∧ k (PyData.eqv x y)
def boolD : D → (Bool → Prop) → Prop
  | .bool b, k => k b
  | _, _ => False
def noneD : D → Bool
  | .none => true
  | _ => false
def intsD : List D → Option (List Int)
  | [] => some []
  | .int i :: r => (intsD r).map (i :: ·)
  | _ :: _ => none
/-- x in xs: ints, bools, None, texts -/
def flatD : D → Bool
  | .none | .bool _ | .int _ | .str _ => true
  | _ => false
def inD (x : D) (xs : List D) : Bool := xs.any fun y => PyData.eqv y x
def relD (f : Int → Int → Bool) : D → D → (Val → Prop) → Prop
  | .int i, .int j, k => k (.dat (.bool (f i j)))
  | _, _, _ => False
def memD (neg : Bool) : D → D → (Val → Prop) → Prop
  | x, .list xs, k => (flatD x = true ∧ xs.all flatD = true ∧ k (.dat (.bool (if neg then !inD x xs else inD x xs)))) ∨ (SeqAt.shaped x = true ∧ SeqAt.shaped (.list xs) = true ∧ k (.dat (.bool (if neg then !inD x xs else inD x xs))))
  | x, .tuple xs, k => (flatD x = true ∧ xs.all flatD = true ∧ k (.dat (.bool (if neg then !inD x xs else inD x xs)))) ∨ (neg = false ∧ SeqAt.shaped x = true ∧ SeqAt.shaped (.tuple xs) = true ∧ k (.dat (.bool (inD x xs))))
  | .str y, .str z, k => ∃ c : Nat, y = ⟨#[c]⟩ ∧ k (.dat (.bool (if neg then !decide (c ∈ z.cps.toList) else decide (c ∈ z.cps.toList))))
  | _, _, _ => False
def cmpD : CmpOp → D → D → (Val → Prop) → Prop
  | .Eq => fun x y k => eqD x y fun b => k (.dat (.bool b))
  | .NotEq => fun x y k => eqD x y fun b => k (.dat (.bool (!b)))
  | .Lt => relD fun i j => decide (i < j)
  | .LtE => relD fun i j => decide (i ≤ j)
  | .Gt => relD fun i j => decide (j < i)
  | .GtE => relD fun i j => decide (j ≤ i)
  | .In => memD false
  | .NotIn => memD true
  | _ => noD
def lenD : List D → (Val → Prop) → Prop
  | [.list xs], k => k (.dat (.int xs.length))
  | [.tuple xs], k => k (.dat (.int xs.length))
  | [.str x], k => x.length ≤ big ∧ k (.dat (.int x.length))
  | _, _ => False
def int2D (f : Int → Int → Int) : List D → (Val → Prop) → Prop
  | [.int i, .int j], k => k (.dat (.int (f i j)))
  | _, _ => False
def minLD : List D → (Val → Prop) → Prop
  | [.list xs], k => ∃ ns, intsD xs = some ns ∧ 0 < ns.length ∧ ∀ m, m ∈ ns → (∀ y, y ∈ ns → m ≤ y) → k (.dat (.int m))
  | _, _ => False
def maxLD : List D → (Val → Prop) → Prop
  | [.list xs], k => ∃ ns, intsD xs = some ns ∧ 0 < ns.length ∧ ∀ m, m ∈ ns → (∀ y, y ∈ ns → y ≤ m) → k (.dat (.int m))
  | _, _ => False
def sumD : List D → (Val → Prop) → Prop
  | [.list xs], k => ∃ ns, intsD xs = some ns ∧ k (.dat (.int ns.sum))
  | _, _ => False
def sortedD : List D → (Val → Prop) → Prop
  | [.list xs], k => ∃ ns, intsD xs = some ns ∧ ∀ ns' : List Int, ns'.Perm ns → ns'.Pairwise (· ≤ ·) → k (.new (ns'.map .int))
  | _, _ => False
def listD : List D → (Val → Prop) → Prop
  | [.list xs], k => k (.new xs)
  | [.tuple xs], k => k (.new xs)
  | _, _ => False
def tupleD : List D → (Val → Prop) → Prop
  | [.list xs], k => k (.dat (.tuple xs))
  | [.tuple xs], k => k (.dat (.tuple xs))
  | _, _ => False
def absD : List D → (Val → Prop) → Prop
  | [.int i], k => k (.dat (.int (if i < 0 then -i else i)))
  | _, _ => False
def toIntD : List D → (Val → Prop) → Prop
  | [.int i], k => k (.dat (.int i))
  | [.bool b], k => k (.dat (.int (if b then 1 else 0)))
  | [.str z], k => ∃ n, PySem.intText? z = some n ∧ z.length ≤ 640 ∧ k (.dat (.int n))
  | _, _ => False
def toStrD : List D → (Val → Prop) → Prop
  | [.int i], k => i.natAbs.log2 < 1920 ∧ k (.dat (.str (toString i)))
  | _, _ => False
def isD (f : D → Bool) : List D → (Val → Prop) → Prop
  | [d], k => k (.dat (.bool (f d)))
  | _, _ => False
def isIntD : D → Bool
  | .int _ => true
  | .bool _ => true
  | _ => false
def isBoolD : D → Bool
  | .bool _ => true
  | _ => false
def isListD : D → Bool
  | .list _ => true
  | _ => false
def isTupD : D → Bool
  | .tuple _ => true
  | _ => false
def isStrD : D → Bool
  | .str _ => true
  | _ => false
def pairD (p : Int × Int) : D := .tuple [.int p.1, .int p.2]
def pairsD : List D → Option (List (Int × Int))
  | [] => some []
  | .tuple [.int i, .int j] :: r => (pairsD r).map ((i, j) :: ·)
  | _ :: _ => none
def lexLe (p q : Int × Int) : Prop := p.1 < q.1 ∨ (p.1 = q.1 ∧ p.2 ≤ q.2)
def sortPD : List D → (Val → Prop) → Prop
  | [.list xs], k => ∃ ps, pairsD xs = some ps ∧ ∀ ps' : List (Int × Int), ps'.Perm ps → ps'.Pairwise lexLe → k (.new (ps'.map pairD))
  | _, _ => False
def trpD (t : Int × Int × Int) : D := .tuple [.int t.1, .int t.2.1, .int t.2.2]
def lexLe3 (p q : Int × Int × Int) : Prop := p.1 < q.1 ∨ (p.1 = q.1 ∧ (p.2.1 < q.2.1 ∨ (p.2.1 = q.2.1 ∧ p.2.2 ≤ q.2.2)))
def smT (t : Int × Int × Int) : Prop := (0 ≤ t.1 ∧ t.1 < 64) ∧ (0 ≤ t.2.1 ∧ t.2.1 < 64) ∧ (0 ≤ t.2.2 ∧ t.2.2 < 64)
def sortTD : List D → (Val → Prop) → Prop
  | [.list xs], k => ∃ ts : List (Int × Int × Int), xs = ts.map trpD ∧ ts.length < 64 ∧ (∀ t ∈ ts, smT t) ∧ ∀ ts' : List (Int × Int × Int), ts'.Perm ts → ts'.Pairwise lexLe3 → k (.new (ts'.map trpD))
  | _, _ => False
def trueD (n : Int) : D := .tuple [.int n, .bool true]
/-- dict([(k, True) ..]): which keys stand is not told -/
def dictPD : List D → (Val → Prop) → Prop
  | [.list xs], k => ∃ ns : List Int, xs = ns.map trueD ∧ ∀ ms : List Int, ms.length ≤ ns.length → (∀ m ∈ ms, m ∈ ns) → k (.dat (.dict (ms.map fun m => (.int m, .bool true))))
  | _, _ => False
/-- repr(x) -/
def okR (d : D) : Prop := d.showable = true ∧ d.depth ≤ 60 ∧ d.shown.length ≤ sizeLine
def reprD : List D → (Val → Prop) → Prop
  | [d], k => okR d ∧ k (.dat (.str d.shown))
  | _, _ => False
/-- sorted(set(xs)) -/
def srtSX : D → (Val → Prop) → Prop
  | .list xs, k => ∃ ns, intsD xs = some ns ∧ ns.length < 4000 ∧ (ns.length < 64 ∨ ∀ m ∈ ns, 0 ≤ m ∧ m < 63) ∧ ∀ ms : List Int, ms.Pairwise (· < ·) → (∀ j, j ∈ ms ↔ j ∈ ns) → k (.new (ms.map .int))
  | _, _ => False
/-- sorted(xs, key=len) -/
def isLD : D → Bool
  | .list _ => true
  | _ => false
def lenDN : D → Nat
  | .list xs => xs.length
  | _ => 0
def srtLX : D → (Val → Prop) → Prop
  | .list xs, k => (∀ x ∈ xs, isLD x = true) ∧ ∀ ys : List D, ys.Perm xs → ys.Pairwise (fun x y => lenDN x ≤ lenDN y) → k (.new ys)
  | _, _ => False
/-- len(set(xs)) -/
def lenSX : D → (Val → Prop) → Prop
  | .list xs, k => ∃ ns, intsD xs = some ns ∧ ns.length < 4000 ∧ ∀ ms : List Int, ms.Nodup → (∀ j, j ∈ ms ↔ j ∈ ns) → k (.dat (.int (ms.length : Nat)))
  | _, _ => False
def biD : BI → List D → (Val → Prop) → Prop
  | .len => lenD
  | .min2 => int2D fun i j => if j < i then j else i
  | .max2 => int2D fun i j => if j > i then j else i
  | .minL => minLD
  | .maxL => maxLD
  | .sum => sumD
  | .sorted => sortedD
  | .list => listD
  | .tuple => tupleD
  | .abs => absD
  | .int => toIntD
  | .str => toStrD
  | .isint => isD isIntD
  | .isbool => isD isBoolD
  | .islist => isD isListD
  | .istuple => isD isTupD
  | .isstr => isD isStrD
  | .sortP => sortPD
  | .sortT => sortTD
  | .dictP => dictPD
  | .repr => reprD
def idxD (ns : List Int) (y : Int) : Option Nat := ns.findIdx? fun n => decide (n = y)
def indexD : D → List D → (Val → Prop) → Prop
  | .list xs, [.int y], k => ∃ ns, intsD xs = some ns ∧ (match idxD ns y with | some j => k (.dat (.int (j : Nat))) | none => False)
  | _, _, _ => False
def mtD : MT → D → List D → (Val → Prop) → Prop
  | .index => indexD
def keyD : D → (Key → Prop) → Prop
  | .int i, k => k (.inl i)
  | .str x, k => k (.inr x)
  | _, _ => False
def scalV : Val → Bool
  | .dat d => scal d
  | _ => false
/-- nothing that is handed in can stand in it -/
def freeV : Val → Bool
  | .dat d => scal d
  | .new xs => xs.all scal
  | _ => false
/-- a comprehension's turns; the state in between is without its own names -/
def cLoop (f : D → Ctx → S → (Option D → Ctx → S → Prop) → Prop) : List D → Ctx → S → List D → (List D → Ctx → S → Prop) → Prop
  | [], Γ, s, acc, k => k acc Γ s
  | x :: r, Γ, s, acc, k => f x Γ s fun o Γ' s' => cLoop f r Γ' s' (acc ++ o.toList) k
def wipeG : List Nat → Ctx → Ctx
  | [], Γ => Γ
  | i :: r, Γ => put (wipeG r Γ) i none
/-- what a name may hold again, that was hidden -/
def backV : Option Val → Option Val
  | none => none
  | some (.dat d) => some (.dat d)
  | some (.own _) => none
  | some (.new xs) => some (.new xs)
  | some (.hdl k) => some (.hdl k)
  | some (.tre _ _) => none
  | some (.shl _) => none
  | some (.hds ks) => some (.hds ks)
  | some (.odi _ _ _) => none
/-- the names that a comprehension hid are back -/
def backG (Γ0 : Ctx) : List Nat → Ctx → Ctx
  | [], Γ => Γ
  | i :: r, Γ => put (backG Γ0 r Γ) i (backV (look Γ0 i))
def putAll : List Nat → List D → Ctx → (Ctx → Prop) → Prop
  | [], [], Γ, k => k Γ
  | i :: is, d :: ds, Γ, k => putAll is ds (put Γ i (some (.dat d))) k
  | _, _, _, _ => False
def bindT : Tg → D → Ctx → (Ctx → Prop) → Prop
  | .nm i, d, Γ, k => k (put Γ i (some (.dat d)))
  | .tp is, .tuple ds, Γ, k => putAll is ds Γ k
  | .tp _, _, _, _ => False
def rngD : List D → (List D → Prop) → Prop
  | [.int n], k => (-(2 ^ 62) ≤ n ∧ n < 2 ^ 62) ∧ k ((List.range n.toNat).map fun i => .int (i : Nat))
  | [.int a, .int b], k => (-(2 ^ 62) ≤ a ∧ a < 2 ^ 62 ∧ -(2 ^ 62) ≤ b ∧ b < 2 ^ 62) ∧ k ((List.range (b - a).toNat).map fun i => .int (a + (i : Nat)))
  | [.int a, .int b, .int c], k => c = -1 ∧ (-(2 ^ 62) ≤ a ∧ a < 2 ^ 62 ∧ -(2 ^ 62) ≤ b ∧ b < 2 ^ 62) ∧ k ((List.range (a - b).toNat).map fun i => .int (a + (i : Nat) * (-1)))
  | _, _ => False
def enumD (xs : List D) : List D := xs.zipIdx.map fun p => .tuple [.int (p.2 : Nat), p.1]
def zipD (xs ys : List D) : List D := (xs.zip ys).map fun p => .tuple [p.1, p.2]
def negX : D → (Val → Prop) → Prop
  | .int i, k => k (.dat (.int (-i)))
  | _, _ => False
def signD (c : Nat) : D := .str ⟨#[c]⟩
def signsD (z : Str) : List D := z.cps.toList.map signD
def ixX : D → D → (D → Prop) → Prop
  | .list xs, .int i, k => ixD xs i k
  | .tuple xs, .int i, k => ixD xs i k
  | .str z, .int i, k => z.length ≤ big ∧ ixD (signsD z) i k
  | _, _, _ => False
def slX : D → Option Int → Option Int → (Val → Prop) → Prop
  | .list xs, l, h, k => k (.new (cutD xs l h))
  | .tuple xs, l, h, k => ¬ (HT.sIx xs.length 0 l = 0 ∧ HT.sIx xs.length xs.length h = xs.length) ∧ k (.dat (.tuple (cutD xs l h)))
  | .str z, l, h, k => z.length ≤ big ∧ k (.dat (.str (cutS z l h)))
  | _, _, _, _ => False
def rvX : D → (Val → Prop) → Prop
  | .list xs, k => k (.new xs.reverse)
  | _, _ => False
def repX (ds : List D) : D → (Val → Prop) → Prop
  | .int j, k => (-100000 ≤ j ∧ j ≤ 100000 ∧ ds.length * j.toNat ≤ big) ∧ k (.new (List.replicate j.toNat ds).flatten)
  | _, _ => False
def intX : D → (Int → Prop) → Prop
  | .int i, k => k i
  | _, _ => False
def seqD : D → (List D → Prop) → Prop
  | .list xs, k => k xs
  | .tuple xs, k => k xs
  | .str z, k => k (signsD z)
  | _, _ => False
/-- texts in a row -/
def strsD : List D → Option (List Str)
  | [] => some []
  | .str x :: r => (strsD r).map (x :: ·)
  | _ :: _ => none
def repS (z : Str) (n : Nat) : Str := ⟨(List.replicate n z.cps.toList).flatten.toArray⟩
def strX (x : D) (P : Prop) : Prop := match x with
  | .str _ => P
  | _ => False
def txSplit : D → D → (Val → Prop) → Prop
  | .str a, .str b, k => ((b.length == 0) = false ∧ a.length ≤ big) ∧ k (.new ((Txt.split a b).map .str))
  | _, _, _ => False
def txPart : D → D → (Val → Prop) → Prop
  | .str a, .str b, k => ((b.length == 0) = false ∧ a.length ≤ big) ∧ k (.dat (.tuple [.str (Txt.partition a b).1, .str (Txt.partition a b).2.1, .str (Txt.partition a b).2.2]))
  | _, _, _ => False
def txJoin : D → D → (Val → Prop) → Prop
  | .str a, .list xs, k => ∃ ys, strsD xs = some ys ∧ (ys.map (·.length)).sum + ys.length * a.length ≤ big ∧ k (.dat (.str (Txt.join a ys)))
  | _, _, _ => False
def txStrip : D → D → (Val → Prop) → Prop
  | .str a, .str b, k => a.length ≤ big ∧ k (.dat (.str (Txt.stripChars a b)))
  | _, _, _ => False
def txMul : D → D → (Val → Prop) → Prop
  | .str a, .int n, k => (0 ≤ n ∧ n ≤ 1000 ∧ a.length ≤ 100) ∧ k (.dat (.str (repS a n.toNat)))
  | _, _, _ => False
def txD : T2 → D → D → (Val → Prop) → Prop
  | .split => txSplit
  | .part => txPart
  | .join => txJoin
  | .strip => txStrip
  | .mulS => txMul
def lstD : D → (List D → Prop) → Prop
  | .list xs, k => k xs
  | _, _ => False
/-- a dict of one's own, its keys texts -/
def odiO (o : Option Val) (k : Addr → Nat → (Str → Option D) → Prop) : Prop := match o with
  | some (.odi b n f) => k b n f
  | _ => False
def strO (o : Option Val) (k : Str → Prop) : Prop := match o with
  | some (.dat (.str z)) => k z
  | _ => False
def datO (o : Option Val) (k : D → Prop) : Prop := match o with
  | some (.dat d) => k d
  | _ => False
def setF (f : Str → Option D) (z : Str) (d : D) : Str → Option D := fun w => if w = z then some d else f w
def xn : Nat → Ctx → S → Prop := fun _ _ _ => False
/-! trees of one's own -/
mutual
/-- no list in it, and no dict -/
def flatT : D → Bool
  | .none | .bool _ | .int _ | .str _ => true
  | .tuple ds => flatTs ds
  | _ => false
def flatTs : List D → Bool
  | [] => true
  | d :: r => flatT d && flatTs r
end
/-- a value, as a part of a tree -/
def owV : Val → (List Addr → D → Prop) → Prop
  | .dat d, k => flatT d = true ∧ k [] d
  | .new xs, k => flatTs xs = true ∧ ∀ a, k [a] (.list xs)
  | .tre ads d, k => k ads d
  | _, _ => False
def owS : Option Val → (List Addr → D → Prop) → Prop
  | some (.own xs), k => flatTs xs = true ∧ ∀ a, k [a] (.list xs)
  | some (.tre ads d), k => k ads d
  | _, _ => False
/-- names that are read for a while, and are one's own again -/
def lendG : List Nat → Ctx → Ctx
  | [], Γ => Γ
  | i :: r, Γ => (match look (lendG r Γ) i with
    | some (.tre _ d) => put (lendG r Γ) i (some (.dat d))
    | some (.own xs) => put (lendG r Γ) i (some (.dat (.list xs)))
    | _ => lendG r Γ)
/-- what may come of things that were lent -/
def lndV : Val → Bool
  | .dat d => scal d
  | .new xs => xs.all scal
  | .tre _ _ => true
  | _ => false
def cLoopT (f : D → Ctx → S → (List Addr → D → Ctx → S → Prop) → Prop) : List D → Ctx → S → List Addr → List D → (List Addr → List D → Ctx → S → Prop) → Prop
  | [], Γ, s, ads, acc, k => k ads acc Γ s
  | x :: r, Γ, s, ads, acc, k => f x Γ s fun bds d Γ' s' => cLoopT f r Γ' s' (ads ++ bds) (acc ++ [d]) k
def treO (o : Option Val) (k : List Addr → D → Prop) : Prop := match o with
  | some (.tre ads d) => k ads d
  | _ => False
def tupN (d : D) (n : Nat) (k : D → Prop) : Prop := match d with
  | .tuple ds => (match ds[n]? with
    | some e => k e
    | none => False)
  | _ => False
/-- what names hold, for a call -/
def lendD : List Nat → Ctx → Option (List D)
  | [], _ => some []
  | i :: r, Γ => (match look Γ i with
    | some (.dat d) => (lendD r Γ).map (d :: ·)
    | some (.own xs) => (lendD r Γ).map (.list xs :: ·)
    | some (.tre _ d) => (lendD r Γ).map (d :: ·)
    | _ => none)
def hdlsOf : List Val → Option (List Nat)
  | [] => some []
  | .hdl k :: r => (hdlsOf r).map (k :: ·)
  | _ :: _ => none
def hdsO (o : Option Val) (k : List Nat → Prop) : Prop := match o with
  | some (.hds ks) => k ks
  | _ => False
def hixX (ks : List Nat) (y : D) (k : Val → Prop) : Prop := match y with
  | .int j => (match (ixN ks.length j).bind fun m => ks[m]? with
    | some h => k (.hdl h)
    | none => False)
  | _ => False
def catX (v w : Option Val) (k : Val → Addr → Prop) : Prop := owS v fun _ d => owS w fun _ e => match e with
  | .list es => es.length < big ∧ ∀ b ads, k (.tre ads (.list (d :: es))) b
  | _ => False
def pxV : Px → Ctx → Option Int
  | .c i, _ => some i
  | .v i, Γ => match look Γ i with
    | some (.dat (.int j)) => some j
    | _ => none
def pathV : List Px → Ctx → Option (List Int)
  | [], _ => some []
  | p :: r, Γ => (pxV p Γ).bind fun j => (pathV r Γ).map (j :: ·)
/-- the same thing, the same place in it -/
def samePa (i : Nat) (ps : List Px) (Γ Γ' : Ctx) : Prop := look Γ' i = look Γ i ∧ pathV ps Γ' = pathV ps Γ
/-- a list within is changed -/
def updAt (f : List D → Option (List D)) : List Int → D → Option D
  | [], .list xs => (f xs).map .list
  | j :: r, .list xs => (ixN xs.length j).bind fun m => (xs[m]?).bind fun x => (updAt f r x).map fun y => .list (xs.set m y)
  | j :: r, .tuple xs => (ixN xs.length j).bind fun m => (xs[m]?).bind fun x => (updAt f r x).map fun y => .tuple (xs.set m y)
  | _, _ => none
def fApp (v : D) (xs : List D) : Option (List D) := if xs.length < big then some (xs ++ [v]) else none
def fIns (v : D) (xs : List D) : Option (List D) := if xs.length < big then some (v :: xs) else none
def fSet (j : Int) (v : D) (xs : List D) : Option (List D) := (ixN xs.length j).map fun m => xs.set m v
def shlO (o : Option Val) : Prop := match o with
  | some (.shl _) => True
  | _ => False
/-- a list lies there -/
def refP (i : Nat) (ps : List Px) (Γ : Ctx) : Prop := match look Γ i with
  | some (.tre _ d) => (match (pathV ps Γ).bind fun js => updAt some js d with
    | some _ => True
    | none => False)
  | _ => False
def updX (f : List D → Option (List D)) (ps : List Px) (Γ : Ctx) (i : Nat) (k : Ctx → Prop) : Prop := match look Γ i with
  | some (.tre _ d) => (match (pathV ps Γ).bind fun js => updAt f js d with
    | some d' => ∀ ads, k (put Γ i (some (.tre ads d')))
    | none => False)
  | _ => False
def putAllT : List Nat → List D → Ctx → (Ctx → Prop) → Prop
  | [], [], Γ, k => k Γ
  | i :: is, d :: ds, Γ, k => if scal d = true then putAllT is ds (put Γ i (some (.dat d))) k else ∀ ads, putAllT is ds (put Γ i (some (.tre ads d))) k
  | _, _, _, _ => False
def asgTX (v : Val) (is : List Nat) (Γ : Ctx) (k : Ctx → Prop) : Prop := match v with
  | .tre _ (.tuple ds) => putAllT is ds Γ k
  | _ => False
/-- one thing more in each list of a list -/
def appAll (c : Int) : List D → Option (List D)
  | [] => some []
  | .list xs :: r => if xs.length < big then (appAll c r).map (.list (xs ++ [.int c]) :: ·) else none
  | _ :: _ => none
def forAX (i j : Nat) (c : Int) (Γ : Ctx) (k : Ctx → Prop) : Prop := match look Γ i with
  | some (.tre _ (.list ds)) => (match appAll c ds with
    | some ds' => (i ≠ j ∧ j < Γ.length) ∧ ds.length ≤ big ∧ ∀ ads, k (put (put Γ j none) i (some (.tre ads (.list ds'))))
    | none => False)
  | _ => False
/-- xs.pop(j) -/
def popW (i : Nat) (Γ : Ctx) (o : (D → Ctx → S → Prop) → Prop) (Q : Val → Ctx → S → Prop) : Prop := match look Γ i with
    | some (.own _) => o fun y Γ1 s1 => (match look Γ1 i, y with
      | some (.own xs), .int j => (match (ixN xs.length j).bind fun m => xs[m]?.map fun d => (m, d) with
        | some p => (-(2 ^ 62) ≤ j ∧ j < 2 ^ 62) ∧ Q (.dat p.2) (put Γ1 i (some (.own (xs.eraseIdx p.1)))) s1
        | none => False)
      | _, _ => False)
    | _ => False
def noneV : Val → Bool
  | .dat d => noneD d
  | .tre _ d => noneD d
  | _ => false
/-- what a name holds, is it None -/
def noneS (o : Option Val) (k : Bool → Prop) : Prop := match o with
  | some v => k (noneV v)
  | none => False
/-- what lasts when others write to the heap -/
def stayV : Val → Prop
  | .own _ => False
  | .tre _ _ => False
  | .shl _ => False
  | .odi _ _ _ => False
  | _ => True
/-- isinstance of an error, or of None -/
def isCW (ns : List Nat) (o : Option Val) (k : Bool → Prop) : Prop := match o with
  | some (.dat d) => noneD d = true ∧ k false
  | some (.hdl m) => (100 ≤ m ∧ m < 107) ∧ k (ns.any fun n => decide (n = 99) || decide (m = 100 + n))
  | _ => False
mutual
def wE : (Nat → Ctx → S → Prop) → E S → Ctx → S → (Val → Ctx → S → Prop) → Prop
  | xc, .var i, Γ, s, Q => (match look Γ i with
    | some (.dat d) => Q (.dat d) Γ s
    | some (.own xs) => Q (.dat (.list xs)) (put Γ i (some (.dat (.list xs)))) s
    | some (.hdl k) => Q (.hdl k) Γ s
    | some (.tre _ d) => Q (.dat d) (put Γ i (some (.dat d))) s
    | some (.hds ks) => Q (.hds ks) Γ s
    | _ => False)
  | xc, .non, Γ, s, Q => Q (.dat .none) Γ s
  | xc, .bl b, Γ, s, Q => Q (.dat (.bool b)) Γ s
  | xc, .int i, Γ, s, Q => Q (.dat (.int i)) Γ s
  | xc, .str x, Γ, s, Q => Q (.dat (.str x)) Γ s
  | xc, .glb _ i, Γ, s, Q => Q (.dat (.int i)) Γ s
  | xc, .op o a b, Γ, s, Q => opn a (wE xc a) Γ s fun x Γ1 s1 => opn b (wE xc b) Γ1 s1 fun y Γ2 s2 => opD o x y fun v => Q v Γ2 s2
  | xc, .neg a, Γ, s, Q => opn a (wE xc a) Γ s fun x Γ1 s1 => negX x fun v => Q v Γ1 s1
  | xc, .nt a, Γ, s, Q => opn a (wE xc a) Γ s fun x Γ1 s1 => boolD x fun b => Q (.dat (.bool (!b))) Γ1 s1
  | xc, .an a b, Γ, s, Q => opn a (wE xc a) Γ s fun x Γ1 s1 => boolD x fun c => if c = true then opn b (wE xc b) Γ1 s1 fun y Γ2 s2 => boolD y fun d => Q (.dat (.bool d)) Γ2 s2 else Q (.dat (.bool false)) Γ1 s1
  | xc, .or a b, Γ, s, Q => opn a (wE xc a) Γ s fun x Γ1 s1 => boolD x fun c => if c = true then Q (.dat (.bool true)) Γ1 s1 else opn b (wE xc b) Γ1 s1 fun y Γ2 s2 => boolD y fun d => Q (.dat (.bool d)) Γ2 s2
  | xc, .cmp o a b, Γ, s, Q => opn a (wE xc a) Γ s fun x Γ1 s1 => opn b (wE xc b) Γ1 s1 fun y Γ2 s2 => cmpD o x y fun v => Q v Γ2 s2
  | xc, .ch o o' a b c, Γ, s, Q => opn a (wE xc a) Γ s fun x Γ1 s1 => opn b (wE xc b) Γ1 s1 fun y Γ2 s2 => cmpD o x y fun v => asD v fun d => boolD d fun k => if k = true then opn c (wE xc c) Γ2 s2 fun z Γ3 s3 => cmpD o' y z fun v => Q v Γ3 s3 else Q (.dat (.bool false)) Γ2 s2
  | xc, .isn p a, Γ, s, Q => opn a (wE xc a) Γ s fun x Γ1 s1 => Q (.dat (.bool (if p then noneD x else !noneD x))) Γ1 s1
  | xc, .isb p b a, Γ, s, Q => opn a (wE xc a) Γ s fun x Γ1 s1 => boolD x fun c => Q (.dat (.bool (if p then c == b else !(c == b)))) Γ1 s1
  | xc, .ix a b, Γ, s, Q => opn a (wE xc a) Γ s fun x Γ1 s1 => opn b (wE xc b) Γ1 s1 fun y Γ2 s2 => ixX x y fun d => Q (.dat d) Γ2 s2
  | xc, .sl a lo hi, Γ, s, Q => opn a (wE xc a) Γ s fun x Γ1 s1 => wP xc lo Γ1 s1 fun l Γ2 s2 => wP xc hi Γ2 s2 fun h Γ3 s3 => slX x l h fun v => Q v Γ3 s3
  | xc, .rv a, Γ, s, Q => opn a (wE xc a) Γ s fun x Γ1 s1 => rvX x fun v => Q v Γ1 s1
  | xc, .ls es, Γ, s, Q => wX xc es Γ s fun ds Γ1 s1 => ds.length ≤ big ∧ Q (.new ds) Γ1 s1
  | xc, .tp es, Γ, s, Q => wX xc es Γ s fun ds Γ1 s1 => ds.length ≤ big ∧ Q (.dat (.tuple ds)) Γ1 s1
  | xc, .rep es b, Γ, s, Q => wX xc es Γ s fun ds Γ1 s1 => ds.length ≤ big ∧ opn b (wE xc b) Γ1 s1 fun y Γ2 s2 => repX ds y fun v => Q v Γ2 s2
  | xc, .comp own tg it c e, Γ, s, Q => wI xc it Γ s fun xs Γ1 s1 => xs.length ≤ big ∧
      cLoop (fun x Γ s k => bindT tg x Γ fun Γ' => wC xn c Γ' s fun b Γ2 s2 => if b = true then wE xn e Γ2 s2 (fun v Γ3 s3 => asD v fun d => k (some d) (wipeG own Γ3) s3) else k none (wipeG own Γ2) s2)
        xs (wipeG own Γ1) s1 [] fun ys Γ' s' => Q (.new ys) (backG Γ1 own Γ') s'
  | xc, .call _ φ es, Γ, s, Q => wA xc es Γ s fun ds Γ1 s1 => argsOk es Γ1 ∧ φ.run ds (fun v => Q v (if scalV v = true then Γ1 else frzA es Γ1) s1) (fun n => xc n (frzA es Γ1) s1)
  | xc, .cal0 _ φ, Γ, s, Q => φ.run [] (fun v => Q v Γ s) (fun _ => False)
  | xc, .calE _ φ es, Γ, s, Q => wV xc es Γ s fun vs Γ1 s1 => φ.run vs s1 (fun v s2 => Q v Γ1 s2) (fun n s2 => xc n Γ1 s2)
  | xc, .bi b es, Γ, s, Q => wA xc es Γ s fun ds Γ1 s1 => biD b ds fun v => Q v Γ1 s1
  | xc, .mt m a es, Γ, s, Q => opn a (wE xc a) Γ s fun x Γ1 s1 => lstD x fun _ => wA xc es Γ1 s1 fun ds Γ2 s2 => mtD m x ds fun v => Q v Γ2 s2
  | xc, .pop i a, Γ, s, Q => popW i Γ (fun k' => opn a (wE xc a) Γ s k') Q
  | xc, .d0, Γ, s, Q => Q (.dat (.dict [])) Γ s
  | xc, .d1 k v, Γ, s, Q => opn k (wE xc k) Γ s fun x Γ1 s1 => wE xc v Γ1 s1 fun w Γ2 s2 => asD w fun d => keyD x fun _ => Q (.dat (.dict [(x, d)])) Γ2 s2
  | xc, .compM own tg it i a, Γ, s, Q => wJ xc it Γ s fun xs Γ1 s1 => xs.length ≤ big ∧
      cLoop (fun x Γ s k => bindT tg x Γ fun Γ' => popW i Γ' (fun k' => opn a (wE xn a) Γ' s k') fun v Γ3 s3 => asD v fun d => k (some d) (wipeG own Γ3) s3)
        xs (wipeG own Γ1) s1 [] fun ys Γ' s' => Q (.new ys) (backG Γ1 own Γ') s'
  | xc, .srtS a, Γ, s, Q => opn a (wE xc a) Γ s fun x Γ1 s1 => srtSX x fun v => Q v Γ1 s1
  | xc, .srtL a, Γ, s, Q => opn a (wE xc a) Γ s fun x Γ1 s1 => srtLX x fun v => Q v Γ1 s1
  | xc, .lenS a, Γ, s, Q => opn a (wE xc a) Γ s fun x Γ1 s1 => lenSX x fun v => Q v Γ1 s1
  | xc, .lr es, Γ, s, Q => wA xc es Γ s fun ds Γ1 s1 => rngD ds fun xs => xs.length ≤ big ∧ Q (.new xs) Γ1 s1
  | xc, .callT _ φ i j k, Γ, s, Q => rdO (look Γ i) fun a => rdO (look Γ j) fun b => rdO (look Γ k) fun c => φ.run [.tuple [a, b], c] (fun v => freeV v = true ∧ Q v Γ s) (fun _ => False)
  | xc, .isC i _ ns, Γ, s, Q => isCW ns (look Γ i) fun b => Q (.dat (.bool b)) Γ s
  | xc, .isnH p a, Γ, s, Q => wE xc a Γ s fun v Γ1 s1 => Q (.dat (.bool (if p then noneV v else !noneV v))) Γ1 s1
  | xc, .met _ φ o es, Γ, s, Q => wE xc o Γ s fun v Γ1 s1 => (match v with
    | .hdl k => 200 ≤ k ∧ wV xc es Γ1 s1 fun vs Γ2 s2 => φ.run (.hdl k :: vs) s2 (fun v s3 => Q v Γ2 s3) (fun n s3 => xc n Γ2 s3)
    | _ => False)
  | xc, .mk _ φ es, Γ, s, Q => wV xc es Γ s fun vs Γ1 s1 => φ.run vs s1 (fun v s2 => Q v Γ1 s2) (fun n s2 => xc n Γ1 s2)
  | xc, .calB _ φ is, Γ, s, Q => ∃ vs, bV Γ is = some vs ∧ φ.run vs s (fun v s2 => scalV v = true ∧ Q v Γ s2) (fun n s2 => xc n Γ s2)
  | xc, .lend is e, Γ, s, Q => wE xn e (lendG is Γ) s fun v Γ' s' => Γ' = lendG is Γ ∧ lndV v = true ∧ Q v Γ s'
  | xc, .mv i, Γ, s, Q => (match look Γ i with
    | some (.own xs) => Q (.new xs) (put Γ i none) s
    | some (.tre ads d) => Q (.tre ads d) (put Γ i none) s
    | _ => False)
  | xc, .tT es, Γ, s, Q => wY xc es Γ s fun ads ds Γ1 s1 => ds.length ≤ big ∧ Q (.tre ads (.tuple ds)) Γ1 s1
  | xc, .lT es, Γ, s, Q => wY xc es Γ s fun ads ds Γ1 s1 => ds.length ≤ big ∧ ∀ b, Q (.tre (b :: ads) (.list ds)) Γ1 s1
  | xc, .compT own tg it e, Γ, s, Q => wI xc it Γ s fun xs Γ1 s1 => xs.length ≤ big ∧
      cLoopT (fun x Γ s k => bindT tg x Γ fun Γ' => wE xn e Γ' s fun v Γ3 s3 => owV v fun ads d => k ads d (wipeG own Γ3) s3)
        xs (wipeG own Γ1) s1 [] [] fun ads ys Γ' s' => ∀ b, Q (.tre (b :: ads) (.list ys)) (backG Γ1 own Γ') s'
  | xc, .catT i j, Γ, s, Q => i ≠ j ∧ catX (look Γ i) (look Γ j) fun v b => Q v (put (put Γ i none) j (some (.shl b))) s
  | xc, .hl es, Γ, s, Q => wV xc es Γ s fun vs Γ1 s1 => ∃ ks, hdlsOf vs = some ks ∧ ks.length ≤ big ∧ Q (.hds ks) Γ1 s1
  | xc, .hix i e, Γ, s, Q => hdsO (look Γ i) fun ks => opn e (wE xc e) Γ s fun y Γ1 s1 => hixX ks y fun v => Q v Γ1 s1
  | xc, .mvI i n, Γ, s, Q => treO (look Γ i) fun _ d => tupN d n fun e => ∀ ads, Q (.tre ads e) (put Γ i none) s
  | xc, .tx o a b, Γ, s, Q => opn a (wE xc a) Γ s fun x Γ1 s1 => strX x (opn b (wE xc b) Γ1 s1 fun y Γ2 s2 => txD o x y fun v => Q v Γ2 s2)
  | xc, .glbS _ z, Γ, s, Q => Q (.dat (.str z)) Γ s
  | xc, .isnS p i, Γ, s, Q => noneS (look Γ i) fun b => Q (.dat (.bool (if p then b else !b))) Γ s
  | xc, .dGet i j k, Γ, s, Q => odiO (look Γ i) fun _ _ f => strO (look Γ j) fun z => datO (look Γ k) fun d => Q (.dat ((f z).getD d)) Γ s
/-- parts of a tree, in a row -/
def wY : (Nat → Ctx → S → Prop) → Es S → Ctx → S → (List Addr → List D → Ctx → S → Prop) → Prop
  | xc, .nil, Γ, s, Q => Q [] [] Γ s
  | xc, .cons e r, Γ, s, Q => wE xc e Γ s fun v Γ1 s1 => owV v fun ads d => wY xc r Γ1 s1 fun bds ds Γ2 s2 => Q (ads ++ bds) (d :: ds) Γ2 s2
/-- operands in a row -/
def wA : (Nat → Ctx → S → Prop) → Es S → Ctx → S → (List D → Ctx → S → Prop) → Prop
  | xc, .nil, Γ, s, Q => Q [] Γ s
  | xc, .cons e r, Γ, s, Q => opn e (wE xc e) Γ s fun d Γ1 s1 => wA xc r Γ1 s1 fun ds Γ2 s2 => Q (d :: ds) Γ2 s2
/-- things that are kept, in a row -/
def wX : (Nat → Ctx → S → Prop) → Es S → Ctx → S → (List D → Ctx → S → Prop) → Prop
  | xc, .nil, Γ, s, Q => Q [] Γ s
  | xc, .cons e r, Γ, s, Q => wE xc e Γ s fun v Γ1 s1 => asD v fun d => wX xc r Γ1 s1 fun ds Γ2 s2 => Q (d :: ds) Γ2 s2
/-- .. handles too -/
def wV : (Nat → Ctx → S → Prop) → Es S → Ctx → S → (List Val → Ctx → S → Prop) → Prop
  | xc, .nil, Γ, s, Q => Q [] Γ s
  | xc, .cons e r, Γ, s, Q => wE xc e Γ s fun v Γ1 s1 => (match v with
    | .dat d => wV xc r Γ1 s1 fun vs Γ2 s2 => Q (.dat d :: vs) Γ2 s2
    | .new xs => wV xc r Γ1 s1 fun vs Γ2 s2 => Q (.dat (.list xs) :: vs) Γ2 s2
    | .hdl k => wV xc r Γ1 s1 fun vs Γ2 s2 => Q (.hdl k :: vs) Γ2 s2
    | .hds ks => wV xc r Γ1 s1 fun vs Γ2 s2 => Q (.hds ks :: vs) Γ2 s2
    | .tre _ d => wV xc r Γ1 s1 fun vs Γ2 s2 => Q (.dat d :: vs) Γ2 s2
    | _ => False)
/-- a part of a slice -/
def wP : (Nat → Ctx → S → Prop) → Es S → Ctx → S → (Option Int → Ctx → S → Prop) → Prop
  | xc, .nil, Γ, s, Q => Q none Γ s
  | xc, .cons e _, Γ, s, Q => opn e (wE xc e) Γ s fun d Γ1 s1 => intX d fun i => Q (some i) Γ1 s1
/-- the test of a comprehension -/
def wC : (Nat → Ctx → S → Prop) → Es S → Ctx → S → (Bool → Ctx → S → Prop) → Prop
  | xc, .nil, Γ, s, Q => Q true Γ s
  | xc, .cons e _, Γ, s, Q => opn e (wE xc e) Γ s fun d Γ1 s1 => boolD d fun b => Q b Γ1 s1
def wI : (Nat → Ctx → S → Prop) → It S → Ctx → S → (List D → Ctx → S → Prop) → Prop
  | xc, .seq e, Γ, s, Q => opn e (wE xc e) Γ s fun d Γ1 s1 => seqD d fun xs => Q xs Γ1 s1
  | xc, .rng es, Γ, s, Q => wA xc es Γ s fun ds Γ1 s1 => rngD ds fun xs => Q xs Γ1 s1
  | xc, .enu e, Γ, s, Q => opn e (wE xc e) Γ s fun d Γ1 s1 => lstD d fun xs => Q (enumD xs) Γ1 s1
  | xc, .zip a b, Γ, s, Q => opn a (wE xc a) Γ s fun x Γ1 s1 => opn b (wE xc b) Γ1 s1 fun y Γ2 s2 => lstD x fun xs => lstD y fun ys => Q (zipD xs ys) Γ2 s2
/-- what a for walks: it stays from then on -/
def wJ : (Nat → Ctx → S → Prop) → It S → Ctx → S → (List D → Ctx → S → Prop) → Prop
  | xc, .seq e, Γ, s, Q => wE xc e Γ s fun v Γ1 s1 => asD v fun d => seqD d fun xs => Q xs Γ1 s1
  | xc, .rng es, Γ, s, Q => wA xc es Γ s fun ds Γ1 s1 => rngD ds fun xs => Q xs Γ1 s1
  | xc, .enu e, Γ, s, Q => wE xc e Γ s fun v Γ1 s1 => asD v fun d => lstD d fun xs => Q (enumD xs) Γ1 s1
  | xc, .zip a b, Γ, s, Q => wE xc a Γ s fun v Γ1 s1 => asD v fun x => wE xc b Γ1 s1 fun w Γ2 s2 => asD w fun y => lstD x fun xs => lstD y fun ys => Q (zipD xs ys) Γ2 s2
end
/-- what follows -/
structure Kn (S : Type) where
  nx : Ctx → S → Prop
  rt : Val → S → Prop
  bk : Ctx → S → Prop := fun _ _ => False
  ct : Ctx → S → Prop := fun _ _ => False
  ex : Nat → Ctx → S → Prop := fun _ _ _ => False
structure KLe0 (K K' : Kn S) : Prop where
  nx : ∀ Γ s, K.nx Γ s → K'.nx Γ s
  rt : ∀ v s, K.rt v s → K'.rt v s
  bk : ∀ Γ s, K.bk Γ s → K'.bk Γ s
  ct : ∀ Γ s, K.ct Γ s → K'.ct Γ s
theorem KLe0.refl (K : Kn S) : KLe0 K K := ⟨fun _ _ h => h, fun _ _ h => h, fun _ _ h => h, fun _ _ h => h⟩
def boolO (v : Val) (k : Bool → Prop) : Prop := match v with
  | .dat (.bool b) => k b
  | _ => False
def slotV : Val → Option Val
  | .dat d => some (.dat d)
  | .new xs => some (.own xs)
  | .hdl k => some (.hdl k)
  | .tre ads d => some (.tre ads d)
  | .hds ks => some (.hds ks)
  | _ => none
def w1 : St1 S → Ctx → S → Kn S → Prop
  | .nop, Γ, s, K => K.nx Γ s
  | .asg i e, Γ, s, K => wE K.ex e Γ s fun v Γ' s' => K.nx (put Γ' i (slotV v)) s'
  | .asgL i e, Γ, s, K => wE K.ex e Γ s fun v Γ' s' => K.nx (put Γ' i (slotV v)) s'
  | .asgT is e, Γ, s, K => wE K.ex e Γ s fun v Γ' s' => asD v fun d => (match d with | .tuple ds => putAll is ds Γ' fun Γ2 => K.nx Γ2 s' | _ => False)
  | .asgH i φ e, Γ, s, K => wE K.ex e Γ s fun v Γ' s' => φ.run [v] s' (fun w s2 => K.nx (put Γ' i (slotV w)) s2) (fun _ _ => False)
  | .app i e, Γ, s, K => (match look Γ i with
    | some (.own _) => wE K.ex e Γ s fun v Γ' s' => asD v fun d => (match look Γ' i with
      | some (.own xs) => xs.length < big ∧ K.nx (put Γ' i (some (.own (xs ++ [d])))) s'
      | _ => False)
    | _ => False)
  | .ins i j e, Γ, s, K => (match look Γ i with
    | some (.own _) => opn j (wE K.ex j) Γ s fun y Γ1 s1 => wE K.ex e Γ1 s1 fun v Γ' s' => asD v fun d => (match look Γ' i, y with
      | some (.own xs), .int n => xs.length < big ∧ 0 ≤ n ∧ n ≤ xs.length ∧ K.nx (put Γ' i (some (.own (xs.insertIdx n.toNat d)))) s'
      | _, _ => False)
    | _ => False)
  | .setI i j e, Γ, s, K => wE K.ex e Γ s fun v Γ' s' => asD v fun d => (match look Γ' i with
    | some (.own _) => opn j (wE K.ex j) Γ' s' fun y Γ2 s2 => (match look Γ2 i, y with
      | some (.own xs), .int n => (match ixN xs.length n with
        | some m => K.nx (put Γ2 i (some (.own (xs.set m d)))) s2
        | none => False)
      | _, _ => False)
    | _ => False)
  | .aug i o e, Γ, s, K => (match look Γ i with
    | some (.dat (.int a)) => opn e (wE K.ex e) Γ s fun y Γ' s' => (match y with
      | .int b => (match o with
        | .Add => K.nx (put Γ' i (some (.dat (.int (a + b))))) s'
        | .Sub => K.nx (put Γ' i (some (.dat (.int (a - b))))) s'
        | _ => False)
      | _ => False)
    | _ => False)
  | .expr e, Γ, s, K => wE K.ex e Γ s fun _ Γ' s' => K.nx Γ' s'
  | .ret e, Γ, s, K => (match e with
    | .var i => (match look Γ i with
      | some (.dat d) => K.rt (.dat d) s
      | some (.own xs) => K.rt (.new xs) s
      | some (.hdl k) => K.rt (.hdl k) s
      | _ => False)
    | _ => wE K.ex e Γ s fun v _ s' => K.rt v s')
  | .brk, Γ, s, K => K.bk Γ s
  | .cnt, Γ, s, K => K.ct Γ s
  | .never, _, _, _ => False
  | .raise _ n, Γ, s, K => K.ex n Γ s
  | .asgP i j a b, Γ, s, K => wX K.ex (.cons a (.cons b .nil)) Γ s fun ds Γ' s' => putAll [i, j] ds Γ' fun Γ2 => K.nx Γ2 s'
  | .asgTT is e, Γ, s, K => wE K.ex e Γ s fun v Γ' s' => asgTX v is Γ' fun Γ2 => K.nx Γ2 s'
  | .appP i ps e, Γ, s, K => refP i ps Γ ∧ wE K.ex e Γ s fun v Γ' s' => samePa i ps Γ Γ' ∧ owV v fun _ d => updX (fApp d) ps Γ' i fun Γ2 => K.nx Γ2 s'
  | .insP i ps e, Γ, s, K => refP i ps Γ ∧ wE K.ex e Γ s fun v Γ' s' => samePa i ps Γ Γ' ∧ owV v fun _ d => updX (fIns d) ps Γ' i fun Γ2 => K.nx Γ2 s'
  | .setP i ps j e, Γ, s, K => wE K.ex e Γ s fun v Γ' s' => owV v fun _ d => refP i ps Γ' ∧ opn j (wE K.ex j) Γ' s' fun y Γ2 s2 => samePa i ps Γ' Γ2 ∧ (match y with
    | .int n => updX (fSet n d) ps Γ2 i fun Γ3 => K.nx Γ3 s2
    | _ => False)
  | .appS i e, Γ, s, K => shlO (look Γ i) ∧ wE K.ex e Γ s fun v Γ' s' => asD v fun _ => (match look Γ' i with
    | some (.shl _) => K.nx (put Γ' i none) s'
    | _ => False)
  | .asgD i, Γ, s, K => ∀ b, K.nx (put Γ i (some (.odi b 0 fun _ => none))) s
  | .dSet i j k, Γ, s, K => odiO (look Γ i) fun b n f => strO (look Γ j) fun z => datO (look Γ k) fun d => n < big ∧ K.nx (put Γ i (some (.odi b (n + 1) (setF f z d)))) s
/-- turns over a list -/
def fLoop (f : D → Ctx → S → Kn S → Prop) (K : Kn S) : List D → Ctx → S → Prop
  | [], Γ, s => K.nx Γ s
  | x :: r, Γ, s => f x Γ s { K with nx := fun Γ' s' => fLoop f K r Γ' s', ct := fun Γ' s' => fLoop f K r Γ' s', bk := K.nx }
/-- a test -/
def wT (xc : Nat → Ctx → S → Prop) (c : E S) (Γ : Ctx) (s : S) (Q : Bool → Ctx → S → Prop) : Prop := opn c (wE xc c) Γ s fun d Γ1 s1 => boolD d fun b => Q b Γ1 s1
mutual
def wS : Sm S → Ctx → S → Kn S → Prop
  | .one st, Γ, s, K => w1 st Γ s K
  | .ite c t f, Γ, s, K => wT K.ex c Γ s fun b Γ1 s1 => if b = true then wSs t Γ1 s1 K else wSs f Γ1 s1 K
  | .whl c b, Γ, s, K => ∃ W : Nat → Ctx → S → Prop, (∃ m, W m Γ s) ∧ ∀ m Γ s, W m Γ s → wT K.ex c Γ s fun b' Γ1 s1 =>
      if b' = true then wSs b Γ1 s1 { K with nx := fun Γ' s' => ∃ m', m' < m ∧ W m' Γ' s', ct := fun Γ' s' => ∃ m', m' < m ∧ W m' Γ' s', bk := K.nx } else K.nx Γ1 s1
  | .for tg it b, Γ, s, K => wJ K.ex it Γ s fun xs Γ1 s1 => xs.length ≤ big ∧ fLoop (fun x Γ s K' => bindT tg x Γ fun Γ' => wSs b Γ' s K') K xs Γ1 s1
  | .tryC b i j c, Γ, s, K => ∃ K0 : Kn S, KLe0 K0 K ∧ wSs b Γ s { K0 with ex := fun n Γ' s' => n < 7 ∧ wE xn c (put Γ' i (some (.hdl (100 + n)))) s' fun v Γ2 s2 => K0.nx (put (put Γ2 j (slotV v)) i none) s2 }
  | .tryS b i su, Γ, s, K => ∃ K0 : Kn S, KLe0 K0 K ∧ wSs b Γ s { K0 with ex := fun n Γ' s' => n < 7 ∧ wSs su (put Γ' i (some (.hdl (100 + n)))) s' { nx := fun Γ2 s2 => K0.nx (put Γ2 i none) s2, rt := fun _ _ => False, ex := xn } }
  | .forA i j c, Γ, s, K => forAX i j c Γ fun Γ' => K.nx Γ' s
  | .ifO _ φ i js c t, Γ, s, K => treO (look Γ i) fun _ d => i ∉ js ∧ ∃ ds, lendD js (put Γ i none) = some ds ∧ φ.run (d :: ds) (fun v => boolO v fun b => if b = true then wT K.ex c (put Γ i none) s fun b' Γ1 s1 => if b' = true then wSs t Γ1 s1 K else K.nx Γ1 s1 else wSs t (put Γ i none) s K) (fun _ => False)
def wSs : Sms S → Ctx → S → Kn S → Prop
  | .nil, Γ, s, K => K.nx Γ s
  | .cons st r, Γ, s, K => wS st Γ s { K with nx := fun Γ' s' => wSs r Γ' s' K }
end
end
end Ac
namespace Ac
open PySem PySem.Spec PyProof.Rows L2

/-! ### data in a heap -/
mutual
inductive Rp (F : Hp) : V → D → Prop
  | non : Rp F .non .none
  | bl (b : Bool) : Rp F (.bl b) (.bool b)
  | int (i : Int) : Rp F (.int i) (.int i)
  | str (x : Str) : Rp F (.str x) (.str x)
  | lst {a : Addr} {vs : List V} {ds : List D} : Rd F a (.lst vs) → RpL F vs ds → Rp F (.ref a) (.list ds)
  | tup {a : Addr} {vs : List V} {ds : List D} : F a = some (.tup vs) → RpL F vs ds → Rp F (.ref a) (.tuple ds)
  | dic {a : Addr} {kvs : List (Key × V)} {es : List (D × D)} : F a = some (.dK kvs) → RpK F kvs es → Rp F (.ref a) (.dict es)
inductive RpL (F : Hp) : List V → List D → Prop
  | nil : RpL F [] []
  | cons {v : V} {vs : List V} {d : D} {ds : List D} : Rp F v d → RpL F vs ds → RpL F (v :: vs) (d :: ds)
inductive RpK (F : Hp) : List (Key × V) → List (D × D) → Prop
  | nil : RpK F [] []
  | cons {k : Key} {v : V} {r : List (Key × V)} {d : D} {ds : List (D × D)} : Rp F v d → RpK F r ds → RpK F ((k, v) :: r) ((match k with | .inl i => .int i | .inr x => .str x, d) :: ds)
end
def Sub (F G : Hp) : Prop := ∀ a o, F a = some o → G a = some o
theorem Sub.refl (F : Hp) : Sub F F := fun _ _ h => h
theorem Sub.trans {F G H : Hp} (a : Sub F G) (b : Sub G H) : Sub F H := fun x o h => b x o (a x o h)
theorem Sub.rd {F G : Hp} (s : Sub F G) {a : Addr} {u : HO} (h : Rd F a u) : Rd G a u := by
  rcases h with h | ⟨o, h⟩
  · exact .inl (s _ _ h)
  · exact .inr ⟨o, s _ _ h⟩
mutual
theorem Rp.mono {F G : Hp} (s : Sub F G) : ∀ {v : V} {d : D}, Rp F v d → Rp G v d
  | _, _, .non => .non
  | _, _, .bl b => .bl b
  | _, _, .int i => .int i
  | _, _, .str x => .str x
  | _, _, .lst h r => .lst (s.rd h) (RpL.mono s r)
  | _, _, .tup h r => .tup (s _ _ h) (RpL.mono s r)
  | _, _, .dic h r => .dic (s _ _ h) (RpK.mono s r)
theorem RpL.mono {F G : Hp} (s : Sub F G) : ∀ {v : List V} {d : List D}, RpL F v d → RpL G v d
  | _, _, .nil => .nil
  | _, _, .cons h r => .cons (Rp.mono s h) (RpL.mono s r)
theorem RpK.mono {F G : Hp} (s : Sub F G) : ∀ {v : List (Key × V)} {d : List (D × D)}, RpK F v d → RpK G v d
  | _, _, .nil => .nil
  | _, _, .cons h r => .cons (Rp.mono s h) (RpK.mono s r)
end
theorem RpL.length {F : Hp} : ∀ {v : List V} {d : List D}, RpL F v d → v.length = d.length
  | _, _, .nil => rfl
  | _, _, .cons _ r => by rw [List.length_cons, List.length_cons, r.length]
theorem RpL.get {F : Hp} : ∀ {v : List V} {d : List D} {i : Nat} {y : D}, RpL F v d → d[i]? = some y → ∃ x, v[i]? = some x ∧ Rp F x y
  | _, _, _, _, .nil, e => by simp at e
  | _, _, 0, _, .cons h _, e => by simp at e; subst e; exact ⟨_, rfl, h⟩
  | _, _, i + 1, y, .cons _ t, e => by
    obtain ⟨u, h1, h2⟩ := RpL.get (i := i) (y := y) t (by simpa using e)
    exact ⟨u, by simpa using h1, h2⟩
theorem RpL.get' {F : Hp} : ∀ {v : List V} {d : List D} {i : Nat} {x : V}, RpL F v d → v[i]? = some x → ∃ y, d[i]? = some y ∧ Rp F x y
  | _, _, _, _, .nil, e => by simp at e
  | _, _, 0, _, .cons h _, e => by simp at e; subst e; exact ⟨_, rfl, h⟩
  | _, _, i + 1, y, .cons _ t, e => by
    obtain ⟨u, h1, h2⟩ := RpL.get' (i := i) (x := y) t (by simpa using e)
    exact ⟨u, by simpa using h1, h2⟩
theorem RpL.append {F : Hp} : ∀ {v w : List V} {d e : List D}, RpL F v d → RpL F w e → RpL F (v ++ w) (d ++ e)
  | _, _, _, _, .nil, s => s
  | _, _, _, _, .cons h r, s => .cons h (RpL.append r s)
theorem RpL.take {F : Hp} : ∀ {v : List V} {d : List D} (n : Nat), RpL F v d → RpL F (v.take n) (d.take n)
  | _, _, 0, _ => .nil
  | _, _, _ + 1, .nil => .nil
  | _, _, n + 1, .cons h r => .cons h (RpL.take n r)
theorem RpL.drop {F : Hp} : ∀ {v : List V} {d : List D} (n : Nat), RpL F v d → RpL F (v.drop n) (d.drop n)
  | _, _, 0, r => r
  | _, _, _ + 1, .nil => .nil
  | _, _, n + 1, .cons _ r => RpL.drop n r
theorem RpL.reverse {F : Hp} : ∀ {v : List V} {d : List D}, RpL F v d → RpL F v.reverse d.reverse
  | _, _, .nil => .nil
  | _, _, .cons h r => by rw [List.reverse_cons, List.reverse_cons]; exact (RpL.reverse r).append (.cons h .nil)
theorem RpL.set {F : Hp} {x : V} {y : D} (h : Rp F x y) : ∀ {v : List V} {d : List D} (i : Nat), RpL F v d → RpL F (v.set i x) (d.set i y)
  | _, _, _, .nil => .nil
  | _, _, 0, .cons _ r => .cons h r
  | _, _, i + 1, .cons q r => .cons q (RpL.set h i r)
theorem RpL.rep {F : Hp} {v : List V} {d : List D} (h : RpL F v d) : ∀ n : Nat, RpL F (List.replicate n v).flatten (List.replicate n d).flatten
  | 0 => .nil
  | n + 1 => by
    rw [List.replicate_succ, List.replicate_succ, List.flatten_cons, List.flatten_cons]
    exact h.append (RpL.rep h n)
theorem RpL.ints {F : Hp} : ∀ ns : List Int, RpL F (ns.map V.int) (ns.map PyData.int)
  | [] => .nil
  | n :: r => .cons (.int n) (RpL.ints r)
theorem intsD_map : ∀ ns : List Int, intsD (ns.map PyData.int) = some ns
  | [] => rfl
  | n :: r => by
    show (intsD (r.map PyData.int)).map (n :: ·) = _
    rw [intsD_map r]
    rfl
theorem intsD_eq : ∀ {xs : List D} {ns : List Int}, intsD xs = some ns → xs = ns.map PyData.int
  | [], ns, h => by cases h; rfl
  | .int i :: r, ns, h => by
    have h' : (intsD r).map (i :: ·) = some ns := h
    cases e : intsD r with
    | none => rw [e] at h'; cases h'
    | some ms =>
      rw [e] at h'
      cases h'
      rw [intsD_eq e]
      rfl
  | .none :: _, _, h => by cases h
  | .bool _ :: _, _, h => by cases h
  | .str _ :: _, _, h => by cases h
  | .list _ :: _, _, h => by cases h
  | .tuple _ :: _, _, h => by cases h
  | .dict _ :: _, _, h => by cases h
theorem RpL.of_ints {F : Hp} : ∀ {vs : List V} {ns : List Int}, RpL F vs (ns.map PyData.int) → vs = ns.map V.int
  | _, [], .nil => rfl
  | _, n :: r, .cons h t => by
    cases h
    rw [RpL.of_ints t]
    rfl

/-! ### handles -/
/-- a model of things with a state: S what is told of them, A where they lie -/
structure RM where
  S : Type
  A : Type
  ok : A → S → Hp → Prop
  ft : A → Addr → Prop
  hd : A → Nat → V → Prop
  le : A → A → Prop
  le_refl : ∀ a, le a a
  le_trans : ∀ {a b c}, le a b → le b c → le a c
  le_ft : ∀ {a b p}, le a b → ft a p → ft b p
  le_hd : ∀ {a b k v}, le a b → hd a k v → hd b k v
  hd_ref : ∀ {a k v}, hd a k v → ∃ p, v = .ref p
  ex : ∀ {a s H p}, ok a s H → ft a p → H p ≠ none
  nt : ∀ {a s H p}, ok a s H → ft a p → ∀ vs, H p ≠ some (.tup vs)
  frame : ∀ {a s H H'}, ok a s H → (∀ p, ft a p → H' p = H p) → (∀ p vs, H p = some (.tup vs) → H' p = some (.tup vs)) → ok a s H'
/-- none -/
def rm0 : RM where
  S := Unit
  A := Unit
  ok := fun _ _ _ => True
  ft := fun _ _ => False
  hd := fun _ _ _ => False
  le := fun _ _ => True
  le_refl := fun _ => trivial
  le_trans := fun _ _ => trivial
  le_ft := fun _ h => h
  le_hd := fun _ h => h
  hd_ref := fun h => h.elim
  ex := fun _ h => h.elim
  nt := fun _ h => h.elim
  frame := fun _ _ _ => trivial

/-! ### trees of one's own -/
mutual
inductive OwT (H : Hp) : List Addr → V → D → Prop
  | non : OwT H [] .non .none
  | bl (b : Bool) : OwT H [] (.bl b) (.bool b)
  | int (i : Int) : OwT H [] (.int i) (.int i)
  | str (x : Str) : OwT H [] (.str x) (.str x)
  | lst {a : Addr} {vs : List V} {ads : List Addr} {ds : List D} : H a = some (.lst vs) → OwL H ads vs ds → a ∉ ads → OwT H (a :: ads) (.ref a) (.list ds)
  | tup {a : Addr} {vs : List V} {ads : List Addr} {ds : List D} : H a = some (.tup vs) → OwL H ads vs ds → OwT H ads (.ref a) (.tuple ds)
inductive OwL (H : Hp) : List Addr → List V → List D → Prop
  | nil : OwL H [] [] []
  | cons {v : V} {vs : List V} {ads bds : List Addr} {d : D} {ds : List D} : OwT H ads v d → OwL H bds vs ds → (∀ a ∈ ads, a ∉ bds) → OwL H (ads ++ bds) (v :: vs) (d :: ds)
end
mutual
theorem OwT.mono {H H' : Hp} (ht : ∀ a vs, H a = some (.tup vs) → H' a = some (.tup vs)) : ∀ {ads : List Addr} {v : V} {d : D}, OwT H ads v d → (∀ a ∈ ads, H' a = H a) → OwT H' ads v d
  | _, _, _, .non, _ => .non
  | _, _, _, .bl b, _ => .bl b
  | _, _, _, .int i, _ => .int i
  | _, _, _, .str x, _ => .str x
  | _, _, _, .lst h r n, hl => .lst ((hl _ List.mem_cons_self).trans h) (OwL.mono ht r fun a ha => hl a (List.mem_cons_of_mem _ ha)) n
  | _, _, _, .tup h r, hl => .tup (ht _ _ h) (OwL.mono ht r hl)
theorem OwL.mono {H H' : Hp} (ht : ∀ a vs, H a = some (.tup vs) → H' a = some (.tup vs)) : ∀ {ads : List Addr} {v : List V} {d : List D}, OwL H ads v d → (∀ a ∈ ads, H' a = H a) → OwL H' ads v d
  | _, _, _, .nil, _ => .nil
  | _, _, _, .cons h r n, hl => .cons (OwT.mono ht h fun a ha => hl a (List.mem_append_left _ ha)) (OwL.mono ht r fun a ha => hl a (List.mem_append_right _ ha)) n
end
mutual
theorem OwT.lists {H : Hp} : ∀ {ads : List Addr} {v : V} {d : D}, OwT H ads v d → ∀ a ∈ ads, ∃ vs, H a = some (.lst vs)
  | _, _, _, .non, _, h => nomatch h
  | _, _, _, .bl b, _, h => nomatch h
  | _, _, _, .int i, _, h => nomatch h
  | _, _, _, .str x, _, h => nomatch h
  | _, _, _, .lst h r n, a, m => by
    rcases List.mem_cons.mp m with rfl | m
    · exact ⟨_, h⟩
    · exact OwL.lists r a m
  | _, _, _, .tup h r, a, m => OwL.lists r a m
theorem OwL.lists {H : Hp} : ∀ {ads : List Addr} {v : List V} {d : List D}, OwL H ads v d → ∀ a ∈ ads, ∃ vs, H a = some (.lst vs)
  | _, _, _, .nil, _, h => nomatch h
  | _, _, _, .cons h r n, a, m => by
    rcases List.mem_append.mp m with m | m
    · exact OwT.lists h a m
    · exact OwL.lists r a m
end
theorem OwL.length {H : Hp} : ∀ {ads : List Addr} {v : List V} {d : List D}, OwL H ads v d → v.length = d.length
  | _, _, _, .nil => rfl
  | _, _, _, .cons _ r _ => by rw [List.length_cons, List.length_cons, r.length]
/-- whose a place is -/
def ownV (x : Option (Option V)) (v : Option Val) (a : Addr) : Prop := match v with
  | some (.own _) => x = some (some (V.ref a))
  | some (.tre ads _) => a ∈ ads
  | some (.shl b) => a = b
  | some (.odi b _ _) => a = b
  | _ => False
def ownA (σ : L2.St) (Γ : Ctx) (i : Nat) (a : Addr) : Prop := ownV σ[i]? (look Γ i) a
/-- nothing of one's own at a place -/
def NoOwn (σ : L2.St) (Γ : Ctx) (p : Addr) : Prop := ∀ i, ¬ ownA σ Γ i p
theorem ownA_own {σ : L2.St} {Γ : Ctx} {i : Nat} {a : Addr} {xs : List D} (h : look Γ i = some (.own xs)) : ownA σ Γ i a ↔ σ[i]? = some (some (V.ref a)) := by
  unfold ownA; rw [h]; exact Iff.rfl
theorem ownA_tre {σ : L2.St} {Γ : Ctx} {i : Nat} {a : Addr} {ads : List Addr} {d : D} (h : look Γ i = some (.tre ads d)) : ownA σ Γ i a ↔ a ∈ ads := by
  unfold ownA; rw [h]; exact Iff.rfl
theorem ownA_shl {σ : L2.St} {Γ : Ctx} {i : Nat} {a b : Addr} (h : look Γ i = some (.shl b)) : ownA σ Γ i a ↔ a = b := by
  unfold ownA; rw [h]; exact Iff.rfl
theorem ownA_odi {σ : L2.St} {Γ : Ctx} {i : Nat} {a b : Addr} {n : Nat} {f : Str → Option D} (h : look Γ i = some (.odi b n f)) : ownA σ Γ i a ↔ a = b := by
  unfold ownA; rw [h]; exact Iff.rfl
/-- what a dict holds, by text -/
def DkV (F : Hp) (us : List (Key × V)) (f : Str → Option D) : Prop := ∀ z : Str, match f z with
  | none => valV us (.inr z) = none
  | some d => ∃ x, valV us (.inr z) = some x ∧ Rp F x d
theorem DkV.mono {F F' : Hp} (sb : Sub F F') {us : List (Key × V)} {f : Str → Option D} (h : DkV F us f) : DkV F' us f := fun z => by
  have := h z
  cases e : f z with
  | none => rw [e] at this; exact this
  | some d =>
    rw [e] at this
    obtain ⟨x, h1, h2⟩ := this
    exact ⟨x, h1, Rp.mono sb h2⟩
structure Fx (rm : RM) where
  L : Hp
  F0 : Hp
  A0 : rm.A
variable {rm : RM}
/-- a list of handles -/
def HdsV (F : Hp) (A : rm.A) (x : V) (ks : List Nat) : Prop := ∃ a vs, x = .ref a ∧ F a = some (.lst vs) ∧ Paired (fun (v : V) (k : Nat) => rm.hd A k v) vs ks
theorem hds_mono {A A' : rm.A} (le : rm.le A A') : ∀ {vs : List V} {ks : List Nat}, Paired (fun (v : V) (k : Nat) => rm.hd A k v) vs ks → Paired (fun (v : V) (k : Nat) => rm.hd A' k v) vs ks
  | _, _, .nil => .nil
  | _, _, .cons h t => .cons (rm.le_hd le h) (hds_mono le t)
theorem HdsV.mono {F F' : Hp} {A A' : rm.A} {x : V} {ks : List Nat} (h : HdsV F A x ks) (sb : Sub F F') (le : rm.le A A') : HdsV F' A' x ks := by
  obtain ⟨a, vs, e1, e2, e3⟩ := h
  exact ⟨a, vs, e1, sb _ _ e2, hds_mono le e3⟩
/-- what a slot holds -/
def SV (fx : Fx rm) (H F : Hp) (A : rm.A) (x : V) : Val → Prop
  | .dat d => Rp F x d
  | .own xs => ∃ a vs, x = .ref a ∧ H a = some (.lst vs) ∧ F a = none ∧ ¬ rm.ft A a ∧ fx.L a = none ∧ RpL F vs xs
  | .new _ => False
  | .hdl k => rm.hd A k x
  | .tre ads d => OwT H ads x d ∧ ∀ a ∈ ads, F a = none ∧ ¬ rm.ft A a ∧ fx.L a = none
  | .shl b => x = .ref b ∧ F b = none ∧ ¬ rm.ft A b ∧ fx.L b = none ∧ ∃ vs, H b = some (.lst vs) ∧ vs.length < big
  | .hds ks => HdsV F A x ks
  | .odi b n f => x = .ref b ∧ F b = none ∧ ¬ rm.ft A b ∧ fx.L b = none ∧ ∃ us, H b = some (.dK us) ∧ us.length ≤ n ∧ DkV F us f
structure SR (fx : Fx rm) (σ : L2.St) (H : Hp) (Γ : Ctx) (s : rm.S) (F : Hp) (A : rm.A) : Prop where
  fh : Sub F H
  fz : ∀ a o, F a = some o → ¬ rm.ft A a
  f0 : Sub fx.F0 F
  lk : ∀ a o, fx.L a = some o → H a = some o ∧ ((∀ vs, o ≠ .tup vs) → F a = none) ∧ ¬ rm.ft A a
  a0 : rm.le fx.A0 A
  ok : rm.ok A s H
  ln : Γ.length = σ.length
  sl : ∀ i v, look Γ i = some v → ∃ x, σ[i]? = some (some x) ∧ SV fx H F A x v
  dj : ∀ i j a, ownA σ Γ i a → ownA σ Γ j a → i = j
/-- what stood (but what handles reach) stands -/
def HX (H : Hp) (A : rm.A) (H' : Hp) (A' : rm.A) : Prop := rm.le A A' ∧ ∀ a o, H a = some o → ¬ rm.ft A a → H' a = some o ∧ ¬ rm.ft A' a
theorem HX.refl (H : Hp) (A : rm.A) : HX H A H A := ⟨rm.le_refl A, fun _ _ h n => ⟨h, n⟩⟩
theorem HX.trans {H H1 H2 : Hp} {A A1 A2 : rm.A} (a : HX H A H1 A1) (b : HX H1 A1 H2 A2) : HX H A H2 A2 := ⟨rm.le_trans a.1 b.1, fun p o h n => let ⟨h1, n1⟩ := a.2 p o h n; b.2 p o h1 n1⟩
/-- a value that an expression gives -/
def RV (fx : Fx rm) (σ : L2.St) (H F : Hp) (A : rm.A) (Γ : Ctx) (x : V) : Val → Prop
  | .dat d => Rp F x d
  | .own _ => False
  | .new xs => ∃ p vs, x = .ref p ∧ H p = some (.lst vs) ∧ F p = none ∧ ¬ rm.ft A p ∧ fx.L p = none ∧ RpL F vs xs ∧ NoOwn σ Γ p
  | .hdl k => rm.hd A k x
  | .tre ads d => OwT H ads x d ∧ ∀ a ∈ ads, F a = none ∧ ¬ rm.ft A a ∧ fx.L a = none ∧ NoOwn σ Γ a
  | .shl _ => False
  | .hds ks => HdsV F A x ks
  | .odi _ _ _ => False
/-- an operand: its things stay -/
def Ro (H F : Hp) (A : rm.A) (x : V) (d : D) : Prop := Rp F x d ∨ ∃ a vs ds, x = V.ref a ∧ d = .list ds ∧ H a = some (.lst vs) ∧ ¬ rm.ft A a ∧ RpL F vs ds
theorem Ro.mono {H H' F F' : Hp} {A A' : rm.A} {x : V} {d : D} (h : Ro H F A x d) (hx : HX H A H' A') (fx : Sub F F') : Ro H' F' A' x d := by
  rcases h with h | ⟨a, vs, ds, e1, e2, e3, e4, e5⟩
  · exact .inl (h.mono fx)
  · exact .inr ⟨a, vs, ds, e1, e2, (hx.2 _ _ e3 e4).1, (hx.2 _ _ e3 e4).2, e5.mono fx⟩
/-- a list operand, seen in the heap -/
theorem Ro.lst {H F : Hp} {A : rm.A} {x : V} {ds : List D} (fh : Sub F H) (h : Ro H F A x (.list ds)) : ∃ a vs, x = V.ref a ∧ Rd H a (.lst vs) ∧ RpL F vs ds := by
  rcases h with h | ⟨a, vs, ds', e1, e2, e3, _, e5⟩
  · cases h with
    | lst h r => exact ⟨_, _, rfl, fh.rd h, r⟩
  · cases e2
    exact ⟨a, vs, e1, .inl e3, e5⟩
theorem Ro.flat {H F : Hp} {A : rm.A} {x : V} {d : D} (h : Ro H F A x d) (hd : ∀ ds, d ≠ .list ds) : Rp F x d := by
  rcases h with h | ⟨a, vs, ds, _, e2, _⟩
  · exact h
  · exact absurd e2 (hd ds)

/-! ### slots -/
theorem look_put_same : ∀ {Γ : Ctx} {i : Nat} {v : Option Val}, i < Γ.length → look (put Γ i v) i = v
  | [], _, _, h => absurd h (Nat.not_lt_zero _)
  | _ :: _, 0, _, _ => rfl
  | _ :: r, i + 1, v, h => look_put_same (Γ := r) (i := i) (v := v) (Nat.lt_of_succ_lt_succ h)
theorem look_put_ne : ∀ {Γ : Ctx} {i j : Nat} {v : Option Val}, j ≠ i → look (put Γ i v) j = look Γ j
  | [], _, _, _, _ => rfl
  | _ :: _, 0, 0, _, h => absurd rfl h
  | _ :: _, 0, j + 1, _, _ => rfl
  | _ :: _, i + 1, 0, _, _ => rfl
  | _ :: r, i + 1, j + 1, v, h => look_put_ne (Γ := r) (i := i) (j := j) (v := v) (fun e => h (by rw [e]))
theorem put_length : ∀ {Γ : Ctx} {i : Nat} {v : Option Val}, (put Γ i v).length = Γ.length
  | [], _, _ => rfl
  | _ :: _, 0, _ => rfl
  | _ :: r, i + 1, v => by
    show (put r i v).length + 1 = r.length + 1
    rw [put_length]
theorem look_lt : ∀ {Γ : Ctx} {i : Nat} {v : Val}, look Γ i = some v → i < Γ.length
  | [], _, _, h => by cases h
  | _ :: _, 0, _, _ => Nat.succ_pos _
  | _ :: r, i + 1, v, h => Nat.succ_lt_succ (look_lt (Γ := r) (i := i) (v := v) h)
theorem look_put {Γ : Ctx} {i j : Nat} {v : Option Val} {w : Val} (h : look (put Γ i v) j = some w) : (j = i ∧ v = some w) ∨ (j ≠ i ∧ look Γ j = some w) := by
  by_cases e : j = i
  · subst e
    have hl := look_lt h
    rw [put_length] at hl
    rw [look_put_same hl] at h
    exact .inl ⟨rfl, h⟩
  · rw [look_put_ne e] at h
    exact .inr ⟨e, h⟩
theorem ownA_ne {σ : L2.St} {Γ : Ctx} {i j : Nat} {x : Option V} {v : Option Val} {a : Addr} (ne : j ≠ i) : ownA (σ.set i x) (put Γ i v) j a ↔ ownA σ Γ j a := by
  unfold ownA; rw [look_put_ne ne, List.getElem?_set_ne (Ne.symm ne)]
theorem ownA_neG {σ : L2.St} {Γ : Ctx} {i j : Nat} {v : Option Val} {a : Addr} (ne : j ≠ i) : ownA σ (put Γ i v) j a ↔ ownA σ Γ j a := by
  unfold ownA; rw [look_put_ne ne]
theorem ownV_none {x : Option (Option V)} {a : Addr} : ¬ ownV x none a := id
theorem ownA_lt {σ : L2.St} {Γ : Ctx} {i : Nat} {a : Addr} (h : ownA σ Γ i a) : i < Γ.length := by
  cases e : look Γ i with
  | none => unfold ownA at h; rw [e] at h; exact h.elim
  | some v => exact look_lt e
theorem ownA_at {σ : L2.St} {Γ : Ctx} {i : Nat} {v : Option Val} {a : Addr} (h : ownA σ (put Γ i v) i a) : ownV σ[i]? v a := by
  have hl := ownA_lt h
  rw [put_length] at hl
  unfold ownA at h
  rwa [look_put_same hl] at h
theorem ownA_drop {σ : L2.St} {Γ : Ctx} {i j : Nat} {a : Addr} (h : ownA σ (put Γ i none) j a) : j ≠ i ∧ ownA σ Γ j a := by
  by_cases e : j = i
  · subst e; exact (ownA_at h).elim
  · exact ⟨e, (ownA_neG e).mp h⟩
theorem ownA_set_at {σ : L2.St} {Γ : Ctx} {i : Nat} {x : Option V} {v : Option Val} {a : Addr} (hl : Γ.length = σ.length) (h : ownA (σ.set i x) (put Γ i v) i a) : ownV (some x) v a := by
  have h2 := ownA_at h
  have hi := ownA_lt h
  rw [put_length, hl] at hi
  rwa [List.getElem?_set_self hi] at h2
theorem ownA_no {σ : L2.St} {Γ : Ctx} {i : Nat} {a : Addr} (h : ∀ v, look Γ i = some v → ∀ x a, ¬ ownV x (some v) a) : ¬ ownA σ Γ i a := fun z => by
  cases e : look Γ i with
  | none => unfold ownA at z; rw [e] at z; exact z
  | some v => unfold ownA at z; rw [e] at z; exact h v e _ _ z
/-- what is one's own stays so where less is -/
theorem NoOwn.of {σ τ : L2.St} {Γ Δ : Ctx} {p : Addr} (n : NoOwn σ Γ p) (h : ∀ i, ownA τ Δ i p → ownA σ Γ i p) : NoOwn τ Δ p := fun i z => n i (h i z)
theorem NoOwn.drop {σ : L2.St} {Γ : Ctx} {p : Addr} {i : Nat} (n : NoOwn σ Γ p) : NoOwn σ (put Γ i none) p := n.of fun j z => (ownA_drop z).2
end Ac
namespace Ac
open PySem PySem.Spec PyProof.Rows L2
variable {rm : RM} {fx : Fx rm} {σ : L2.St} {H F : Hp} {Γ : Ctx} {s : rm.S} {A : rm.A}

/-! ### the state's lemmas -/
theorem upd_sub {H : Hp} {p : Addr} {o : HO} (h : H p = none) : Sub H (upd H p o) := fun a u e => by
  rw [upd_ne (ne_of_none e h)]
  exact e
theorem SR.alloc (R : SR fx σ H Γ s F A) {p : Addr} {o : HO} (hp : H p = none) : SR fx σ (upd H p o) Γ s F A where
  fh := fun a u e => upd_sub hp a u (R.fh a u e)
  fz := R.fz
  f0 := R.f0
  lk := fun a u e => ⟨upd_sub hp a u (R.lk a u e).1, (R.lk a u e).2⟩
  a0 := R.a0
  ok := rm.frame R.ok (fun q hq => upd_ne fun e => rm.ex R.ok hq (by rw [e]; exact hp)) fun q vs e => upd_sub hp q _ e
  ln := R.ln
  sl := fun i v e => by
    obtain ⟨x, h1, h2⟩ := R.sl i v e
    refine ⟨x, h1, ?_⟩
    cases v with
    | dat d => exact h2
    | own xs =>
      obtain ⟨a, vs, e1, e2, e3⟩ := h2
      exact ⟨a, vs, e1, upd_sub hp _ _ e2, e3⟩
    | new xs => exact h2
    | hdl k => exact h2
    | tre ads d => exact ⟨h2.1.mono (fun a vs z => upd_sub hp _ _ z) (fun a ha => by obtain ⟨vs, z⟩ := h2.1.lists a ha; rw [upd_ne (ne_of_none z hp)]), h2.2⟩
    | shl b => obtain ⟨e1, e2, e3, e4, vs, e5, e6⟩ := h2; exact ⟨e1, e2, e3, e4, vs, upd_sub hp _ _ e5, e6⟩
    | odi b n f => obtain ⟨e1, e2, e3, e4, vs, e5, e6⟩ := h2; exact ⟨e1, e2, e3, e4, vs, upd_sub hp _ _ e5, e6⟩
    | hds ks => exact h2
  dj := R.dj
theorem SR.hx (R : SR fx σ H Γ s F A) {p : Addr} {o : HO} (hp : H p = none) : HX H A (upd H p o) A := ⟨rm.le_refl A, fun a u e n => ⟨upd_sub hp a u e, n⟩⟩
theorem SR.nft (R : SR fx σ H Γ s F A) {p : Addr} (hp : H p = none) : ¬ rm.ft A p := fun h => rm.ex R.ok h hp
theorem SR.nF (R : SR fx σ H Γ s F A) {p : Addr} (hp : H p = none) : F p = none := by
  cases e : F p with
  | none => rfl
  | some o => rw [R.fh p o e] at hp; cases hp
theorem SR.nL (R : SR fx σ H Γ s F A) {p : Addr} (hp : H p = none) : fx.L p = none := by
  cases e : fx.L p with
  | none => rfl
  | some o => rw [(R.lk p o e).1] at hp; cases hp
/-- what is one's own is a list, apart from all else -/
theorem SR.owned (R : SR fx σ H Γ s F A) {i : Nat} {a : Addr} (h : ownA σ Γ i a) : (∃ o, H a = some o ∧ ∀ vs, o ≠ .tup vs) ∧ F a = none ∧ ¬ rm.ft A a ∧ fx.L a = none := by
  cases e : look Γ i with
  | none => unfold ownA at h; rw [e] at h; exact h.elim
  | some v =>
    obtain ⟨x, h1, h2⟩ := R.sl i v e
    cases v with
    | own xs =>
      rw [ownA_own e] at h
      obtain ⟨b, vs, rfl, e2, e3, e4, e5, _⟩ := h2
      rw [h1] at h
      cases h
      exact ⟨⟨_, e2, nofun⟩, e3, e4, e5⟩
    | tre ads d =>
      rw [ownA_tre e] at h
      exact ⟨let ⟨vs, z⟩ := h2.1.lists a h; ⟨_, z, nofun⟩, h2.2 a h⟩
    | shl b =>
      rw [ownA_shl e] at h
      subst h
      obtain ⟨e1, e2, e3, e4, vs, e5, e6⟩ := h2
      exact ⟨⟨_, e5, nofun⟩, e2, e3, e4⟩
    | odi b n f =>
      rw [ownA_odi e] at h
      subst h
      obtain ⟨e1, e2, e3, e4, vs, e5, e6⟩ := h2
      exact ⟨⟨_, e5, nofun⟩, e2, e3, e4⟩
    | _ => unfold ownA at h; rw [e] at h; exact h.elim
theorem SR.noOwn (R : SR fx σ H Γ s F A) {p : Addr} (hp : H p = none) : NoOwn σ Γ p := fun i z => by
  obtain ⟨⟨vs, e, _⟩, _⟩ := R.owned z
  rw [hp] at e
  cases e
theorem SR.noOwnT (R : SR fx σ H Γ s F A) {p : Addr} {vs : List V} (hp : H p = some (.tup vs)) : NoOwn σ Γ p := fun i z => by
  obtain ⟨⟨o, e, n⟩, _⟩ := R.owned z
  rw [hp] at e
  cases e
  exact n _ rfl
theorem SR.noOwnF (R : SR fx σ H Γ s F A) {p : Addr} {o : HO} (hp : F p = some o) : NoOwn σ Γ p := fun i z => by
  obtain ⟨_, e, _⟩ := R.owned z
  rw [hp] at e
  cases e
/-- a thing is handed over to what stays -/
theorem SR.frzG (R : SR fx σ H Γ s F A) {p : Addr} {o : HO} (hp : H p = some o) (hf : F p = none) (hz : ¬ rm.ft A p) (hl : fx.L p = none ∨ ∃ vs, o = .tup vs) (no : NoOwn σ Γ p) : SR fx σ H Γ s (upd F p o) A where
  fh := fun a u e => by
    by_cases h : a = p
    · subst h; rw [upd_same] at e; cases e; exact hp
    · rw [upd_ne h] at e; exact R.fh a u e
  fz := fun a u e => by
    by_cases h : a = p
    · subst h; exact hz
    · rw [upd_ne h] at e; exact R.fz a u e
  f0 := fun a u e => upd_sub hf a u (R.f0 a u e)
  lk := fun a u e => by
    by_cases h : a = p
    · subst h
      obtain ⟨g1, g2, g3⟩ := R.lk a u e
      rcases hl with hl | ⟨vs, rfl⟩
      · rw [hl] at e; cases e
      · rw [hp] at g1
        cases g1
        exact ⟨hp, fun z => absurd rfl (z vs), g3⟩
    · rw [upd_ne h]
      exact R.lk a u e
  a0 := R.a0
  ok := R.ok
  ln := R.ln
  sl := fun i v e => by
    obtain ⟨x, h1, h2⟩ := R.sl i v e
    refine ⟨x, h1, ?_⟩
    cases v with
    | dat d => exact Rp.mono (upd_sub hf) h2
    | own xs =>
      obtain ⟨a, vs, e1, e2, e3, e4, e5, e6⟩ := h2
      have h : a ≠ p := fun z => by rw [e1, z] at h1; exact no i ((ownA_own e).mpr h1)
      exact ⟨a, vs, e1, e2, by rw [upd_ne h]; exact e3, e4, e5, e6.mono (upd_sub hf)⟩
    | new xs => exact h2
    | hdl k => exact h2
    | tre ads d => exact ⟨h2.1, fun a ha => by
        have h : a ≠ p := fun z => no i ((ownA_tre e).mpr (by rw [← z]; exact ha))
        rw [upd_ne h]
        exact h2.2 a ha⟩
    | shl b =>
      have h : b ≠ p := fun z => no i ((ownA_shl e).mpr z.symm)
      refine ⟨h2.1, by rw [upd_ne h]; exact h2.2.1, h2.2.2⟩
    | odi b n f =>
      have h : b ≠ p := fun z => no i ((ownA_odi e).mpr z.symm)
      obtain ⟨e1, e2, e3, e4, us, e5, e6, e7⟩ := h2
      exact ⟨e1, by rw [upd_ne h]; exact e2, e3, e4, us, e5, e6, e7.mono (upd_sub hf)⟩
    | hds ks => obtain ⟨a, vs, e1, e2, e3⟩ := h2; exact ⟨a, vs, e1, upd_sub hf _ _ e2, e3⟩
  dj := R.dj
theorem SR.frz (R : SR fx σ H Γ s F A) {p : Addr} {o : HO} (hp : H p = some o) (hf : F p = none) (hz : ¬ rm.ft A p) (hl : fx.L p = none) (no : NoOwn σ Γ p) : SR fx σ H Γ s (upd F p o) A := R.frzG hp hf hz (.inl hl) no
/-- a tree is handed over to what stays -/
theorem SR.frzTup (R : SR fx σ H Γ s F A) {p : Addr} {vs : List V} (hp : H p = some (.tup vs)) : ∃ F', SR fx σ H Γ s F' A ∧ Sub F F' ∧ F' p = some (.tup vs) ∧ ∀ a, (∀ vs, H a ≠ some (.tup vs)) → F' a = F a := by
  cases e : F p with
  | some o =>
    have := R.fh p o e
    rw [hp] at this
    cases this
    exact ⟨F, R, Sub.refl F, e, fun _ _ => rfl⟩
  | none => exact ⟨_, R.frzG hp e (fun z => rm.nt R.ok z vs hp) (.inr ⟨vs, rfl⟩) (R.noOwnT hp), upd_sub e, upd_same, fun a h => upd_ne fun z => h vs (by rw [z]; exact hp)⟩
theorem sub_ne {F G : Hp} (sb : Sub F G) {b : Addr} (h : F b ≠ none) : G b ≠ none := by
  cases e : F b with
  | none => exact absurd e h
  | some o => rw [sb b o e]; exact nofun
mutual
theorem SR.frzT : ∀ {ads : List Addr} {x : V} {d : D} {F : Hp}, SR fx σ H Γ s F A → OwT H ads x d → (∀ a ∈ ads, F a = none ∧ ¬ rm.ft A a ∧ fx.L a = none ∧ NoOwn σ Γ a) →
    ∃ F', SR fx σ H Γ s F' A ∧ Sub F F' ∧ Rp F' x d ∧ (∀ a ∈ ads, F' a ≠ none) ∧ ∀ a, a ∉ ads → (∀ vs, H a ≠ some (.tup vs)) → F' a = F a
  | _, _, _, F, R, .non, _ => ⟨F, R, Sub.refl F, .non, nofun, fun _ _ _ => rfl⟩
  | _, _, _, F, R, .bl b, _ => ⟨F, R, Sub.refl F, .bl b, nofun, fun _ _ _ => rfl⟩
  | _, _, _, F, R, .int i, _ => ⟨F, R, Sub.refl F, .int i, nofun, fun _ _ _ => rfl⟩
  | _, _, _, F, R, .str x, _ => ⟨F, R, Sub.refl F, .str x, nofun, fun _ _ _ => rfl⟩
  | _, _, _, F, R, .lst (a := a) (vs := vs) h r n, hl => by
    obtain ⟨F1, R1, sb, rl, inF, nf⟩ := SR.frzTL R r fun a ha => hl a (List.mem_cons_of_mem _ ha)
    obtain ⟨g1, g2, g3, g4⟩ := hl a List.mem_cons_self
    have e1 : F1 a = none := (nf a n (fun vs z => by rw [h] at z; cases z)).trans g1
    refine ⟨upd F1 a (.lst vs), R1.frz h e1 g2 g3 g4, sb.trans (upd_sub e1), .lst (.inl upd_same) (rl.mono (upd_sub e1)), fun b hb z => ?_, fun b hb ht => ?_⟩
    · rcases List.mem_cons.mp hb with rfl | hb
      · rw [upd_same] at z; cases z
      · cases e : F1 b with
        | none => exact inF b hb e
        | some o => rw [upd_sub e1 b o e] at z; cases z
    rw [upd_ne (fun z => hb (by rw [z]; exact List.mem_cons_self))]
    exact nf b (fun m => hb (List.mem_cons_of_mem _ m)) ht
  | _, _, _, F, R, .tup (a := a) (vs := vs) h r, hl => by
    obtain ⟨F1, R1, sb, rl, inF, nf⟩ := SR.frzTL R r hl
    obtain ⟨F2, R2, sb2, e2, nf2⟩ := R1.frzTup h
    exact ⟨F2, R2, sb.trans sb2, .tup e2 (rl.mono sb2), fun b hb => sub_ne sb2 (inF b hb), fun b hb ht => (nf2 b ht).trans (nf b hb ht)⟩
theorem SR.frzTL : ∀ {ads : List Addr} {x : List V} {d : List D} {F : Hp}, SR fx σ H Γ s F A → OwL H ads x d → (∀ a ∈ ads, F a = none ∧ ¬ rm.ft A a ∧ fx.L a = none ∧ NoOwn σ Γ a) →
    ∃ F', SR fx σ H Γ s F' A ∧ Sub F F' ∧ RpL F' x d ∧ (∀ a ∈ ads, F' a ≠ none) ∧ ∀ a, a ∉ ads → (∀ vs, H a ≠ some (.tup vs)) → F' a = F a
  | _, _, _, F, R, .nil, _ => ⟨F, R, Sub.refl F, .nil, nofun, fun _ _ _ => rfl⟩
  | _, _, _, F, R, .cons (ads := ads) (bds := bds) h r n, hl => by
    obtain ⟨F1, R1, sb, rp, inF, nf⟩ := SR.frzT R h fun a ha => hl a (List.mem_append_left _ ha)
    obtain ⟨F2, R2, sb2, rl, inF2, nf2⟩ := SR.frzTL R1 r fun a ha => by
      obtain ⟨g1, g2⟩ := hl a (List.mem_append_right _ ha)
      obtain ⟨vs, z⟩ := r.lists a ha
      exact ⟨(nf a (fun m => n a m ha) (fun vs y => by rw [z] at y; cases y)).trans g1, g2⟩
    exact ⟨F2, R2, sb.trans sb2, .cons (rp.mono sb2) rl, fun b hb => (List.mem_append.mp hb).elim (fun m => sub_ne sb2 (inF b m)) (inF2 b), fun b hb ht => (nf2 b (fun m => hb (List.mem_append_right _ m)) ht).trans (nf b (fun m => hb (List.mem_append_left _ m)) ht)⟩
end
mutual
/-- data without lists, as a tree -/
theorem Rp.owT (fh : Sub F H) : ∀ {x : V} {d : D}, Rp F x d → flatT d = true → OwT H [] x d
  | _, _, .non, _ => .non
  | _, _, .bl b, _ => .bl b
  | _, _, .int i, _ => .int i
  | _, _, .str x, _ => .str x
  | _, _, .lst _ _, h => by simp [flatT] at h
  | _, _, .tup h r, f => .tup (fh _ _ h) (RpL.owL fh r (by simpa only [flatT] using f))
  | _, _, .dic _ _, h => by simp [flatT] at h
theorem RpL.owL (fh : Sub F H) : ∀ {x : List V} {d : List D}, RpL F x d → flatTs d = true → OwL H [] x d
  | _, _, .nil, _ => .nil
  | _, _, .cons h r, f => by
    simp only [flatTs, Bool.and_eq_true] at f
    exact OwL.cons (ads := []) (bds := []) (Rp.owT fh h f.1) (RpL.owL fh r f.2) nofun
end
/-- a new thing that stays -/
theorem SR.lay (R : SR fx σ H Γ s F A) {p : Addr} {o : HO} (hp : H p = none) : SR fx σ (upd H p o) Γ s (upd F p o) A :=
  (R.alloc hp).frz upd_same (R.nF hp) (R.nft hp) (R.nL hp) (R.noOwn hp)
/-- a slot is stored -/
theorem SR.put (R : SR fx σ H Γ s F A) {i : Nat} {x : V} {v : Option Val} (h : ∀ w, v = some w → SV fx H F A x w)
    (hd : ∀ a, ownV (some (some x)) v a → ∀ j, j ≠ i → ¬ ownA σ Γ j a) : SR fx (σ.set i (some x)) H (put Γ i v) s F A where
  fh := R.fh
  fz := R.fz
  f0 := R.f0
  lk := R.lk
  a0 := R.a0
  ok := R.ok
  ln := by rw [put_length, List.length_set]; exact R.ln
  sl := fun j w e => by
    rcases look_put e with ⟨rfl, rfl⟩ | ⟨ne, e'⟩
    · have hl := look_lt e
      rw [put_length, R.ln] at hl
      exact ⟨x, by rw [List.getElem?_set_self hl], h w rfl⟩
    · obtain ⟨y, h1, h2⟩ := R.sl j w e'
      exact ⟨y, by rw [List.getElem?_set_ne (Ne.symm ne)]; exact h1, h2⟩
  dj := fun j k a s1 s2 => by
    by_cases n1 : j = i
    · subst n1
      by_cases n2 : k = j
      · exact n2.symm
      · exact absurd ((ownA_ne n2).mp s2) (hd a (ownA_set_at R.ln s1) k n2)
    · by_cases n2 : k = i
      · subst n2
        exact absurd ((ownA_ne n1).mp s1) (hd a (ownA_set_at R.ln s2) j n1)
      · exact R.dj j k a ((ownA_ne n1).mp s1) ((ownA_ne n2).mp s2)
theorem SR.putD (R : SR fx σ H Γ s F A) {i : Nat} {x : V} {d : D} (h : Rp F x d) : SR fx (σ.set i (some x)) H (Ac.put Γ i (some (.dat d))) s F A :=
  R.put (fun w e => by cases e; exact h) (fun a e => e.elim)
theorem SR.putH (R : SR fx σ H Γ s F A) {i : Nat} {x : V} {k : Nat} (h : rm.hd A k x) : SR fx (σ.set i (some x)) H (Ac.put Γ i (some (.hdl k))) s F A :=
  R.put (fun w e => by cases e; exact h) (fun a e => e.elim)
theorem SR.putN (R : SR fx σ H Γ s F A) {i : Nat} {x : V} : SR fx (σ.set i (some x)) H (Ac.put Γ i none) s F A :=
  R.put (fun w e => nomatch e) (fun a e => e.elim)
/-- a value goes to a slot -/
theorem SR.putV (R : SR fx σ H Γ s F A) {i : Nat} {x : V} {v : Val} (h : RV fx σ H F A Γ x v) : SR fx (σ.set i (some x)) H (Ac.put Γ i (slotV v)) s F A := by
  cases v with
  | dat d => exact R.putD h
  | own xs => exact h.elim
  | new xs =>
    obtain ⟨p, vs, e1, e2, e3, e4, e5, e6, e7⟩ := h
    exact R.put (fun w e => by cases e; exact ⟨p, vs, e1, e2, e3, e4, e5, e6⟩) (fun a e j ne => by
      have e' : some (some x) = some (some (V.ref a)) := e
      rw [e1] at e'
      cases e'
      exact e7 j)
  | hdl k => exact R.putH h
  | tre ads d => exact R.put (fun w e => by cases e; exact ⟨h.1, fun a ha => ⟨(h.2 a ha).1, (h.2 a ha).2.1, (h.2 a ha).2.2.1⟩⟩) (fun a e j ne => (h.2 a e).2.2.2 j)
  | shl b => exact h.elim
  | odi b n f => exact h.elim
  | hds ks => exact R.put (fun w e => by cases e; exact h) (fun a e => e.elim)
/-- a name is forgotten -/
theorem SR.drop (R : SR fx σ H Γ s F A) {i : Nat} : SR fx σ H (Ac.put Γ i none) s F A where
  fh := R.fh
  fz := R.fz
  f0 := R.f0
  lk := R.lk
  a0 := R.a0
  ok := R.ok
  ln := by rw [put_length]; exact R.ln
  sl := fun j w e => by
    rcases look_put e with ⟨_, z⟩ | ⟨_, e'⟩
    · cases z
    · exact R.sl j w e'
  dj := fun j k a s1 s2 => R.dj j k a (ownA_drop s1).2 (ownA_drop s2).2
theorem put_look : ∀ {Γ : Ctx} {i : Nat} {v : Option Val}, look Γ i = v → put Γ i v = Γ ∨ v = none
  | [], _, _, _ => .inl rfl
  | w :: r, 0, v, h => by
    cases v with
    | none => exact .inr rfl
    | some v =>
      left
      show some v :: r = w :: r
      have : w = some v := h
      rw [this]
  | w :: r, i + 1, v, h => by
    rcases put_look (Γ := r) (i := i) (v := v) h with e | e
    · left
      show w :: put r i v = w :: r
      rw [e]
    · exact .inr e
/-- what one has let go is nobody's -/
theorem SR.letgo (R : SR fx σ H Γ s F A) {i : Nat} {a : Addr} (h : ownA σ Γ i a) : NoOwn σ (Ac.put Γ i none) a := fun j z => (ownA_drop z).1 (R.dj j i a (ownA_drop z).2 h)
theorem SR.datIn {i : Nat} (R : SR fx σ H (Ac.put Γ i none) s F A) {x : V} {d : D} (h1 : σ[i]? = some (some x)) (h2 : Rp F x d) (hl : i < Γ.length) : SR fx σ H (Ac.put Γ i (some (.dat d))) s F A where
  fh := R.fh
  fz := R.fz
  f0 := R.f0
  lk := R.lk
  a0 := R.a0
  ok := R.ok
  ln := by rw [put_length]; have := R.ln; rw [put_length] at this; exact this
  sl := fun j w e => by
    rcases look_put e with ⟨rfl, z⟩ | ⟨ne, e'⟩
    · cases z
      exact ⟨x, h1, h2⟩
    · exact R.sl j w (by rw [look_put_ne ne]; exact e')
  dj := fun j k a s1 s2 => by
    have f : ∀ {j : Nat}, ownA σ (Ac.put Γ i (some (.dat d))) j a → ownA σ (Ac.put Γ i none) j a := fun {j} z => by
      by_cases e : j = i
      · subst e; exact (ownA_at z).elim
      · exact (ownA_neG e).mpr ((ownA_neG e).mp z)
    exact R.dj j k a (f s1) (f s2)
/-- a slot's list is handed over to what stays -/
theorem SR.frzOwn (R : SR fx σ H Γ s F A) {i : Nat} {xs : List D} (h : look Γ i = some (.own xs)) : ∃ a vs, σ[i]? = some (some (V.ref a)) ∧ H a = some (.lst vs) ∧ F a = none ∧ RpL F vs xs ∧ SR fx σ H (Ac.put Γ i (some (.dat (.list xs)))) s (upd F a (.lst vs)) A := by
  obtain ⟨x, h1, a, vs, rfl, e2, e3, e4, e5, e6⟩ := R.sl i _ h
  have R2 := (R.drop (i := i)).frz e2 e3 e4 e5 (R.letgo ((ownA_own h).mpr h1))
  exact ⟨a, vs, h1, e2, e3, e6, R2.datIn h1 (.lst (.inl upd_same) (e6.mono (upd_sub e3))) (look_lt h)⟩
/-- a slot's tree is handed over to what stays -/
theorem SR.frzTre (R : SR fx σ H Γ s F A) {i : Nat} {ads : List Addr} {d : D} (h : look Γ i = some (.tre ads d)) : ∃ x F', σ[i]? = some (some x) ∧ Sub F F' ∧ Rp F' x d ∧ SR fx σ H (Ac.put Γ i (some (.dat d))) s F' A ∧ ∀ a ∈ ads, F' a ≠ none := by
  obtain ⟨x, h1, ot, e2⟩ := R.sl i _ h
  obtain ⟨F', R', sb, rp, inF, nf⟩ := SR.frzT (R.drop (i := i)) ot fun a ha => ⟨(e2 a ha).1, (e2 a ha).2.1, (e2 a ha).2.2, R.letgo ((ownA_tre h).mpr ha)⟩
  exact ⟨x, F', h1, sb, rp, R'.datIn h1 rp (look_lt h), inF⟩
/-- a value, made to stay -/
theorem SR.stay (R : SR fx σ H Γ s F A) {x : V} {v : Val} {k : D → Prop} (h : RV fx σ H F A Γ x v) (hk : asD v k) : ∃ d F', k d ∧ SR fx σ H Γ s F' A ∧ Sub F F' ∧ Rp F' x d := by
  cases v with
  | dat d => exact ⟨d, F, hk, R, Sub.refl F, h⟩
  | own xs => exact h.elim
  | new xs =>
    obtain ⟨p, vs, rfl, e2, e3, e4, e5, e6, e7⟩ := h
    exact ⟨_, upd F p (.lst vs), hk, R.frz e2 e3 e4 e5 e7, upd_sub e3, .lst (.inl upd_same) (e6.mono (upd_sub e3))⟩
  | hdl k' => exact hk.elim
  | tre ads d =>
    obtain ⟨F', R', sb, rp, _, _⟩ := SR.frzT R h.1 h.2
    exact ⟨d, F', hk, R', sb, rp⟩
  | shl b => exact h.elim
  | odi b n f => exact h.elim
  | hds ks => exact hk.elim

/-! ### monotony -/
section
variable {S : Type}
theorem ite_mono {c : Bool} {P P' R R' : Prop} (h1 : P → P') (h2 : R → R') (q : if c = true then P else R) : if c = true then P' else R' := by
  cases c with
  | true => rw [if_pos rfl] at q ⊢; exact h1 q
  | false => rw [if_neg Bool.false_ne_true] at q ⊢; exact h2 q
theorem asD_mono {v : Val} {k k' : D → Prop} (h : ∀ d, k d → k' d) (q : asD v k) : asD v k' := by
  cases v with
  | dat d => exact h _ q
  | new xs => exact h _ q
  | tre ads d => exact h _ q
  | _ => exact q
theorem boolD_mono {d : D} {k k' : Bool → Prop} (h : ∀ b, k b → k' b) (q : boolD d k) : boolD d k' := by
  cases d <;> first | exact h _ q | exact q.elim
theorem rdO_mono {v : Option Val} {k k' : D → Prop} (h : ∀ d, k d → k' d) (q : rdO v k) : rdO v k' := by
  cases v with
  | none => exact q
  | some v =>
    cases v with
    | dat d => exact h _ q
    | new xs => exact q
    | own xs => exact h _ q
    | _ => exact q
theorem opn_mono {a : E S} {wa : Ctx → S → (Val → Ctx → S → Prop) → Prop} (hw : ∀ (Γ : Ctx) (s : S) (Q Q' : Val → Ctx → S → Prop), (∀ v Γ' s', Q v Γ' s' → Q' v Γ' s') → wa Γ s Q → wa Γ s Q') {Γ : Ctx} {s : S} {Q Q' : D → Ctx → S → Prop}
    (h : ∀ d Γ' s', Q d Γ' s' → Q' d Γ' s') (q : opn a wa Γ s Q) : opn a wa Γ s Q' := by
  cases a with
  | var i => exact rdO_mono (fun d => h d Γ s) q
  | _ => exact hw _ _ _ _ (fun v Γ' s' q' => asD_mono (fun d => h d Γ' s') q') q
theorem ixD_mono {xs : List D} {i : Int} {k k' : D → Prop} (h : ∀ d, k d → k' d) (q : ixD xs i k) : ixD xs i k' := by
  unfold ixD at q ⊢
  split at q
  · exact h _ q
  · exact q.elim
theorem negX_mono {d : D} {k k' : Val → Prop} (h : ∀ v, k v → k' v) (q : negX d k) : negX d k' := by
  unfold negX at q ⊢
  split at q <;> first | exact h _ q | exact q.elim
theorem ixX_mono {x y : D} {k k' : D → Prop} (h : ∀ v, k v → k' v) (q : ixX x y k) : ixX x y k' := by
  unfold ixX at q ⊢
  split at q <;> first | exact ixD_mono h q | exact ⟨q.1, ixD_mono h q.2⟩ | exact q.elim
theorem slX_mono {d : D} {l r : Option Int} {k k' : Val → Prop} (h : ∀ v, k v → k' v) (q : slX d l r k) : slX d l r k' := by
  unfold slX at q ⊢
  split at q <;> first | exact h _ q | exact ⟨q.1, h _ q.2⟩ | exact q.elim
theorem rvX_mono {d : D} {k k' : Val → Prop} (h : ∀ v, k v → k' v) (q : rvX d k) : rvX d k' := by
  unfold rvX at q ⊢
  split at q <;> first | exact h _ q | exact q.elim
theorem repX_mono {ds : List D} {d : D} {k k' : Val → Prop} (h : ∀ v, k v → k' v) (q : repX ds d k) : repX ds d k' := by
  unfold repX at q ⊢
  split at q <;> first | exact ⟨q.1, h _ q.2⟩ | exact q.elim
theorem intX_mono {d : D} {k k' : Int → Prop} (h : ∀ v, k v → k' v) (q : intX d k) : intX d k' := by
  unfold intX at q ⊢
  split at q <;> first | exact h _ q | exact q.elim
theorem seqD_mono {d : D} {k k' : List D → Prop} (h : ∀ v, k v → k' v) (q : seqD d k) : seqD d k' := by
  unfold seqD at q ⊢
  split at q <;> first | exact h _ q | exact q.elim
theorem lstD_mono {d : D} {k k' : List D → Prop} (h : ∀ v, k v → k' v) (q : lstD d k) : lstD d k' := by
  unfold lstD at q ⊢
  split at q <;> first | exact h _ q | exact q.elim
theorem addD_mono {x y : D} {k k' : Val → Prop} (h : ∀ d, k d → k' d) (q : addD x y k) : addD x y k' := by
  unfold addD at q ⊢
  split at q <;> first | exact h _ q | exact ⟨q.1, h _ q.2⟩ | exact q.elim
theorem intD_mono {C : Int → Int → Prop} {f : Int → Int → Int} {x y : D} {k k' : Val → Prop} (h : ∀ d, k d → k' d) (q : intD C f x y k) : intD C f x y k' := by
  unfold intD at q ⊢
  split at q <;> first | exact ⟨q.1, h _ q.2⟩ | exact q.elim
theorem subD_mono {x y : D} {k k' : Val → Prop} (h : ∀ d, k d → k' d) (q : subD x y k) : subD x y k' := by
  unfold subD at q ⊢
  split at q <;> first | exact h _ q | exact q.elim
theorem opD_mono {o : Operator} {x y : D} {k k' : Val → Prop} (h : ∀ d, k d → k' d) (q : opD o x y k) : opD o x y k' := by
  cases o <;> first | exact addD_mono h q | exact subD_mono h q | exact intD_mono h q | exact False.elim q
theorem eqD_mono {x y : D} {k k' : Bool → Prop} (h : ∀ d, k d → k' d) (q : eqD x y k) : eqD x y k' := by
  unfold eqD at q ⊢
  split at q <;> first | exact h _ q | exact ⟨q.1, q.2.1, h _ q.2.2⟩
theorem relD_mono {f : Int → Int → Bool} {x y : D} {k k' : Val → Prop} (h : ∀ d, k d → k' d) (q : relD f x y k) : relD f x y k' := by
  unfold relD at q ⊢
  split at q <;> first | exact h _ q | exact q.elim
theorem memD_mono {f : Bool} {x y : D} {k k' : Val → Prop} (h : ∀ d, k d → k' d) (q : memD f x y k) : memD f x y k' := by
  unfold memD at q ⊢
  split at q <;> first | exact ⟨q.1, q.2.1, h _ q.2.2⟩ | exact q.elim (fun z => .inl ⟨z.1, z.2.1, h _ z.2.2⟩) (fun z => .inr ⟨z.1, z.2.1, h _ z.2.2⟩) | exact q.elim (fun z => .inl ⟨z.1, z.2.1, h _ z.2.2⟩) (fun z => .inr ⟨z.1, z.2.1, z.2.2.1, h _ z.2.2.2⟩) | (obtain ⟨c, e, z⟩ := q; exact ⟨c, e, h _ z⟩) | exact False.elim q
theorem cmpD_mono {o : CmpOp} {x y : D} {k k' : Val → Prop} (h : ∀ d, k d → k' d) (q : cmpD o x y k) : cmpD o x y k' := by
  cases o <;> first | exact eqD_mono (x := x) (y := y) (k := fun b => k (.dat (.bool b))) (k' := fun b => k' (.dat (.bool b))) (fun b => h _) q | exact eqD_mono (x := x) (y := y) (k := fun b => k (.dat (.bool (!b)))) (k' := fun b => k' (.dat (.bool (!b)))) (fun b => h _) q | exact relD_mono h q | exact memD_mono h q | exact False.elim q
theorem biD_mono {b : BI} {ds : List D} {k k' : Val → Prop} (h : ∀ d, k d → k' d) (q : biD b ds k) : biD b ds k' := by
  cases b <;> dsimp only [biD] at q ⊢
  case len => unfold lenD at q ⊢; split at q <;> first | exact h _ q | exact ⟨q.1, h _ q.2⟩ | exact q.elim
  case min2 => unfold int2D at q ⊢; split at q <;> first | exact h _ q | exact q.elim
  case max2 => unfold int2D at q ⊢; split at q <;> first | exact h _ q | exact q.elim
  case minL => unfold minLD at q ⊢; split at q <;> first | (obtain ⟨ns, e1, e2, e3⟩ := q; exact ⟨ns, e1, e2, fun m a b => h _ (e3 m a b)⟩) | exact q.elim
  case maxL => unfold maxLD at q ⊢; split at q <;> first | (obtain ⟨ns, e1, e2, e3⟩ := q; exact ⟨ns, e1, e2, fun m a b => h _ (e3 m a b)⟩) | exact q.elim
  case sum => unfold sumD at q ⊢; split at q <;> first | (obtain ⟨ns, e1, e2⟩ := q; exact ⟨ns, e1, h _ e2⟩) | exact q.elim
  case sorted => unfold sortedD at q ⊢; split at q <;> first | (obtain ⟨ns, e1, e2⟩ := q; exact ⟨ns, e1, fun m a b => h _ (e2 m a b)⟩) | exact q.elim
  case list => unfold listD at q ⊢; split at q <;> first | exact h _ q | exact q.elim
  case tuple => unfold tupleD at q ⊢; split at q <;> first | exact h _ q | exact q.elim
  case abs => unfold absD at q ⊢; split at q <;> first | exact h _ q | exact q.elim
  case int => unfold toIntD at q ⊢; split at q <;> first | exact h _ q | (obtain ⟨n, e1, e2, e3⟩ := q; exact ⟨n, e1, e2, h _ e3⟩) | exact q.elim
  case str => unfold toStrD at q ⊢; split at q <;> first | exact ⟨q.1, h _ q.2⟩ | exact q.elim
  case sortP => unfold sortPD at q ⊢; split at q <;> first | (obtain ⟨ns, e1, e2⟩ := q; exact ⟨ns, e1, fun m a b => h _ (e2 m a b)⟩) | exact q.elim
  case sortT => unfold sortTD at q ⊢; split at q <;> first | (obtain ⟨ts, e1, e2, e3, e4⟩ := q; exact ⟨ts, e1, e2, e3, fun m a b => h _ (e4 m a b)⟩) | exact q.elim
  case repr => unfold reprD at q ⊢; split at q <;> first | exact ⟨q.1, h _ q.2⟩ | exact q.elim
  case dictP => unfold dictPD at q ⊢; split at q <;> first | (obtain ⟨ns, e1, e2⟩ := q; exact ⟨ns, e1, fun m a b => h _ (e2 m a b)⟩) | exact q.elim
  all_goals (unfold isD at q ⊢; split at q <;> first | exact h _ q | exact q.elim)
theorem strX_mono {x : D} {P P' : Prop} (h : P → P') (q : strX x P) : strX x P' := by
  unfold strX at q ⊢
  split at q <;> first | exact h q | exact q.elim
theorem txD_mono {o : T2} {x y : D} {k k' : Val → Prop} (h : ∀ d, k d → k' d) (q : txD o x y k) : txD o x y k' := by
  cases o <;> dsimp only [txD] at q ⊢
  case split => unfold txSplit at q ⊢; split at q <;> first | exact ⟨q.1, h _ q.2⟩ | exact q.elim
  case part => unfold txPart at q ⊢; split at q <;> first | exact ⟨q.1, h _ q.2⟩ | exact q.elim
  case join => unfold txJoin at q ⊢; split at q <;> first | (obtain ⟨ys, e1, e2, e3⟩ := q; exact ⟨ys, e1, e2, h _ e3⟩) | exact q.elim
  case strip => unfold txStrip at q ⊢; split at q <;> first | exact ⟨q.1, h _ q.2⟩ | exact q.elim
  case mulS => unfold txMul at q ⊢; split at q <;> first | exact ⟨q.1, h _ q.2⟩ | exact q.elim
theorem keyD_mono {d : D} {k k' : Key → Prop} (h : ∀ b, k b → k' b) (q : keyD d k) : keyD d k' := by
  cases d <;> first | exact h _ q | exact q.elim
theorem mtD_mono {m : MT} {x : D} {ds : List D} {k k' : Val → Prop} (h : ∀ d, k d → k' d) (q : mtD m x ds k) : mtD m x ds k' := by
  cases m
  dsimp only [mtD] at q ⊢
  unfold indexD at q ⊢
  split at q
  · obtain ⟨ns, e, q⟩ := q
    refine ⟨ns, e, ?_⟩
    split at q
    · rename_i j ej
      exact h _ q
    · exact q.elim
  · exact q.elim
theorem srtSX_mono {d : D} {k k' : Val → Prop} (h : ∀ v, k v → k' v) (q : srtSX d k) : srtSX d k' := by
  unfold srtSX at q ⊢
  split at q <;> first | (obtain ⟨ns, e1, e2, e3, e4⟩ := q; exact ⟨ns, e1, e2, e3, fun m a b => h _ (e4 m a b)⟩) | exact q.elim
theorem srtLX_mono {d : D} {k k' : Val → Prop} (h : ∀ v, k v → k' v) (q : srtLX d k) : srtLX d k' := by
  unfold srtLX at q ⊢
  split at q <;> first | (obtain ⟨e1, e2⟩ := q; exact ⟨e1, fun m a b => h _ (e2 m a b)⟩) | exact q.elim
theorem lenSX_mono {d : D} {k k' : Val → Prop} (h : ∀ v, k v → k' v) (q : lenSX d k) : lenSX d k' := by
  unfold lenSX at q ⊢
  split at q <;> first | (obtain ⟨ns, e1, e2, e4⟩ := q; exact ⟨ns, e1, e2, fun m a b => h _ (e4 m a b)⟩) | exact q.elim
theorem rngD_mono {ds : List D} {k k' : List D → Prop} (h : ∀ d, k d → k' d) (q : rngD ds k) : rngD ds k' := by
  unfold rngD at q ⊢
  split at q <;> first | exact ⟨q.1, h _ q.2⟩ | exact ⟨q.1, q.2.1, h _ q.2.2⟩ | exact q.elim
theorem putAll_mono {k k' : Ctx → Prop} (h : ∀ d, k d → k' d) : ∀ {is : List Nat} {ds : List D} {Γ : Ctx}, putAll is ds Γ k → putAll is ds Γ k'
  | [], [], _, q => h _ q
  | [], _ :: _, _, q => q.elim
  | _ :: _, [], _, q => q.elim
  | _ :: is, _ :: ds, _, q => putAll_mono h (is := is) (ds := ds) q
theorem bindT_mono {tg : Tg} {x : D} {Γ : Ctx} {k k' : Ctx → Prop} (h : ∀ d, k d → k' d) (q : bindT tg x Γ k) : bindT tg x Γ k' := by
  unfold bindT at q ⊢
  split at q <;> first | exact h _ q | exact putAll_mono h q | exact q.elim
theorem cLoop_mono {f : D → Ctx → S → (Option D → Ctx → S → Prop) → Prop} (hf : ∀ (x : D) (Γ : Ctx) (s : S) (k k' : Option D → Ctx → S → Prop), (∀ o Γ' s', k o Γ' s' → k' o Γ' s') → f x Γ s k → f x Γ s k')
    {k k' : List D → Ctx → S → Prop} (h : ∀ o Γ' s', k o Γ' s' → k' o Γ' s') : ∀ {xs : List D} {Γ : Ctx} {s : S} {acc : List D}, cLoop f xs Γ s acc k → cLoop f xs Γ s acc k'
  | [], _, _, _, q => h _ _ _ q
  | x :: r, Γ, s, acc, q => hf _ _ _ _ _ (fun o Γ' s' q' => cLoop_mono hf h (xs := r) q') q
theorem popW_mono {i : Nat} {Γ : Ctx} {o : (D → Ctx → S → Prop) → Prop} {Q Q' : Val → Ctx → S → Prop} (ho : ∀ k k', (∀ d Γ' s', k d Γ' s' → k' d Γ' s') → o k → o k') (h : ∀ v Γ' s', Q v Γ' s' → Q' v Γ' s') (q : popW i Γ o Q) : popW i Γ o Q' := by
  unfold popW at q ⊢
  split at q
  · refine ho _ _ (fun x Γ1 s1 q => ?_) q
    split at q
    · split at q
      · exact ⟨q.1, h _ _ _ q.2⟩
      · exact q.elim
    · exact q.elim
  · exact q.elim
theorem isCW_mono {ns : List Nat} {o : Option Val} {k k' : Bool → Prop} (h : ∀ b, k b → k' b) (q : isCW ns o k) : isCW ns o k' := by
  unfold isCW at q ⊢
  split at q <;> first | exact ⟨q.1, h _ q.2⟩ | exact q.elim
theorem owV_mono {v : Val} {k k' : List Addr → D → Prop} (h : ∀ a d, k a d → k' a d) (q : owV v k) : owV v k' := by
  unfold owV at q ⊢
  split at q <;> first | exact ⟨q.1, h _ _ q.2⟩ | exact ⟨q.1, fun a => h _ _ (q.2 a)⟩ | exact h _ _ q | exact q.elim
theorem owS_mono {v : Option Val} {k k' : List Addr → D → Prop} (h : ∀ a d, k a d → k' a d) (q : owS v k) : owS v k' := by
  unfold owS at q ⊢
  split at q <;> first | exact ⟨q.1, fun a => h _ _ (q.2 a)⟩ | exact h _ _ q | exact q.elim
theorem catX_mono {v w : Option Val} {k k' : Val → Addr → Prop} (h : ∀ a d, k a d → k' a d) (q : catX v w k) : catX v w k' := by
  unfold catX at q ⊢
  refine owS_mono (fun ads d => owS_mono fun bds e q => ?_) q
  split at q
  · exact ⟨q.1, fun b c => h _ _ (q.2 b c)⟩
  · exact q.elim
theorem boolO_mono {v : Val} {k k' : Bool → Prop} (h : ∀ a, k a → k' a) (q : boolO v k) : boolO v k' := by
  unfold boolO at q ⊢
  split at q <;> first | exact h _ q | exact q.elim
theorem odiO_mono {v : Option Val} {k k' : Addr → Nat → (Str → Option D) → Prop} (h : ∀ b n f, k b n f → k' b n f) (q : odiO v k) : odiO v k' := by
  unfold odiO at q ⊢
  split at q <;> first | exact h _ _ _ q | exact q.elim
theorem strO_mono {v : Option Val} {k k' : Str → Prop} (h : ∀ b, k b → k' b) (q : strO v k) : strO v k' := by
  unfold strO at q ⊢
  split at q <;> first | exact h _ q | exact q.elim
theorem datO_mono {v : Option Val} {k k' : D → Prop} (h : ∀ b, k b → k' b) (q : datO v k) : datO v k' := by
  unfold datO at q ⊢
  split at q <;> first | exact h _ q | exact q.elim
theorem hdsO_mono {v : Option Val} {k k' : List Nat → Prop} (h : ∀ a, k a → k' a) (q : hdsO v k) : hdsO v k' := by
  unfold hdsO at q ⊢
  split at q <;> first | exact h _ q | exact q.elim
theorem treO_mono {v : Option Val} {k k' : List Addr → D → Prop} (h : ∀ a d, k a d → k' a d) (q : treO v k) : treO v k' := by
  unfold treO at q ⊢
  split at q <;> first | exact h _ _ q | exact q.elim
theorem tupN_mono {d : D} {n : Nat} {k k' : D → Prop} (h : ∀ d, k d → k' d) (q : tupN d n k) : tupN d n k' := by
  unfold tupN at q ⊢
  split at q
  · split at q
    · exact h _ q
    · exact q.elim
  · exact q.elim
theorem hixX_mono {v : List Nat} {y : D} {k k' : Val → Prop} (h : ∀ a, k a → k' a) (q : hixX v y k) : hixX v y k' := by
  unfold hixX at q ⊢
  split at q
  · split at q
    · exact h _ q
    · exact q.elim
  · exact q.elim
theorem updX_mono {f : List D → Option (List D)} {ps : List Px} {Γ : Ctx} {i : Nat} {k k' : Ctx → Prop} (h : ∀ a, k a → k' a) (q : updX f ps Γ i k) : updX f ps Γ i k' := by
  unfold updX at q ⊢
  split at q
  · split at q
    · exact fun a => h _ (q a)
    · exact q.elim
  · exact q.elim
theorem putAllT_mono {k k' : Ctx → Prop} (h : ∀ d, k d → k' d) : ∀ {is : List Nat} {ds : List D} {Γ : Ctx}, putAllT is ds Γ k → putAllT is ds Γ k'
  | [], [], _, q => h _ q
  | [], _ :: _, _, q => q.elim
  | _ :: _, [], _, q => q.elim
  | i :: is, d :: ds, Γ, q => by
    unfold putAllT at q ⊢
    by_cases e : scal d = true
    · rw [if_pos e] at q ⊢; exact putAllT_mono h q
    · rw [if_neg e] at q ⊢; exact fun a => putAllT_mono h (q a)
theorem asgTX_mono {v : Val} {is : List Nat} {Γ : Ctx} {k k' : Ctx → Prop} (h : ∀ a, k a → k' a) (q : asgTX v is Γ k) : asgTX v is Γ k' := by
  unfold asgTX at q ⊢
  split at q
  · exact putAllT_mono h q
  · exact q.elim
theorem forAX_mono {i j : Nat} {c : Int} {Γ : Ctx} {k k' : Ctx → Prop} (h : ∀ a, k a → k' a) (q : forAX i j c Γ k) : forAX i j c Γ k' := by
  unfold forAX at q ⊢
  split at q
  · split at q
    · exact ⟨q.1, q.2.1, fun a => h _ (q.2.2 a)⟩
    · exact q.elim
  · exact q.elim
theorem cLoopT_mono {f : D → Ctx → S → (List Addr → D → Ctx → S → Prop) → Prop} (hf : ∀ (x : D) (Γ : Ctx) (s : S) (k k' : List Addr → D → Ctx → S → Prop), (∀ a o Γ' s', k a o Γ' s' → k' a o Γ' s') → f x Γ s k → f x Γ s k')
    {k k' : List Addr → List D → Ctx → S → Prop} (h : ∀ a o Γ' s', k a o Γ' s' → k' a o Γ' s') : ∀ {xs : List D} {Γ : Ctx} {s : S} {ads : List Addr} {acc : List D}, cLoopT f xs Γ s ads acc k → cLoopT f xs Γ s ads acc k'
  | [], _, _, _, _, q => h _ _ _ _ q
  | x :: r, Γ, s, ads, acc, q => hf _ _ _ _ _ (fun a o Γ' s' q' => cLoopT_mono hf h (xs := r) q') q
mutual
theorem wE_mono : ∀ {xc : Nat → Ctx → S → Prop} (c : E S) {Γ : Ctx} {s : S} {Q Q' : Val → Ctx → S → Prop}, (∀ v Γ' s', Q v Γ' s' → Q' v Γ' s') → wE xc c Γ s Q → wE xc c Γ s Q'
  | xc, .var i, Γ, s, Q, Q', h, q => by
    unfold wE at q ⊢
    split at q <;> first | exact h _ _ _ q | exact q.elim
  | xc, .non, _, _, _, _, h, q => by unfold wE at q ⊢; exact h _ _ _ q
  | xc, .bl _, _, _, _, _, h, q => by unfold wE at q ⊢; exact h _ _ _ q
  | xc, .int _, _, _, _, _, h, q => by unfold wE at q ⊢; exact h _ _ _ q
  | xc, .str _, _, _, _, _, h, q => by unfold wE at q ⊢; exact h _ _ _ q
  | xc, .glb _ _, _, _, _, _, h, q => by unfold wE at q ⊢; exact h _ _ _ q
  | xc, .op o a b, _, _, _, _, h, q => by
    unfold wE at q ⊢
    exact opn_mono (wa := wE xc a) (fun _ _ _ _ => wE_mono a) (fun x Γ1 s1 => opn_mono (wa := wE xc b) (fun _ _ _ _ => wE_mono b) fun y Γ2 s2 => opD_mono fun v => h v Γ2 s2) q
  | xc, .glbS _ _, _, _, _, _, h, q => by unfold wE at q ⊢; exact h _ _ _ q
  | xc, .tx o a b, _, _, _, _, h, q => by
    unfold wE at q ⊢
    exact opn_mono (wa := wE xc a) (fun _ _ _ _ => wE_mono a) (fun x Γ1 s1 => strX_mono (opn_mono (wa := wE xc b) (fun _ _ _ _ => wE_mono b) fun y Γ2 s2 => txD_mono fun v => h v Γ2 s2)) q
  | xc, .neg a, _, _, _, _, h, q => by
    unfold wE at q ⊢
    exact opn_mono (wa := wE xc a) (fun _ _ _ _ => wE_mono a) (fun x Γ1 s1 => negX_mono fun v => h v Γ1 s1) q
  | xc, .nt a, _, _, _, _, h, q => by
    unfold wE at q ⊢
    exact opn_mono (wa := wE xc a) (fun _ _ _ _ => wE_mono a) (fun x Γ1 s1 => boolD_mono fun b => h _ _ _) q
  | xc, .an a b, _, _, _, _, h, q => by
    unfold wE at q ⊢
    exact opn_mono (wa := wE xc a) (fun _ _ _ _ => wE_mono a) (fun x Γ1 s1 => boolD_mono fun c => ite_mono (opn_mono (wa := wE xc b) (fun _ _ _ _ => wE_mono b) (fun y Γ2 s2 => boolD_mono fun d => h _ _ _)) (h _ _ _)) q
  | xc, .or a b, _, _, _, _, h, q => by
    unfold wE at q ⊢
    exact opn_mono (wa := wE xc a) (fun _ _ _ _ => wE_mono a) (fun x Γ1 s1 => boolD_mono fun c => ite_mono (h _ _ _) (opn_mono (wa := wE xc b) (fun _ _ _ _ => wE_mono b) (fun y Γ2 s2 => boolD_mono fun d => h _ _ _))) q
  | xc, .cmp o a b, _, _, _, _, h, q => by
    unfold wE at q ⊢
    exact opn_mono (wa := wE xc a) (fun _ _ _ _ => wE_mono a) (fun x Γ1 s1 => opn_mono (wa := wE xc b) (fun _ _ _ _ => wE_mono b) fun y Γ2 s2 => cmpD_mono fun v => h v Γ2 s2) q
  | xc, .ch o o' a b c, _, _, _, _, h, q => by
    unfold wE at q ⊢
    exact opn_mono (wa := wE xc a) (fun _ _ _ _ => wE_mono a) (fun x Γ1 s1 => opn_mono (wa := wE xc b) (fun _ _ _ _ => wE_mono b) (fun y Γ2 s2 => cmpD_mono fun v => asD_mono fun d => boolD_mono fun k => ite_mono (opn_mono (wa := wE xc c) (fun _ _ _ _ => wE_mono c) (fun z Γ3 s3 => cmpD_mono fun v => h v Γ3 s3)) (h _ _ _))) q
  | xc, .isn p a, _, _, _, _, h, q => by
    unfold wE at q ⊢
    exact opn_mono (wa := wE xc a) (fun _ _ _ _ => wE_mono a) (fun x Γ1 s1 q => h _ _ _ q) q
  | xc, .isb p b a, _, _, _, _, h, q => by
    unfold wE at q ⊢
    exact opn_mono (wa := wE xc a) (fun _ _ _ _ => wE_mono a) (fun x Γ1 s1 => boolD_mono fun b => h _ _ _) q
  | xc, .ix a b, _, _, _, _, h, q => by
    unfold wE at q ⊢
    exact opn_mono (wa := wE xc a) (fun _ _ _ _ => wE_mono a) (fun x Γ1 s1 => opn_mono (wa := wE xc b) (fun _ _ _ _ => wE_mono b) fun y Γ2 s2 => ixX_mono fun d => h _ Γ2 s2) q
  | xc, .sl a lo hi, _, _, _, _, h, q => by
    unfold wE at q ⊢
    exact opn_mono (wa := wE xc a) (fun _ _ _ _ => wE_mono a) (fun x Γ1 s1 => wP_mono lo fun l Γ2 s2 => wP_mono hi fun l2 Γ3 s3 => slX_mono fun v => h v Γ3 s3) q
  | xc, .rv a, _, _, _, _, h, q => by
    unfold wE at q ⊢
    exact opn_mono (wa := wE xc a) (fun _ _ _ _ => wE_mono a) (fun x Γ1 s1 => rvX_mono fun v => h v Γ1 s1) q
  | xc, .ls es, _, _, _, _, h, q => by
    unfold wE at q ⊢
    exact wX_mono es (fun ds Γ1 s1 q => ⟨q.1, h _ _ _ q.2⟩) q
  | xc, .tp es, _, _, _, _, h, q => by
    unfold wE at q ⊢
    exact wX_mono es (fun ds Γ1 s1 q => ⟨q.1, h _ _ _ q.2⟩) q
  | xc, .rep es b, _, _, _, _, h, q => by
    unfold wE at q ⊢
    exact wX_mono es (fun ds Γ1 s1 q => ⟨q.1, opn_mono (wa := wE xc b) (fun _ _ _ _ => wE_mono b) (fun x Γ1 s1 => repX_mono fun v => h v Γ1 s1) q.2⟩) q
  | xc, .comp own tg it c e, _, _, _, _, h, q => by
    unfold wE at q ⊢
    refine wI_mono it (fun xs Γ1 s1 q => ⟨q.1, ?_⟩) q
    refine cLoop_mono ?_ (fun ys Γ' s' => h (.new ys) (backG Γ1 own Γ') s') q.2
    intro x Γ s k k' hk
    exact bindT_mono fun Γ' => wC_mono c fun b Γ2 s2 q => ite_mono (wE_mono e (fun v Γ3 s3 => asD_mono fun d => hk _ _ _)) (hk _ _ _) q
  | xc, .call _ φ es, _, _, _, _, h, q => by
    unfold wE at q ⊢
    exact wA_mono es (fun ds Γ1 s1 q => ⟨q.1, φ.mono (fun v q => h _ _ _ q) (fun _ z => z) q.2⟩) q
  | xc, .cal0 _ φ, _, _, _, _, h, q => by
    unfold wE at q ⊢
    exact φ.mono (fun v q => h _ _ _ q) (fun _ z => z) q
  | xc, .calE _ φ es, _, _, _, _, h, q => by
    unfold wE at q ⊢
    exact wV_mono es (fun ds Γ1 s1 => φ.mono (fun v s2 => h v Γ1 s2) (fun _ _ z => z)) q
  | xc, .bi b es, _, _, _, _, h, q => by
    unfold wE at q ⊢
    exact wA_mono es (fun ds Γ1 s1 => biD_mono fun v => h v Γ1 s1) q
  | xc, .mt m a es, _, _, _, _, h, q => by
    unfold wE at q ⊢
    exact opn_mono (wa := wE xc a) (fun _ _ _ _ => wE_mono a) (fun x Γ1 s1 => lstD_mono fun _ => wA_mono es fun ds Γ2 s2 => mtD_mono fun v => h v Γ2 s2) q
  | xc, .pop i a, _, _, _, _, h, q => by
    unfold wE at q ⊢
    exact popW_mono (fun k k' hk => opn_mono (wa := wE xc a) (fun _ _ _ _ => wE_mono a) hk) h q
  | xc, .d0, _, _, _, _, h, q => by unfold wE at q ⊢; exact h _ _ _ q
  | xc, .d1 k v, _, _, _, _, h, q => by
    unfold wE at q ⊢
    exact opn_mono (wa := wE xc k) (fun _ _ _ _ => wE_mono k) (fun x Γ1 s1 => wE_mono v fun w Γ2 s2 => asD_mono fun d => keyD_mono fun _ => h _ _ _) q
  | xc, .compM own tg it i a, _, _, _, _, h, q => by
    unfold wE at q ⊢
    refine wJ_mono it (fun xs Γ1 s1 q => ⟨q.1, ?_⟩) q
    refine cLoop_mono ?_ (fun ys Γ' s' => h (.new ys) (backG Γ1 own Γ') s') q.2
    intro x Γ s k k' hk
    exact bindT_mono fun Γ' => popW_mono (fun k k' hk => opn_mono (wa := wE xn a) (fun _ _ _ _ => wE_mono a) hk) fun v Γ3 s3 => asD_mono fun d => hk _ _ _
  | xc, .srtS a, _, _, _, _, h, q => by
    unfold wE at q ⊢
    exact opn_mono (wa := wE xc a) (fun _ _ _ _ => wE_mono a) (fun x Γ1 s1 => srtSX_mono fun v => h v Γ1 s1) q
  | xc, .srtL a, _, _, _, _, h, q => by
    unfold wE at q ⊢
    exact opn_mono (wa := wE xc a) (fun _ _ _ _ => wE_mono a) (fun x Γ1 s1 => srtLX_mono fun v => h v Γ1 s1) q
  | xc, .lenS a, _, _, _, _, h, q => by
    unfold wE at q ⊢
    exact opn_mono (wa := wE xc a) (fun _ _ _ _ => wE_mono a) (fun x Γ1 s1 => lenSX_mono fun v => h v Γ1 s1) q
  | xc, .lr es, _, _, _, _, h, q => by
    unfold wE at q ⊢
    exact wA_mono es (fun ds Γ1 s1 => rngD_mono fun xs q => ⟨q.1, h _ _ _ q.2⟩) q
  | xc, .callT _ φ i j k, _, _, _, _, h, q => by
    unfold wE at q ⊢
    exact rdO_mono (fun a => rdO_mono fun b => rdO_mono fun c => φ.mono (fun v q => ⟨q.1, h _ _ _ q.2⟩) fun _ z => z) q
  | xc, .isC i tp ns, _, _, _, _, h, q => by
    unfold wE at q ⊢
    exact isCW_mono (fun b => h _ _ _) q
  | xc, .isnH p a, _, _, _, _, h, q => by
    unfold wE at q ⊢
    exact wE_mono a (fun v Γ1 s1 q => h _ _ _ q) q
  | xc, .met m φ o es, _, _, _, _, h, q => by
    unfold wE at q ⊢
    refine wE_mono o (fun v Γ1 s1 q => ?_) q
    split at q
    · exact ⟨q.1, wV_mono es (fun vs Γ2 s2 => φ.mono (fun w s3 => h _ _ _) fun _ _ z => z) q.2⟩
    · exact q.elim
  | xc, .mk x φ es, _, _, _, _, h, q => by
    unfold wE at q ⊢
    exact wV_mono es (fun vs Γ2 s2 => φ.mono (fun w s3 => h _ _ _) fun _ _ z => z) q
  | xc, .calB x φ is, _, _, _, _, h, q => by
    unfold wE at q ⊢
    obtain ⟨vs, e, q⟩ := q
    exact ⟨vs, e, φ.mono (fun w s3 z => ⟨z.1, h _ _ _ z.2⟩) (fun _ _ z => z) q⟩
  | xc, .lend is e, _, _, _, _, h, q => by
    unfold wE at q ⊢
    exact wE_mono e (fun v Γ1 s1 z => ⟨z.1, z.2.1, h _ _ _ z.2.2⟩) q
  | xc, .mv i, Γ, s, Q, Q', h, q => by
    unfold wE at q ⊢
    split at q <;> first | exact h _ _ _ q | exact q.elim
  | xc, .tT es, _, _, _, _, h, q => by
    unfold wE at q ⊢
    exact wY_mono es (fun ads ds Γ1 s1 z => ⟨z.1, h _ _ _ z.2⟩) q
  | xc, .lT es, _, _, _, _, h, q => by
    unfold wE at q ⊢
    exact wY_mono es (fun ads ds Γ1 s1 z => ⟨z.1, fun b => h _ _ _ (z.2 b)⟩) q
  | xc, .compT own tg it e, _, _, _, _, h, q => by
    unfold wE at q ⊢
    refine wI_mono it (fun xs Γ1 s1 q => ⟨q.1, ?_⟩) q
    refine cLoopT_mono ?_ (fun ads ys Γ' s' z b => h _ (backG Γ1 own Γ') s' (z b)) q.2
    intro x Γ s k k' hk
    exact bindT_mono fun Γ' => wE_mono e fun v Γ3 s3 => owV_mono fun a d => hk _ _ _ _
  | xc, .catT i j, _, _, _, _, h, q => by
    unfold wE at q ⊢
    exact ⟨q.1, catX_mono (fun v b => h _ _ _) q.2⟩
  | xc, .hl es, _, _, _, _, h, q => by
    unfold wE at q ⊢
    refine wV_mono es (fun vs Γ1 s1 z => ?_) q
    obtain ⟨ks, e, e2, z⟩ := z
    exact ⟨ks, e, e2, h _ _ _ z⟩
  | xc, .hix i a, _, _, _, _, h, q => by
    unfold wE at q ⊢
    exact hdsO_mono (fun ks => opn_mono (wa := wE xc a) (fun _ _ _ _ => wE_mono a) (fun y Γ1 s1 => hixX_mono fun v => h _ _ _)) q
  | xc, .mvI i n, _, _, _, _, h, q => by
    unfold wE at q ⊢
    exact treO_mono (fun a d => tupN_mono fun e z ads => h _ _ _ (z ads)) q
  | xc, .dGet i j k, Γ, _, _, _, h, q => by
    unfold wE at q ⊢
    exact odiO_mono (fun b n f => strO_mono fun z => datO_mono fun d => h _ _ _) q
  | xc, .isnS p i, Γ, _, _, _, h, q => by
    unfold wE at q ⊢
    cases e : look Γ i with
    | none => rw [e] at q; exact q.elim
    | some v => rw [e] at q; exact h _ _ _ q
theorem wY_mono : ∀ {xc : Nat → Ctx → S → Prop} (c : Es S) {Γ : Ctx} {s : S} {Q Q' : List Addr → List D → Ctx → S → Prop}, (∀ a v Γ' s', Q a v Γ' s' → Q' a v Γ' s') → wY xc c Γ s Q → wY xc c Γ s Q'
  | xc, .nil, _, _, _, _, h, q => by unfold wY at q ⊢; exact h _ _ _ _ q
  | xc, .cons e r, _, _, _, _, h, q => by
    unfold wY at q ⊢
    exact wE_mono e (fun v Γ1 s1 => owV_mono fun a d => wY_mono r fun b ds => h _ _) q
theorem wA_mono : ∀ {xc : Nat → Ctx → S → Prop} (c : Es S) {Γ : Ctx} {s : S} {Q Q' : List D → Ctx → S → Prop}, (∀ v Γ' s', Q v Γ' s' → Q' v Γ' s') → wA xc c Γ s Q → wA xc c Γ s Q'
  | xc, .nil, _, _, _, _, h, q => by unfold wA at q ⊢; exact h _ _ _ q
  | xc, .cons e r, _, _, _, _, h, q => by
    unfold wA at q ⊢
    exact opn_mono (wa := wE xc e) (fun _ _ _ _ => wE_mono e) (fun d Γ1 s1 => wA_mono r fun ds => h _) q
theorem wX_mono : ∀ {xc : Nat → Ctx → S → Prop} (c : Es S) {Γ : Ctx} {s : S} {Q Q' : List D → Ctx → S → Prop}, (∀ v Γ' s', Q v Γ' s' → Q' v Γ' s') → wX xc c Γ s Q → wX xc c Γ s Q'
  | xc, .nil, _, _, _, _, h, q => by unfold wX at q ⊢; exact h _ _ _ q
  | xc, .cons e r, _, _, _, _, h, q => by
    unfold wX at q ⊢
    exact wE_mono e (fun v Γ1 s1 => asD_mono fun d => wX_mono r fun ds => h _) q
theorem wV_mono : ∀ {xc : Nat → Ctx → S → Prop} (c : Es S) {Γ : Ctx} {s : S} {Q Q' : List Val → Ctx → S → Prop}, (∀ v Γ' s', Q v Γ' s' → Q' v Γ' s') → wV xc c Γ s Q → wV xc c Γ s Q'
  | xc, .nil, _, _, _, _, h, q => by unfold wV at q ⊢; exact h _ _ _ q
  | xc, .cons e r, _, _, _, _, h, q => by
    unfold wV at q ⊢
    refine wE_mono e (fun v Γ1 s1 q => ?_) q
    split at q <;> first | exact wV_mono r (fun vs => h _) q | exact q.elim
theorem wP_mono : ∀ {xc : Nat → Ctx → S → Prop} (c : Es S) {Γ : Ctx} {s : S} {Q Q' : Option Int → Ctx → S → Prop}, (∀ v Γ' s', Q v Γ' s' → Q' v Γ' s') → wP xc c Γ s Q → wP xc c Γ s Q'
  | xc, .nil, _, _, _, _, h, q => by unfold wP at q ⊢; exact h _ _ _ q
  | xc, .cons e _, _, _, _, _, h, q => by
    unfold wP at q ⊢
    exact opn_mono (wa := wE xc e) (fun _ _ _ _ => wE_mono e) (fun x Γ1 s1 => intX_mono fun i => h _ Γ1 s1) q
theorem wC_mono : ∀ {xc : Nat → Ctx → S → Prop} (c : Es S) {Γ : Ctx} {s : S} {Q Q' : Bool → Ctx → S → Prop}, (∀ v Γ' s', Q v Γ' s' → Q' v Γ' s') → wC xc c Γ s Q → wC xc c Γ s Q'
  | xc, .nil, _, _, _, _, h, q => by unfold wC at q ⊢; exact h _ _ _ q
  | xc, .cons e _, _, _, _, _, h, q => by
    unfold wC at q ⊢
    exact opn_mono (wa := wE xc e) (fun _ _ _ _ => wE_mono e) (fun x Γ1 s1 => boolD_mono fun b => h _ _ _) q
theorem wI_mono : ∀ {xc : Nat → Ctx → S → Prop} (c : It S) {Γ : Ctx} {s : S} {Q Q' : List D → Ctx → S → Prop}, (∀ v Γ' s', Q v Γ' s' → Q' v Γ' s') → wI xc c Γ s Q → wI xc c Γ s Q'
  | xc, .seq e, _, _, _, _, h, q => by
    unfold wI at q ⊢
    exact opn_mono (wa := wE xc e) (fun _ _ _ _ => wE_mono e) (fun x Γ1 s1 => seqD_mono fun xs => h _ Γ1 s1) q
  | xc, .rng es, _, _, _, _, h, q => by
    unfold wI at q ⊢
    exact wA_mono es (fun ds Γ1 s1 => rngD_mono fun xs => h _ _ _) q
  | xc, .enu e, _, _, _, _, h, q => by
    unfold wI at q ⊢
    exact opn_mono (wa := wE xc e) (fun _ _ _ _ => wE_mono e) (fun x Γ1 s1 => lstD_mono fun xs => h _ Γ1 s1) q
  | xc, .zip a b, _, _, _, _, h, q => by
    unfold wI at q ⊢
    exact opn_mono (wa := wE xc a) (fun _ _ _ _ => wE_mono a) (fun x Γ1 s1 => opn_mono (wa := wE xc b) (fun _ _ _ _ => wE_mono b) fun y Γ2 s2 => lstD_mono fun xs => lstD_mono fun ys => h _ Γ2 s2) q
theorem wJ_mono : ∀ {xc : Nat → Ctx → S → Prop} (c : It S) {Γ : Ctx} {s : S} {Q Q' : List D → Ctx → S → Prop}, (∀ v Γ' s', Q v Γ' s' → Q' v Γ' s') → wJ xc c Γ s Q → wJ xc c Γ s Q'
  | xc, .seq e, _, _, _, _, h, q => by
    unfold wJ at q ⊢
    exact wE_mono e (fun v Γ1 s1 => asD_mono fun d => seqD_mono fun xs => h _ Γ1 s1) q
  | xc, .rng es, _, _, _, _, h, q => by
    unfold wJ at q ⊢
    exact wA_mono es (fun ds Γ1 s1 => rngD_mono fun xs => h _ _ _) q
  | xc, .enu e, _, _, _, _, h, q => by
    unfold wJ at q ⊢
    exact wE_mono e (fun v Γ1 s1 => asD_mono fun d => lstD_mono fun xs => h _ Γ1 s1) q
  | xc, .zip a b, _, _, _, _, h, q => by
    unfold wJ at q ⊢
    exact wE_mono a (fun v Γ1 s1 => asD_mono fun x => wE_mono b fun w Γ2 s2 => asD_mono fun y => lstD_mono fun xs => lstD_mono fun ys => h _ Γ2 s2) q
end
theorem opnE_mono {xc : Nat → Ctx → S → Prop} (c : E S) {Γ : Ctx} {s : S} {Q Q' : D → Ctx → S → Prop} (h : ∀ v Γ' s', Q v Γ' s' → Q' v Γ' s') (q : opn c (wE xc c) Γ s Q) : opn c (wE xc c) Γ s Q' := opn_mono (wa := wE xc c) (fun _ _ _ _ => wE_mono c) h q
end
end Ac
namespace Ac
open PySem PySem.Spec PyProof.Rows L2
variable {rm : RM} {fx : Fx rm} {σ : L2.St} {H F : Hp} {Γ : Ctx} {s : rm.S} {A : rm.A} {X : Cx}

theorem big_sz {n : Nat} (h : n ≤ big) : n ≤ sizeLine := Nat.le_trans h (by unfold big; decide)
theorem big_lt {n : Nat} (h : n < big) : n < sizeLine := Nat.lt_of_lt_of_le h (by unfold big; decide)
/-- what an operation on values may give -/
def KQ (fx : Fx rm) (σ : L2.St) (H F : Hp) (A : rm.A) (Γ : Ctx) (s : rm.S) (Q : VK) : Val → Prop := fun v => ∀ z H' F', SR fx σ H' Γ s F' A → HX H A H' A → Sub F F' → RV fx σ H' F' A Γ z v → Q z H'
theorem KQ.dat {Q : VK} (R : SR fx σ H Γ s F A) {z : V} {d : D} (h : Rp F z d) (k : KQ fx σ H F A Γ s Q (.dat d)) : Q z H := k z H F R (HX.refl H A) (Sub.refl F) h
/-- a new list -/
theorem KQ.mk {Q : VK} (R : SR fx σ H Γ s F A) {p : Addr} (hp : H p = none) {vs : List V} {ds : List D} (h : RpL F vs ds) (k : KQ fx σ H F A Γ s Q (.new ds)) : Q (.ref p) (upd H p (.lst vs)) :=
  k _ _ F (R.alloc hp) (R.hx hp) (Sub.refl F) ⟨p, vs, rfl, upd_same, R.nF hp, R.nft hp, R.nL hp, h, R.noOwn hp⟩
theorem KQ.mkT {Q : VK} (R : SR fx σ H Γ s F A) {p : Addr} (hp : H p = none) {vs : List V} {ds : List D} (h : RpL F vs ds) (k : KQ fx σ H F A Γ s Q (.dat (.tuple ds))) : Q (.ref p) (upd H p (.tup vs)) :=
  k _ _ (upd F p (.tup vs)) (R.lay hp) (R.hx hp) (upd_sub (R.nF hp)) (.tup upd_same (h.mono (upd_sub (R.nF hp))))
/-- a rule for a two-place operation, over data -/
def Op2 (X : Cx) (f : Value → Value → Sem Value) (g : D → D → (Val → Prop) → Prop) : Prop :=
  ∃ r : R2, OpR X f r ∧ ∀ (rm : RM) (fx : Fx rm) (σ : L2.St) (H : Hp) (Γ : Ctx) (s : rm.S) (F : Hp) (A : rm.A) (x y : V) (d e : D) (Q : VK), SR fx σ H Γ s F A → Ro H F A x d → Ro H F A y e → g d e (KQ fx σ H F A Γ s Q) → r x y H Q
theorem flat_int {x : V} {i : Int} (h : Ro H F A x (.int i)) : x = .int i := by
  have := h.flat (fun ds e => nomatch e)
  cases this
  rfl
theorem flat_bool {x : V} {b : Bool} (h : Ro H F A x (.bool b)) : x = .bl b := by
  have := h.flat (fun ds e => nomatch e)
  cases this
  rfl
theorem flat_str {x : V} {b : Str} (h : Ro H F A x (.str b)) : x = .str b := by
  have := h.flat (fun ds e => nomatch e)
  cases this
  rfl
theorem flat_none {x : V} (h : Ro H F A x .none) : x = .non := by
  have := h.flat (fun ds e => nomatch e)
  cases this
  rfl
theorem Ro.tup {x : V} {ds : List D} (h : Ro H F A x (.tuple ds)) : ∃ a vs, x = V.ref a ∧ F a = some (.tup vs) ∧ RpL F vs ds := by
  have := h.flat (fun ds e => nomatch e)
  cases this with
  | tup h1 r => exact ⟨_, _, rfl, h1, r⟩
/-- two lists, one behind the other -/
def rCatR : R2 := fun x y H Q => ∃ l b xs zs, x = .ref l ∧ y = .ref b ∧ Rd H l (.lst xs) ∧ Rd H b (.lst zs) ∧ xs.length + zs.length ≤ sizeLine ∧ ∀ p, H p = none → Q (.ref p) (upd H p (.lst (xs ++ zs)))
theorem op_catR : OpR X (binaryOp .Add) rCatR := by
  intro pins s σ H x y v u Q I rx ry h
  obtain ⟨l, b, xs, zs, rfl, rfl, hH, hB, hz, q⟩ := h
  cases rx
  cases ry
  obtain ⟨z, its, n, r, e⟩ := hH.ok I.hok
  obtain ⟨z2, its2, n2, r2, e2⟩ := hB.ok I.hok
  refine PySem.P.add_list e e2 ?_ (by rw [List.size_toArray, List.size_toArray, ← r.length, ← r2.length]; omega)
  have ea : its.toArray ++ its2.toArray = (its ++ its2).toArray := by simp
  rw [ea]
  exact ⟨.ref _, _, I.lnew (t' := s.toks) (r.append r2) (by rw [List.length_append]; omega), rfl, q _ I.fresh⟩
theorem op2_add : Op2 X (binaryOp .Add) addD := by
  refine ⟨_, op_add.or (op_catR.or (op_add_str.or op_catT)), ?_⟩
  intro rm fx σ H Γ s F A x y d e Q R hx hy h
  unfold addD at h
  split at h
  · rename_i i j
    exact .inl ⟨i, j, flat_int hx, flat_int hy, KQ.dat R (.int _) h⟩
  · rename_i xs ys
    obtain ⟨a, vs, e1, h1, r1⟩ := hx.lst R.fh
    obtain ⟨b, ws, e2, h2, r2⟩ := hy.lst R.fh
    exact .inr (.inl ⟨a, b, vs, ws, e1, e2, h1, h2, by rw [r1.length, r2.length]; exact big_sz h.1, fun p hp => KQ.mk R hp (r1.append r2) h.2⟩)
  · rename_i i j
    exact .inr (.inr (.inl ⟨i, j, flat_str hx, flat_str hy, big_sz h.1, KQ.dat R (.str _) h.2⟩))
  · rename_i xs ys
    obtain ⟨a, vs, e1, h1, r1⟩ := hx.tup
    obtain ⟨b, ws, e2, h2, r2⟩ := hy.tup
    obtain ⟨⟨n1, n2, hb⟩, h⟩ := h
    refine .inr (.inr (.inr ⟨a, b, vs, ws, e1, e2, .inl (.inl (R.fh _ _ h1)), .inl (.inl (R.fh _ _ h2)), ?_, by rw [r1.length, r2.length]; exact big_sz hb, fun e => ?_, fun _ p hp => KQ.mkT R hp (r1.append r2) h⟩))
    · rintro rfl
      cases r1
      exact n1 rfl
    · subst e
      cases r2
      exact (n2 rfl).elim
  · exact h.elim
theorem op2_sub : Op2 X (binaryOp .Sub) subD := by
  refine ⟨_, op_sub, ?_⟩
  intro rm fx σ H Γ s F A x y d e Q R hx hy h
  unfold subD at h
  split at h
  · exact ⟨_, _, flat_int hx, flat_int hy, KQ.dat R (.int _) h⟩
  · exact h.elim
theorem op2_int {f : Value → Value → Sem Value} {C C' : Int → Int → Prop} {g : Int → Int → Int} (hc : ∀ i j, C i j → C' i j) (ho : OpR X f (rI C' fun i j => .int (g i j))) : Op2 X f (intD C g) := by
  refine ⟨_, ho, ?_⟩
  intro rm fx σ H Γ s F A x y d e Q R hx hy h
  unfold intD at h
  split at h
  · exact ⟨_, _, flat_int hx, flat_int hy, hc _ _ h.1, KQ.dat R (.int _) h.2⟩
  · exact h.elim
theorem op2_no {f : Value → Value → Sem Value} : Op2 X f noD := ⟨fun _ _ _ _ => False, fun _ _ _ _ _ _ _ _ _ _ _ _ h => h.elim, fun _ _ _ _ _ _ _ _ _ _ _ _ _ _ _ _ h => h⟩
theorem op2_bin : ∀ o : Operator, Op2 X (binaryOp o) (opD o)
  | .Add => op2_add
  | .Sub => op2_sub
  | .Mult => op2_int (fun _ _ h => h) op_mul
  | .Mod => op2_int (fun _ _ h => h) op_mod
  | .FloorDiv => op2_int (fun _ _ h => h) op_fdiv
  | .Pow => op2_int (fun _ _ h => ⟨h.1, Int.le_trans h.2.1 (by decide), h.2.2⟩) op_pow
  | .MatMult => op2_no
  | .Div => op2_no
  | .LShift => op2_no
  | .RShift => op2_no
  | .BitOr => op2_no
  | .BitXor => op2_no
  | .BitAnd => op2_no

/-! ### comparisons -/
mutual
theorem Rp.dp {K : PySem.W.Frag} (fh : Sub F H) : ∀ {x : V} {d : D}, Rp F x d → d.canLay0 = true → Dp K H x d
  | _, _, .non, _ => .non
  | _, _, .bl b, _ => .bl b
  | _, _, .int i, _ => .int i
  | _, _, .str x, _ => .str x
  | _, _, .lst h r, c => .lst (.inl (fh.rd h)) (RpL.dp fh r (by simpa only [PyData.canLay0] using c))
  | _, _, .tup h r, c => .tup (.inl (.inl (fh _ _ h))) (RpL.dp fh r (by simpa only [PyData.canLay0] using c))
  | _, _, .dic _ _, c => by simp [PyData.canLay0] at c
theorem RpL.dp {K : PySem.W.Frag} (fh : Sub F H) : ∀ {x : List V} {d : List D}, RpL F x d → PyData.canLayAll0 d = true → DpAll K H x d
  | _, _, .nil, _ => .nil
  | _, _, .cons h r, c => by
    simp only [PyData.canLayAll0, Bool.and_eq_true] at c
    exact .cons (Rp.dp fh h c.1) (RpL.dp fh r c.2)
end
theorem Ro.dp {K : PySem.W.Frag} (fh : Sub F H) {x : V} {d : D} (h : Ro H F A x d) (c : SeqAt.shaped d = true) : Dp K H x d := by
  have c0 := SeqAt.canLay_of_shaped c
  rcases h with h | ⟨a, vs, ds, rfl, rfl, e3, _, e5⟩
  · exact h.dp fh c0
  · exact .lst (.inl (.inl e3)) (e5.dp fh (by simpa only [PyData.canLay0] using c0))
/-- a list that holds something, and [] -/
def rEqN (neg : Bool) : R2 := fun x y H Q => ∃ l b v vs, x = .ref l ∧ y = .ref b ∧ Rd H l (.lst (v :: vs)) ∧ Rd H b (.lst []) ∧ Q (.bl neg) H
theorem Rd.isList {pins : List (Addr × Obj)} {s : Shared} {a : Addr} {vs : List V} (I : Inv X pins σ H s) (h : Rd H a (.lst vs)) : ∃ its : List Value, Vals vs its ∧ s.heap.IsList a its.toArray := by
  obtain ⟨z, its, n, r, e⟩ := h.ok I.hok
  exact ⟨its, r, _, e, rfl, _, rfl⟩
theorem op_eqN (hu : X.A.units < cLine) : OpR X (compareOp .Eq) (rEqN false) := by
  intro pins s σ H x y v u Q I rx ry h
  obtain ⟨l, b, v, vs, rfl, rfl, h1, h2, q⟩ := h
  cases rx
  cases ry
  obtain ⟨its, r1, l1⟩ := Rd.isList I h1
  obtain ⟨its2, r2, l2⟩ := Rd.isList I h2
  refine SeqAt.eq_list_lengthsAt l1 l2 ?_ hu ⟨.bl false, H, I, rfl, q⟩
  have e1 := r1.length
  have e2 := r2.length
  rw [List.size_toArray, List.size_toArray, ← e1, ← e2]
  rfl
theorem op_neN (hu : X.A.units < cLine) : OpR X (compareOp .NotEq) (rEqN true) := by
  intro pins s σ H x y v u Q I rx ry h
  obtain ⟨l, b, v, vs, rfl, rfl, h1, h2, q⟩ := h
  cases rx
  cases ry
  obtain ⟨its, r1, l1⟩ := Rd.isList I h1
  obtain ⟨its2, r2, l2⟩ := Rd.isList I h2
  have e1 := r1.length
  have e2 := r2.length
  exact SeqAt.RcNeAt.lists_lengths l1 l2 (by rw [List.size_toArray, List.size_toArray, ← e1, ← e2]; rfl) hu X.prog X.w X.xe _ ⟨.bl true, H, I, rfl, q⟩
theorem eqv_int (i j : Int) : PyData.eqv (.int i) (.int j) = decide (i = j) := by
  unfold PyData.eqv
  exact (Bool.beq_eq_decide_eq i j)
theorem eqv_bool (i j : Bool) : PyData.eqv (.bool i) (.bool j) = decide (i = j) := by
  unfold PyData.eqv
  cases i <;> cases j <;> rfl
theorem shaped_int (i : Int) : SeqAt.shaped (.int i) = true := rfl
theorem shaped_bool (i : Bool) : SeqAt.shaped (.bool i) = true := rfl
/-- == by data: the test of a chain of rules -/
theorem op2_eqs {op : CmpOp} {neg : Bool} (h1 : OpR X (compareOp op) (fun x y H Q => ∃ d e, Dp X.K H x d ∧ Dp X.K H y e ∧ SeqAt.shaped d = true ∧ SeqAt.shaped e = true ∧ Q (.bl (if neg then !PyData.eqv d e else PyData.eqv d e)) H))
    (h2 : OpR X (compareOp op) (fun x y H Q => L2.scal x y = true ∧ Q (.bl (if neg then !decide (x = y) else decide (x = y))) H)) (h3 : OpR X (compareOp op) (rEqN neg)) :
    Op2 X (compareOp op) (fun x y k => eqD x y fun b => k (.dat (.bool (if neg then !b else b)))) := by
  refine ⟨_, h1.or (h2.or h3), ?_⟩
  intro rm fx σ H Γ s F A x y d e Q R hx hy h
  unfold eqD at h
  split at h
  · rename_i i j
    refine .inl ⟨_, _, hx.dp R.fh (shaped_int i), hy.dp R.fh (shaped_int j), shaped_int i, shaped_int j, ?_⟩
    rw [eqv_int]
    exact KQ.dat R (.bl _) h
  · rename_i i j
    refine .inl ⟨_, _, hx.dp R.fh (shaped_bool i), hy.dp R.fh (shaped_bool j), shaped_bool i, shaped_bool j, ?_⟩
    rw [eqv_bool]
    exact KQ.dat R (.bl _) h
  · rename_i i j
    rw [flat_str hx, flat_str hy]
    refine .inr (.inl ⟨rfl, ?_⟩)
    have e : decide (V.str i = V.str j) = decide (i = j) := by
      by_cases z : i = j
      · subst z; simp
      · rw [decide_eq_false z, decide_eq_false (fun q => z (V.str.inj q))]
    rw [e]
    exact KQ.dat R (.bl _) h
  · exact .inl ⟨_, _, hx.dp R.fh rfl, hy.dp R.fh rfl, rfl, rfl, KQ.dat R (.bl _) h⟩
  · exact .inl ⟨_, _, hx.dp R.fh rfl, hy.dp R.fh rfl, rfl, rfl, KQ.dat R (.bl _) h⟩
  · obtain ⟨a, vs, e1, q1, r1⟩ := hx.lst R.fh
    obtain ⟨b, ws, e2, q2, r2⟩ := hy.lst R.fh
    cases r2
    cases r1 with
    | cons r r' =>
      refine .inr (.inr ⟨a, b, _, _, e1, e2, q1, q2, ?_⟩)
      have : neg = (if neg = true then !false else false) := by cases neg <;> rfl
      rw [this]
      exact KQ.dat R (.bl _) h
  · exact .inl ⟨_, _, hx.dp R.fh h.1, hy.dp R.fh h.2.1, h.1, h.2.1, KQ.dat R (.bl _) h.2.2⟩
theorem op2_eq (hu : X.A.units + 64 < cLine) : Op2 X (compareOp .Eq) (cmpD .Eq) := op2_eqs (neg := false) (op_eqD hu) op_eq (op_eqN (by omega))
theorem op2_ne (hu : X.A.units + 64 < cLine) : Op2 X (compareOp .NotEq) (cmpD .NotEq) := op2_eqs (neg := true) (op_neD hu) op_ne (op_neN (by omega))
theorem op2_rel {f : Value → Value → Sem Value} {g : Int → Int → Bool} (ho : OpR X f (rI0 fun i j => .bl (g i j))) : Op2 X f (relD g) := by
  refine ⟨_, ho, ?_⟩
  intro rm fx σ H Γ s F A x y d e Q R hx hy h
  unfold relD at h
  split at h
  · exact ⟨_, _, flat_int hx, flat_int hy, KQ.dat R (.bl _) h⟩
  · exact h.elim
theorem Rp.flat {x : V} {d : D} (h : Rp F x d) (f : flatD d = true) : flatV x = true := by
  cases h <;> first | rfl | cases f
theorem RpL.flat : ∀ {xs : List V} {ds : List D}, RpL F xs ds → ds.all flatD = true → xs.all flatV = true
  | _, _, .nil, _ => rfl
  | _, _, .cons h r, f => by
    rw [List.all_cons, Bool.and_eq_true] at f ⊢
    exact ⟨h.flat f.1, r.flat f.2⟩
theorem eqV_eqv {x y : V} {d e : D} (hx : Rp F x d) (hy : Rp F y e) (fd : flatD d = true) (fe : flatD e = true) : eqV x y = PyData.eqv d e := by
  cases hx <;> first | cases fd | skip
  all_goals (cases hy <;> first | cases fe | skip)
  all_goals (unfold PyData.eqv; rfl)
theorem inV_inD {x : V} {d : D} (hx : Rp F x d) (fd : flatD d = true) : ∀ {xs : List V} {ds : List D}, RpL F xs ds → ds.all flatD = true → inV x xs = inD d ds
  | _, _, .nil, _ => rfl
  | _, _, .cons h r, f => by
    rw [List.all_cons, Bool.and_eq_true] at f
    have ih := inV_inD hx fd r f.2
    unfold inV at ih ⊢
    unfold inD at ih ⊢
    rw [List.any_cons, List.any_cons, ih, eqV_eqv h hx f.1 fd]
/-- x in (..), at any depth -/
def rInT (K : PySem.W.Frag) : R2 := fun x y H Q => ∃ d ds, Dp K H x d ∧ Dp K H y (.tuple ds) ∧ SeqAt.shaped d = true ∧ SeqAt.shaped (.tuple ds) = true ∧ Q (.bl (inD d ds)) H
theorem op_inT (hu : X.A.units + 65 < cLine) : OpR X (compareOp .In) (rInT X.K) := by
  intro pins s σ H x y v u Q I rx ry h
  obtain ⟨d, ds, hd, he, sd, se, q⟩ := h
  obtain ⟨as, r1⟩ := Dp.reads I d x v hd rx
  obtain ⟨bs, r2⟩ := Dp.reads I (.tuple ds) y u he ry
  exact SeqAt.in_tuple_reads r2 r1 (by simpa only [PyData.canLay0] using SeqAt.canLay_of_shaped se) (SeqAt.canLay_of_shaped sd) (room_in_shaped sd hu) ⟨.bl _, H, I, rfl, q⟩
/-- x in [..], at any depth -/
def rInL (K : PySem.W.Frag) (neg : Bool) : R2 := fun x y H Q => ∃ d ds, Dp K H x d ∧ Dp K H y (.list ds) ∧ SeqAt.shaped d = true ∧ SeqAt.shaped (.list ds) = true ∧ Q (.bl (if neg then !inD d ds else inD d ds)) H
theorem op_inL (hu : X.A.units + 65 < cLine) {neg : Bool} : OpR X (compareOp (if neg then .NotIn else .In)) (rInL X.K neg) := by
  cases neg with
  | false => exact fun pins s σ H x y v u Q I rx ry h => op_inD hu pins s σ H x y v u Q I rx ry h
  | true => exact fun pins s σ H x y v u Q I rx ry h => op_notInD hu pins s σ H x y v u Q I rx ry h
/-- a sign in a text -/
def rInS (neg : Bool) : R2 := fun x y H Q => ∃ (c : Nat) (z : Str), x = .str ⟨#[c]⟩ ∧ y = .str z ∧ Q (.bl (if neg then !decide (c ∈ z.cps.toList) else decide (c ∈ z.cps.toList))) H
theorem op2_mem {op : CmpOp} {neg : Bool} (ho : OpR X (compareOp op) (rIn X.K neg)) (hd : neg = false → OpR X (compareOp op) (rInT X.K)) (hl : OpR X (compareOp op) (rInL X.K neg)) (hz : OpR X (compareOp op) (rInS neg)) : Op2 X (compareOp op) (memD neg) := by
  refine ⟨fun x y H Q => rIn X.K neg x y H Q ∨ (neg = false ∧ rInT X.K x y H Q) ∨ rInL X.K neg x y H Q ∨ rInS neg x y H Q, ?_, ?_⟩
  · intro pins s σ H x y v u Q I rx ry h
    rcases h with h | ⟨z, h⟩ | h | h
    · exact ho pins s σ H x y v u Q I rx ry h
    · exact hd z pins s σ H x y v u Q I rx ry h
    · exact hl pins s σ H x y v u Q I rx ry h
    · exact hz pins s σ H x y v u Q I rx ry h
  intro rm fx σ H Γ s F A x y d e Q R hx hy h
  unfold memD at h
  split at h
  · rcases h with ⟨f1, f2, q⟩ | ⟨s1, s2, q⟩
    · obtain ⟨a, vs, e1, q1, r1⟩ := hy.lst R.fh
      have hx' := hx.flat (fun ds z => by rw [z] at f1; cases f1)
      refine .inl ⟨a, vs, e1, .inl (.inl q1), hx'.flat f1, r1.flat f2, ?_⟩
      rw [inV_inD hx' f1 r1 f2]
      exact KQ.dat R (.bl _) q
    · exact .inr (.inr (.inl ⟨_, _, hx.dp R.fh s1, hy.dp R.fh s2, s1, s2, KQ.dat R (.bl _) q⟩))
  · rcases h with ⟨f1, f2, q⟩ | ⟨z, s1, s2, q⟩
    · obtain ⟨a, vs, e1, q1, r1⟩ := hy.tup
      have hx' := hx.flat (fun ds z => by rw [z] at f1; cases f1)
      refine .inl ⟨a, vs, e1, .inr (.inl (.inl (R.fh _ _ q1))), hx'.flat f1, r1.flat f2, ?_⟩
      rw [inV_inD hx' f1 r1 f2]
      exact KQ.dat R (.bl _) q
    · exact .inr (.inl ⟨z, _, _, hx.dp R.fh s1, hy.dp R.fh s2, s1, s2, KQ.dat R (.bl _) q⟩)
  · obtain ⟨c, rfl, q⟩ := h
    exact .inr (.inr (.inr ⟨c, _, flat_str hx, flat_str hy, KQ.dat R (.bl _) q⟩))
  · exact h.elim
theorem op2_cmp (hu : X.A.units + 65 < cLine) : ∀ o : CmpOp, Op2 X (compareOp o) (cmpD o)
  | .Eq => op2_eq (by omega)
  | .NotEq => op2_ne (by omega)
  | .Lt => op2_rel op_lt
  | .LtE => op2_rel op_le
  | .Gt => op2_rel op_gt
  | .GtE => op2_rel op_ge
  | .In => op2_mem op_in_seq (fun _ => op_inT hu) (op_inL (neg := false) hu) op_in_sign
  | .NotIn => op2_mem op_notIn_seq (fun z => nomatch z) (op_inL (neg := true) hu) op_notIn_sign
  | .Is => op2_no
  | .IsNot => op2_no

/-! ### built-in functions -/
abbrev RoL (H F : Hp) (A : rm.A) : List V → List D → Prop := Paired (Ro H F A)
def CallS (X : Cx) (f : Value) (g : List D → (Val → Prop) → Prop) : Prop :=
  ∃ r : List V → Hp → VK → Prop, CallR X f r ∧ ∀ (rm : RM) (fx : Fx rm) (σ : L2.St) (H : Hp) (Γ : Ctx) (s : rm.S) (F : Hp) (A : rm.A) (xs : List V) (ds : List D) (Q : VK), SR fx σ H Γ s F A → RoL H F A xs ds → g ds (KQ fx σ H F A Γ s Q) → r xs H Q
theorem RoL.one {xs : List V} {d : D} (h : RoL H F A xs [d]) : ∃ x, xs = [x] ∧ Ro H F A x d := by
  cases h with
  | cons a b => cases b; exact ⟨_, rfl, a⟩
theorem RoL.two {xs : List V} {d e : D} (h : RoL H F A xs [d, e]) : ∃ x y, xs = [x, y] ∧ Ro H F A x d ∧ Ro H F A y e := by
  cases h with
  | cons a b =>
    cases b with
    | cons b c => cases c; exact ⟨_, _, rfl, a, b⟩
theorem CallR.or {f : Value} {r r' : List V → Hp → VK → Prop} (h : CallR X f r) (h' : CallR X f r') : CallR X f (fun x H Q => r x H Q ∨ r' x H Q) := by
  intro pins s σ H xs us Q I rx q
  rcases q with q | q
  · exact h pins s σ H xs us Q I rx q
  · exact h' pins s σ H xs us Q I rx q
theorem cs_len : CallS X (.builtin "len") lenD := by
  refine ⟨_, CallR.or call_len_seq call_len, ?_⟩
  intro rm fx σ H Γ s F A xs ds Q R hxs h
  unfold lenD at h
  split at h
  · obtain ⟨x, rfl, hx⟩ := hxs.one
    obtain ⟨a, vs, e1, q1, r1⟩ := hx.lst R.fh
    exact .inl ⟨a, vs, by rw [e1], .inl (.inl q1), by rw [r1.length]; exact KQ.dat R (.int _) h⟩
  · obtain ⟨x, rfl, hx⟩ := hxs.one
    obtain ⟨a, vs, e1, q1, r1⟩ := hx.tup
    exact .inl ⟨a, vs, by rw [e1], .inr (.inl (.inl (R.fh _ _ q1))), by rw [r1.length]; exact KQ.dat R (.int _) h⟩
  · obtain ⟨x, rfl, hx⟩ := hxs.one
    rw [flat_str hx]
    exact .inr ⟨_, _, rfl, ⟨big_sz h.1, rfl⟩, KQ.dat R (.int _) h.2⟩
  · exact h.elim
theorem cs_int2 {n : String} {f : Int → Int → Int} (hc : CallR X (.builtin n) (fun xs H Q => ∃ i j, xs = [.int i, .int j] ∧ Q (.int (f i j)) H)) : CallS X (.builtin n) (int2D f) := by
  refine ⟨_, hc, ?_⟩
  intro rm fx σ H Γ s F A xs ds Q R hxs h
  unfold int2D at h
  split at h
  · obtain ⟨x, y, rfl, hx, hy⟩ := hxs.two
    rw [flat_int hx, flat_int hy]
    exact ⟨_, _, rfl, KQ.dat R (.int _) h⟩
  · exact h.elim
theorem Ro.ints {x : V} {ds : List D} {ns : List Int} (fh : Sub F H) (h : Ro H F A x (.list ds)) (e : intsD ds = some ns) : ∃ a, x = V.ref a ∧ Rd H a (.lst (ns.map V.int)) := by
  obtain ⟨a, vs, e1, q1, r1⟩ := h.lst fh
  rw [intsD_eq e] at r1
  rw [r1.of_ints] at q1
  exact ⟨a, e1, q1⟩
theorem cs_minL (hc : X.calm = true) : CallS X (.builtin "min") minLD := by
  refine ⟨_, cr_min hc, ?_⟩
  intro rm fx σ H Γ s F A xs ds Q R hxs h
  unfold minLD at h
  split at h
  · obtain ⟨x, rfl, hx⟩ := hxs.one
    obtain ⟨ns, e, hl, q⟩ := h
    obtain ⟨a, e1, q1⟩ := hx.ints R.fh e
    exact ⟨a, ns, by rw [e1], .inl q1, hl, fun m h1 h2 => KQ.dat R (.int _) (q m h1 h2)⟩
  · exact h.elim
theorem cs_maxL (hc : X.calm = true) : CallS X (.builtin "max") maxLD := by
  refine ⟨_, cr_max hc, ?_⟩
  intro rm fx σ H Γ s F A xs ds Q R hxs h
  unfold maxLD at h
  split at h
  · obtain ⟨x, rfl, hx⟩ := hxs.one
    obtain ⟨ns, e, hl, q⟩ := h
    obtain ⟨a, e1, q1⟩ := hx.ints R.fh e
    exact ⟨a, ns, by rw [e1], .inl q1, hl, fun m h1 h2 => KQ.dat R (.int _) (q m h1 h2)⟩
  · exact h.elim
theorem cs_sum (hc : X.calm = true) : CallS X (.builtin "sum") sumD := by
  refine ⟨_, cr_sum hc, ?_⟩
  intro rm fx σ H Γ s F A xs ds Q R hxs h
  unfold sumD at h
  split at h
  · obtain ⟨x, rfl, hx⟩ := hxs.one
    obtain ⟨ns, e, q⟩ := h
    obtain ⟨a, e1, q1⟩ := hx.ints R.fh e
    exact ⟨a, ns, by rw [e1], .inl q1, KQ.dat R (.int _) q⟩
  · exact h.elim
theorem cs_sorted : CallS X (.builtin "sorted") sortedD := by
  refine ⟨_, cr_sortedI, ?_⟩
  intro rm fx σ H Γ s F A xs ds Q R hxs h
  unfold sortedD at h
  split at h
  · obtain ⟨x, rfl, hx⟩ := hxs.one
    obtain ⟨ns, e, q⟩ := h
    obtain ⟨a, e1, q1⟩ := hx.ints R.fh e
    exact ⟨a, ns, by rw [e1], .inl q1, fun ns' p h1 h2 hp => KQ.mk R hp (RpL.ints ns') (q ns' h1 h2)⟩
  · exact h.elim
theorem cs_list : CallS X (.type "list") listD := by
  refine ⟨_, call_list_of, ?_⟩
  intro rm fx σ H Γ s F A xs ds Q R hxs h
  unfold listD at h
  split at h
  · obtain ⟨x, rfl, hx⟩ := hxs.one
    obtain ⟨a, vs, e1, q1, r1⟩ := hx.lst R.fh
    exact ⟨a, vs, by rw [e1], .inl (.inl q1), fun p hp => KQ.mk R hp r1 h⟩
  · obtain ⟨x, rfl, hx⟩ := hxs.one
    obtain ⟨a, vs, e1, q1, r1⟩ := hx.tup
    exact ⟨a, vs, by rw [e1], .inr (.inl (.inl (R.fh _ _ q1))), fun p hp => KQ.mk R hp r1 h⟩
  · exact h.elim
theorem cs_tuple : CallS X (.type "tuple") tupleD := by
  refine ⟨_, call_tuple_of, ?_⟩
  intro rm fx σ H Γ s F A xs ds Q R hxs h
  unfold tupleD at h
  split at h
  · obtain ⟨x, rfl, hx⟩ := hxs.one
    obtain ⟨a, vs, e1, q1, r1⟩ := hx.lst R.fh
    exact ⟨a, vs, by rw [e1], .inl ⟨.inl q1, fun p hp => KQ.mkT R hp r1 h⟩⟩
  · obtain ⟨x, rfl, hx⟩ := hxs.one
    obtain ⟨a, vs, e1, q1, r1⟩ := hx.tup
    subst e1
    exact ⟨a, vs, rfl, .inr ⟨.inl (.inl (R.fh _ _ q1)), KQ.dat R (.tup q1 r1) h⟩⟩
  · exact h.elim
theorem cs_abs : CallS X (.builtin "abs") absD := by
  refine ⟨_, call_abs, ?_⟩
  intro rm fx σ H Γ s F A xs ds Q R hxs h
  unfold absD at h
  split at h
  · obtain ⟨x, rfl, hx⟩ := hxs.one
    rw [flat_int hx]
    exact ⟨_, rfl, KQ.dat R (.int _) h⟩
  · exact h.elim
theorem cs_toInt : CallS X (.type "int") toIntD := by
  refine ⟨_, call_int1.or call_int_str, ?_⟩
  intro rm fx σ H Γ s F A xs ds Q R hxs h
  unfold toIntD at h
  split at h
  · obtain ⟨x, rfl, hx⟩ := hxs.one
    rw [flat_int hx]
    exact .inl (.inl ⟨_, rfl, KQ.dat R (.int _) h⟩)
  · obtain ⟨x, rfl, hx⟩ := hxs.one
    rw [flat_bool hx]
    exact .inl (.inr ⟨_, rfl, KQ.dat R (.int _) h⟩)
  · obtain ⟨x, rfl, hx⟩ := hxs.one
    rw [flat_str hx]
    obtain ⟨n, e1, e2, q⟩ := h
    exact .inr ⟨_, n, rfl, e1, e2, KQ.dat R (.int _) q⟩
  · exact h.elim
theorem cs_toStr : CallS X (.type "str") toStrD := by
  refine ⟨_, call_str_int, ?_⟩
  intro rm fx σ H Γ s F A xs ds Q R hxs h
  unfold toStrD at h
  split at h
  · obtain ⟨x, rfl, hx⟩ := hxs.one
    rw [flat_int hx]
    exact ⟨_, rfl, h.1, KQ.dat R (.str _) h.2⟩
  · exact h.elim
/-! isinstance: the type of data -/
def tyN : D → String
  | .none => "NoneType"
  | .bool _ => "bool"
  | .int _ => "int"
  | .str _ => "str"
  | .list _ => "list"
  | .tuple _ => "tuple"
  | .dict _ => "dict"
theorem Ro.ty {K : PySem.W.Frag} {x : V} {d : D} (R : SR fx σ H Γ s F A) (h : Ro H F A x d) : TyX K H x (.type (tyN d)) := by
  rcases h with h | ⟨a, vs, ds, rfl, rfl, e3, _, e5⟩
  · cases h with
    | non => exact .base .non
    | bl b => exact .base (.bl b)
    | int i => exact .base (.int i)
    | str x => exact .base (.str x)
    | lst h r =>
      rcases R.fh.rd h with h | ⟨o, h⟩
      · exact .base (.lst h)
      · exact .base (.frz h)
    | tup h r => exact .base (.tup (R.fh _ _ h))
    | dic h r => exact .base (.dK (R.fh _ _ h))
  · exact .base (.lst e3)
theorem kit_all {K : PySem.W.Frag} (d : D) :
    PySem.W.kitOne K (.type (tyN d)) (.type "int") = some (isIntD d) ∧ PySem.W.kitOne K (.type (tyN d)) (.type "bool") = some (isBoolD d) ∧ PySem.W.kitOne K (.type (tyN d)) (.type "list") = some (isListD d) ∧
    PySem.W.kitOne K (.type (tyN d)) (.type "tuple") = some (isTupD d) ∧ PySem.W.kitOne K (.type (tyN d)) (.type "str") = some (isStrD d) := by
  cases d with
  | none => exact ⟨kit_ty (show kitB "NoneType" "int" = some false by decide +kernel), kit_ty (show kitB "NoneType" "bool" = some false by decide +kernel), kit_ty (show kitB "NoneType" "list" = some false by decide +kernel), kit_ty (show kitB "NoneType" "tuple" = some false by decide +kernel), kit_ty (show kitB "NoneType" "str" = some false by decide +kernel)⟩
  | bool _ => exact ⟨kit_ty (show kitB "bool" "int" = some true by decide +kernel), kit_ty (show kitB "bool" "bool" = some true by decide +kernel), kit_ty (show kitB "bool" "list" = some false by decide +kernel), kit_ty (show kitB "bool" "tuple" = some false by decide +kernel), kit_ty (show kitB "bool" "str" = some false by decide +kernel)⟩
  | int _ => exact ⟨kit_ty (show kitB "int" "int" = some true by decide +kernel), kit_ty (show kitB "int" "bool" = some false by decide +kernel), kit_ty (show kitB "int" "list" = some false by decide +kernel), kit_ty (show kitB "int" "tuple" = some false by decide +kernel), kit_ty (show kitB "int" "str" = some false by decide +kernel)⟩
  | str _ => exact ⟨kit_ty (show kitB "str" "int" = some false by decide +kernel), kit_ty (show kitB "str" "bool" = some false by decide +kernel), kit_ty (show kitB "str" "list" = some false by decide +kernel), kit_ty (show kitB "str" "tuple" = some false by decide +kernel), kit_ty (show kitB "str" "str" = some true by decide +kernel)⟩
  | list _ => exact ⟨kit_ty (show kitB "list" "int" = some false by decide +kernel), kit_ty (show kitB "list" "bool" = some false by decide +kernel), kit_ty (show kitB "list" "list" = some true by decide +kernel), kit_ty (show kitB "list" "tuple" = some false by decide +kernel), kit_ty (show kitB "list" "str" = some false by decide +kernel)⟩
  | tuple _ => exact ⟨kit_ty (show kitB "tuple" "int" = some false by decide +kernel), kit_ty (show kitB "tuple" "bool" = some false by decide +kernel), kit_ty (show kitB "tuple" "list" = some false by decide +kernel), kit_ty (show kitB "tuple" "tuple" = some true by decide +kernel), kit_ty (show kitB "tuple" "str" = some false by decide +kernel)⟩
  | dict _ => exact ⟨kit_ty (show kitB "dict" "int" = some false by decide +kernel), kit_ty (show kitB "dict" "bool" = some false by decide +kernel), kit_ty (show kitB "dict" "list" = some false by decide +kernel), kit_ty (show kitB "dict" "tuple" = some false by decide +kernel), kit_ty (show kitB "dict" "str" = some false by decide +kernel)⟩
end Ac
namespace Ac
open PySem PySem.Spec PyProof.Rows L2

/-! ### shapes of expressions -/
/-- none of those that a list of arguments, a subscript or a loop would read otherwise -/
def shp : Expr → Bool
  | .Starred .. | .Set .. | .Slice .. | .SetComp .. | .DictComp .. | .GeneratorExp .. | .IfExp .. | .NamedExpr .. => false
  | _ => true
theorem star1 {e : Expr} {es : List Expr} {env : Env} (h : shp e = true) : starEach (e :: es) env = (false, eval e env) :: starEach es env := by
  cases e <;> first | rfl | cases h
def shpL (es : List Expr) : Bool := es.all shp
theorem stars {env : Env} {pos : Pos} : ∀ {es : List Expr}, shpL es = true → (backTo pos (starEach es env)).any (·.1) = false
  | [], _ => rfl
  | e :: es, h => by
    unfold shpL at h
    rw [List.all_cons, Bool.and_eq_true] at h
    rw [star1 h.1]
    have ih := stars (env := env) (pos := pos) (es := es) h.2
    unfold backTo at ih ⊢
    rw [List.map_cons, List.any_cons, ih]
    rfl
theorem fold1 {e : Expr} {env : Env} (h : shp e = true) : ∀ x, foldedSetIterable e env x = pure x := by
  cases e <;> first | (intro x; rfl) | cases h
theorem plain1 {e : Expr} (h : shp e = true) : PlainIx e := by
  cases e <;> first | (intro o i; rfl) | cases h
theorem mark1 {e : Expr} {op : CmpOp} (h : shp e = true) : behindInMarks op e = false := by
  cases e <;> first | rfl | cases h
def isComp : Expr → Bool
  | .ListComp .. => true
  | _ => false
theorem swap1 {e : Expr} {t : Option Expr} {l : Nat} {env : Env} (h : shp e = true) (hc : isComp e = false) : swapsWith e t l env = pure false := by
  cases e <;> first | rfl | exact Bool.noConfusion hc | exact Bool.noConfusion h
/-- read as a test by its value -/
def tst : Expr → Bool
  | .UnaryOp .Not .. | .BoolOp .. | .IfExp .. | .Compare .. => false
  | _ => true
theorem tst1 {e : Expr} {env : Env} (h : tst e = true) : ∀ whole, isTrue e env whole = (do let v ← whole; standAt e.pos; holding [v] (truthy v)) := by
  cases e with
  | UnaryOp op a p => cases op <;> first | (intro w; rfl) | cases h
  | BoolOp _ _ _ => cases h
  | IfExp _ _ _ _ => cases h
  | Compare _ _ _ _ => cases h
  | _ => intro w; rfl

/-! ### what a text's rules may lean on -/
structure Sx where
  N : List Str
  sc : Scope
  fb : Str → Bool
  bn : List Str
  cn : List (Str × Int)
  xt : Bool := false
  cs : List (Str × Str) := []
theorem PE_imp {X : Cx} {e : Expr} {t t' : TE} (h : PE X e t) (hi : ∀ σ H Q, t' σ H Q → t σ H Q) : PE X e t' := ⟨fun pins s σ H Q I q => h.run pins s σ H Q I (hi σ H Q q)⟩
theorem PT_imp {X : Cx} {e : Expr} {t t' : TT} (h : PT X e t) (hi : ∀ σ H Q, t' σ H Q → t σ H Q) : PT X e t' := ⟨fun pins s σ H Q I q => h.run pins s σ H Q I (hi σ H Q q)⟩
theorem PW_imp {X : Cx} {e : Expr} {t t' : TT} (h : PW X e t) (hi : ∀ σ H Q, t' σ H Q → t σ H Q) : PW X e t' := ⟨fun wh pins s σ H Q I q => h.run wh pins s σ H Q I (hi σ H Q q)⟩
theorem PA_imp {X : Cx} {e : List Expr} {t t' : TA} (h : PA X e t) (hi : ∀ σ H Q, t' σ H Q → t σ H Q) : PA X e t' := ⟨fun pos pins s σ H Q I q => h.run pos pins s σ H Q I (hi σ H Q q)⟩
theorem PI_imp {X : Cx} {tg e : Expr} {t t' : TI} (h : PI X tg e t) (hi : ∀ σ H Q, t' σ H Q → t σ H Q) : PI X tg e t' := ⟨fun pins s σ H Q I q => h.run pins s σ H Q I (hi σ H Q q)⟩
theorem PI_or {X : Cx} {tg e : Expr} {t t' : TI} (h : PI X tg e t) (h' : PI X tg e t') : PI X tg e (fun σ H Q => t σ H Q ∨ t' σ H Q) := ⟨fun pins s σ H Q I q => q.elim (h.run pins s σ H Q I) (h'.run pins s σ H Q I)⟩
theorem PO_imp {X : Cx} {e : Option Expr} {t t' : TO} (h : PO X e t) (hi : ∀ σ H Q, t' σ H Q → t σ H Q) : PO X e t' := ⟨fun pins s σ H Q I q => h.run pins s σ H Q I (hi σ H Q q)⟩

section
variable {rm : RM} {X : Cx} {k : Nat} {t : Sx}

/-! ### readings -/
/-- what is wished of an exception: by its number, the slots and the heap where it is raised -/
abbrev WN := Nat → L2.St → Hp → Prop
def W0 : WN := fun _ _ _ => False
def XcOk (W : WN) (fx : Fx rm) (xc : Nat → Ctx → rm.S → Prop) : Prop := ∀ n Γ s σ H F A, SR fx σ H Γ s F A → xc n Γ s → W n σ H
theorem xk0 {fx : Fx rm} : XcOk W0 fx xn := fun _ _ _ _ _ _ _ _ h => h
def WXof (cl : Nat → Addr) (W : WN) : WX := fun cls d σ H => ∃ n, cls = .ref (cl n) ∧ d = none ∧ W n σ H
theorem tk0 {X : Cx} {cl : Nat → Addr} : Takes X (WXof cl W0) := takes0.imp fun _ _ _ _ ⟨_, _, _, h⟩ => h

def KE (fx : Fx rm) (σ : L2.St) (H F : Hp) (A : rm.A) (Q : VK) : Val → Ctx → rm.S → Prop := fun v Γ' s' => ∀ x H' F' A', SR fx σ H' Γ' s' F' A' → HX H A H' A' → Sub F F' → RV fx σ H' F' A' Γ' x v → Q x H'
def rdE (W : WN) (c : E rm.S) : TE := fun σ H Q => ∃ (fx : Fx rm) (Γ : Ctx) (s : rm.S) (F : Hp) (A : rm.A), SR fx σ H Γ s F A ∧ ∃ xc, XcOk W fx xc ∧ wE xc c Γ s (KE fx σ H F A Q)
/-- the value of an operand: of a name its own -/
def RoC (c : E rm.S) (σ : L2.St) (H F : Hp) (A : rm.A) (x : V) (d : D) : Prop := Ro H F A x d ∧ (match c with | .var i => σ[i]? = some (some x) | _ => Rp F x d)
def rdP (W : WN) (c : E rm.S) : TE := fun σ H Q => ∃ (fx : Fx rm) (Γ : Ctx) (s : rm.S) (F : Hp) (A : rm.A), SR fx σ H Γ s F A ∧ ∃ xc, XcOk W fx xc ∧
  opn c (wE xc c) Γ s fun d Γ' s' => ∀ x H' F' A', SR fx σ H' Γ' s' F' A' → HX H A H' A' → Sub F F' → RoC c σ H' F' A' x d → Q x H'
def rdT (W : WN) (c : E rm.S) : TT := fun σ H Q => ∃ (fx : Fx rm) (Γ : Ctx) (s : rm.S) (F : Hp) (A : rm.A), SR fx σ H Γ s F A ∧ ∃ xc, XcOk W fx xc ∧
  wT xc c Γ s fun b Γ' s' => ∀ H' F' A', SR fx σ H' Γ' s' F' A' → HX H A H' A' → Sub F F' → Q b H'
def ArgL (σ : L2.St) (H F : Hp) (A : rm.A) : Es rm.S → List V → List D → Prop
  | .nil, [], [] => True
  | .cons e r, x :: xs, d :: ds => RoC e σ H F A x d ∧ ArgL σ H F A r xs ds
  | _, _, _ => False
def rdA (W : WN) (c : Es rm.S) : TA := fun σ H Q => ∃ (fx : Fx rm) (Γ : Ctx) (s : rm.S) (F : Hp) (A : rm.A), SR fx σ H Γ s F A ∧ ∃ xc, XcOk W fx xc ∧
  wA xc c Γ s fun ds Γ' s' => ∀ xs H' F' A', SR fx σ H' Γ' s' F' A' → HX H A H' A' → Sub F F' → ArgL σ H' F' A' c xs ds → Q xs H'
def rdX (W : WN) (c : Es rm.S) : TA := fun σ H Q => ∃ (fx : Fx rm) (Γ : Ctx) (s : rm.S) (F : Hp) (A : rm.A), SR fx σ H Γ s F A ∧ ∃ xc, XcOk W fx xc ∧
  wX xc c Γ s fun ds Γ' s' => ∀ xs H' F' A', SR fx σ H' Γ' s' F' A' → HX H A H' A' → Sub F F' → RpL F' xs ds → Q xs H'
def RH (F : Hp) (A : rm.A) (x : V) : Val → Prop
  | .dat d => Rp F x d
  | .hdl k => rm.hd A k x
  | .hds ks => HdsV F A x ks
  | _ => False
abbrev RHL (F : Hp) (A : rm.A) : List V → List Val → Prop := Paired (RH F A)
theorem RH.mono {F F' : Hp} {A A' : rm.A} {x : V} {v : Val} (h : RH F A x v) (sb : Sub F F') (le : rm.le A A') : RH F' A' x v := by
  cases v with
  | dat d => exact Rp.mono sb h
  | hdl k => exact rm.le_hd le h
  | hds ks => exact HdsV.mono h sb le
  | _ => exact h
def rdV (W : WN) (c : Es rm.S) : TA := fun σ H Q => ∃ (fx : Fx rm) (Γ : Ctx) (s : rm.S) (F : Hp) (A : rm.A), SR fx σ H Γ s F A ∧ ∃ xc, XcOk W fx xc ∧
  wV xc c Γ s fun vs Γ' s' => ∀ xs H' F' A', SR fx σ H' Γ' s' F' A' → HX H A H' A' → Sub F F' → RHL F' A' xs vs → Q xs H'
def rdPart (W : WN) (c : Es rm.S) : TO := fun σ H Q => ∃ (fx : Fx rm) (Γ : Ctx) (s : rm.S) (F : Hp) (A : rm.A), SR fx σ H Γ s F A ∧ ∃ xc, XcOk W fx xc ∧
  wP xc c Γ s fun o Γ' s' => ∀ H' F' A', SR fx σ H' Γ' s' F' A' → HX H A H' A' → Sub F F' → Q o H'
def rdC (W : WN) (c : Es rm.S) : TT := fun σ H Q => ∃ (fx : Fx rm) (Γ : Ctx) (s : rm.S) (F : Hp) (A : rm.A), SR fx σ H Γ s F A ∧ ∃ xc, XcOk W fx xc ∧
  wC xc c Γ s fun o Γ' s' => ∀ H' F' A', SR fx σ H' Γ' s' F' A' → HX H A H' A' → Sub F F' → Q o H'
/-- what a walk gives, wherever what it walks still stands -/
def Yl (J : L2.It) (G F : Hp) (xs : List D) : Prop := ∀ (i : Nat) (H2 : Hp), Sub G H2 →
  (i < xs.length → J.go i H2 ∧ ∀ x H3, J.yld i H2 x H3 → ∃ d, xs[i]? = some d ∧ ((H3 = H2 ∧ Rp F x d) ∨ ∃ T vs ds, H2 T = none ∧ H3 = upd H2 T (.tup vs) ∧ x = V.ref T ∧ d = .tuple ds ∧ RpL F vs ds)) ∧ (i = xs.length → J.stop i H2)
end
end Ac
namespace Ac
open PySem PySem.Spec PyProof.Rows L2
section
variable {rm : RM} {X : Cx} {k : Nat} {t : Sx} {W : WN} {fx : Fx rm} {xc : Nat → Ctx → rm.S → Prop} {σ : L2.St} {H F : Hp} {Γ : Ctx} {s : rm.S} {A : rm.A}
theorem opn_nv {S : Type} {c : E S} {wa : Ctx → S → (Val → Ctx → S → Prop) → Prop} {Γ : Ctx} {s : S} {Q : D → Ctx → S → Prop} (h : ∀ i, c ≠ .var i) : opn c wa Γ s Q = wa Γ s fun v Γ' s' => asD v fun d => Q d Γ' s' := by
  cases c with
  | var i => exact absurd rfl (h i)
  | _ => rfl
theorem boolD_some {d : D} {k : Bool → Prop} (h : boolD d k) : ∃ b, d = .bool b ∧ k b := by
  cases d <;> first | exact ⟨_, rfl, h⟩ | exact h.elim
theorem asD_bool {x : V} {v : Val} {k : Bool → Prop} (rv : RV fx σ H F A Γ x v) (q : asD v fun d => boolD d k) : ∃ b, x = .bl b ∧ k b := by
  cases v with
  | dat d =>
    obtain ⟨b, rfl, q⟩ := boolD_some q
    cases rv
    exact ⟨b, rfl, q⟩
  | tre ads d =>
    obtain ⟨b, rfl, q⟩ := boolD_some q
    cases rv.1
    exact ⟨b, rfl, q⟩
  | new xs => exact q.elim
  | _ => exact q.elim
/-- an expression as an operand -/
theorem to_opn {c : E rm.S} {e : Expr} (h : PE X e (rdE W c)) (hv : ∀ i, c ≠ .var i) : PE X e (rdP W c) := by
  refine PE_imp h fun σ H Q q => ?_
  obtain ⟨fx, Γ, s, F, A, R, xc, xk, q⟩ := q
  rw [opn_nv hv] at q
  refine ⟨fx, Γ, s, F, A, R, xc, xk, wE_mono c (fun v Γ' s' q => ?_) q⟩
  intro x H' F' A' R' hx sb rv
  obtain ⟨d, F'', k, R'', sb', rp⟩ := R'.stay rv q
  refine k x H' F'' A' R'' hx (sb.trans sb') ⟨.inl rp, ?_⟩
  cases c with
  | var i => exact absurd rfl (hv i)
  | _ => exact rp
/-- a test by its value -/
theorem to_test {c : E rm.S} {e : Expr} (h : PE X e (rdP W c)) (ht : tst e = true) : PT X e (rdT W c) := by
  refine PT_imp (pt_val h (tst1 ht)) fun σ H Q q => ?_
  obtain ⟨fx, Γ, s, F, A, R, xc, xk, q⟩ := q
  refine ⟨fx, Γ, s, F, A, R, xc, xk, opnE_mono c (fun d Γ' s' q => ?_) q⟩
  intro x H' F' A' R' hx sb ro
  obtain ⟨b, rfl, q⟩ := boolD_some q
  exact ⟨b, flat_bool ro.1, q H' F' A' R' hx sb⟩
/-! ### names, constants -/
theorem n_varE {i : Nat} {x : Str} {p : Pos} (hx : PE X (.Name x p) (tVar i)) : PE X (.Name x p) (rdE W (.var i : E rm.S)) := by
  refine PE_imp hx fun σ H Q q => ?_
  obtain ⟨fx, Γ, s, F, A, R, xc, xk, q⟩ := q
  unfold wE at q
  split at q
  · rename_i d e
    obtain ⟨y, h1, h2⟩ := R.sl i _ e
    exact ⟨y, h1, q y H F A R (HX.refl H A) (Sub.refl F) h2⟩
  · rename_i xs e
    obtain ⟨a, vs, h1, h2, h3, h4, R'⟩ := R.frzOwn e
    exact ⟨_, h1, q _ H _ A R' (HX.refl H A) (upd_sub h3) (Rp.lst (.inl upd_same) (h4.mono (upd_sub h3)))⟩
  · rename_i n e
    obtain ⟨y, h1, h2⟩ := R.sl i _ e
    exact ⟨y, h1, q y H F A R (HX.refl H A) (Sub.refl F) h2⟩
  · rename_i ads d e
    obtain ⟨y, F', h1, sb, rp, R', _⟩ := R.frzTre e
    exact ⟨y, h1, q y H F' A R' (HX.refl H A) sb rp⟩
  · rename_i ks e
    obtain ⟨y, h1, h2⟩ := R.sl i _ e
    exact ⟨y, h1, q y H F A R (HX.refl H A) (Sub.refl F) h2⟩
  · exact q.elim
theorem n_varP {i : Nat} {x : Str} {p : Pos} (hx : PE X (.Name x p) (tVar i)) : PE X (.Name x p) (rdP W (.var i : E rm.S)) := by
  refine PE_imp hx fun σ H Q q => ?_
  obtain ⟨fx, Γ, s, F, A, R, xc, xk, q⟩ := q
  change rdO (look Γ i) _ at q
  cases e : look Γ i with
  | none => rw [e] at q; exact q.elim
  | some v =>
    rw [e] at q
    obtain ⟨y, h1, h2⟩ := R.sl i _ e
    cases v with
    | dat d => exact ⟨y, h1, q y H F A R (HX.refl H A) (Sub.refl F) ⟨.inl h2, h1⟩⟩
    | own xs =>
      obtain ⟨a, vs, e1, e2, e3, e4, e5, e6⟩ := h2
      exact ⟨y, h1, q y H F A R (HX.refl H A) (Sub.refl F) ⟨.inr ⟨a, vs, xs, e1, rfl, e2, e4, e6⟩, h1⟩⟩
    | _ => exact q.elim
theorem n_cst {c : E rm.S} {e : Expr} {v : V} {d : D} (h : PE X e (tC v)) (hr : ∀ F, Rp F v d) (hw : ∀ xc Γ s Q, wE xc c Γ s Q = Q (.dat d) Γ s) : PE X e (rdE W c) := by
  refine PE_imp h fun σ H Q q => ?_
  obtain ⟨fx, Γ, s, F, A, R, xc, xk, q⟩ := q
  rw [hw] at q
  exact q v H F A R (HX.refl H A) (Sub.refl F) (hr F)
/-! ### operations -/
theorem KE.kq {fx : Fx rm} {σ : L2.St} {H F H2 F2 : Hp} {A A2 : rm.A} {Q : VK} {v : Val} {Γ2 : Ctx} {s2 : rm.S} (h : KE fx σ H F A Q v Γ2 s2) (hx : HX H A H2 A2) (sb : Sub F F2) : KQ fx σ H2 F2 A2 Γ2 s2 Q v :=
  fun z H' F' R' hx' sb' rv => h z H' F' A2 R' (hx.trans hx') (sb.trans sb') rv
theorem op_rd {ca cb : E rm.S} {f : Value → Value → Sem Value} {g : D → D → (Val → Prop) → Prop} {r : R2}
    (hr : ∀ (rm : RM) (fx : Fx rm) (σ : L2.St) (H : Hp) (Γ : Ctx) (s : rm.S) (F : Hp) (A : rm.A) (x y : V) (d e : D) (Q : VK), SR fx σ H Γ s F A → Ro H F A x d → Ro H F A y e → g d e (KQ fx σ H F A Γ s Q) → r x y H Q)
    (hm : ∀ {x y : D} {k k' : Val → Prop}, (∀ v, k v → k' v) → g x y k → g x y k') {Q : VK} (R : SR fx σ H Γ s F A) (xk : XcOk W fx xc)
    (h : opn ca (wE xc ca) Γ s fun x Γ1 s1 => opn cb (wE xc cb) Γ1 s1 fun y Γ2 s2 => g x y fun v => KE fx σ H F A Q v Γ2 s2) : tOp r (rdP W ca) (rdP W cb) σ H Q := by
  refine ⟨fx, Γ, s, F, A, R, xc, xk, opnE_mono ca (fun d Γ1 s1 h => ?_) h⟩
  intro x H1 F1 A1 R1 hx1 sb1 ro1
  refine ⟨fx, Γ1, s1, F1, A1, R1, xc, xk, opnE_mono cb (fun e Γ2 s2 h => ?_) h⟩
  intro y H2 F2 A2 R2 hx2 sb2 ro2
  exact hr rm fx σ H2 Γ2 s2 F2 A2 x y d e Q R2 (ro1.1.mono hx2 sb2) ro2.1 (hm (fun v q => q.kq (hx1.trans hx2) (sb1.trans sb2)) h)
theorem n_op {ca cb : E rm.S} {a b : Expr} {o : Operator} {p : Pos} (ha : PE X a (rdP W ca)) (hb : PE X b (rdP W cb)) : PE X (.BinOp a o b p) (rdE W (.op o ca cb)) := by
  obtain ⟨r, hr, hs⟩ := op2_bin (X := X) o
  refine PE_imp (pe_op hr ha hb) fun σ H Q q => ?_
  obtain ⟨fx, Γ, s, F, A, R, xc, xk, q⟩ := q
  unfold wE at q
  exact op_rd (f := binaryOp o) hs opD_mono R xk q
theorem n_cmp {ca cb : E rm.S} {a b : Expr} {o : CmpOp} {p : Pos} (hu : X.A.units + 65 < cLine) (ha : PE X a (rdP W ca)) (hb : PE X b (rdP W cb)) (hm : behindInMarks o b = false) : PE X (.Compare a [o] [b] p) (rdE W (.cmp o ca cb)) ∧ PT X (.Compare a [o] [b] p) (rdT W (.cmp o ca cb)) := by
  obtain ⟨r, hr, hs⟩ := op2_cmp (X := X) hu o
  constructor
  · refine PE_imp (pe_cmpR hr ha hb hm) fun σ H Q q => ?_
    obtain ⟨fx, Γ, s, F, A, R, xc, xk, q⟩ := q
    unfold wE at q
    exact op_rd (f := compareOp o) hs cmpD_mono R xk q
  · refine PT_imp (pt_cmpR hr ha hb hm) fun σ H Q q => ?_
    obtain ⟨fx, Γ, s, F, A, R, xc, xk, q⟩ := q
    change opn (.cmp o ca cb) _ Γ s _ at q
    rw [opn_nv (c := (.cmp o ca cb)) (fun i h => nomatch h)] at q
    unfold wE at q
    refine op_rd (f := compareOp o) hs cmpD_mono R xk (opnE_mono ca (fun d Γ1 s1 => opnE_mono cb fun e Γ2 s2 => cmpD_mono fun v q => ?_) q)
    intro x H' F' A' R' hx sb rv
    obtain ⟨b, rfl, q⟩ := asD_bool rv q
    exact ⟨_, rfl, q H' F' A' R' hx sb⟩
theorem n_neg {ca : E rm.S} {a : Expr} {p : Pos} (ha : PE X a (rdP W ca)) : PE X (.UnaryOp .USub a p) (rdE W (.neg ca)) := by
  refine PE_imp (pe_un un_neg ha) fun σ H Q q => ?_
  obtain ⟨fx, Γ, s, F, A, R, xc, xk, q⟩ := q
  unfold wE at q
  refine ⟨fx, Γ, s, F, A, R, xc, xk, opnE_mono ca (fun d Γ1 s1 h => ?_) q⟩
  intro x H1 F1 A1 R1 hx1 sb1 ro1
  unfold negX at h
  split at h
  · exact ⟨_, flat_int ro1.1, h _ H1 F1 A1 R1 hx1 sb1 (.int _)⟩
  · exact h.elim
theorem n_nt {ca : E rm.S} {a : Expr} {p : Pos} (ha : PE X a (rdP W ca)) (ht : PT X a (rdT W ca)) : PE X (.UnaryOp .Not a p) (rdE W (.nt ca)) ∧ PT X (.UnaryOp .Not a p) (rdT W (.nt ca)) := by
  constructor
  · refine PE_imp (pe_not ha) fun σ H Q q => ?_
    obtain ⟨fx, Γ, s, F, A, R, xc, xk, q⟩ := q
    unfold wE at q
    refine ⟨fx, Γ, s, F, A, R, xc, xk, opnE_mono ca (fun d Γ1 s1 h => ?_) q⟩
    intro x H1 F1 A1 R1 hx1 sb1 ro1
    obtain ⟨b, rfl, h⟩ := boolD_some h
    exact ⟨_, flat_bool ro1.1, h _ H1 F1 A1 R1 hx1 sb1 (.bl _)⟩
  · refine PT_imp (pt_not ht) fun σ H Q q => ?_
    obtain ⟨fx, Γ, s, F, A, R, xc, xk, q⟩ := q
    change opn (.nt ca) _ Γ s _ at q
    rw [opn_nv (c := (.nt ca)) (fun i h => nomatch h)] at q
    unfold wE at q
    refine ⟨fx, Γ, s, F, A, R, xc, xk, opnE_mono ca (fun d Γ1 s1 h => ?_) q⟩
    obtain ⟨b, rfl, h⟩ := boolD_some h
    exact h
theorem n_an {ca cb : E rm.S} {a b : Expr} {rest : List Expr} {p : Pos} (ha : PE X a (rdP W ca)) (hb : PE X (.BoolOp .And (b :: rest) p) (rdP W cb)) : PE X (.BoolOp .And (a :: b :: rest) p) (rdE W (.an ca cb)) := by
  refine PE_imp (pe_and ha hb) fun σ H Q q => ?_
  obtain ⟨fx, Γ, s, F, A, R, xc, xk, q⟩ := q
  unfold wE at q
  refine ⟨fx, Γ, s, F, A, R, xc, xk, opnE_mono ca (fun d Γ1 s1 h => ?_) q⟩
  intro x H1 F1 A1 R1 hx1 sb1 ro1
  obtain ⟨c, rfl, h⟩ := boolD_some h
  refine ⟨c, flat_bool ro1.1, ite_mono (fun h => ?_) (fun h => h _ H1 F1 A1 R1 hx1 sb1 (.bl _)) h⟩
  refine ⟨fx, Γ1, s1, F1, A1, R1, xc, xk, opnE_mono cb (fun e Γ2 s2 h => ?_) h⟩
  intro y H2 F2 A2 R2 hx2 sb2 ro2
  obtain ⟨c', rfl, h⟩ := boolD_some h
  exact h y H2 F2 A2 R2 (hx1.trans hx2) (sb1.trans sb2) (by rw [flat_bool ro2.1]; exact .bl _)
theorem n_or {ca cb : E rm.S} {a b : Expr} {rest : List Expr} {p : Pos} (ha : PE X a (rdP W ca)) (hb : PE X (.BoolOp .Or (b :: rest) p) (rdP W cb)) : PE X (.BoolOp .Or (a :: b :: rest) p) (rdE W (.or ca cb)) := by
  refine PE_imp (pe_or ha hb) fun σ H Q q => ?_
  obtain ⟨fx, Γ, s, F, A, R, xc, xk, q⟩ := q
  unfold wE at q
  refine ⟨fx, Γ, s, F, A, R, xc, xk, opnE_mono ca (fun d Γ1 s1 h => ?_) q⟩
  intro x H1 F1 A1 R1 hx1 sb1 ro1
  obtain ⟨c, rfl, h⟩ := boolD_some h
  refine ⟨c, flat_bool ro1.1, ite_mono (fun h => h _ H1 F1 A1 R1 hx1 sb1 (.bl _)) (fun h => ?_) h⟩
  refine ⟨fx, Γ1, s1, F1, A1, R1, xc, xk, opnE_mono cb (fun e Γ2 s2 h => ?_) h⟩
  intro y H2 F2 A2 R2 hx2 sb2 ro2
  obtain ⟨c', rfl, h⟩ := boolD_some h
  exact h y H2 F2 A2 R2 (hx1.trans hx2) (sb1.trans sb2) (by rw [flat_bool ro2.1]; exact .bl _)
theorem n_anT {ca cb : E rm.S} {a b : Expr} {rest : List Expr} {p : Pos} (ha : PT X a (rdT W ca)) (hb : PW X (.BoolOp .And (b :: rest) p) (rdT W cb)) : PW X (.BoolOp .And (a :: b :: rest) p) (rdT W (.an ca cb)) := by
  refine PW_imp (pw_and ha hb) fun σ H Q q => ?_
  obtain ⟨fx, Γ, s, F, A, R, xc, xk, q⟩ := q
  change opn (.an ca cb) _ Γ s _ at q
  rw [opn_nv (c := (.an ca cb)) (fun i h => nomatch h)] at q
  unfold wE at q
  refine ⟨fx, Γ, s, F, A, R, xc, xk, opnE_mono ca (fun d Γ1 s1 h => ?_) q⟩
  obtain ⟨c, rfl, h⟩ := boolD_some h
  intro H1 F1 A1 R1 hx1 sb1
  refine ite_mono (fun h => ?_) (fun h => h H1 F1 A1 R1 hx1 sb1) h
  refine ⟨fx, Γ1, s1, F1, A1, R1, xc, xk, opnE_mono cb (fun e Γ2 s2 h => ?_) h⟩
  obtain ⟨c', rfl, h⟩ := boolD_some h
  exact fun H2 F2 A2 R2 hx2 sb2 => h H2 F2 A2 R2 (hx1.trans hx2) (sb1.trans sb2)
theorem n_orT {ca cb : E rm.S} {a b : Expr} {rest : List Expr} {p : Pos} (ha : PT X a (rdT W ca)) (hb : PW X (.BoolOp .Or (b :: rest) p) (rdT W cb)) : PW X (.BoolOp .Or (a :: b :: rest) p) (rdT W (.or ca cb)) := by
  refine PW_imp (pw_or ha hb) fun σ H Q q => ?_
  obtain ⟨fx, Γ, s, F, A, R, xc, xk, q⟩ := q
  change opn (.or ca cb) _ Γ s _ at q
  rw [opn_nv (c := (.or ca cb)) (fun i h => nomatch h)] at q
  unfold wE at q
  refine ⟨fx, Γ, s, F, A, R, xc, xk, opnE_mono ca (fun d Γ1 s1 h => ?_) q⟩
  obtain ⟨c, rfl, h⟩ := boolD_some h
  intro H1 F1 A1 R1 hx1 sb1
  refine ite_mono (fun h => h H1 F1 A1 R1 hx1 sb1) (fun h => ?_) h
  refine ⟨fx, Γ1, s1, F1, A1, R1, xc, xk, opnE_mono cb (fun e Γ2 s2 h => ?_) h⟩
  obtain ⟨c', rfl, h⟩ := boolD_some h
  exact fun H2 F2 A2 R2 hx2 sb2 => h H2 F2 A2 R2 (hx1.trans hx2) (sb1.trans sb2)
theorem ch_rd {ca cb cc : E rm.S} {g g' : D → D → (Val → Prop) → Prop} {r r' : R2}
    (hr : ∀ (rm : RM) (fx : Fx rm) (σ : L2.St) (H : Hp) (Γ : Ctx) (s : rm.S) (F : Hp) (A : rm.A) (x y : V) (d e : D) (Q : VK), SR fx σ H Γ s F A → Ro H F A x d → Ro H F A y e → g d e (KQ fx σ H F A Γ s Q) → r x y H Q)
    (hr' : ∀ (rm : RM) (fx : Fx rm) (σ : L2.St) (H : Hp) (Γ : Ctx) (s : rm.S) (F : Hp) (A : rm.A) (x y : V) (d e : D) (Q : VK), SR fx σ H Γ s F A → Ro H F A x d → Ro H F A y e → g' d e (KQ fx σ H F A Γ s Q) → r' x y H Q)
    (hm : ∀ {x y : D} {k k' : Val → Prop}, (∀ v, k v → k' v) → g x y k → g x y k') (hm' : ∀ {x y : D} {k k' : Val → Prop}, (∀ v, k v → k' v) → g' x y k → g' x y k') {Q : VK} (R : SR fx σ H Γ s F A) (xk : XcOk W fx xc)
    (h : opn ca (wE xc ca) Γ s fun x Γ1 s1 => opn cb (wE xc cb) Γ1 s1 fun y Γ2 s2 => g x y fun v => asD v fun d => boolD d fun k => if k = true then opn cc (wE xc cc) Γ2 s2 fun z Γ3 s3 => g' y z fun v => KE fx σ H F A Q v Γ3 s3 else KE fx σ H F A Q (.dat (.bool false)) Γ2 s2) : tChain r r' (rdP W ca) (rdP W cb) (rdP W cc) σ H Q := by
  refine ⟨fx, Γ, s, F, A, R, xc, xk, opnE_mono ca (fun d Γ1 s1 h => ?_) h⟩
  intro x H1 F1 A1 R1 hx1 sb1 ro1
  refine ⟨fx, Γ1, s1, F1, A1, R1, xc, xk, opnE_mono cb (fun e Γ2 s2 h => ?_) h⟩
  intro y H2 F2 A2 R2 hx2 sb2 ro2
  refine hr rm fx σ H2 Γ2 s2 F2 A2 x y d e _ R2 (ro1.1.mono hx2 sb2) ro2.1 (hm (fun v q => ?_) h)
  intro z H3 F3 R3 hx3 sb3 rv
  · obtain ⟨kk, rfl, q⟩ := asD_bool rv q
    refine ⟨kk, rfl, ite_mono (fun q => ?_) (fun q => q _ H3 F3 A2 R3 ((hx1.trans hx2).trans hx3) ((sb1.trans sb2).trans sb3) (.bl _)) q⟩
    refine ⟨fx, Γ2, s2, F3, A2, R3, xc, xk, opnE_mono cc (fun e' Γ3 s3 h => ?_) q⟩
    intro w H4 F4 A4 R4 hx4 sb4 ro4
    exact hr' rm fx σ H4 Γ3 s3 F4 A4 y w e e' Q R4 ((ro2.1.mono hx3 sb3).mono hx4 sb4) ro4.1 (hm' (fun v q => q.kq (((hx1.trans hx2).trans hx3).trans hx4) (((sb1.trans sb2).trans sb3).trans sb4)) h)
theorem n_ch {ca cb cc : E rm.S} {a b c : Expr} {o o' : CmpOp} {p : Pos} (hu : X.A.units + 65 < cLine) (ha : PE X a (rdP W ca)) (hb : PE X b (rdP W cb)) (hc : PE X c (rdP W cc)) (hm : lastMarks [o, o'] [b, c] = false) :
    PE X (.Compare a [o, o'] [b, c] p) (rdE W (.ch o o' ca cb cc)) ∧ PT X (.Compare a [o, o'] [b, c] p) (rdT W (.ch o o' ca cb cc)) := by
  obtain ⟨r, hr, hs⟩ := op2_cmp (X := X) hu o
  obtain ⟨r', hr', hs'⟩ := op2_cmp (X := X) hu o'
  constructor
  · refine PE_imp (pe_chain hr hr' ha hb hc hm) fun σ H Q q => ?_
    obtain ⟨fx, Γ, s, F, A, R, xc, xk, q⟩ := q
    unfold wE at q
    exact ch_rd hs hs' cmpD_mono cmpD_mono R xk q
  · refine PT_imp (pt_chain hr hr' ha hb hc hm) fun σ H Q q => ?_
    obtain ⟨fx, Γ, s, F, A, R, xc, xk, q⟩ := q
    change opn (.ch o o' ca cb cc) _ Γ s _ at q
    rw [opn_nv (c := (.ch o o' ca cb cc)) (fun i h => nomatch h)] at q
    have q2 := wE_mono (.ch o o' ca cb cc) (Q' := KE fx σ H F A fun x H' => ∃ k, x = .bl k ∧ Q k H') (fun v Γ' s' q => by
      intro x H' F' A' R' hx sb rv
      obtain ⟨b, rfl, q⟩ := asD_bool rv q
      exact ⟨_, rfl, q H' F' A' R' hx sb⟩) q
    unfold wE at q2
    exact ch_rd hs hs' cmpD_mono cmpD_mono R xk q2
theorem isnone_iff {x : V} {d : D} (h : Ro H F A x d) : decide (x = .non) = noneD d := by
  rcases h with h | ⟨a, vs, ds, rfl, rfl, _⟩
  · cases h <;> rfl
  · rfl
theorem n_isn {ca : E rm.S} {a : Expr} {j : Nat} {p p' : Pos} (ha : PE X a (rdP W ca)) :
    (PE X (.Compare a [.Is] [.Constant .none j p'] p) (rdE W (.isn true ca)) ∧ PT X (.Compare a [.Is] [.Constant .none j p'] p) (rdT W (.isn true ca))) ∧
    (PE X (.Compare a [.IsNot] [.Constant .none j p'] p) (rdE W (.isn false ca)) ∧ PT X (.Compare a [.IsNot] [.Constant .none j p'] p) (rdT W (.isn false ca))) := by
  refine ⟨⟨PE_imp (pe_cmp (pc_isN ha)) fun σ H Q q => ?_, PT_imp (pt_cmp (pc_isN ha)) fun σ H Q q => ?_⟩, ⟨PE_imp (pe_cmp (pc_notN ha)) fun σ H Q q => ?_, PT_imp (pt_cmp (pc_notN ha)) fun σ H Q q => ?_⟩⟩
  · obtain ⟨fx, Γ, s, F, A, R, xc, xk, q⟩ := q
    unfold wE at q
    refine ⟨fx, Γ, s, F, A, R, xc, xk, opnE_mono ca (fun d Γ1 s1 h => ?_) q⟩
    intro x H1 F1 A1 R1 hx1 sb1 ro1
    rw [isnone_iff ro1.1]
    exact h _ H1 F1 A1 R1 hx1 sb1 (.bl _)
  · obtain ⟨fx, Γ, s, F, A, R, xc, xk, q⟩ := q
    change opn (.isn true ca) _ Γ s _ at q
    rw [opn_nv (c := (.isn true ca)) (fun i h => nomatch h)] at q
    unfold wE at q
    refine ⟨fx, Γ, s, F, A, R, xc, xk, opnE_mono ca (fun d Γ1 s1 h => ?_) q⟩
    intro x H1 F1 A1 R1 hx1 sb1 ro1
    refine ⟨_, rfl, ?_⟩
    rw [isnone_iff ro1.1]
    exact h H1 F1 A1 R1 hx1 sb1
  · obtain ⟨fx, Γ, s, F, A, R, xc, xk, q⟩ := q
    unfold wE at q
    refine ⟨fx, Γ, s, F, A, R, xc, xk, opnE_mono ca (fun d Γ1 s1 h => ?_) q⟩
    intro x H1 F1 A1 R1 hx1 sb1 ro1
    rw [isnone_iff ro1.1]
    exact h _ H1 F1 A1 R1 hx1 sb1 (.bl _)
  · obtain ⟨fx, Γ, s, F, A, R, xc, xk, q⟩ := q
    change opn (.isn false ca) _ Γ s _ at q
    rw [opn_nv (c := (.isn false ca)) (fun i h => nomatch h)] at q
    unfold wE at q
    refine ⟨fx, Γ, s, F, A, R, xc, xk, opnE_mono ca (fun d Γ1 s1 h => ?_) q⟩
    intro x H1 F1 A1 R1 hx1 sb1 ro1
    refine ⟨_, rfl, ?_⟩
    rw [isnone_iff ro1.1]
    exact h H1 F1 A1 R1 hx1 sb1
theorem n_isb {ca : E rm.S} {a : Expr} {j : Nat} {b : Bool} {p p' : Pos} (ha : PE X a (rdP W ca)) :
    (PE X (.Compare a [.Is] [.Constant (.bool b) j p'] p) (rdE W (.isb true b ca)) ∧ PT X (.Compare a [.Is] [.Constant (.bool b) j p'] p) (rdT W (.isb true b ca))) ∧
    (PE X (.Compare a [.IsNot] [.Constant (.bool b) j p'] p) (rdE W (.isb false b ca)) ∧ PT X (.Compare a [.IsNot] [.Constant (.bool b) j p'] p) (rdT W (.isb false b ca))) := by
  have e1 : ∀ c b : Bool, decide (c = b) = (if true = true then c == b else !(c == b)) := by decide
  have e2 : ∀ c b : Bool, (!decide (c = b)) = (if false = true then c == b else !(c == b)) := by decide
  refine ⟨⟨PE_imp (pe_cmpR op_isBl ha (pe_bl (b := b)) (nomark _)) fun σ H Q q => ?_, PT_imp (pt_cmpR op_isBl ha (pe_bl (b := b)) (nomark _)) fun σ H Q q => ?_⟩, ⟨PE_imp (pe_cmpR op_notBl ha (pe_bl (b := b)) (nomark _)) fun σ H Q q => ?_, PT_imp (pt_cmpR op_notBl ha (pe_bl (b := b)) (nomark _)) fun σ H Q q => ?_⟩⟩
  · obtain ⟨fx, Γ, s, F, A, R, xc, xk, q⟩ := q
    unfold wE at q
    refine ⟨fx, Γ, s, F, A, R, xc, xk, opnE_mono ca (fun d Γ1 s1 h => ?_) q⟩
    intro x H1 F1 A1 R1 hx1 sb1 ro1
    obtain ⟨c, rfl, h⟩ := boolD_some h
    refine ⟨_, b, flat_bool ro1.1, rfl, ?_⟩
    rw [e1]
    exact h _ H1 F1 A1 R1 hx1 sb1 (.bl _)
  · obtain ⟨fx, Γ, s, F, A, R, xc, xk, q⟩ := q
    change opn (.isb true b ca) _ Γ s _ at q
    rw [opn_nv (c := (.isb true b ca)) (fun i h => nomatch h)] at q
    unfold wE at q
    refine ⟨fx, Γ, s, F, A, R, xc, xk, opnE_mono ca (fun d Γ1 s1 h => ?_) q⟩
    intro x H1 F1 A1 R1 hx1 sb1 ro1
    obtain ⟨c, rfl, h⟩ := boolD_some h
    refine ⟨_, b, flat_bool ro1.1, rfl, _, rfl, ?_⟩
    rw [e1]
    exact h H1 F1 A1 R1 hx1 sb1
  · obtain ⟨fx, Γ, s, F, A, R, xc, xk, q⟩ := q
    unfold wE at q
    refine ⟨fx, Γ, s, F, A, R, xc, xk, opnE_mono ca (fun d Γ1 s1 h => ?_) q⟩
    intro x H1 F1 A1 R1 hx1 sb1 ro1
    obtain ⟨c, rfl, h⟩ := boolD_some h
    refine ⟨_, b, flat_bool ro1.1, rfl, ?_⟩
    rw [e2]
    exact h _ H1 F1 A1 R1 hx1 sb1 (.bl _)
  · obtain ⟨fx, Γ, s, F, A, R, xc, xk, q⟩ := q
    change opn (.isb false b ca) _ Γ s _ at q
    rw [opn_nv (c := (.isb false b ca)) (fun i h => nomatch h)] at q
    unfold wE at q
    refine ⟨fx, Γ, s, F, A, R, xc, xk, opnE_mono ca (fun d Γ1 s1 h => ?_) q⟩
    intro x H1 F1 A1 R1 hx1 sb1 ro1
    obtain ⟨c, rfl, h⟩ := boolD_some h
    refine ⟨_, b, flat_bool ro1.1, rfl, _, rfl, ?_⟩
    rw [e2]
    exact h H1 F1 A1 R1 hx1 sb1
end
end Ac
namespace Ac
open PySem PySem.Spec PyProof.Rows L2
/-! ### a def's promise where no repr is under way -/
structure FnG (P : Program) (w : World) (K : PySem.W.Frag) (mg : Str → Option Value) (base : Heap) (k : Nat) (f : Addr) (fd : FuncData) (ps : List Str) (sp : Sp) : Prop where
  len : ∀ vs H Q E, sp vs H Q E → vs.length = ps.length
  run : ∀ (A : Around) (ou : List Env) (s : Shared) (H : Hp) (ar : Args) (us : List Value) (vs : List V) (Q : VK) (E : XK), Room k A → A.guards = some [] → Env0 P w K mg base A ou s H → BindsTo s fd ar (ps.zip us) → Vals vs us → sp vs H Q E →
    codeAny (model P w) A (.call (.ref f) ar) (CR (L2.CX P w) ou P w H s Q E) s
theorem FnG.mono {P : Program} {w : World} {K : PySem.W.Frag} {mg : Str → Option Value} {base : Heap} {j k : Nat} {f : Addr} {fd : FuncData} {ps : List Str} {sp : Sp} (F : FnG P w K mg base j f fd ps sp) (h : j ≤ k) : FnG P w K mg base k f fd ps sp :=
  { len := F.len, run := fun A ou s H ar us vs Q E hr => F.run A ou s H ar us vs Q E (hr.mono h) }
section
variable {P : Program} {w : World} {K : PySem.W.Frag} {mg : Str → Option Value} {base : Heap} {k : Nat} {f : Addr} {x : Str} {st : Stmt} {fd : FuncData} {N ps : List Str} {sp : Sp}
/-- by its body -/
theorem fnG_of (F : Fun K x x st f fd) (S : FnScope N ps (defScope st)) (hlen : ∀ vs H Q E, sp vs H Q E → vs.length = ps.length)
    (hb : ∀ (cdv : Value) (A : Around) (ou : List Env) (s : Shared) (H : Hp) (vs : List V) (Q : VK) (E : XK), Room k (A.deeper (envOfC x (defScope st) s.heap.objs.size f cdv)) → A.guards = some [] → sp vs H Q E →
      ∃ t, PSs (cxOf (L2.CX P w) P w K mg base N x (defScope st) f cdv A ou s H E) (defBody st) t ∧ t { nx := fun _ H' => Q .non H', rt := Q } (L2.start N vs) H) : FnG P w K mg base (k + 1) f fd ps sp := by
  obtain ⟨oc, od, kV, doc, pm, an, cdv, ct, osl, rfl, lk, hcd⟩ := F.ex
  constructor
  · exact hlen
  intro A ou s H ar us vs Q E hr hgd e0 hbd rv hsp
  have hl := hlen vs H Q E hsp
  have hin : ∀ b o, base.get? b = some o → s.heap.get? b = some o := fun b o e => (e0.bs b o e).1
  have KX : K.In s.heap := e0.mod.kin.keeps hin
  have lim : s.heap.NoLimit := e0.mod.nolimit.keeps hin
  refine codeAny_call_function hr.depth (KX _ _ lk) rfl S.co S.gen rfl (PySem.W.codeRec_of KX hcd) (hbd _ _ _ _ ?_)
  refine wpAny_newFunctionEnv_cells S.kind (fun y hy => ?_) fun env he s1 x1 => ?_
  · rcases S.par y.1 (List.of_mem_zip hy).1 with q | q
    · exact Or.inl q
    · exact Or.inr ⟨q, PySem.W.cellsFrom_some _ _ _ (Or.inl q)⟩
  · subst he
    refine ⟨lim.keeps x1.toInCall.keep, codeAny_func ?_⟩
    obtain ⟨t, ht, hq⟩ := hb cdv A ou s H vs Q E (hr.deeper _) hgd hsp
    have I := inv_start (CX := L2.CX P w) (E := E) (mg := mg) S hr.hd e0 hl rv x1
    refine wpAny_mono (ht.run [] s1 (L2.start N vs) H _ I hq) (fun fl s' hs => ?_) fun _ _ z => z
    cases fl with
    | ret u =>
      obtain ⟨v, σ', H', J, rv', q⟩ := hs
      exact ⟨v, H', J.os, J.bare, J.base, J.hok, rv', q⟩
    | next =>
      obtain ⟨σ', H', J, q⟩ := hs
      exact ⟨V.non, H', J.os, J.bare, J.base, J.hok, rfl, q⟩
    | brk => exact hs.elim fun _ z => z.elim fun _ z => z.2.elim
    | cont => exact hs.elim fun _ z => z.elim fun _ z => z.2.elim
end
section
variable {X : Cx} {k : Nat} {f : Addr} {fd : FuncData} {ps : List Str} {sp : Sp} {E : L2.St → XK} {x : Str} {p pos : Pos} {e : Expr} {es : List Expr} {t : TA}
theorem runG {pins : List (Addr × Obj)} {σ : L2.St} {H : Hp} {s : Shared} {Q : VK} {us : List Value} {vs : List V} (F : FnG X.prog X.w X.K X.mg X.base k f fd ps sp) (hr : Room k X.A) (hgd : X.A.guards = some []) (hb : Binds X.K fd ps []) (hx : PassesAt (L2.CX X.prog X.w) X σ (E σ))
    (I : Inv X pins σ H s) (r : Vals vs us) (h : sp vs H Q (E σ)) : wpAny (model X.prog X.w) X.A (call (.ref f) us) (EP X pins σ Q) X.xe s := by
  have hl : us.length = ps.length := by rw [← r.length]; exact F.len _ _ _ _ h
  have hb' : BindsTo s fd ⟨us, []⟩ (ps.zip us) := by
    have z := hb s us I.kIn (by rw [List.append_nil]; exact hl)
    rw [List.append_nil] at z
    exact z
  refine wpAny_call (codeAny_mono (F.run X.A X.stack s H ⟨us, []⟩ us vs Q (E σ) hr hgd I.env0 hb' r h) fun r s' hq => ?_)
  match r, hq with
  | .error e, hq => exact hx pins H s e s' I hq
  | .ok (.ret u), hq => exact I.after hq
  | .ok .next, hq => exact hq.elim
  | .ok .brk, hq => exact hq.elim
  | .ok .cont, hq => exact hq.elim
theorem pe_callG (F : FnG X.prog X.w X.K X.mg X.base k f fd ps sp) (hr : Room k X.A) (hgd : X.A.guards = some []) (hg : Gl X x) (hm : X.mg x = some (.ref f)) (hk : PySem.W.keepIn X.K (.ref f) = true) (hb : Binds X.K fd ps []) (hx : ∀ σ, PassesAt (L2.CX X.prog X.w) X σ (E σ))
    (ha : PA X (e :: es) t) (hdb : (x == ("__debug__" : Str)) = false) (he : starEach (e :: es) X.env = (false, eval e X.env) :: starEach es X.env) (hpl : (backTo pos (starEach es X.env)).any (·.1) = false) :
    PE X (.Call (.Name x p) (e :: es) [] pos) (fun σ H Q => t σ H fun vs H1 => sp vs H1 Q (E σ)) := by
  constructor
  intro pins s σ H Q I h
  refine wpAny_Call_Name_kw (ld_glob I hg hm ?_ hdb)
  refine PySem.W.callWith_K (h₀ := X.base) I.ok.mod.kin hk (thn (ha.run pos pins s σ H _ I h) fun us s1 z => ?_) he hpl
  obtain ⟨vs, H1, I1, r, q⟩ := z
  exact ⟨I1.kIn, runG F hr hgd hb (hx σ) I1 r q⟩
theorem pe_callG0 (F : FnG X.prog X.w X.K X.mg X.base k f fd ps sp) (hr : Room k X.A) (hgd : X.A.guards = some []) (hg : Gl X x) (hm : X.mg x = some (.ref f)) (hk : PySem.W.keepIn X.K (.ref f) = true) (hb : Binds X.K fd ps []) (hx : ∀ σ, PassesAt (L2.CX X.prog X.w) X σ (E σ))
    (hdb : (x == ("__debug__" : Str)) = false) : PE X (.Call (.Name x p) [] [] pos) (fun σ H Q => sp [] H Q (E σ)) := by
  constructor
  intro pins s σ H Q I h
  exact wpAny_Call_Name_kw (ld_glob I hg hm (PySem.W.callWith_K0 I.kIn hk (runG (us := []) F hr hgd hb (hx σ) I .nil h)) hdb)
end
/-! ### the law's call -/
def oneH (a : Addr) (o : HO) : Hp := fun b => if b = a then some o else none
theorem oneH_some {a b : Addr} {o u : HO} (h : oneH a o b = some u) : b = a ∧ u = o := by
  unfold oneH at h
  split at h
  · exact ⟨‹_›, (Option.some.inj h).symm⟩
  · cases h
theorem oneH_none {a b : Addr} {o : HO} (h : b ≠ a) : oneH a o b = none := by
  unfold oneH
  rw [if_neg h]
theorem lawG {P : Program} {w : World} {K : PySem.W.Frag} {mg mb : Str → Option Value} {k : Nat} {fa a : Addr} {fd : FuncData} {x : Str} {sp : Sp} {s1 : Shared} {vs : List Value} {ns : List Int}
    (KX : K.In s1.heap) (g1 : s1.heap.Ns mainGlobals mg) (g2 : s1.heap.Ns builtinsNs mb) (g3 : ∀ y : Str, y ≠ "__name__" → mb y = bootBuiltins y) (lim : s1.heap.NoLimit) (gn : s1.gens = #[])
    (ha : s1.heap.get? a = some { cls := .type "list", data := .seq vs.toArray }) (hi : IntsAre vs ns) (hl : ns.length ≤ sizeLine) (hr : Room k callerA) (hK : K.lookup a = none) {mm : Str → Option Value} (hsm : s1.heap.Ns sysModules mm)
    (F : ∀ base : Heap, K.In base → base.Ns mainGlobals mg → (∃ o, base.get? sysModules = some o) → FnG P w K mg base k fa fd [x] sp) (bd : ∀ (s : Shared) (u : Value), BindsTo s fd ⟨[u], []⟩ [(x, u)])
    (hsp : ∀ H : Hp, Rd H a (.lst (ns.map V.int)) → sp [.ref a] H (fun v _ => v = .bl true) fun _ _ _ => False) :
    codeAny (model P w) callerA (.call (.ref fa) ⟨[.ref a], []⟩) (fun r s' => r = .ok (.ret (.bool true)) ∧ OldK s1.heap s'.heap ∧ s'.os = s1.os ∧ AllBare s'.gens) s1 := by
  let ob : Obj := { cls := .type "list", data := .seq vs.toArray }
  let H0 : Hp := oneH a (.frz ob (.lst (ns.map V.int)))
  have e0 : H0 a = some (.frz ob (.lst (ns.map V.int))) := if_pos rfl
  have hok : HOk P w H0 s1.heap := fun b u z => by
    obtain ⟨rfl, rfl⟩ := oneH_some z
    exact ⟨ha, by rw [List.length_map]; exact hl, vs, _, vals_ints hi, ha⟩
  have keepB : ∀ b o, s1.heap.get? b = some o → b ≠ a → (hidT s1.heap H0).get? b = some o := fun b o e n => hidT_get e (oneH_none n)
  have apart : ∀ (b : Addr) (o : Obj) (es : Array DictEntry) (ep : Nat), s1.heap.get? b = some o → o.data = .dict es ep → b ≠ a := fun b o es ep e d z => by
    subst z
    rw [ha] at e
    cases e
    cases d
  have nsB : ∀ {b : Addr} {m : Str → Option Value}, s1.heap.Ns b m → (hidT s1.heap H0).Ns b m := fun {b m} z => by
    obtain ⟨o, es, ep, e, d, r⟩ := z
    exact ⟨o, es, ep, keepB b o e (apart b o es ep e d), d, r⟩
  have hKb : K.In (hidT s1.heap H0) := fun b o e => keepB b o (KX b o e) fun z => by
    subst z
    rw [hK] at e
    cases e
  have hM : Mod K mg (hidT s1.heap H0) := { kin := hKb, glob := nsB g1, blt := ⟨mb, nsB g2, g3⟩, nolimit := by obtain ⟨mc, z1, z2⟩ := lim; exact ⟨mc, nsB z1, z2⟩ }
  have en : Env0 P w K mg (hidT s1.heap H0) callerA [] s1 H0 :=
    { frames := rfl, mod := hM, bs := fun b o e => of_hidT e, bsz := Nat.le_of_eq (hidT_size _ _), funs := trivial, frf := fun b hb => (nomatch hb), hok := hok, bare := .of_eq gn }
  have hsb : ∃ o, (hidT s1.heap H0).get? sysModules = some o := by obtain ⟨o, _, _, e, _⟩ := nsB hsm; exact ⟨o, e⟩
  refine codeAny_mono ((F _ hKb (nsB g1) hsb).run callerA [] s1 H0 ⟨[.ref a], []⟩ [.ref a] [.ref a] _ _ hr rfl en (bd s1 (.ref a)) (.cons rfl .nil) (hsp H0 (.inr ⟨_, e0⟩))) fun r s' hq => ?_
  match r, hq with
  | .error e, hq =>
    obtain ⟨_, _, _, _, _, _, _, _, _, _, _, _, z⟩ := hq
    exact z.elim
  | .ok (.ret u), hq =>
    obtain ⟨v, H', os, bare, un, hok', r', q⟩ := hq
    have q : v = V.bl true := q
    subst q
    obtain rfl : u = Value.bool true := r'
    refine ⟨rfl, OldK.of_keep fun b o e => ?_, os, bare⟩
    by_cases z : b = a
    · subst z
      rw [ha] at e
      cases e
      exact (hok' b _ (un.frzs b ob _ e0)).1
    · exact un.keep b o e (oneH_none z) (fun z => (nomatch z)) (fun z => (nomatch z))
  | .ok .next, hq => exact hq.elim
  | .ok .brk, hq => exact hq.elim
  | .ok .cont, hq => exact hq.elim
end Ac
namespace Ac
open PySem PySem.Spec PyProof.Rows L2
section
variable {rm : RM} {X : Cx} {k : Nat} {t : Sx} {W : WN} {fx : Fx rm} {xc : Nat → Ctx → rm.S → Prop} {σ : L2.St} {H F : Hp} {Γ : Ctx} {s : rm.S} {A : rm.A}
/-! ### items, slices -/
theorem ixD_at {xs : List D} {vs : List V} {i : Int} {K : D → Prop} (r : RpL F vs xs) (h : ixD xs i K) : ∃ d v, atI vs i = some v ∧ Rp F v d ∧ K d := by
  unfold ixD at h
  split at h
  · rename_i d e
    cases e1 : ixN xs.length i with
    | none => rw [e1] at e; cases e
    | some j =>
      rw [e1] at e
      obtain ⟨v, hv, rp⟩ := r.get (i := j) (y := d) e
      refine ⟨d, v, ?_, rp, h⟩
      unfold atI
      rw [r.length, e1]
      exact hv
  · exact h.elim
/-- a text's sign -/
theorem ixD_sign {z : Str} {i : Int} {K : D → Prop} (h : ixD (signsD z) i K) : ∃ c, atI z.cps.toList i = some c ∧ K (signD c) := by
  have r : ∀ l : List Nat, RpL (fun _ => none) (l.map fun c => V.str ⟨#[c]⟩) (l.map signD) := fun l => by
    induction l with
    | nil => exact .nil
    | cons c l ih => exact .cons (.str _) ih
  obtain ⟨d, v, h1, h2, h3⟩ := ixD_at (r z.cps.toList) h
  have e : ∀ l : List Nat, atI (l.map fun c => V.str ⟨#[c]⟩) i = (atI l i).map fun c => V.str ⟨#[c]⟩ := fun l => by
    unfold atI
    simp only [List.length_map]
    simp only [List.getElem?_map]
    cases ixN l.length i <;> rfl
  rw [e] at h1
  cases q : atI z.cps.toList i with
  | none => rw [q] at h1; cases h1
  | some c =>
    rw [q] at h1
    cases h1
    cases h2
    exact ⟨c, rfl, h3⟩
theorem n_ix {ca cb : E rm.S} {a b : Expr} {p : Pos} (ha : PE X a (rdP W ca)) (hb : PE X b (rdP W cb)) (hs : PlainIx b) : PE X (.Subscript a b p) (rdE W (.ix ca cb)) := by
  refine PE_imp (pe_ix ix_seq ha hb hs) fun σ H Q q => ?_
  obtain ⟨fx, Γ, s, F, A, R, xc, xk, q⟩ := q
  unfold wE at q
  refine op_rd (f := fun _ _ => pure .none) (g := fun x y k => ixX x y fun d => k (.dat d)) ?_ ?_ R xk q
  · intro rm fx σ H Γ s F A x y d e Q R hx hy h
    unfold ixX at h
    split at h
    · obtain ⟨a, vs, e1, q1, r1⟩ := hx.lst R.fh
      obtain ⟨d, v, h1, h2, h3⟩ := ixD_at r1 h
      exact .inl ⟨a, vs, _, v, e1, flat_int hy, .inl q1, h1, KQ.dat R h2 h3⟩
    · obtain ⟨a, vs, e1, q1, r1⟩ := hx.tup
      obtain ⟨d, v, h1, h2, h3⟩ := ixD_at r1 h
      exact .inr (.inl ⟨a, vs, _, v, e1, flat_int hy, .inl (.inl (R.fh _ _ q1)), h1, KQ.dat R h2 h3⟩)
    · obtain ⟨hz, h⟩ := h
      obtain ⟨c, h1, h2⟩ := ixD_sign h
      exact .inr (.inr ⟨_, _, c, flat_str hx, flat_int hy, big_sz hz, h1, KQ.dat R (.str _) h2⟩)
    · exact h.elim
  · intro x y k k' hk h
    exact ixX_mono (fun d => hk _) h
theorem cut_rel {xs : List D} {vs : List V} {lo hi : Option Int} (r : RpL F vs xs) : RpL F (cutV vs lo hi) (cutD xs lo hi) := by
  unfold cutV cutD
  rw [r.length]
  exact (r.drop _).take _
theorem n_part0 : PO X none (rdPart W (.nil : Es rm.S)) := by
  refine PO_imp po_none fun σ H Q q => ?_
  obtain ⟨fx, Γ, s, F, A, R, xc, xk, q⟩ := q
  unfold wP at q
  exact q H F A R (HX.refl H A) (Sub.refl F)
theorem n_part1 {c : E rm.S} {r : Es rm.S} {e : Expr} (h : PE X e (rdP W c)) : PO X (some e) (rdPart W (.cons c r)) := by
  refine PO_imp (po_some h) fun σ H Q q => ?_
  obtain ⟨fx, Γ, s, F, A, R, xc, xk, q⟩ := q
  unfold wP at q
  refine ⟨fx, Γ, s, F, A, R, xc, xk, opnE_mono c (fun d Γ1 s1 h => ?_) q⟩
  intro x H1 F1 A1 R1 hx1 sb1 ro1
  unfold intX at h
  split at h
  · exact ⟨_, flat_int ro1.1, h H1 F1 A1 R1 hx1 sb1⟩
  · exact h.elim
theorem n_sl {ca : E rm.S} {cl ch : Es rm.S} {a : Expr} {lo hi : Option Expr} {p p2 : Pos} (ha : PE X a (rdP W ca)) (hl : PO X lo (rdPart W cl)) (hh : PO X hi (rdPart W ch)) : PE X (.Subscript a (.Slice lo hi none p2) p) (rdE W (.sl ca cl ch)) := by
  refine PE_imp (pe_slice (sl_list.or (sl_tup.or sl_str)) ha hl hh) fun σ H Q q => ?_
  obtain ⟨fx, Γ, s, F, A, R, xc, xk, q⟩ := q
  unfold wE at q
  refine ⟨fx, Γ, s, F, A, R, xc, xk, opnE_mono ca (fun d Γ1 s1 q => ?_) q⟩
  intro x H1 F1 A1 R1 hx1 sb1 ro1
  refine ⟨fx, Γ1, s1, F1, A1, R1, xc, xk, wP_mono cl (fun l Γ2 s2 q => ?_) q⟩
  intro H2 F2 A2 R2 hx2 sb2
  refine ⟨fx, Γ2, s2, F2, A2, R2, xc, xk, wP_mono ch (fun h Γ3 s3 q => ?_) q⟩
  intro H3 F3 A3 R3 hx3 sb3
  unfold slX at q
  split at q
  · obtain ⟨a, vs, e1, q1, r1⟩ := ((ro1.1.mono hx2 sb2).mono hx3 sb3).lst R3.fh
    exact .inl ⟨a, vs, e1, .inl q1, fun p hp => KQ.mk R3 hp (cut_rel r1) (q.kq ((hx1.trans hx2).trans hx3) ((sb1.trans sb2).trans sb3))⟩
  · obtain ⟨a, vs, e1, q1, r1⟩ := ((ro1.1.mono hx2 sb2).mono hx3 sb3).tup
    refine .inr (.inl ⟨a, vs, e1, .inl (.inl (R3.fh _ _ q1)), by rw [r1.length]; exact q.1, fun p hp => KQ.mkT R3 hp (cut_rel r1) (KE.kq (v := .dat _) q.2 ((hx1.trans hx2).trans hx3) ((sb1.trans sb2).trans sb3))⟩)
  · exact .inr (.inr ⟨_, flat_str ((ro1.1.mono hx2 sb2).mono hx3 sb3), big_sz q.1, KQ.dat R3 (.str _) (KE.kq (v := .dat _) q.2 ((hx1.trans hx2).trans hx3) ((sb1.trans sb2).trans sb3))⟩)
  · exact q.elim
theorem n_rv {ca : E rm.S} {a : Expr} {kk : Nat} {p p1 p2 p3 : Pos} (ha : PE X a (rdP W ca)) : PE X (.Subscript a (.Slice none none (some (.UnaryOp .USub (.Constant (.int 1) kk p1) p2)) p3) p) (rdE W (.rv ca)) := by
  refine PE_imp (pe_revL ha) fun σ H Q q => ?_
  obtain ⟨fx, Γ, s, F, A, R, xc, xk, q⟩ := q
  unfold wE at q
  refine ⟨fx, Γ, s, F, A, R, xc, xk, opnE_mono ca (fun d Γ1 s1 q => ?_) q⟩
  intro x H1 F1 A1 R1 hx1 sb1 ro1
  unfold rvX at q
  split at q
  · obtain ⟨a, vs, e1, q1, r1⟩ := ro1.1.lst R1.fh
    exact ⟨a, vs, e1, .inl q1, fun p hp => KQ.mk R1 hp r1.reverse (q.kq hx1 sb1)⟩
  · exact q.elim
/-! ### arguments -/
theorem RoC.mono {c : E rm.S} {H' F' : Hp} {A' : rm.A} {x : V} {d : D} (h : RoC c σ H F A x d) (hx : HX H A H' A') (sb : Sub F F') : RoC c σ H' F' A' x d := by
  refine ⟨h.1.mono hx sb, ?_⟩
  have h2 := h.2
  cases c with
  | var i => exact h2
  | _ => exact Rp.mono sb h2
theorem n_a0 : PA X [] (rdA W (.nil : Es rm.S)) := by
  refine PA_imp pa_nil fun σ H Q q => ?_
  obtain ⟨fx, Γ, s, F, A, R, xc, xk, q⟩ := q
  unfold wA at q
  exact q [] H F A R (HX.refl H A) (Sub.refl F) trivial
theorem n_a1 {c : E rm.S} {r : Es rm.S} {e : Expr} {es : List Expr} (h : PE X e (rdP W c)) (hr : PA X es (rdA W r)) (hs : shp e = true) : PA X (e :: es) (rdA W (.cons c r)) := by
  refine PA_imp (pa_cons h hr (star1 hs)) fun σ H Q q => ?_
  obtain ⟨fx, Γ, s, F, A, R, xc, xk, q⟩ := q
  unfold wA at q
  refine ⟨fx, Γ, s, F, A, R, xc, xk, opnE_mono c (fun d Γ1 s1 q => ?_) q⟩
  intro x H1 F1 A1 R1 hx1 sb1 ro1
  refine ⟨fx, Γ1, s1, F1, A1, R1, xc, xk, wA_mono r (fun ds Γ2 s2 q => ?_) q⟩
  intro xs H2 F2 A2 R2 hx2 sb2 ar
  exact q (x :: xs) H2 F2 A2 R2 (hx1.trans hx2) (sb1.trans sb2) ⟨ro1.mono hx2 sb2, ar⟩
theorem n_x0 : PA X [] (rdX W (.nil : Es rm.S)) := by
  refine PA_imp pa_nil fun σ H Q q => ?_
  obtain ⟨fx, Γ, s, F, A, R, xc, xk, q⟩ := q
  unfold wX at q
  exact q [] H F A R (HX.refl H A) (Sub.refl F) .nil
theorem n_x1 {c : E rm.S} {r : Es rm.S} {e : Expr} {es : List Expr} (h : PE X e (rdE W c)) (hr : PA X es (rdX W r)) (hs : shp e = true) : PA X (e :: es) (rdX W (.cons c r)) := by
  refine PA_imp (pa_cons h hr (star1 hs)) fun σ H Q q => ?_
  obtain ⟨fx, Γ, s, F, A, R, xc, xk, q⟩ := q
  unfold wX at q
  refine ⟨fx, Γ, s, F, A, R, xc, xk, wE_mono c (fun v Γ1 s1 q => ?_) q⟩
  intro x H1 F1 A1 R1 hx1 sb1 rv
  obtain ⟨d, F1', q, R1', sb1', rp⟩ := R1.stay rv q
  refine ⟨fx, Γ1, s1, F1', A1, R1', xc, xk, wX_mono r (fun ds Γ2 s2 q => ?_) q⟩
  intro xs H2 F2 A2 R2 hx2 sb2 ar
  exact q (x :: xs) H2 F2 A2 R2 (hx1.trans hx2) ((sb1.trans sb1').trans sb2) (.cons (rp.mono sb2) ar)
theorem n_v0 : PA X [] (rdV W (.nil : Es rm.S)) := by
  refine PA_imp pa_nil fun σ H Q q => ?_
  obtain ⟨fx, Γ, s, F, A, R, xc, xk, q⟩ := q
  unfold wV at q
  exact q [] H F A R (HX.refl H A) (Sub.refl F) .nil
theorem n_v1 {c : E rm.S} {r : Es rm.S} {e : Expr} {es : List Expr} (h : PE X e (rdE W c)) (hr : PA X es (rdV W r)) (hs : shp e = true) : PA X (e :: es) (rdV W (.cons c r)) := by
  refine PA_imp (pa_cons h hr (star1 hs)) fun σ H Q q => ?_
  obtain ⟨fx, Γ, s, F, A, R, xc, xk, q⟩ := q
  unfold wV at q
  refine ⟨fx, Γ, s, F, A, R, xc, xk, wE_mono c (fun v Γ1 s1 q => ?_) q⟩
  intro x H1 F1 A1 R1 hx1 sb1 rv
  cases v with
  | dat d =>
    refine ⟨fx, Γ1, s1, F1, A1, R1, xc, xk, wV_mono r (fun ds Γ2 s2 q => ?_) q⟩
    intro xs H2 F2 A2 R2 hx2 sb2 ar
    exact q (x :: xs) H2 F2 A2 R2 (hx1.trans hx2) (sb1.trans sb2) (.cons (Rp.mono sb2 rv) ar)
  | new xs =>
    obtain ⟨d, F1', q, R1', sb1', rp⟩ := R1.stay (v := .new xs) (k := fun d => d = .list xs) rv rfl
    subst q
    rename_i q
    refine ⟨fx, Γ1, s1, F1', A1, R1', xc, xk, wV_mono r (fun ds Γ2 s2 q => ?_) q⟩
    intro xs H2 F2 A2 R2 hx2 sb2 ar
    exact q (x :: xs) H2 F2 A2 R2 (hx1.trans hx2) ((sb1.trans sb1').trans sb2) (.cons (Rp.mono sb2 rp) ar)
  | own xs => exact q.elim
  | shl b => exact q.elim
  | odi b n f => exact q.elim
  | tre ads d =>
    obtain ⟨d', F1', q', R1', sb1', rp⟩ := R1.stay (v := .tre ads d) (k := fun e => e = d) rv rfl
    subst q'
    refine ⟨fx, Γ1, s1, F1', A1, R1', xc, xk, wV_mono r (fun ds Γ2 s2 q => ?_) q⟩
    intro xs H2 F2 A2 R2 hx2 sb2 ar
    exact q (x :: xs) H2 F2 A2 R2 (hx1.trans hx2) ((sb1.trans sb1').trans sb2) (.cons (Rp.mono sb2 rp) ar)
  | hds ks =>
    refine ⟨fx, Γ1, s1, F1, A1, R1, xc, xk, wV_mono r (fun ds Γ2 s2 q => ?_) q⟩
    intro xs H2 F2 A2 R2 hx2 sb2 ar
    exact q (x :: xs) H2 F2 A2 R2 (hx1.trans hx2) (sb1.trans sb2) (.cons (HdsV.mono rv sb2 hx2.1) ar)
  | hdl n =>
    refine ⟨fx, Γ1, s1, F1, A1, R1, xc, xk, wV_mono r (fun ds Γ2 s2 q => ?_) q⟩
    intro xs H2 F2 A2 R2 hx2 sb2 ar
    exact q (x :: xs) H2 F2 A2 R2 (hx1.trans hx2) (sb1.trans sb2) (.cons (rm.le_hd hx2.1 rv) ar)
/-! ### displays -/
theorem n_ls {cs : Es rm.S} {es : List Expr} {p : Pos} (h : PA X es (rdX W cs)) : PE X (.List es p) (rdE W (.ls cs)) := by
  refine PE_imp (pe_lst h) fun σ H Q q => ?_
  obtain ⟨fx, Γ, s, F, A, R, xc, xk, q⟩ := q
  unfold wE at q
  refine ⟨fx, Γ, s, F, A, R, xc, xk, wX_mono cs (fun ds Γ1 s1 q => ?_) q⟩
  intro xs H1 F1 A1 R1 hx1 sb1 ar
  exact ⟨by rw [ar.length]; exact big_sz q.1, fun p hp => KQ.mk R1 hp ar (q.2.kq hx1 sb1)⟩
theorem n_tp {cs : Es rm.S} {es : List Expr} {kk : Nat} {p : Pos} (h : PA X es (rdX W cs)) : PE X (.Tuple es kk p) (rdE W (.tp cs)) := by
  refine PE_imp (pe_tup h) fun σ H Q q => ?_
  obtain ⟨fx, Γ, s, F, A, R, xc, xk, q⟩ := q
  unfold wE at q
  refine ⟨fx, Γ, s, F, A, R, xc, xk, wX_mono cs (fun ds Γ1 s1 q => ?_) q⟩
  intro xs H1 F1 A1 R1 hx1 sb1 ar
  exact ⟨by rw [ar.length]; exact big_sz q.1, fun p hp => KQ.mkT R1 hp ar (q.2.kq hx1 sb1)⟩
theorem n_rep {cs : Es rm.S} {cb : E rm.S} {es : List Expr} {b : Expr} {p p2 : Pos} (h : PA X es (rdX W cs)) (hb : PE X b (rdP W cb)) : PE X (.BinOp (.List es p2) .Mult b p) (rdE W (.rep cs cb)) := by
  refine PE_imp (pe_op op_rep (pe_lst h) hb) fun σ H Q q => ?_
  obtain ⟨fx, Γ, s, F, A, R, xc, xk, q⟩ := q
  unfold wE at q
  refine ⟨fx, Γ, s, F, A, R, xc, xk, wX_mono cs (fun ds Γ1 s1 q => ?_) q⟩
  intro xs H1 F1 A1 R1 hx1 sb1 ar
  refine ⟨by rw [ar.length]; exact big_sz q.1, fun l hl => ?_⟩
  refine ⟨fx, Γ1, s1, F1, A1, R1.alloc hl, xc, xk, opnE_mono cb (fun e Γ2 s2 q => ?_) q.2⟩
  intro y H2 F2 A2 R2 hx2 sb2 ro2
  have hl2 := (hx2.2 l (.lst xs) upd_same (R1.nft hl)).1
  unfold repX at q
  split at q
  · rename_i j
    obtain ⟨⟨q0, q1, q2⟩, q3⟩ := q
    exact ⟨l, j, xs, rfl, flat_int ro2.1, hl2, by omega, by omega, by rw [ar.length]; exact big_sz q2, fun p hp => KQ.mk R2 hp ((ar.mono sb2).rep j.toNat) (q3.kq ((hx1.trans (R1.hx hl)).trans hx2) (sb1.trans sb2))⟩
  · exact q.elim
/-! ### built-in functions -/
theorem ArgL.roL : ∀ {cs : Es rm.S} {xs : List V} {ds : List D}, ArgL σ H F A cs xs ds → RoL H F A xs ds
  | .nil, [], [], _ => .nil
  | .cons e r, x :: xs, d :: ds, h => .cons h.1.1 (ArgL.roL h.2)
  | .nil, _ :: _, _, h => h.elim
  | .nil, [], _ :: _, h => h.elim
  | .cons _ _, [], _, h => h.elim
  | .cons _ _, _ :: _, [], h => h.elim
theorem cb_rd {b : BI} {cs : Es rm.S} {g : List D → (Val → Prop) → Prop} {r : List V → Hp → VK → Prop} (hb : biD b = g)
    (hr : ∀ (rm : RM) (fx : Fx rm) (σ : L2.St) (H : Hp) (Γ : Ctx) (s : rm.S) (F : Hp) (A : rm.A) (xs : List V) (ds : List D) (Q : VK), SR fx σ H Γ s F A → RoL H F A xs ds → g ds (KQ fx σ H F A Γ s Q) → r xs H Q)
    {Q : VK} (q : rdE W (.bi b cs) σ H Q) : tCB r (rdA W cs) σ H Q := by
  obtain ⟨fx, Γ, s, F, A, R, xc, xk, q⟩ := q
  unfold wE at q
  refine ⟨fx, Γ, s, F, A, R, xc, xk, wA_mono cs (fun ds Γ1 s1 q => ?_) q⟩
  intro xs H1 F1 A1 R1 hx1 sb1 ar
  refine hr rm fx σ H1 Γ1 s1 F1 A1 xs ds Q R1 ar.roL ?_
  rw [← hb]
  exact biD_mono (fun v q => q.kq hx1 sb1) q
theorem n_biB {b : BI} {cs : Es rm.S} {x : Str} {id : String} {e : Expr} {es : List Expr} {p p2 : Pos} (hc : CallS X (.builtin id) (biD b)) (hg : Gl X x) (hm : X.mg x = none) (hv : bootBuiltins x = some (.builtin id)) (ha : PA X (e :: es) (rdA W cs)) (hs : shpL (e :: es) = true)
    (hn : x ≠ "__name__") (hdb : (x == ("__debug__" : Str)) = false) : PE X (.Call (.Name x p2) (e :: es) [] p) (rdE W (.bi b cs)) := by
  obtain ⟨r, h1, h2⟩ := hc
  unfold shpL at hs
  rw [List.all_cons, Bool.and_eq_true] at hs
  exact PE_imp (pe_callB h1 hg hm hv ha hn hdb (star1 hs.1) (stars hs.2)) fun σ H Q q => cb_rd rfl h2 q
theorem n_biT {b : BI} {cs : Es rm.S} {x : Str} {T : String} {e : Expr} {es : List Expr} {p p2 : Pos} (hc : CallS X (.type T) (biD b)) (hg : Gl X x) (hm : X.mg x = none) (hv : bootBuiltins x = some (.type T)) (ha : PA X (e :: es) (rdA W cs)) (hs : shpL (e :: es) = true)
    (hn : x ≠ "__name__") (hdb : (x == ("__debug__" : Str)) = false) : PE X (.Call (.Name x p2) (e :: es) [] p) (rdE W (.bi b cs)) := by
  obtain ⟨r, h1, h2⟩ := hc
  unfold shpL at hs
  rw [List.all_cons, Bool.and_eq_true] at hs
  exact PE_imp (pe_callTy h1 hg hm hv ha hn hdb (star1 hs.1) (stars hs.2)) fun σ H Q q => cb_rd rfl h2 q
theorem n_isi {b : BI} {c : E rm.S} {T : String} {x : Str} {f : D → Bool} {e : Expr} {p p2 p3 : Pos} (hb : biD b = isD f) (hk : ∀ d, PySem.W.kitOne X.K (.type (tyN d)) (.type T) = some (f d)) (hg : Gl X "isinstance") (hm : X.mg "isinstance" = none) (he : PE X e (rdP W c)) (hs : shp e = true)
    (hT : PE X (.Name x p3) (tC (.ty T))) : PE X (.Call (.Name "isinstance" p2) [e, .Name x p3] [] p) (rdE W (.bi b (.cons c .nil))) := by
  refine PE_imp (pe_callB call_isi hg hm PyProof.Rows.boot_isinstance (pa_cons he (pa_cons hT pa_nil) (star1 hs)) (he := star1 hs)) fun σ H Q q => ?_
  obtain ⟨fx, Γ, s, F, A, R, xc, xk, q⟩ := q
  unfold wE wA at q
  rw [hb] at q
  refine ⟨fx, Γ, s, F, A, R, xc, xk, opnE_mono c (fun d Γ1 s1 q => ?_) q⟩
  intro x H1 F1 A1 R1 hx1 sb1 ro1
  unfold wA at q
  exact ⟨x, .ty T, _, _, _, rfl, .ty T, ro1.1.ty R1, hk d, q _ H1 F1 A1 R1 hx1 sb1 (.bl _)⟩
/-! ### calls of defs -/
def RVp (H H' F' : Hp) (x : V) : Val → Prop
  | .dat d => Rp F' x d
  | .new xs => ∃ p vs, x = .ref p ∧ H' p = some (.lst vs) ∧ F' p = none ∧ H p = none ∧ RpL F' vs xs
  | .tre ads d => OwT H' ads x d ∧ ∀ a ∈ ads, F' a = none ∧ H a = none
  | .hds ks => ks = [] ∧ ∃ a, x = .ref a ∧ F' a = some (.lst [])
  | _ => False
/-- the promise of a def of plain data -/
def spP (cl : Nat → Addr) (φ : Summ) : Sp := fun vs H Q E => ∃ F ds, Sub F H ∧ RpL F vs ds ∧ φ.run ds (fun v => ∀ x H' F', Sub H H' → Sub F F' → Sub F' H' → (∀ a, H a ≠ none → (∀ vs, H a ≠ some (.tup vs)) → F' a = F a) → RVp H H' F' x v → Q x H') (fun n => ∀ H', Sub H H' → E (.ref (cl n)) none H')
def GoodP (cl : Nat → Addr) (X : Cx) (k : Nat) (x : Str) (φ : Summ) : Prop := ∃ f fd ps, FnG X.prog X.w X.K X.mg X.base k f fd ps (spP cl φ) ∧ X.mg x = some (.ref f) ∧ PySem.W.keepIn X.K (.ref f) = true ∧ Binds X.K fd ps []
theorem argsOk_put {Γ : Ctx} {i : Nat} {ys : List D} (e : look Γ i = some (.own ys)) : ∀ r : Es rm.S, argsOk r Γ → argsOk r (put Γ i (some (.dat (.list ys))))
  | .nil, _ => trivial
  | .cons c r, h => by
    cases c with
    | var j =>
      have h' : (match look Γ j with | some (.dat _) => True | some (.own _) => True | _ => False) ∧ argsOk r Γ := h
      refine ⟨?_, argsOk_put e r h'.2⟩
      by_cases z : j = i
      · subst z
        rw [look_put_same (look_lt e)]
        trivial
      · rw [look_put_ne z]
        exact h'.1
    | _ => exact argsOk_put e r h
theorem ArgL_mono {F' : Hp} (sb : Sub F F') : ∀ {cs : Es rm.S} {xs : List V} {ds : List D}, ArgL σ H F A cs xs ds → ArgL σ H F' A cs xs ds
  | .nil, [], [], _ => trivial
  | .cons e r, x :: xs, d :: ds, h => ⟨h.1.mono (HX.refl H A) sb, ArgL_mono sb h.2⟩
  | .nil, _ :: _, _, h => h.elim
  | .nil, [], _ :: _, h => h.elim
  | .cons _ _, [], _, h => h.elim
  | .cons _ _, _ :: _, [], h => h.elim
/-- an own list that is handed in, put to what stays -/
theorem frzA_ok : ∀ {cs : Es rm.S} {Γ : Ctx} {F : Hp} {xs : List V} {ds : List D}, SR fx σ H Γ s F A → argsOk cs Γ → ArgL σ H F A cs xs ds → ∃ F', SR fx σ H (frzA cs Γ) s F' A ∧ Sub F F' ∧ RpL F' xs ds
  | .nil, Γ, F, [], [], R, _, _ => ⟨F, R, Sub.refl F, .nil⟩
  | .nil, _, _, _ :: _, _, _, _, h => h.elim
  | .nil, _, _, [], _ :: _, _, _, h => h.elim
  | .cons _ _, _, _, [], _, _, _, h => h.elim
  | .cons _ _, _, _, _ :: _, [], _, _, h => h.elim
  | .cons c r, Γ, F, x :: xs, d :: ds, R, ok, h => by
   cases c with
   | var i =>
    obtain ⟨⟨ro, hx⟩, h2⟩ := h
    have hx : σ[i]? = some (some x) := hx
    have ok' : (match look Γ i with | some (.dat _) => True | some (.own _) => True | _ => False) ∧ argsOk r Γ := ok
    cases e : look Γ i with
    | none => rw [e] at ok'; exact ok'.1.elim
    | some v =>
      cases v with
      | new xs => rw [e] at ok'; exact ok'.1.elim
      | hdl n => rw [e] at ok'; exact ok'.1.elim
      | tre ads d => rw [e] at ok'; exact ok'.1.elim
      | shl b => rw [e] at ok'; exact ok'.1.elim
      | odi b n f => rw [e] at ok'; exact ok'.1.elim
      | hds ks => rw [e] at ok'; exact ok'.1.elim
      | dat d' =>
        have rp : Rp F x d := by
          rcases ro with ro | ⟨a, vs, ds', rfl, rfl, e3, _, e5⟩
          · exact ro
          · obtain ⟨y, h1, h3⟩ := R.sl i _ e
            rw [hx] at h1
            cases h1
            cases h3 with
            | lst q1 q2 =>
              rcases q1 with q1 | ⟨o, q1⟩
              · have z := R.fh _ _ q1
                rw [e3] at z
                cases z
                exact .lst (.inl q1) e5
              · have z := R.fh _ _ q1
                rw [e3] at z
                cases z
            | tup q1 q2 =>
              have z := R.fh _ _ q1
              rw [e3] at z
              cases z
            | dic q1 q2 =>
              have z := R.fh _ _ q1
              rw [e3] at z
              cases z
        have ez : frzV Γ i = Γ := by unfold frzV; rw [e]
        have ok2 : argsOk r Γ := ok'.2
        obtain ⟨F', R', sb, rl⟩ := frzA_ok (cs := r) R ok2 h2
        refine ⟨F', ?_, sb, .cons (rp.mono sb) rl⟩
        show SR fx σ H (frzA r (frzV Γ i)) s F' A
        rw [ez]
        exact R'
      | own ys =>
        obtain ⟨a, vs, h1, e2, e3, e6, R1⟩ := R.frzOwn e
        rw [hx] at h1
        cases h1
        have rp : Rp (upd F a (.lst vs)) (V.ref a) d := by
          rcases ro with ro | ⟨a', vs', ds', q1, rfl, q3, _, q5⟩
          · exact ro.mono (upd_sub e3)
          · cases q1
            rw [e2] at q3
            cases q3
            exact .lst (.inl upd_same) (q5.mono (upd_sub e3))
        have ez : frzV Γ i = put Γ i (some (.dat (.list ys))) := by unfold frzV; rw [e]
        have ok2 : argsOk r (put Γ i (some (.dat (.list ys)))) := argsOk_put e r ok'.2
        have h2' : ArgL σ H (upd F a (.lst vs)) A r xs ds := ArgL_mono (upd_sub e3) h2
        obtain ⟨F', R', sb, rl⟩ := frzA_ok (cs := r) R1 ok2 h2'
        refine ⟨F', ?_, (upd_sub e3).trans sb, .cons (rp.mono sb) rl⟩
        show SR fx σ H (frzA r (frzV Γ i)) s F' A
        rw [ez]
        exact R'
   | _ =>
    obtain ⟨⟨ro, hx⟩, h2⟩ := h
    obtain ⟨F', R', sb, rl⟩ := frzA_ok (cs := r) R ok h2
    exact ⟨F', R', sb, .cons (Rp.mono sb hx) rl⟩
theorem same_of {F' : Hp} {x : V} {v : Val} {H' : Hp} (h : RVp H H' F' x v) (sc : scalV v = true) (F2 : Hp) {A' : rm.A} {Γ' : Ctx} : RV fx σ H' F2 A' Γ' x v := by
  cases v with
  | dat d => cases h <;> first | exact .non | exact .bl _ | exact .int _ | exact .str _ | cases sc
  | _ => cases sc
/-- the state behind a call that has put things to the heap -/
theorem SR.grow (R : SR fx σ H Γ s F A) {H' : Hp} (hh : Sub H H') : SR fx σ H' Γ s F A where
  fh := R.fh.trans hh
  fz := R.fz
  f0 := R.f0
  lk := fun a o e => ⟨hh a o (R.lk a o e).1, (R.lk a o e).2⟩
  a0 := R.a0
  ok := rm.frame R.ok (fun a ha => by
    cases e : H a with
    | none => exact absurd e (rm.ex R.ok ha)
    | some o => exact hh a o e) fun q vs e => hh q _ e
  ln := R.ln
  sl := fun i w e => by
    obtain ⟨z, e1, e2⟩ := R.sl i w e
    refine ⟨z, e1, ?_⟩
    cases w with
    | own ys => obtain ⟨a, vs, w1, w2, w3⟩ := e2; exact ⟨a, vs, w1, hh _ _ w2, w3⟩
    | tre ads d => exact ⟨e2.1.mono (fun a vs z => hh _ _ z) (fun a ha => by obtain ⟨vs, z⟩ := e2.1.lists a ha; rw [z]; exact hh _ _ z), e2.2⟩
    | shl b => obtain ⟨g1, g2, g3, g4, vs, g5, g6⟩ := e2; exact ⟨g1, g2, g3, g4, vs, hh _ _ g5, g6⟩
    | odi b n f => obtain ⟨g1, g2, g3, g4, vs, g5, g6⟩ := e2; exact ⟨g1, g2, g3, g4, vs, hh _ _ g5, g6⟩
    | _ => exact e2
  dj := R.dj
theorem SR.growF (Rc : SR fx σ H Γ s F A) {H' F' : Hp} (hh : Sub H H') (ff : Sub F F') (fh' : Sub F' H') (nf : ∀ a, H a ≠ none → (∀ vs, H a ≠ some (.tup vs)) → F' a = F a) : SR fx σ H' Γ s F' A := by
  refine { fh := fh', fz := fun a o e n => ?_, f0 := Rc.f0.trans ff, lk := fun a o e => ?_, a0 := Rc.a0, ok := (Rc.grow hh).ok, ln := Rc.ln, sl := fun i w e => ?_, dj := Rc.dj }
  · have ne := rm.ex Rc.ok n
    rw [nf a ne (rm.nt Rc.ok n)] at e
    exact Rc.fz a o e n
  · obtain ⟨w1, w2, w3⟩ := Rc.lk a o e
    exact ⟨hh a o w1, fun nt => (nf a (by rw [w1]; exact nofun) (fun vs z => by rw [w1] at z; cases z; exact nt vs rfl)).trans (w2 nt), w3⟩
  · obtain ⟨z, e1, e2⟩ := Rc.sl i w e
    refine ⟨z, e1, ?_⟩
    cases w with
    | own ys =>
      obtain ⟨a, vs, w1, w2, w3, w4, w5, w6⟩ := e2
      exact ⟨a, vs, w1, hh _ _ w2, (nf a (by rw [w2]; exact nofun) (fun vs z => by rw [w2] at z; cases z)).trans w3, w4, w5, w6.mono ff⟩
    | dat d => exact Rp.mono ff e2
    | tre ads d => exact ⟨e2.1.mono (fun a vs z => hh _ _ z) (fun a ha => by obtain ⟨vs, z⟩ := e2.1.lists a ha; rw [z]; exact hh _ _ z), fun a ha => by
        obtain ⟨vs, z⟩ := e2.1.lists a ha
        exact ⟨(nf a (by rw [z]; exact nofun) (fun vs y => by rw [z] at y; cases y)).trans (e2.2 a ha).1, (e2.2 a ha).2⟩⟩
    | shl b => obtain ⟨g1, g2, g3, g4, vs, g5, g6⟩ := e2; exact ⟨g1, (nf b (by rw [g5]; exact nofun) (fun vs y => by rw [g5] at y; cases y)).trans g2, g3, g4, vs, hh _ _ g5, g6⟩
    | odi b n f => obtain ⟨g1, g2, g3, g4, vs, g5, g6, g7⟩ := e2; exact ⟨g1, (nf b (by rw [g5]; exact nofun) (fun vs y => by rw [g5] at y; cases y)).trans g2, g3, g4, vs, hh _ _ g5, g6, g7.mono ff⟩
    | hds ks => exact HdsV.mono e2 ff (rm.le_refl A)
    | _ => exact e2
/-- what a call of a plain def gives, in the state -/
theorem SR.called (R1 : SR fx σ H Γ s F A) {Γc : Ctx} {Fc H' F' : Hp} {x : V} {v : Val} (Rc : SR fx σ H Γc s Fc A) (hh : Sub H H') (ff : Sub Fc F') (fh' : Sub F' H') (nf : ∀ a, H a ≠ none → (∀ vs, H a ≠ some (.tup vs)) → F' a = Fc a) (rv : RVp H H' F' x v) :
    SR fx σ H' Γc s F' A ∧ RV fx σ H' F' A Γc x v := by
  refine ⟨Rc.growF hh ff fh' nf, ?_⟩
  cases v with
  | dat d => exact rv
  | new ys =>
    obtain ⟨a, vs, w1, w2, w3, w4, w5⟩ := rv
    exact ⟨a, vs, w1, w2, w3, R1.nft w4, R1.nL w4, w5, Rc.noOwn w4⟩
  | tre ads d => exact ⟨rv.1, fun a ha => ⟨(rv.2 a ha).1, R1.nft (rv.2 a ha).2, R1.nL (rv.2 a ha).2, Rc.noOwn (rv.2 a ha).2⟩⟩
  | hds ks =>
    obtain ⟨rfl, a, e1, e2⟩ := rv
    exact ⟨a, [], e1, e2, .nil⟩
  | _ => exact rv.elim
theorem HX.grow {H H' : Hp} {A : rm.A} (hh : Sub H H') : HX H A H' A := ⟨rm.le_refl A, fun a o e n => ⟨hh a o e, n⟩⟩
theorem n_call {cl : Nat → Addr} {φ : Summ} {x : Str} {cs : Es rm.S} {e0 : Expr} {es : List Expr} {p p2 : Pos} (g : GoodP cl X k x φ) (hr : Room k X.A) (hgd : X.A.guards = some []) (hg : Gl X x) (tk : Takes X (WXof cl W)) (ha : PA X (e0 :: es) (rdA W cs)) (hs : shpL (e0 :: es) = true) (hdb : (x == ("__debug__" : Str)) = false) : PE X (.Call (.Name x p2) (e0 :: es) [] p) (rdE W (.call x φ cs)) := by
  obtain ⟨f, fd, ps, G, h1, h2, h3⟩ := g
  unfold shpL at hs
  rw [List.all_cons, Bool.and_eq_true] at hs
  refine PE_imp (pe_callG (E := fun σ => WE (WXof cl W) σ) G hr hgd hg h1 h2 h3 (fun σ => passAt tk σ) ha hdb (star1 hs.1) (stars hs.2)) fun σ H Q q => ?_
  obtain ⟨fx, Γ, s, F, A, R, xc, xk, q⟩ := q
  unfold wE at q
  refine ⟨fx, Γ, s, F, A, R, xc, xk, wA_mono cs (fun ds Γ1 s1 q => ?_) q⟩
  intro xs H1 F1 A1 R1 hx1 sb1 ar
  obtain ⟨Fc, Rc, sbc, rl⟩ := frzA_ok R1 q.1 ar
  refine ⟨Fc, ds, Rc.fh, rl, φ.mono (fun v q => ?_) (fun n q => ?_) q.2⟩
  · intro y H' F' hh ff fh' nf rv
    cases sv : scalV v with
    | true =>
      rw [if_pos sv] at q
      exact q y H' F1 A1 (R1.grow hh) (hx1.trans (HX.grow hh)) sb1 (same_of rv sv F1)
    | false =>
      rw [if_neg (by rw [sv]; exact Bool.false_ne_true)] at q
      obtain ⟨R2, rv2⟩ := R1.called Rc hh ff fh' nf rv
      exact q y H' F' A1 R2 (hx1.trans (HX.grow hh)) ((sb1.trans sbc).trans ff) rv2
  · intro H' hh
    exact ⟨n, rfl, rfl, xk n _ _ _ _ _ _ (Rc.grow hh) q⟩
theorem n_cal0 {cl : Nat → Addr} {φ : Summ} {x : Str} {p p2 : Pos} (g : GoodP cl X k x φ) (hr : Room k X.A) (hgd : X.A.guards = some []) (hg : Gl X x) (hdb : (x == ("__debug__" : Str)) = false) : PE X (.Call (.Name x p2) [] [] p) (rdE W (.cal0 x φ : E rm.S)) := by
  obtain ⟨f, fd, ps, G, h1, h2, h3⟩ := g
  refine PE_imp (pe_callG0 (E := fun σ => WE (WXof cl W0) σ) G hr hgd hg h1 h2 h3 (fun σ => passAt tk0 σ) hdb) fun σ H Q q => ?_
  obtain ⟨fx, Γ, s, F, A, R, xc, xk, q⟩ := q
  unfold wE at q
  refine ⟨F, [], R.fh, .nil, φ.mono (fun v q => ?_) (fun n q => q.elim) q⟩
  intro y H' F' hh ff fh' nf rv
  obtain ⟨R2, rv2⟩ := R.called R hh ff fh' nf rv
  exact q y H' F' A R2 (HX.grow hh) ff rv2
def RVe (H H' F' : Hp) (A' : rm.A) (x : V) : Val → Prop
  | .dat d => Rp F' x d
  | .new xs => ∃ p vs, x = .ref p ∧ H' p = some (.lst vs) ∧ F' p = none ∧ H p = none ∧ ¬ rm.ft A' p ∧ RpL F' vs xs
  | .hdl n => rm.hd A' n x
  | .hds ks => HdsV F' A' x ks
  | .tre ads d => OwT H' ads x d ∧ ∀ a ∈ ads, F' a = none ∧ H a = none ∧ ¬ rm.ft A' a
  | _ => False
/-- the promise of a def with a state -/
def spE (rm : RM) (cl : Nat → Addr) (φ : ESumm rm.S) : Sp := fun vs H Q E => ∃ (F : Hp) (A : rm.A) (s : rm.S) (ws : List Val), Sub F H ∧ (∀ a o, F a = some o → ¬ rm.ft A a) ∧ rm.ok A s H ∧ RHL F A vs ws ∧
  φ.run ws s (fun v s' => ∀ x H' F' A', HX H A H' A' → Sub F F' → Sub F' H' → (∀ a o, F' a = some o → ¬ rm.ft A' a) → (∀ a, H a ≠ none → ¬ rm.ft A a → (∀ vs, H a ≠ some (.tup vs)) → F' a = F a) → rm.ok A' s' H' → RVe H H' F' A' x v → Q x H')
    (fun n s' => ∀ H' A', HX H A H' A' → rm.ok A' s' H' → E (.ref (cl n)) none H')
def GoodE (rm : RM) (cl : Nat → Addr) (X : Cx) (k : Nat) (x : Str) (φ : ESumm rm.S) : Prop := ∃ f fd ps, FnG X.prog X.w X.K X.mg X.base k f fd ps (spE rm cl φ) ∧ X.mg x = some (.ref f) ∧ PySem.W.keepIn X.K (.ref f) = true ∧ Binds X.K fd ps []
/-- the state behind a def with a state -/
theorem SR.after (R1 : SR fx σ H Γ s F A) {H' F' : Hp} {A' : rm.A} {s2 : rm.S} (hxx : HX H A H' A') (ff : Sub F F') (fh' : Sub F' H') (fz' : ∀ a o, F' a = some o → ¬ rm.ft A' a) (nf : ∀ a, H a ≠ none → ¬ rm.ft A a → (∀ vs, H a ≠ some (.tup vs)) → F' a = F a) (okk : rm.ok A' s2 H') : SR fx σ H' Γ s2 F' A' := by
  refine { fh := fh', fz := fz', f0 := R1.f0.trans ff, lk := fun a o e => ?_, a0 := rm.le_trans R1.a0 hxx.1, ok := okk, ln := R1.ln, sl := fun i w e => ?_, dj := R1.dj }
  · obtain ⟨w1, w2, w3⟩ := R1.lk a o e
    obtain ⟨g1, g2⟩ := hxx.2 a o w1 w3
    exact ⟨g1, fun nt => (nf a (by rw [w1]; exact nofun) w3 (fun vs z => by rw [w1] at z; cases z; exact nt vs rfl)).trans (w2 nt), g2⟩
  · obtain ⟨z, e1, e2⟩ := R1.sl i w e
    refine ⟨z, e1, ?_⟩
    cases w with
    | own ys =>
      obtain ⟨a, vs, w1, w2, w3, w4, w5, w6⟩ := e2
      obtain ⟨g1, g2⟩ := hxx.2 a _ w2 w4
      exact ⟨a, vs, w1, g1, (nf a (by rw [w2]; exact nofun) w4 (fun vs z => by rw [w2] at z; cases z)).trans w3, g2, w5, w6.mono ff⟩
    | dat d => exact Rp.mono ff e2
    | hdl n => exact rm.le_hd hxx.1 e2
    | hds ks => exact HdsV.mono e2 ff hxx.1
    | tre ads d => exact ⟨e2.1.mono (fun a vs z => (hxx.2 a _ z (fun n => rm.nt R1.ok n vs z)).1) (fun a ha => by obtain ⟨vs, z⟩ := e2.1.lists a ha; rw [z]; exact (hxx.2 a _ z (e2.2 a ha).2.1).1), fun a ha => by
        obtain ⟨vs, z⟩ := e2.1.lists a ha
        obtain ⟨q1, q2, q3⟩ := e2.2 a ha
        exact ⟨(nf a (by rw [z]; exact nofun) q2 (fun vs y => by rw [z] at y; cases y)).trans q1, (hxx.2 a _ z q2).2, q3⟩⟩
    | shl b =>
      obtain ⟨g1, g2, g3, g4, vs, g5, g6⟩ := e2
      obtain ⟨q1, q2⟩ := hxx.2 b _ g5 g3
      exact ⟨g1, (nf b (by rw [g5]; exact nofun) g3 (fun vs y => by rw [g5] at y; cases y)).trans g2, q2, g4, vs, q1, g6⟩
    | odi b n f =>
      obtain ⟨g1, g2, g3, g4, vs, g5, g6, g7⟩ := e2
      obtain ⟨q1, q2⟩ := hxx.2 b _ g5 g3
      exact ⟨g1, (nf b (by rw [g5]; exact nofun) g3 (fun vs y => by rw [g5] at y; cases y)).trans g2, q2, g4, vs, q1, g6, g7.mono ff⟩
    | new ys => exact e2
theorem SR.afterX (R1 : SR fx σ H Γ s F A) {H' : Hp} {A' : rm.A} {s2 : rm.S} (hxx : HX H A H' A') (okk : rm.ok A' s2 H') : SR fx σ H' Γ s2 F A' :=
  R1.after hxx (Sub.refl F) (fun a o e => (hxx.2 a o (R1.fh a o e) (R1.fz a o e)).1) (fun a o e => (hxx.2 a o (R1.fh a o e) (R1.fz a o e)).2) (fun _ _ _ _ => rfl) okk
/-- the value that a def with a state gives, in the state behind it -/
theorem RVe.rv (R1 : SR fx σ H Γ s F A) {H' F' : Hp} {A' : rm.A} {y : V} {v : Val} (rv : RVe H H' F' A' y v) : RV fx σ H' F' A' Γ y v := by
  cases v with
  | dat d => exact rv
  | hdl n => exact rv
  | hds ks => exact rv
  | new ys =>
    obtain ⟨a, vs, w1, w2, w3, w4, w5, w6⟩ := rv
    exact ⟨a, vs, w1, w2, w3, w5, R1.nL w4, w6, R1.noOwn w4⟩
  | tre ads d => exact ⟨rv.1, fun a ha => ⟨(rv.2 a ha).1, (rv.2 a ha).2.2, R1.nL (rv.2 a ha).2.1, R1.noOwn (rv.2 a ha).2.1⟩⟩
  | _ => exact rv.elim
theorem n_calE {cl : Nat → Addr} {φ : ESumm rm.S} {x : Str} {cs : Es rm.S} {e0 : Expr} {es : List Expr} {p p2 : Pos} (g : GoodE rm cl X k x φ) (hr : Room k X.A) (hgd : X.A.guards = some []) (hg : Gl X x) (tk : Takes X (WXof cl W)) (ha : PA X (e0 :: es) (rdV W cs)) (hs : shpL (e0 :: es) = true) (hdb : (x == ("__debug__" : Str)) = false) : PE X (.Call (.Name x p2) (e0 :: es) [] p) (rdE W (.calE x φ cs)) := by
  obtain ⟨f, fd, ps, G, h1, h2, h3⟩ := g
  unfold shpL at hs
  rw [List.all_cons, Bool.and_eq_true] at hs
  refine PE_imp (pe_callG (E := fun σ => WE (WXof cl W) σ) G hr hgd hg h1 h2 h3 (fun σ => passAt tk σ) ha hdb (star1 hs.1) (stars hs.2)) fun σ H Q q => ?_
  obtain ⟨fx, Γ, s, F, A, R, xc, xk, q⟩ := q
  unfold wE at q
  refine ⟨fx, Γ, s, F, A, R, xc, xk, wV_mono cs (fun vs Γ1 s1 q => ?_) q⟩
  intro xs H1 F1 A1 R1 hx1 sb1 ar
  refine ⟨F1, A1, s1, vs, R1.fh, R1.fz, R1.ok, ar, φ.mono (fun v s2 q => ?_) (fun n s2 q => ?_) q⟩
  · intro y H' F' A' hxx ff fh' fz' nf okk rv
    refine q y H' F' A' (R1.after hxx ff fh' fz' nf okk) (hx1.trans hxx) (sb1.trans ff) ?_
    exact RVe.rv R1 rv
  · intro H' A' hxx okk
    exact ⟨n, rfl, rfl, xk n _ _ _ _ _ _ (R1.afterX hxx okk) q⟩
/-! ### methods of data; a list's pop -/
theorem n_d0 {p : Pos} : PE X (.Dict [] [] p) (rdE W (.d0 : E rm.S)) := by
  refine PE_imp pe_dnewK fun σ H Q q => ?_
  obtain ⟨fx, Γ, s, F, A, R, xc, xk, q⟩ := q
  unfold wE at q
  intro p hp
  exact q (.ref p) _ (upd F p (.dK [])) A (R.lay hp) (R.hx hp) (upd_sub (R.nF hp)) (Rp.dic upd_same .nil)
/-! ### what is walked -/
def rdI (W : WN) (it : It rm.S) : TI := fun σ H R => ∃ (fx : Fx rm) (Γ : Ctx) (s : rm.S) (F : Hp) (A : rm.A), SR fx σ H Γ s F A ∧ ∃ xc, XcOk W fx xc ∧
  wI xc it Γ s fun xs Γ' s' => ∀ J H' F' A' G, SR fx σ H' Γ' s' F' A' → HX H A H' A' → Sub F F' → (∀ a o, G a = some o → H' a = some o ∧ ¬ rm.ft A' a) → Yl J G F' xs → R J H'
def rdJ (W : WN) (it : It rm.S) : TI := fun σ H R => ∃ (fx : Fx rm) (Γ : Ctx) (s : rm.S) (F : Hp) (A : rm.A), SR fx σ H Γ s F A ∧ ∃ xc, XcOk W fx xc ∧
  wJ xc it Γ s fun xs Γ' s' => ∀ J H' F' A', SR fx σ H' Γ' s' F' A' → HX H A H' A' → Sub F F' → Yl J F' F' xs → R J H'
theorem sq_inj {K : PySem.W.Frag} {pins : List (Addr × Obj)} {sh : Shared} : True := trivial
/-- the one cell, and no more -/
def one (a : Addr) (o : HO) : Hp := fun b => if b = a then some o else none
theorem one_sub {a : Addr} {o : HO} {H : Hp} (h : H a = some o) : Sub (one a o) H := fun b u e => by
  unfold one at e
  split at e
  · rename_i z; subst z; cases e; exact h
  · cases e
theorem one_same {a : Addr} {o : HO} : one a o a = some o := by unfold one; rw [if_pos rfl]
theorem two_sub {G1 G2 H : Hp} (h1 : Sub G1 H) (h2 : Sub G2 H) : Sub (fun b => match G1 b with | some o => some o | none => G2 b) H := fun b u e => by
  dsimp only at e
  split at e
  · rename_i o z; cases e; exact h1 b _ z
  · exact h2 b u e
/-- a list as it is read in the heap, without the model -/
theorem rd_l {K : PySem.W.Frag} {a : Addr} {vs : List V} (h : Rd H a (.lst vs)) : SqL K H a vs := .inl h
end
end Ac
namespace Ac
open PySem PySem.Spec PyProof.Rows L2
section
variable {rm : RM} {X : Cx} {k : Nat} {t : Sx} {W : WN} {fx : Fx rm} {xc : Nat → Ctx → rm.S → Prop} {σ : L2.St} {H F : Hp} {Γ : Ctx} {s : rm.S} {A : rm.A}
/-- a list or a tuple is walked -/
def iSeq (K : PySem.W.Frag) (tl : TE) : TI := fun σ H R => tl σ H fun x H1 => (∃ a, x = .ref a ∧ (∃ xs, SqL K H1 a xs) ∧ R (Itl K a) H1) ∨ (∃ a, x = .ref a ∧ (∃ xs, SqT K H1 a xs) ∧ R (Itt K a) H1) ∨ ∃ z, x = .str z ∧ R (Its z) H1
theorem pi_seq {tg l : Expr} {tl : TE} (hl : PE X l tl) : PI X tg l (iSeq X.K tl) := by
  refine ⟨fun pins s σ H R I h => ?_⟩
  refine thn (hl.run pins s σ H _ I h) fun v s1 ⟨x, H1, I1, r1, q1⟩ => ?_
  have fp : ∀ b ∈ [s1.heap.objs.size], FpOk X pins H1 b := fun b hb => by
    have e : b = s1.heap.objs.size := by simpa using hb
    subst e
    exact I1.fpOk (Nat.le_refl _) (I1.hok.fresh (Nat.le_refl _))
  rcases q1 with ⟨a, rfl, ⟨xs, hq⟩, q⟩ | ⟨a, rfl, ⟨xs, hq⟩, q⟩ | ⟨z, rfl, q⟩
  · cases r1
    obtain ⟨its, rv, p, hz⟩ := I1.list hq
    refine wpAny_pyIter_list p.isList ?_
    exact ⟨s1.heap.objs.size, [s1.heap.objs.size], _, _, H1, rfl, I1.kept (t' := s1.toks) fun b o e => Heap.get?_push_of_some _ e, turn_list a _, ⟨_, Heap.get?_push_size _ rfl, rfl, rfl⟩, fp, q⟩
  · cases r1
    obtain ⟨its, rv, p, hz⟩ := I1.tuple hq
    refine wpAny_pyIter_tuple (show s1.heap.IsTuple a its.toArray from p) ?_
    exact ⟨s1.heap.objs.size, [s1.heap.objs.size], _, _, H1, rfl, I1.kept (t' := s1.toks) fun b o e => Heap.get?_push_of_some _ e, turn_tuple a _, ⟨_, Heap.get?_push_size _ rfl, rfl, rfl⟩, fp, q⟩
  · obtain ⟨t, rfl⟩ := r1
    cases ha : z.cps.all (· < 128)
    · exact wpAny_pyIter_wide ha (pi_one (tk := s1.toks) I1 _ (turn_str _ z t "str_iterator" (.inr rfl)) ⟨_, Heap.get?_push_size _ rfl, rfl, rfl⟩ q)
    · exact wpAny_pyIter_ascii ha (pi_one (tk := s1.toks) I1 _ (turn_str _ z t "str_ascii_iterator" (.inl rfl)) ⟨_, Heap.get?_push_size _ rfl, rfl, rfl⟩ q)
theorem lstD_some {d : D} {k : List D → Prop} (h : lstD d k) : ∃ xs, d = .list xs ∧ k xs := by
  cases d <;> first | exact ⟨_, rfl, h⟩ | exact h.elim
/-! ### yields -/
theorem get_lt {α : Type} {l : List α} {i : Nat} (h : i < l.length) : ∃ x, l[i]? = some x := ⟨l[i], List.getElem?_eq_getElem h⟩
theorem yl_list {K : PySem.W.Frag} {G : Hp} {a : Addr} {vs : List V} {ds : List D} (h : Rd G a (.lst vs)) (r : RpL F vs ds) : Yl (Itl K a) G F ds := fun i H2 sb => by
  have hq : SqL K H2 a vs := .inl (sb.rd h)
  refine ⟨fun hi => ?_, fun hi => ⟨vs, hq, by rw [r.length, hi]; exact Nat.le_refl _⟩⟩
  obtain ⟨v, hv⟩ := get_lt (l := vs) (i := i) (by rw [r.length]; exact hi)
  refine ⟨⟨vs, v, hq, hv⟩, fun x H3 y => ?_⟩
  obtain ⟨e, y⟩ := y
  obtain ⟨d, hd, rp⟩ := r.get' (y vs hq)
  exact ⟨d, hd, .inl ⟨e, rp⟩⟩
theorem yl_tup {K : PySem.W.Frag} {G : Hp} {a : Addr} {vs : List V} {ds : List D} (h : G a = some (.tup vs)) (r : RpL F vs ds) : Yl (Itt K a) G F ds := fun i H2 sb => by
  have hq : SqT K H2 a vs := .inl (.inl (sb _ _ h))
  refine ⟨fun hi => ?_, fun hi => ⟨vs, hq, by rw [r.length, hi]; exact Nat.le_refl _⟩⟩
  obtain ⟨v, hv⟩ := get_lt (l := vs) (i := i) (by rw [r.length]; exact hi)
  refine ⟨⟨vs, v, hq, hv⟩, fun x H3 y => ?_⟩
  obtain ⟨e, y⟩ := y
  obtain ⟨d, hd, rp⟩ := r.get' (y vs hq)
  exact ⟨d, hd, .inl ⟨e, rp⟩⟩
theorem yl_str {G : Hp} {z : Str} : Yl (Its z) G F (signsD z) := fun i H2 sb => by
  have hl : (signsD z).length = z.cps.size := by unfold signsD; rw [List.length_map, Array.length_toList]
  refine ⟨fun hi => ?_, fun hi => ?_⟩
  · rw [hl] at hi
    refine ⟨hi, fun x H3 y => ?_⟩
    obtain ⟨e, c, hc, rfl⟩ := y
    refine ⟨signD c, ?_, .inl ⟨e, .str _⟩⟩
    unfold signsD
    rw [List.getElem?_map, Array.getElem?_toList, hc]
    rfl
  · rw [hl] at hi
    exact Nat.le_of_eq hi.symm
theorem yl_rng {G : Hp} {lo : Int} {n : Nat} {f : Nat → D} (hf : ∀ i, f i = .int (lo + (i : Nat))) : Yl (Itr lo n) G F ((List.range n).map f) := fun i H2 sb => by
  refine ⟨fun hi => ?_, fun hi => ?_⟩
  · rw [List.length_map, List.length_range] at hi
    refine ⟨hi, fun x H3 y => ?_⟩
    obtain ⟨e, rfl⟩ := y
    refine ⟨_, ?_, .inl ⟨e, .int _⟩⟩
    rw [List.getElem?_map, List.getElem?_range hi]
    show some (f i) = _
    rw [hf]
  · rw [List.length_map, List.length_range] at hi
    exact Nat.le_of_eq hi.symm
theorem yl_rngc {G : Hp} {lo c : Int} {n : Nat} : Yl (Itc lo c n) G F ((List.range n).map fun i => .int (lo + (i : Nat) * c)) := fun i H2 sb => by
  refine ⟨fun hi => ?_, fun hi => ?_⟩
  · rw [List.length_map, List.length_range] at hi
    refine ⟨hi, fun x H3 y => ?_⟩
    obtain ⟨e, rfl⟩ := y
    refine ⟨_, ?_, .inl ⟨e, .int _⟩⟩
    rw [List.getElem?_map, List.getElem?_range hi]
    rfl
  · rw [List.length_map, List.length_range] at hi
    exact Nat.le_of_eq hi.symm
theorem enumD_len (xs : List D) : (enumD xs).length = xs.length := by unfold enumD; rw [List.length_map, List.length_zipIdx]
theorem enumD_get {xs : List D} {i : Nat} {d : D} (h : xs[i]? = some d) : (enumD xs)[i]? = some (.tuple [.int (i : Nat), d]) := by
  unfold enumD
  rw [List.getElem?_map, List.getElem?_zipIdx, h]
  simp
theorem yl_enum {K : PySem.W.Frag} {G : Hp} {a : Addr} {vs : List V} {ds : List D} (h : Rd G a (.lst vs)) (r : RpL F vs ds) : Yl (Ite K a) G F (enumD ds) := fun i H2 sb => by
  have hq : SqL K H2 a vs := .inl (sb.rd h)
  refine ⟨fun hi => ?_, fun hi => ⟨vs, hq, by rw [r.length, hi, enumD_len]; exact Nat.le_refl _⟩⟩
  rw [enumD_len] at hi
  obtain ⟨v, hv⟩ := get_lt (l := vs) (i := i) (by rw [r.length]; exact hi)
  refine ⟨⟨vs, v, hq, hv⟩, fun x H3 y => ?_⟩
  obtain ⟨T, y, e1, e2, e3, e4⟩ := y
  obtain ⟨d, hd, rp⟩ := r.get' (e4 vs hq)
  exact ⟨_, enumD_get hd, .inr ⟨T, _, _, e2, e3, e1, rfl, .cons (.int _) (.cons rp .nil)⟩⟩
theorem zipD_get {xs ys : List D} {i : Nat} {d e : D} (h : xs[i]? = some d) (h2 : ys[i]? = some e) : (zipD xs ys)[i]? = some (.tuple [d, e]) := by
  unfold zipD
  rw [List.getElem?_map, List.getElem?_zip_eq_some (z := (d, e)) |>.mpr ⟨h, h2⟩]
  rfl
theorem zipD_len (xs ys : List D) : (zipD xs ys).length = min xs.length ys.length := by unfold zipD; rw [List.length_map, List.length_zip]
theorem yl_zip {K : PySem.W.Frag} {G : Hp} {a b : Addr} {vs ws : List V} {ds es : List D} (h : Rd G a (.lst vs)) (h2 : Rd G b (.lst ws)) (r : RpL F vs ds) (r2 : RpL F ws es) : Yl (Itz K a b) G F (zipD ds es) := fun i H2 sb => by
  have hq : SqL K H2 a vs := .inl (sb.rd h)
  have hq2 : SqL K H2 b ws := .inl (sb.rd h2)
  refine ⟨fun hi => ?_, fun hi => ⟨vs, ws, hq, hq2, ?_⟩⟩
  · rw [zipD_len] at hi
    obtain ⟨v, hv⟩ := get_lt (l := vs) (i := i) (by rw [r.length]; omega)
    obtain ⟨w, hw⟩ := get_lt (l := ws) (i := i) (by rw [r2.length]; omega)
    refine ⟨⟨vs, ws, v, w, hq, hq2, hv, hw⟩, fun x H3 y => ?_⟩
    obtain ⟨T, y, z, e1, e2, e3, e4, e5⟩ := y
    obtain ⟨d, hd, rp⟩ := r.get' (e4 vs hq)
    obtain ⟨d', hd', rp'⟩ := r2.get' (e5 ws hq2)
    exact ⟨_, zipD_get hd hd', .inr ⟨T, _, _, e2, e3, e1, rfl, .cons rp (.cons rp' .nil)⟩⟩
  · rw [zipD_len] at hi
    rw [r.length, r2.length]
    omega
theorem Ro.lstG {x : V} {ds : List D} (R : SR fx σ H Γ s F A) (h : Ro H F A x (.list ds)) : ∃ a vs G, x = V.ref a ∧ Rd G a (.lst vs) ∧ RpL F vs ds ∧ ∀ b o, G b = some o → H b = some o ∧ ¬ rm.ft A b := by
  rcases h with h | ⟨a, vs, ds', e1, e2, e3, e4, e5⟩
  · cases h with
    | lst h r => exact ⟨_, _, F, rfl, h, r, fun b o e => ⟨R.fh b o e, R.fz b o e⟩⟩
  · cases e2
    refine ⟨a, vs, one a (.lst vs), e1, .inl one_same, e5, fun b o e => ⟨one_sub e3 b o e, ?_⟩⟩
    unfold one at e
    split at e
    · rename_i z; subst z; exact e4
    · cases e
/-! ### walks in a comprehension -/
theorem n_iSeq {c : E rm.S} {e tg : Expr} (h : PE X e (rdP W c)) : PI X tg e (rdI W (.seq c)) := by
  refine PI_imp (pi_seq h) fun σ H R q => ?_
  obtain ⟨fx, Γ, s, F, A, R1, xc, xk, q⟩ := q
  unfold wI at q
  refine ⟨fx, Γ, s, F, A, R1, xc, xk, opnE_mono c (fun d Γ1 s1 q => ?_) q⟩
  intro x H1 F1 A1 R1 hx1 sb1 ro1
  unfold seqD at q
  split at q
  · obtain ⟨a, vs, G, e1, e2, e3, e4⟩ := ro1.1.lstG R1
    exact .inl ⟨a, e1, ⟨vs, .inl ((show Sub G H1 from fun b o e => (e4 b o e).1).rd e2)⟩, q _ H1 F1 A1 G R1 hx1 sb1 e4 (yl_list e2 e3)⟩
  · obtain ⟨a, vs, e1, e2, e3⟩ := ro1.1.tup
    exact .inr (.inl ⟨a, e1, ⟨vs, .inl (.inl (R1.fh _ _ e2))⟩, q _ H1 F1 A1 F1 R1 hx1 sb1 (fun b o e => ⟨R1.fh b o e, R1.fz b o e⟩) (yl_tup e2 e3)⟩)
  · exact .inr (.inr ⟨_, flat_str ro1.1, q _ H1 F1 A1 F1 R1 hx1 sb1 (fun b o e => ⟨R1.fh b o e, R1.fz b o e⟩) yl_str⟩)
  · exact q.elim
theorem ArgL.cons' {c : E rm.S} {r : Es rm.S} {xs : List V} {ds : List D} (h : ArgL σ H F A (.cons c r) xs ds) : ∃ x xs' d ds', xs = x :: xs' ∧ ds = d :: ds' ∧ RoC c σ H F A x d ∧ ArgL σ H F A r xs' ds' := by
  cases xs with
  | nil => exact h.elim
  | cons x xs' =>
    cases ds with
    | nil => exact h.elim
    | cons d ds' => exact ⟨x, xs', d, ds', rfl, rfl, h.1, h.2⟩
theorem ArgL.nil' {xs : List V} {ds : List D} (h : ArgL σ H F A (.nil : Es rm.S) xs ds) : xs = [] ∧ ds = [] := by
  cases xs with
  | cons x xs' => exact h.elim
  | nil =>
    cases ds with
    | cons d ds' => exact h.elim
    | nil => exact ⟨rfl, rfl⟩
theorem ArgL.one {c : E rm.S} {xs : List V} {ds : List D} (h : ArgL σ H F A (.cons c .nil) xs ds) : ∃ x d, xs = [x] ∧ ds = [d] ∧ Ro H F A x d := by
  obtain ⟨x, xs, d, ds, rfl, rfl, h1, h⟩ := h.cons'
  obtain ⟨rfl, rfl⟩ := h.nil'
  exact ⟨x, d, rfl, rfl, h1.1⟩
theorem ArgL.two {c c2 : E rm.S} {xs : List V} {ds : List D} (h : ArgL σ H F A (.cons c (.cons c2 .nil)) xs ds) : ∃ x d y e, xs = [x, y] ∧ ds = [d, e] ∧ Ro H F A x d ∧ Ro H F A y e := by
  obtain ⟨x, xs, d, ds, rfl, rfl, h1, h⟩ := h.cons'
  obtain ⟨y, e, rfl, rfl, h2⟩ := h.one
  exact ⟨x, d, y, e, rfl, rfl, h1.1, h2⟩
theorem ArgL.three {c c2 c3 : E rm.S} {xs : List V} {ds : List D} (h : ArgL σ H F A (.cons c (.cons c2 (.cons c3 .nil))) xs ds) : ∃ x d y e z f, xs = [x, y, z] ∧ ds = [d, e, f] ∧ Ro H F A x d ∧ Ro H F A y e ∧ Ro H F A z f := by
  obtain ⟨x, xs, d, ds, rfl, rfl, h1, h⟩ := h.cons'
  obtain ⟨y, e, z, f, rfl, rfl, h2, h3⟩ := h.two
  exact ⟨x, d, y, e, z, f, rfl, rfl, h1.1, h2, h3⟩
/-- range(..), whatever follows -/
theorem rng1_rd {c : E rm.S} {R : L2.It → Hp → Prop} {Pq : List D → Ctx → rm.S → Prop} (R0 : SR fx σ H Γ s F A) (xk : XcOk W fx xc) (q : wA xc (.cons c .nil) Γ s fun ds Γ1 s1 => rngD ds fun xs => Pq xs Γ1 s1)
    (hp : ∀ xs Γ' s', Pq xs Γ' s' → ∀ J H' F' A', SR fx σ H' Γ' s' F' A' → HX H A H' A' → Sub F F' → (∀ G F2, Yl J G F2 xs) → R J H') : iRng1 (rdA W (.cons c .nil)) σ H R := by
  refine ⟨fx, Γ, s, F, A, R0, xc, xk, wA_mono _ (fun ds Γ1 s1 q => ?_) q⟩
  intro xs H1 F1 A1 R1 hx1 sb1 ar
  obtain ⟨x, d, rfl, rfl, ro⟩ := ar.one
  unfold rngD at q
  split at q
  · rename_i n z
    cases z
    exact ⟨n, by rw [flat_int ro], q.1.1, q.1.2, hp _ _ _ q.2 _ H1 F1 A1 R1 hx1 sb1 fun G F2 => yl_rng fun i => by rw [Int.zero_add]⟩
  · rename_i z; cases z
  · rename_i z; cases z
  · exact q.elim
theorem rng2_rd {c c2 : E rm.S} {R : L2.It → Hp → Prop} {Pq : List D → Ctx → rm.S → Prop} (R0 : SR fx σ H Γ s F A) (xk : XcOk W fx xc) (q : wA xc (.cons c (.cons c2 .nil)) Γ s fun ds Γ1 s1 => rngD ds fun xs => Pq xs Γ1 s1)
    (hp : ∀ xs Γ' s', Pq xs Γ' s' → ∀ J H' F' A', SR fx σ H' Γ' s' F' A' → HX H A H' A' → Sub F F' → (∀ G F2, Yl J G F2 xs) → R J H') : iRng2 (rdA W (.cons c (.cons c2 .nil))) σ H R := by
  refine ⟨fx, Γ, s, F, A, R0, xc, xk, wA_mono _ (fun ds Γ1 s1 q => ?_) q⟩
  intro xs H1 F1 A1 R1 hx1 sb1 ar
  obtain ⟨x, d, y, e, rfl, rfl, ro, ro2⟩ := ar.two
  unfold rngD at q
  split at q
  · rename_i z; cases z
  · rename_i n m z
    cases z
    exact ⟨n, m, by rw [flat_int ro, flat_int ro2], q.1, hp _ _ _ q.2 _ H1 F1 A1 R1 hx1 sb1 fun G F2 => yl_rng fun i => rfl⟩
  · rename_i z; cases z
  · exact q.elim
theorem rng3_rd {c c2 c3 : E rm.S} {R : L2.It → Hp → Prop} {Pq : List D → Ctx → rm.S → Prop} (R0 : SR fx σ H Γ s F A) (xk : XcOk W fx xc) (q : wA xc (.cons c (.cons c2 (.cons c3 .nil))) Γ s fun ds Γ1 s1 => rngD ds fun xs => Pq xs Γ1 s1)
    (hp : ∀ xs Γ' s', Pq xs Γ' s' → ∀ J H' F' A', SR fx σ H' Γ' s' F' A' → HX H A H' A' → Sub F F' → (∀ G F2, Yl J G F2 xs) → R J H') : iRng3 (rdA W (.cons c (.cons c2 (.cons c3 .nil)))) σ H R := by
  refine ⟨fx, Γ, s, F, A, R0, xc, xk, wA_mono _ (fun ds Γ1 s1 q => ?_) q⟩
  intro xs H1 F1 A1 R1 hx1 sb1 ar
  obtain ⟨x, d, y, e, z', f, rfl, rfl, ro, ro2, ro3⟩ := ar.three
  unfold rngD at q
  split at q
  · rename_i z; cases z
  · rename_i z; cases z
  · rename_i n m l z
    cases z
    obtain ⟨q0, q1, q2⟩ := q
    subst q0
    exact ⟨n, m, -1, (n - m).toNat, by rw [flat_int ro, flat_int ro2, flat_int ro3], RgC.neg q1.1 q1.2.1 q1.2.2.1 q1.2.2.2, hp _ _ _ q2 _ H1 F1 A1 R1 hx1 sb1 fun G F2 => yl_rngc⟩
  · exact q.elim
theorem nogc {H' : Hp} {A' : rm.A} : ∀ a o, (fun _ => none : Hp) a = some o → H' a = some o ∧ ¬ rm.ft A' a := fun a o e => nomatch e
theorem n_iEnu {c : E rm.S} {e : Expr} {elts : List Expr} {kk : Nat} {tp p p2 : Pos} (hg : Gl X "enumerate") (hm : X.mg "enumerate" = none) (h : PE X e (rdP W c)) (hs : shp e = true) : PI X (.Tuple elts kk tp) (.Call (.Name "enumerate" p2) [e] [] p) (rdI W (.enu c)) := by
  refine PI_imp (pi_enum hg hm (pa_cons h pa_nil (star1 hs)) (star1 hs)) fun σ H R q => ?_
  obtain ⟨fx, Γ, s, F, A, R1, xc, xk, q⟩ := q
  unfold wI at q
  refine ⟨fx, Γ, s, F, A, R1, xc, xk, opnE_mono c (fun d Γ1 s1 q => ?_) q⟩
  intro x H1 F1 A1 R1 hx1 sb1 ro1
  unfold lstD at q
  split at q
  · obtain ⟨a, vs, G, e1, e2, e3, e4⟩ := ro1.1.lstG R1
    exact ⟨a, vs, by rw [e1], .inl ((show Sub G H1 from fun b o e => (e4 b o e).1).rd e2), q _ H1 F1 A1 G R1 hx1 sb1 e4 (yl_enum e2 e3)⟩
  · exact q.elim
theorem n_iZip {c c2 : E rm.S} {e e2 : Expr} {elts : List Expr} {kk : Nat} {tp p p2 : Pos} (hg : Gl X "zip") (hm : X.mg "zip" = none) (h : PE X e (rdP W c)) (h2 : PE X e2 (rdP W c2)) (hs : shp e = true) (hs2 : shp e2 = true) : PI X (.Tuple elts kk tp) (.Call (.Name "zip" p2) [e, e2] [] p) (rdI W (.zip c c2)) := by
  refine PI_imp (pi_zip hg hm (pa_cons h (pa_cons h2 pa_nil (star1 hs2)) (star1 hs)) (star1 hs) (stars (by unfold shpL; rw [List.all_cons, hs2]; rfl))) fun σ H R q => ?_
  obtain ⟨fx, Γ, s, F, A, R1, xc, xk, q⟩ := q
  unfold wI at q
  refine ⟨fx, Γ, s, F, A, R1, xc, xk, opnE_mono c (fun d Γ1 s1 q => ?_) q⟩
  intro x H1 F1 A1 R1 hx1 sb1 ro1
  refine ⟨fx, Γ1, s1, F1, A1, R1, xc, xk, opnE_mono c2 (fun d2 Γ2 s2 q => ?_) q⟩
  intro y H2 F2 A2 R2 hx2 sb2 ro2
  obtain ⟨xs, ex, qx⟩ := lstD_some q
  obtain ⟨ys, ey, qy⟩ := lstD_some qx
  subst ex ey
  · obtain ⟨a, vs, G, e1, e2, e3, e4⟩ := (ro1.1.mono hx2 sb2).lstG R2
    obtain ⟨b, ws, G', f1, f2, f3, f4⟩ := ro2.1.lstG R2
    have s1 : Sub G H2 := fun b o e => (e4 b o e).1
    have s2 : Sub G' H2 := fun b o e => (f4 b o e).1
    have nx : ∀ b o, (fun b => match G b with | some o => some o | none => G' b : Hp) b = some o → H2 b = some o ∧ ¬ rm.ft A2 b := fun b o e => by
      dsimp only at e
      split at e
      · rename_i z; cases e; exact e4 b _ z
      · exact f4 b o e
    have g1 : Sub G (fun b => match G b with | some o => some o | none => G' b : Hp) := fun b o e => by dsimp only; rw [e]
    have g2 : Rd (fun b => match G b with | some o => some o | none => G' b : Hp) b (.lst ws) := by
      rcases f2 with f2 | ⟨o, f2⟩
      · cases z : G b with
        | none => left; dsimp only; rw [z]; exact f2
        | some o =>
          have h3 := s1 b o z
          rw [s2 _ _ f2] at h3
          cases h3
          left; dsimp only; rw [z]
      · cases z : G b with
        | none => right; exact ⟨o, by dsimp only; rw [z]; exact f2⟩
        | some o' =>
          have h3 := s1 b o' z
          rw [s2 _ _ f2] at h3
          cases h3
          right; exact ⟨o, by dsimp only; rw [z]⟩
    exact ⟨a, b, vs, ws, by rw [e1, f1], .inl (s1.rd e2), .inl (s2.rd f2), qy _ H2 F2 A2 _ R2 (hx1.trans hx2) (sb1.trans sb2) nx (yl_zip (g1.rd e2) g2 e3 f3)⟩
end
end Ac
namespace Ac
open PySem PySem.Spec PyProof.Rows L2
section
variable {rm : RM} {X : Cx} {k : Nat} {t : Sx} {W : WN} {fx : Fx rm} {xc : Nat → Ctx → rm.S → Prop} {σ : L2.St} {H F : Hp} {Γ : Ctx} {s : rm.S} {A : rm.A}
/-! ### slots wiped -/
theorem wipe_in {σ : L2.St} {i : Nat} : ∀ {vs : List Nat}, i ∈ vs → i < σ.length → (wipe σ vs)[i]? = some none
  | v :: vs, h, hl => by
    unfold wipe
    by_cases e : v = i
    · subst e
      rw [List.getElem?_set_self (by rw [wipe_length]; exact hl)]
    · rw [List.getElem?_set_ne e]
      exact wipe_in (by cases h with | head => exact absurd rfl e | tail _ h => exact h) hl
theorem wipe_ext {σ τ : L2.St} {vs : List Nat} (hl : σ.length = τ.length) (h : ∀ i, i ∉ vs → σ[i]? = τ[i]?) : wipe σ vs = wipe τ vs := by
  apply List.ext_getElem?
  intro i
  by_cases hi : i ∈ vs
  · by_cases hi2 : i < σ.length
    · rw [wipe_in hi hi2, wipe_in hi (by rw [← hl]; exact hi2)]
    · rw [List.getElem?_eq_none (by rw [wipe_length]; omega), List.getElem?_eq_none (by rw [wipe_length]; omega)]
  · rw [wipe_out hi, wipe_out hi, h i hi]
theorem wipe_set {σ : L2.St} {vs : List Nat} {i : Nat} {x : Option V} (h : i ∈ vs) : wipe (σ.set i x) vs = wipe σ vs :=
  wipe_ext (by rw [List.length_set]) fun j hj => by rw [List.getElem?_set_ne (fun e => hj (by rw [← e]; exact h))]
theorem wipe_wipe {σ : L2.St} {vs : List Nat} : wipe (wipe σ vs) vs = wipe σ vs := wipe_ext (wipe_length σ vs) fun i hi => wipe_out hi
theorem wipeG_length : ∀ {vs : List Nat} {Γ : Ctx}, (wipeG vs Γ).length = Γ.length
  | [], _ => rfl
  | v :: vs, Γ => by
    show (put (wipeG vs Γ) v none).length = _
    rw [put_length, wipeG_length]
theorem look_wipeG : ∀ {vs : List Nat} {Γ : Ctx} {i : Nat} {v : Val}, look (wipeG vs Γ) i = some v → i ∉ vs ∧ look Γ i = some v
  | [], _, _, _, h => ⟨nofun, h⟩
  | w :: vs, Γ, i, v, h => by
    have h' : look (put (wipeG vs Γ) w none) i = some v := h
    rcases look_put h' with ⟨_, z⟩ | ⟨ne, h2⟩
    · cases z
    · obtain ⟨h3, h4⟩ := look_wipeG h2
      exact ⟨fun m => by cases m with | head => exact ne rfl | tail _ m => exact h3 m, h4⟩
theorem ownA_wipe {σ : L2.St} {Γ : Ctx} {vs : List Nat} {i : Nat} {a : Addr} (h : ownA (L2.wipe σ vs) (wipeG vs Γ) i a) : ownA σ Γ i a := by
  cases e : look (wipeG vs Γ) i with
  | none => unfold ownA at h; rw [e] at h; exact h.elim
  | some v =>
    obtain ⟨h1, h2⟩ := look_wipeG e
    unfold ownA at h ⊢
    rw [e, wipe_out h1] at h
    rw [h2]
    exact h
theorem SR.wipe (R : SR fx σ H Γ s F A) (vs : List Nat) : SR fx (L2.wipe σ vs) H (wipeG vs Γ) s F A where
  fh := R.fh
  fz := R.fz
  f0 := R.f0
  lk := R.lk
  a0 := R.a0
  ok := R.ok
  ln := by rw [wipeG_length, wipe_length]; exact R.ln
  sl := fun i v e => by
    obtain ⟨h1, h2⟩ := look_wipeG e
    obtain ⟨x, h3, h4⟩ := R.sl i v h2
    exact ⟨x, by rw [wipe_out h1]; exact h3, h4⟩
  dj := fun i j a s1 s2 => R.dj i j a (ownA_wipe s1) (ownA_wipe s2)
theorem backG_length {Γ0 : Ctx} : ∀ {vs : List Nat} {Γ : Ctx}, (backG Γ0 vs Γ).length = Γ.length
  | [], _ => rfl
  | v :: vs, Γ => by
    show (put (backG Γ0 vs Γ) v _).length = _
    rw [put_length, backG_length]
theorem look_backG {Γ0 : Ctx} : ∀ {vs : List Nat} {Γ : Ctx} {i : Nat} {v : Val}, look (backG Γ0 vs Γ) i = some v → (i ∈ vs ∧ look Γ0 i = some v ∧ stayV v) ∨ (i ∉ vs ∧ look Γ i = some v)
  | [], _, _, _, h => .inr ⟨nofun, h⟩
  | w :: vs, Γ, i, v, h => by
    have h' : look (put (backG Γ0 vs Γ) w (backV (look Γ0 w))) i = some v := h
    rcases look_put h' with ⟨e, z⟩ | ⟨ne, h2⟩
    · subst e
      left
      refine ⟨List.mem_cons_self, ?_⟩
      cases e : look Γ0 i with
      | none => rw [e] at z; cases z
      | some w =>
        rw [e] at z
        cases w <;> first | (cases z; exact ⟨rfl, trivial⟩) | cases z
    · rcases look_backG h2 with ⟨h3, h4⟩ | ⟨h3, h4⟩
      · exact .inl ⟨List.mem_cons_of_mem _ h3, h4⟩
      · exact .inr ⟨fun m => by cases m with | head => exact ne rfl | tail _ m => exact h3 m, h4⟩
theorem ownA_back {σ : L2.St} {Γ0 Γ : Ctx} {vs : List Nat} {i : Nat} {a : Addr} (h : ownA σ (backG Γ0 vs Γ) i a) : ownA (L2.wipe σ vs) Γ i a := by
  cases e : look (backG Γ0 vs Γ) i with
  | none => unfold ownA at h; rw [e] at h; exact h.elim
  | some v =>
    rcases look_backG e with ⟨_, _, h3⟩ | ⟨h1, h2⟩
    · unfold ownA at h
      rw [e] at h
      cases v with
      | own xs => exact h3.elim
      | tre ads d => exact h3.elim
      | shl b => exact h3.elim
      | odi b n f => exact h3.elim
      | _ => exact h.elim
    · unfold ownA at h ⊢
      rw [e] at h
      rw [h2, wipe_out h1]
      exact h
/-- the names that were hidden are back -/
theorem SR.back {H1 F1 : Hp} {Γ1 : Ctx} {s1 : rm.S} {A1 : rm.A} {vs : List Nat} (R1 : SR fx σ H1 Γ1 s1 F1 A1) (R : SR fx (L2.wipe σ vs) H Γ s F A) (hx : HX H1 A1 H A) (sb : Sub F1 F) : SR fx σ H (backG Γ1 vs Γ) s F A where
  fh := R.fh
  fz := R.fz
  f0 := R.f0
  lk := R.lk
  a0 := R.a0
  ok := R.ok
  ln := by rw [backG_length, R.ln, wipe_length]
  sl := fun i v e => by
    rcases look_backG e with ⟨_, h2, h3⟩ | ⟨h1, h2⟩
    · obtain ⟨x, h4, h5⟩ := R1.sl i v h2
      refine ⟨x, h4, ?_⟩
      cases v with
      | dat d => exact Rp.mono sb h5
      | new xs => exact h5
      | hdl n => exact rm.le_hd hx.1 h5
      | hds ks => exact HdsV.mono h5 sb hx.1
      | _ => exact h3.elim
    · obtain ⟨x, h4, h5⟩ := R.sl i v h2
      rw [wipe_out h1] at h4
      exact ⟨x, h4, h5⟩
  dj := fun i j a s1 s2 => R.dj i j a (ownA_back s1) (ownA_back s2)
/-! ### a thing aside, that a loop fills -/
def fxL (fx : Fx rm) (p : Addr) (o : HO) : Fx rm := { fx with L := upd fx.L p o }
theorem fxL_none {fx : Fx rm} {p a : Addr} {o : HO} (h : (fxL fx p o).L a = none) : fx.L a = none := by
  have e5' : upd fx.L p o a = none := h
  by_cases h : a = p
  · rw [h, upd_same] at e5'; cases e5'
  · rw [upd_ne h] at e5'; exact e5'
theorem SR.addL (R : SR fx σ H Γ s F A) {p : Addr} {o : HO} (hp : H p = some o) (hf : F p = none) (hz : ¬ rm.ft A p) (no : NoOwn σ Γ p) : SR (fxL fx p o) σ H Γ s F A where
  fh := R.fh
  fz := R.fz
  f0 := R.f0
  lk := fun a u e => by
    by_cases h : a = p
    · subst h
      have e' : upd fx.L a o a = some u := e
      rw [upd_same] at e'
      cases e'
      exact ⟨hp, fun _ => hf, hz⟩
    · exact R.lk a u (by have e' : upd fx.L p o a = some u := e; rw [upd_ne h] at e'; exact e')
  a0 := R.a0
  ok := R.ok
  ln := R.ln
  sl := fun i v e => by
    obtain ⟨x, h1, h2⟩ := R.sl i v e
    refine ⟨x, h1, ?_⟩
    cases v with
    | own xs =>
      obtain ⟨a, vs, e1, e2, e3, e4, e5, e6⟩ := h2
      have h : a ≠ p := fun z => by rw [e1, z] at h1; exact no i ((ownA_own e).mpr h1)
      exact ⟨a, vs, e1, e2, e3, e4, by show upd fx.L p o a = none; rw [upd_ne h]; exact e5, e6⟩
    | tre ads d => exact ⟨h2.1, fun a ha => by
        have h : a ≠ p := fun z => no i ((ownA_tre e).mpr (by rw [← z]; exact ha))
        exact ⟨(h2.2 a ha).1, (h2.2 a ha).2.1, by show upd fx.L p o a = none; rw [upd_ne h]; exact (h2.2 a ha).2.2⟩⟩
    | shl b =>
      have h : b ≠ p := fun z => no i ((ownA_shl e).mpr z.symm)
      exact ⟨h2.1, h2.2.1, h2.2.2.1, by show upd fx.L p o b = none; rw [upd_ne h]; exact h2.2.2.2.1, h2.2.2.2.2⟩
    | odi b n f =>
      have h : b ≠ p := fun z => no i ((ownA_odi e).mpr z.symm)
      exact ⟨h2.1, h2.2.1, h2.2.2.1, by show upd fx.L p o b = none; rw [upd_ne h]; exact h2.2.2.2.1, h2.2.2.2.2⟩
    | _ => exact h2
  dj := R.dj
theorem SR.delL {p : Addr} {o : HO} (R : SR (fxL fx p o) σ H Γ s F A) (hl : fx.L p = none) : SR fx σ H Γ s F A where
  fh := R.fh
  fz := R.fz
  f0 := R.f0
  lk := fun a u e => R.lk a u (by
    show upd fx.L p o a = some u
    rw [upd_ne (fun z => by rw [z, hl] at e; cases e)]
    exact e)
  a0 := R.a0
  ok := R.ok
  ln := R.ln
  sl := fun i v e => by
    obtain ⟨x, h1, h2⟩ := R.sl i v e
    refine ⟨x, h1, ?_⟩
    cases v with
    | own xs =>
      obtain ⟨a, vs, e1, e2, e3, e4, e5, e6⟩ := h2
      exact ⟨a, vs, e1, e2, e3, e4, fxL_none e5, e6⟩
    | tre ads d => exact ⟨h2.1, fun a ha => ⟨(h2.2 a ha).1, (h2.2 a ha).2.1, fxL_none (h2.2 a ha).2.2⟩⟩
    | shl b => exact ⟨h2.1, h2.2.1, h2.2.2.1, fxL_none h2.2.2.2.1, h2.2.2.2.2⟩
    | odi b n f => exact ⟨h2.1, h2.2.1, h2.2.2.1, fxL_none h2.2.2.2.1, h2.2.2.2.2⟩
    | _ => exact h2
  dj := R.dj
theorem SR.lkP {p : Addr} {o : HO} (R : SR (fxL fx p o) σ H Γ s F A) (nt : ∀ vs, o ≠ .tup vs := by intro _ h; cases h) : H p = some o ∧ F p = none ∧ ¬ rm.ft A p :=
  let q := R.lk p o (show upd fx.L p o p = some o from upd_same); ⟨q.1, q.2.1 nt, q.2.2⟩
theorem SR.lkNo {p : Addr} {o : HO} (R : SR (fxL fx p o) σ H Γ s F A) : NoOwn σ Γ p := fun i z => by
  have e5' : upd fx.L p o p = none := (R.owned z).2.2.2
  rw [upd_same] at e5'
  cases e5'
/-- it is changed -/
theorem SR.chg {p : Addr} {o o' : HO} (R : SR (fxL fx p o) σ H Γ s F A) (hl : fx.L p = none) (nt : ∀ vs, o ≠ .tup vs := by intro _ h; cases h) : SR (fxL fx p o') σ (upd H p o') Γ s F A := by
  obtain ⟨hp, hf, hz⟩ := R.lkP nt
  have no := R.lkNo
  have R0 := R.delL hl
  have R1 : SR fx σ (upd H p o') Γ s F A := {
    fh := fun a u e => by
      have h : a ≠ p := fun z => by rw [z, hf] at e; cases e
      rw [upd_ne h]
      exact R0.fh a u e
    fz := R0.fz
    f0 := R0.f0
    lk := fun a u e => by
      have h : a ≠ p := fun z => by rw [z, hl] at e; cases e
      rw [upd_ne h]
      exact R0.lk a u e
    a0 := R0.a0
    ok := rm.frame R0.ok (fun q hq => upd_ne fun e => hz (by rw [← e]; exact hq)) fun q vs e => by rw [upd_ne (fun z => by rw [z, hp] at e; cases e; exact nt vs rfl)]; exact e
    ln := R0.ln
    sl := fun i v e => by
      obtain ⟨x, h1, h2⟩ := R0.sl i v e
      refine ⟨x, h1, ?_⟩
      cases v with
      | own xs =>
        obtain ⟨a, vs, e1, e2, e3⟩ := h2
        have h : a ≠ p := fun z => by rw [e1, z] at h1; exact no i ((ownA_own e).mpr h1)
        exact ⟨a, vs, e1, by rw [upd_ne h]; exact e2, e3⟩
      | tre ads d => exact ⟨h2.1.mono (fun a vs z => by rw [upd_ne (fun y => by rw [y, hp] at z; cases z; exact nt vs rfl)]; exact z) (fun a ha => upd_ne fun y => no i ((ownA_tre e).mpr (by rw [← y]; exact ha))), h2.2⟩
      | shl b =>
        obtain ⟨g1, g2, g3, g4, vs, g5, g6⟩ := h2
        exact ⟨g1, g2, g3, g4, vs, by rw [upd_ne (fun y => no i ((ownA_shl e).mpr y.symm))]; exact g5, g6⟩
      | odi b n f =>
        obtain ⟨g1, g2, g3, g4, vs, g5, g6⟩ := h2
        exact ⟨g1, g2, g3, g4, vs, by rw [upd_ne (fun y => no i ((ownA_odi e).mpr y.symm))]; exact g5, g6⟩
      | _ => exact h2
    dj := R0.dj }
  exact R1.addL upd_same hf hz no
/-! ### targets -/
def rdGs : List Nat → TGs
  | [] => gNil
  | i :: r => gCons (gName i) (rdGs r)
def rdG (K : PySem.W.Frag) : Tg → TG
  | .nm i => gName i
  | .tp is => gTup K is.length (rdGs is)
def tgIn : Tg → List Nat → Prop
  | .nm i, vs => i ∈ vs
  | .tp is, vs => ∀ i ∈ is, i ∈ vs
theorem putAll_rd : ∀ {is : List Nat} {ds : List D} {xs : List V} {σ : L2.St} {Γ : Ctx} {K : Ctx → Prop}, SR fx σ H Γ s F A → RpL F xs ds → putAll is ds Γ K →
    rdGs is xs σ H fun σ2 H2 => H2 = H ∧ (∀ vs, (∀ i ∈ is, i ∈ vs) → wipe σ2 vs = wipe σ vs) ∧ ∃ Γ2, K Γ2 ∧ SR fx σ2 H Γ2 s F A
  | [], [], _, σ, Γ, K, R, .nil, q => ⟨rfl, rfl, fun _ _ => rfl, Γ, q, R⟩
  | [], _ :: _, _, _, _, _, _, _, q => q.elim
  | _ :: _, [], _, _, _, _, _, _, q => q.elim
  | i :: is, d :: ds, _, σ, Γ, K, R, .cons (v := x) (vs := xs) h r, q => by
    refine ⟨x, xs, rfl, ?_⟩
    have ih := putAll_rd (is := is) (R.putD (i := i) h) r q
    show rdGs is xs (σ.set i (some x)) H _
    refine rdGs_mono is (fun σ2 H2 z => ?_) ih
    obtain ⟨z1, z2, z3⟩ := z
    exact ⟨z1, fun vs hv => (z2 vs fun j hj => hv j (List.mem_cons_of_mem _ hj)).trans (wipe_set (hv i List.mem_cons_self)), z3⟩
where
  rdGs_mono : ∀ (is : List Nat) {xs : List V} {σ : L2.St} {H : Hp} {Q Q' : L2.St → Hp → Prop}, (∀ σ H, Q σ H → Q' σ H) → rdGs is xs σ H Q → rdGs is xs σ H Q'
    | [], _, _, _, _, _, h, q => ⟨q.1, h _ _ q.2⟩
    | i :: is, _, _, _, _, _, h, ⟨v, r, e, q⟩ => ⟨v, r, e, rdGs_mono is h q⟩
theorem bindT_rd {K : PySem.W.Frag} {tg : Tg} {d : D} {x : V} {Kc : Ctx → Prop} (R : SR fx σ H Γ s F A) (h : Rp F x d) (q : bindT tg d Γ Kc) :
    rdG K tg x σ H fun σ2 H2 => H2 = H ∧ (∀ vs, tgIn tg vs → wipe σ2 vs = wipe σ vs) ∧ ∃ Γ2, Kc Γ2 ∧ SR fx σ2 H Γ2 s F A := by
  cases tg with
  | nm i => exact ⟨rfl, fun vs hv => wipe_set hv, _, q, R.putD h⟩
  | tp is =>
    cases h with
    | tup h1 r =>
      rename_i a vs ds
      have hl : vs.length = is.length := by
        rw [r.length]
        exact putAll_len q
      exact ⟨a, vs, rfl, .inl (.inl (R.fh _ _ h1)), hl, putAll_rd R r q⟩
    | _ => exact q.elim
where
  putAll_len : ∀ {is : List Nat} {ds : List D} {Γ : Ctx} {K : Ctx → Prop}, putAll is ds Γ K → ds.length = is.length
    | [], [], _, _, _ => rfl
    | [], _ :: _, _, _, q => q.elim
    | _ :: _, [], _, _, q => q.elim
    | _ :: is, _ :: ds, _, _, q => by rw [List.length_cons, List.length_cons, putAll_len (is := is) (ds := ds) q]
/-- what a walk has given, in the state -/
theorem SR.yield {H3 : Hp} {x : V} {d : D} (R : SR fx σ H Γ s F A) {F0 : Hp} (sb : Sub F0 F) (h : (H3 = H ∧ Rp F0 x d) ∨ ∃ T vs ds, H T = none ∧ H3 = upd H T (.tup vs) ∧ x = V.ref T ∧ d = .tuple ds ∧ RpL F0 vs ds) :
    ∃ F3, SR fx σ H3 Γ s F3 A ∧ HX H A H3 A ∧ Sub F F3 ∧ Rp F3 x d := by
  rcases h with ⟨rfl, h⟩ | ⟨T, vs, ds, h1, rfl, rfl, rfl, h⟩
  · exact ⟨F, R, HX.refl _ _, Sub.refl F, h.mono sb⟩
  · exact ⟨_, R.lay h1, R.hx h1, upd_sub (R.nF h1), .tup upd_same ((h.mono sb).mono (upd_sub (R.nF h1)))⟩
/-! ### a comprehension -/
theorem n_comp {own : List Nat} {tc : Tg} {it : It rm.S} {c : Es rm.S} {ce : E rm.S} {elt tg iter : Expr} {ifs : List Expr} {scope : Scope} {ol : List (Str × Nat)} {p : Pos} (hol : ol.map (·.2) = own) (hc : X.calm = true) (hN : X.N.Nodup)
    (hi : PI X tg iter (rdI W it)) (ok : BlkOk X.N X.env.scope scope ol)
    (hg : ∀ (s : Shared) (H : Hp) (C : Addr) (cl : List (Str × Addr)) (fp : List Addr), PG (X.blk s H scope (compEnvC scope cl C X.env) fp) tg (rdG X.K tc))
    (ht : ∀ (s : Shared) (H : Hp) (C : Addr) (cl : List (Str × Addr)) (fp : List Addr), PTs (X.blk s H scope (compEnvC scope cl C X.env) fp) ifs (rdC W0 c))
    (he : ∀ (s : Shared) (H : Hp) (C : Addr) (cl : List (Str × Addr)) (fp : List Addr), PE (X.blk s H scope (compEnvC scope cl C X.env) fp) elt (rdE W0 ce)) (hs : shp iter = true) (hin : tgIn tc own) :
    PE X (.ListComp elt [⟨tg, iter, ifs, 0⟩] scope p) (rdE W (.comp own tc it c ce)) ∧ ∀ σ H Q, rdE W (.comp own tc it c ce) σ H Q → tLc (rdI W it) (rdG X.K tc) (rdC W0 c) (rdE W0 ce) own σ H Q := by
  have key : ∀ σ H Q, rdE W (.comp own tc it c ce) σ H Q → tLc (rdI W it) (rdG X.K tc) (rdC W0 c) (rdE W0 ce) own σ H Q := by
    intro σ H Q q
    obtain ⟨fx, Γ, s, F, A, R, xc, xk, q⟩ := q
    unfold wE at q
    refine ⟨fx, Γ, s, F, A, R, xc, xk, wI_mono it (fun xs Γ1 s1 q => ?_) q⟩
    intro J H1 F1 A1 G R1 hx1 sb1 hG yl p hp
    obtain ⟨hbig, q⟩ := q
    have hlp := R1.nL hp
    refine ⟨fun i m H2 => m = xs.length - i ∧ i ≤ xs.length ∧ ∃ Γ2 s2 F2 A2 vs acc, SR (fxL fx p (.lst vs)) (wipe σ own) H2 Γ2 s2 F2 A2 ∧ HX H1 A1 H2 A2 ∧ Sub F1 F2 ∧ RpL F2 vs acc ∧ acc.length ≤ i ∧
      cLoop (fun x Γ s k => bindT tc x Γ fun Γ' => wC xn c Γ' s fun b Γ2 s2 => if b = true then wE xn ce Γ2 s2 (fun v Γ3 s3 => asD v fun d => k (some d) (wipeG own Γ3) s3) else k none (wipeG own Γ2) s2) (xs.drop i) Γ2 s2 acc
        (fun ys Γ' s' => KE fx σ H F A Q (.new ys) (backG Γ1 own Γ') s'), ⟨xs.length, rfl, Nat.zero_le _, wipeG own Γ1, s1, F1, A1, [], [], ?_, R1.hx hp, Sub.refl F1, .nil, Nat.le_refl _, q⟩, ?_⟩
    · exact ((R1.wipe own).alloc hp).addL upd_same (R1.nF hp) (R1.nft hp) ((R1.wipe own).noOwn hp)
    · rintro i m H2 ⟨rfl, hi, Γ2, s2, F2, A2, vs, acc, R2, hx2, sb2, rl, hal, q⟩
      have gs : Sub G H2 := fun b o e => (hx2.2 b o (hG b o e).1 (hG b o e).2).1
      by_cases hlt : i < xs.length
      · obtain ⟨x0, e0⟩ := get_lt (l := xs) hlt
        have ed : xs.drop i = x0 :: xs.drop (i + 1) := by
          rw [List.drop_eq_getElem_cons hlt]
          rw [List.getElem?_eq_getElem hlt] at e0
          rw [Option.some.inj e0]
        rw [ed] at q
        obtain ⟨go, yld⟩ := (yl i H2 gs).1 hlt
        refine .inr ⟨go, fun H' => ∃ Γ2 s2 F2 A2 vs acc, SR (fxL fx p (.lst vs)) (wipe σ own) H' Γ2 s2 F2 A2 ∧ HX H1 A1 H' A2 ∧ Sub F1 F2 ∧ RpL F2 vs acc ∧ acc.length ≤ i + 1 ∧
          cLoop (fun x Γ s k => bindT tc x Γ fun Γ' => wC xn c Γ' s fun b Γ2 s2 => if b = true then wE xn ce Γ2 s2 (fun v Γ3 s3 => asD v fun d => k (some d) (wipeG own Γ3) s3) else k none (wipeG own Γ2) s2) (xs.drop (i + 1)) Γ2 s2 acc
            (fun ys Γ' s' => KE fx σ H F A Q (.new ys) (backG Γ1 own Γ') s'), fun H' w => ⟨xs.length - (i + 1), by omega, rfl, hlt, w⟩, fun x H3 y => ?_⟩
        obtain ⟨d, hd, hy⟩ := yld x H3 y
        rw [e0] at hd
        cases hd
        obtain ⟨F3, R3, hx3, sb3, rp⟩ := R2.yield sb2 hy
        have q' : bindT tc x0 Γ2 _ := q
        have g := bindT_rd (K := X.K) R3 rp q'
        refine gmono tc (fun σ2 H4 z => ?_) g
        obtain ⟨rfl, wp, Γ3, q3, R4⟩ := z
        have ew : wipe σ2 own = wipe σ own := (wp own hin).trans wipe_wipe
        refine ⟨ew, ⟨_, Γ3, s2, F3, A2, R4, xn, xk0, wC_mono c (fun b Γ4 s4 q => ?_) q3⟩⟩
        intro H5 F5 A5 R5 hx5 sb5
        refine ite_mono (fun q => ?_) (fun q => ?_) q
        · refine ⟨_, Γ4, s4, F5, A5, R5, xn, xk0, wE_mono ce (fun v Γ6 s6 q => ?_) q⟩
          intro y6 H6 F6 A6 R6 hx6 sb6 rv
          obtain ⟨d, F7, q, R7, sb7, rp7⟩ := R6.stay rv q
          obtain ⟨w1, w2, w3⟩ := R7.lkP
          have hlen : vs.length < sizeLine := Nat.lt_of_lt_of_le (Nat.lt_of_le_of_lt (by rw [rl.length]; exact hal) hlt) (big_sz hbig)
          refine ⟨vs, w1, hlen, wipeG own Γ6, s6, F7, A6, vs ++ [y6], acc ++ [d], ?_, ?_, ?_, ?_, ?_, q⟩
          · have R8 := (R7.wipe own).chg (o' := .lst (vs ++ [y6])) hlp
            rw [ew] at R8
            exact R8
          · have z := ((hx2.trans hx3).trans hx5).trans hx6
            refine ⟨z.1, fun a o e n => ?_⟩
            obtain ⟨z1, z2⟩ := z.2 a o e n
            refine ⟨?_, z2⟩
            rw [upd_ne (fun z => by rw [z, hp] at e; cases e)]
            exact z1
          · exact (((sb2.trans sb3).trans sb5).trans sb6).trans sb7
          · exact (((((rl.mono sb3).mono sb5).mono sb6).mono sb7)).append (.cons rp7 .nil)
          · rw [List.length_append, List.length_singleton]; omega
        · refine ⟨wipeG own Γ4, s4, F5, A5, vs, acc, ?_, (hx2.trans hx3).trans hx5, (sb2.trans sb3).trans sb5, (rl.mono sb3).mono sb5, by omega, ?_⟩
          · have R8 := R5.wipe own
            rw [ew] at R8
            exact R8
          · have e3 : acc ++ (none : Option D).toList = acc := List.append_nil acc
            have q4 : cLoop _ (xs.drop (i + 1)) (wipeG own Γ4) s4 (acc ++ (none : Option D).toList) _ := q
            rw [e3] at q4
            exact q4
      · have e : i = xs.length := by omega
        subst e
        refine .inl ⟨(yl _ H2 gs).2 rfl, ?_⟩
        rw [List.drop_length] at q
        have q' : KE fx σ H F A Q (.new acc) (backG Γ1 own Γ2) s2 := q
        obtain ⟨w1, w2, w3⟩ := R2.lkP
        have no := R2.lkNo
        refine q' (V.ref p) H2 F2 A2 (R1.back (R2.delL hlp) hx2 sb2) (hx1.trans hx2) (sb1.trans sb2) ⟨p, vs, rfl, w1, w2, w3, hlp, rl, no.of fun j z => ownA_back z⟩
  refine ⟨?_, key⟩
  have h := pe_lc (own := ol) hc hN hi ok hg ht he (fold1 hs) (pos := p)
  rw [hol] at h
  exact PE_imp h key
where
  gmono {K : PySem.W.Frag} : ∀ (tc : Tg) {x : V} {σ : L2.St} {H : Hp} {Q Q' : L2.St → Hp → Prop}, (∀ σ H, Q σ H → Q' σ H) → rdG K tc x σ H Q → rdG K tc x σ H Q'
    | .nm i, _, _, _, _, _, h, q => h _ _ q
    | .tp is, _, _, _, _, _, h, ⟨a, xs, e1, e2, e3, q⟩ => ⟨a, xs, e1, e2, e3, putAll_rd.rdGs_mono is h q⟩
end
end Ac
namespace Ac
open PySem PySem.Spec PyProof.Rows L2
section
variable {rm : RM} {X : Cx} {k : Nat} {t : Sx} {W : WN} {fx : Fx rm} {xc : Nat → Ctx → rm.S → Prop} {σ : L2.St} {H F : Hp} {Γ : Ctx} {s : rm.S} {A : rm.A}
/-! ### statements -/
theorem PS_imp {X : Cx} {st : Stmt} {t t' : TS} (h : PS X st t) (hi : ∀ D σ H, t' D σ H → t D σ H) : PS X st t' := ⟨fun pins s σ H D I q => h.run pins s σ H D I (hi D σ H q)⟩
theorem PSs_imp {X : Cx} {st : List Stmt} {t t' : TS} (h : PSs X st t) (hi : ∀ D σ H, t' D σ H → t D σ H) : PSs X st t' := ⟨fun pins s σ H D I q => h.run pins s σ H D I (hi D σ H q)⟩
structure KOk (W : WN) (fx : Fx rm) (D : Ends) (K : Kn rm.S) : Prop where
  nx : ∀ Γ s σ H F A, SR fx σ H Γ s F A → K.nx Γ s → D.nx σ H
  rt : ∀ v x Γ s σ H F A, SR fx σ H Γ s F A → RV fx σ H F A Γ x v → K.rt v s → D.rt x H
  bk : ∀ Γ s σ H F A, SR fx σ H Γ s F A → K.bk Γ s → D.bk σ H
  ct : ∀ Γ s σ H F A, SR fx σ H Γ s F A → K.ct Γ s → D.ct σ H
  ex : XcOk W fx K.ex
def rd1 (W : WN) (c : St1 rm.S) : TS := fun D σ H => ∃ (fx : Fx rm) (Γ : Ctx) (s : rm.S) (F : Hp) (A : rm.A), SR fx σ H Γ s F A ∧ ∃ K, KOk W fx D K ∧ w1 c Γ s K
def rdS (W : WN) (c : Sm rm.S) : TS := fun D σ H => ∃ (fx : Fx rm) (Γ : Ctx) (s : rm.S) (F : Hp) (A : rm.A), SR fx σ H Γ s F A ∧ ∃ K, KOk W fx D K ∧ wS c Γ s K
def rdSs (W : WN) (c : Sms rm.S) : TS := fun D σ H => ∃ (fx : Fx rm) (Γ : Ctx) (s : rm.S) (F : Hp) (A : rm.A), SR fx σ H Γ s F A ∧ ∃ K, KOk W fx D K ∧ wSs c Γ s K
theorem n_one {st : Stmt} {c : St1 rm.S} (h : PS X st (rd1 W c)) : PS X st (rdS W (.one c)) := PS_imp h fun D σ H q => by
  obtain ⟨fx, Γ, s, F, A, R, K, ko, q⟩ := q
  unfold wS at q
  exact ⟨fx, Γ, s, F, A, R, K, ko, q⟩
theorem n_nil : PSs X [] (rdSs W (.nil : Sms rm.S)) := PSs_imp pss_nil fun D σ H q => by
  obtain ⟨fx, Γ, s, F, A, R, K, ko, q⟩ := q
  unfold wSs at q
  exact ko.nx _ _ _ _ _ _ R q
theorem n_cons {st : Stmt} {rest : List Stmt} {c : Sm rm.S} {r : Sms rm.S} (h : PS X st (rdS W c)) (hr : PSs X rest (rdSs W r)) : PSs X (st :: rest) (rdSs W (.cons c r)) := PSs_imp (pss_cons h hr) fun D σ H q => by
  obtain ⟨fx, Γ, s, F, A, R, K, ko, q⟩ := q
  unfold wSs at q
  exact ⟨fx, Γ, s, F, A, R, { K with nx := fun Γ' s' => wSs r Γ' s' K }, { nx := fun Γ s σ H F A R q => ⟨fx, Γ, s, F, A, R, K, ko, q⟩, rt := ko.rt, bk := ko.bk, ct := ko.ct, ex := ko.ex }, q⟩
/-! ### single statements -/
theorem swp1 {e : Expr} {x : Str} {p : Pos} {l : Nat} {env : Env} (h : shp e = true) (hc : isComp e = false) : swapsWith e (some (.Name x p)) l env = pure false := swap1 h hc
/-- a name that may be stored -/
def Sto (X : Cx) (x : Str) : Prop := Loc X.env.scope x ∧ (X.fn x = true ∨ X.env.scope.names.lookup x = some .local)
theorem n_asg {i : Nat} {x : Str} {c : E rm.S} {e : Expr} {p p2 : Pos} (hN : X.N.Nodup) (hi : X.N[i]? = some x) (hx : Sto X x) (he : PE X e (rdE W c)) (hsw : swapsWith e (some (.Name x p2)) p.line X.env = pure false) : PS X (.Assign [.Name x p2] e p) (rd1 W (.asg i c)) :=
  PS_imp (ps_set hN hi hx.1 he hsw hx.2) fun D σ H q => by
    obtain ⟨fx, Γ, s, F, A, R, K, ko, q⟩ := q
    dsimp only [w1] at q
    refine ⟨fx, Γ, s, F, A, R, K.ex, ko.ex, wE_mono c (fun v Γ' s' q => ?_) q⟩
    intro y H' F' A' R' hx sb rv
    exact ko.nx _ _ _ _ _ _ (R'.putV rv) q
def isTupE : Expr → Bool
  | .Tuple .. => true
  | _ => false
theorem swst {e : Expr} {ts : List Expr} {kk : Nat} {p : Pos} {env : Env} (h : isTupE e = false) : swappedStores [.Tuple ts kk p] e env = pure none := by
  cases e <;> first | rfl | cases h
theorem swso {e : Expr} {ts : List Expr} {kk : Nat} {p : Pos} {l : Nat} {env : Env} (h : shp e = true) (hc : isComp e = false) : swapsWithSole [.Tuple ts kk p] e l env = pure false := by
  cases e <;> first | rfl | exact Bool.noConfusion hc | exact Bool.noConfusion h
theorem n_pgs {xs : List Expr} {is : List Nat} (hN : X.N.Nodup) (h : Paired (fun (e : Expr) (i : Nat) => ∃ x p, e = .Name x p ∧ X.N[i]? = some x ∧ Sto X x) xs is) : PGs X xs (rdGs is) := by
  induction h with
  | nil => exact pgs_nil
  | cons a b ih =>
    obtain ⟨x, p, rfl, h1, h2⟩ := a
    exact pgs_cons (pg_name hN h1 h2.1 h2.2) ih
theorem asgE_len {env : Env} {xs : List Expr} {is : List Nat} (h : Paired (fun (e : Expr) (i : Nat) => ∃ x p, e = .Name x p ∧ X.N[i]? = some x ∧ Sto X x) xs is) : (assignEach xs env).length = is.length ∧ (assignEach xs env).findIdx? (·.1) = none := by
  induction h with
  | nil => exact ⟨rfl, rfl⟩
  | cons a b ih =>
    obtain ⟨x, p, rfl, h1, h2⟩ := a
    refine ⟨?_, ?_⟩
    · show (_ :: assignEach _ env).length = _
      rw [List.length_cons, List.length_cons, ih.1]
    · show ((false, _) :: assignEach _ env).findIdx? (·.1) = none
      rw [List.findIdx?_cons]
      show Option.map _ ((assignEach _ env).findIdx? (·.1)) = none
      rw [ih.2]
      rfl
abbrev NmOk (X : Cx) (xs : List Expr) (is : List Nat) : Prop := Paired (fun (e : Expr) (i : Nat) => ∃ x p, e = .Name x p ∧ X.N[i]? = some x ∧ Sto X x) xs is
theorem n_pgT {xs : List Expr} {is : List Nat} {kk : Nat} {p : Pos} (hc : X.calm = true) (hN : X.N.Nodup) (h : NmOk X xs is) : PG X (.Tuple xs kk p) (rdG X.K (.tp is)) :=
  pg_tup hc (n_pgs hN h) (asgE_len h).1 (asgE_len h).2
theorem n_asgT {xs : List Expr} {is : List Nat} {c : E rm.S} {e : Expr} {kk : Nat} {p p2 : Pos} (hc : X.calm = true) (hN : X.N.Nodup) (hn : NmOk X xs is) (he : PE X e (rdE W c)) (hs : shp e = true) (hcc : isComp e = false) (ht : isTupE e = false) : PS X (.Assign [.Tuple xs kk p2] e p) (rd1 W (.asgT is c)) :=
  PS_imp (ps_asg he (n_pgT hc hN hn) (swso hs hcc) (swst ht)) fun D σ H q => by
    obtain ⟨fx, Γ, s, F, A, R, K, ko, q⟩ := q
    dsimp only [w1] at q
    refine ⟨fx, Γ, s, F, A, R, K.ex, ko.ex, wE_mono c (fun v Γ' s' q => ?_) q⟩
    intro y H' F' A' R' hx sb rv
    obtain ⟨d, F'', q, R'', sb', rp⟩ := R'.stay rv q
    split at q
    · rename_i ds
      have q' : bindT (.tp is) (.tuple ds) Γ' fun Γ2 => K.nx Γ2 s' := q
      have g := bindT_rd (K := X.K) R'' rp q'
      refine n_comp.gmono (.tp is) (fun σ2 H2 z => ?_) g
      obtain ⟨rfl, _, Γ2, h1, h2⟩ := z
      exact ko.nx _ _ _ _ _ _ h2 h1
    · exact q.elim
def parOk (sc : Scope) (x y : Str) (px py : Pos) (a b : Expr) : Bool := (sc.kind == .function) && decide (sc.names.lookup x = some .local) && decide (sc.names.lookup y = some .local) && decide (x ≠ y) && (py.line == px.line) && !([a, b].all (foldedForSure 8)) && !([a, b].all (constantsAlone 8))
theorem swst2 {x y : Str} {px py pt p2 : Pos} {kt k2} {a b : Expr} {env : Env} (h : parOk env.scope x y px py a b = true) (ha : shp a = true) (hb : shp b = true) : swappedStores [.Tuple [.Name x px, .Name y py] kt pt] (.Tuple [a, b] k2 p2) env = pure (some [x, y]) := by
  unfold parOk at h
  simp only [Bool.and_eq_true, decide_eq_true_eq, Bool.not_eq_true', beq_iff_eq] at h
  obtain ⟨⟨⟨⟨⟨⟨h1, h2⟩, h3⟩, h4⟩, h5⟩, h6⟩, h7⟩ := h
  have hs : ([a, b].any fun | .Starred .. => true | _ => false) = false := by
    cases a <;> first | exact Bool.noConfusion ha | (cases b <;> first | exact Bool.noConfusion hb | rfl)
  have hk : env.blockKind = .function := by
    unfold Env.blockKind
    rw [h1]
    rfl
  have he : ([x, y] : List Str).eraseDups.length = 2 := by
    have : (y == x) = false := by rw [beq_eq_false_iff_ne]; exact fun e => h4 e.symm
    simp [List.eraseDups, List.eraseDupsBy, List.eraseDupsBy.loop, this]
  have a1 : env.kindOf x = some .local := h2
  have a2 : env.kindOf y = some .local := h3
  have l1 : (Expr.Name x px).pos.line = px.line := rfl
  have sa : (match (generalizing := false) a with | .Starred .. => true | _ => false) = false := by
    cases a <;> first | exact Bool.noConfusion ha | rfl
  have sb : (match (generalizing := false) b with | .Starred .. => true | _ => false) = false := by
    cases b <;> first | exact Bool.noConfusion hb | rfl
  have he2 : ¬ ([x, y] : List Str).eraseDups.length ≠ 2 := fun z => z he
  unfold swappedStores
  simp [hk, h6, h7, a1, a2, l1, h5, sa, sb, he]
  rintro (h | h)
  · exact Bool.noConfusion (h.symm.trans sa)
  · exact Bool.noConfusion (h.symm.trans sb)
theorem n_asgP {x y : Str} {px py pt p p2 : Pos} {kt k2} {i j : Nat} {ca cb : E rm.S} {a b : Expr} (hc : X.calm = true) (hN : X.N.Nodup) (hi : X.N[i]? = some x) (hj : X.N[j]? = some y) (hp : parOk X.env.scope x y px py a b = true) (hij : i ≠ j) (ha : PE X a (rdE W ca)) (hb : PE X b (rdE W cb)) (hs : shp a = true) (hs2 : shp b = true) :
    PS X (.Assign [.Tuple [.Name x px, .Name y py] kt pt] (.Tuple [a, b] k2 p2) p) (rd1 W (.asgP i j ca cb)) := by
  have hp' := hp
  unfold parOk at hp'
  simp only [Bool.and_eq_true, decide_eq_true_eq] at hp'
  refine PS_imp (ps_par hc hN hi hj hij hp'.1.1.1.1.1.2 hp'.1.1.1.1.2 (n_x1 ha (n_x1 hb n_x0 hs2) hs) (swst2 hp hs hs2)) fun D σ H q => ?_
  obtain ⟨fx, Γ, s, F, A, R, K, ko, q⟩ := q
  dsimp only [w1] at q
  refine ⟨fx, Γ, s, F, A, R, K.ex, ko.ex, wX_mono _ (fun ds Γ' s' q => ?_) q⟩
  intro xs H' F' A' R' hx sb rl
  cases rl with
  | nil => exact q.elim
  | cons r1 rl =>
    cases rl with
    | nil => exact q.elim
    | cons r2 rl =>
      cases rl with
      | nil => exact ⟨_, _, rfl, ko.nx _ _ _ _ _ _ ((R'.putD r1).putD r2) q⟩
      | cons _ _ => exact q.elim
theorem ownAt (R : SR fx σ H Γ s F A) {i : Nat} {xs : List D} (h : look Γ i = some (.own xs)) : ∃ a vs, σ[i]? = some (some (V.ref a)) ∧ H a = some (.lst vs) ∧ F a = none ∧ ¬ rm.ft A a ∧ fx.L a = none ∧ RpL F vs xs := by
  obtain ⟨x, h1, a, vs, rfl, e2, e3, e4, e5, e6⟩ := R.sl i _ h
  exact ⟨a, vs, h1, e2, e3, e4, e5, e6⟩
/-- a list of one's own is changed -/
theorem SR.chgOwn (R : SR fx σ H Γ s F A) {i : Nat} {xs ys : List D} {a : Addr} {vs ws : List V} (h : look Γ i = some (.own xs)) (hs : σ[i]? = some (some (V.ref a))) (r : RpL F ws ys) : SR fx σ (upd H a (.lst ws)) (Ac.put Γ i (some (.own ys))) s F A := by
  obtain ⟨a', vs', h1, e2, e3, e4, e5, e6⟩ := ownAt R h
  rw [hs] at h1
  cases h1
  exact {
    fh := fun b u e => by
      have hb : b ≠ a := fun z => by rw [z, e3] at e; cases e
      rw [upd_ne hb]; exact R.fh b u e
    fz := R.fz
    f0 := R.f0
    lk := fun b u e => by
      have hb : b ≠ a := fun z => by rw [z, e5] at e; cases e
      rw [upd_ne hb]; exact R.lk b u e
    a0 := R.a0
    ok := rm.frame R.ok (fun q hq => upd_ne fun z => e4 (by rw [← z]; exact hq)) fun q vs e => by rw [upd_ne (fun z => by rw [z, e2] at e; cases e)]; exact e
    ln := by rw [put_length]; exact R.ln
    sl := fun j w e => by
      rcases look_put e with ⟨rfl, z⟩ | ⟨ne, e'⟩
      · cases z
        exact ⟨_, hs, a, ws, rfl, upd_same, e3, e4, e5, r⟩
      · obtain ⟨y, q1, q2⟩ := R.sl j w e'
        refine ⟨y, q1, ?_⟩
        cases w with
        | dat d => exact q2
        | new xs => exact q2
        | hdl k => exact q2
        | hds ks => exact q2
        | own zs =>
          obtain ⟨b, us, rfl, w2, w3⟩ := q2
          have hb : b ≠ a := fun z => by
            rw [z] at q1
            exact ne (R.dj j i a ((ownA_own e').mpr q1) ((ownA_own h).mpr hs))
          exact ⟨b, us, rfl, by rw [upd_ne hb]; exact w2, w3⟩
        | tre ads d => exact ⟨q2.1.mono (fun c us z => by rw [upd_ne (fun y => by rw [y, e2] at z; cases z)]; exact z) (fun c hc => upd_ne fun y => ne (R.dj j i a ((ownA_tre e').mpr (by rw [← y]; exact hc)) ((ownA_own h).mpr hs))), q2.2⟩
        | shl b =>
          obtain ⟨g1, g2, g3, g4, us, g5, g6⟩ := q2
          have hb : b ≠ a := fun z => ne (R.dj j i a ((ownA_shl e').mpr z.symm) ((ownA_own h).mpr hs))
          exact ⟨g1, g2, g3, g4, us, by rw [upd_ne hb]; exact g5, g6⟩
        | odi b n f =>
          obtain ⟨g1, g2, g3, g4, us, g5, g6⟩ := q2
          have hb : b ≠ a := fun z => ne (R.dj j i a ((ownA_odi e').mpr z.symm) ((ownA_own h).mpr hs))
          exact ⟨g1, g2, g3, g4, us, by rw [upd_ne hb]; exact g5, g6⟩
    dj := fun j l b s1 s2 => by
      have f : ∀ {j : Nat}, ownA σ (Ac.put Γ i (some (.own ys))) j b → ownA σ Γ j b := fun {j} z => by
        by_cases n : j = i
        · subst n; exact (ownA_own h).mpr (ownA_at z)
        · exact (ownA_neG n).mp z
      exact R.dj j l b (f s1) (f s2) }
theorem stars1 {env : Env} {pos : Pos} {es : List Expr} (h : shpL es = true) : (backTo pos (starEach es env)).all (fun x => !x.1) = true := by
  have := stars (env := env) (pos := pos) h
  rw [List.all_eq_not_any_not]
  rw [show (fun x : Bool × Sem Value => !!x.1) = (fun x => x.1) from funext fun x => Bool.not_not _, this]
  rfl
theorem few1 {e : Expr} {env : Env} {p : Pos} (hs : shp e = true) : ((backTo p (starEach [e] env)).all (fun x => !x.1) && (backToKw p (keywordEach [] env)).all (fun x => x.1.isSome) && decide ([e].length + ([] : List Keyword).length + (if ([] : List Keyword).isEmpty then 0 else 1) < 30)) = true := by
  rw [stars1 (es := [e]) (by unfold shpL; rw [List.all_cons, hs]; rfl)]
  rfl
theorem RV.un {F0 F2 : Hp} {A2 : rm.A} {x : V} {v : Val} (h : RV (rm := rm) ⟨fx.L, F0, fx.A0⟩ σ H F2 A2 Γ x v) : RV fx σ H F2 A2 Γ x v := by
  cases v <;> exact h
theorem n_app {i : Nat} {x : Str} {c : E rm.S} {e : Expr} {p p2 p3 p4 : Pos} (hv : PE X (.Name x p3) (tVar i)) (he : PE X e (rdE W c)) (hs : shp e = true) (hl : (p2.endLine == p4.line) = true) : PS X (.Expr (.Call (.Attribute (.Name x p3) "append" p2) [e] [] p4) p) (rd1 W (.app i c)) :=
  PS_imp (ps_expr (pe_bm PySem.F.plainAttrs_list PySem.F.slot_list_append PySem.F.type_list_append mt_append hv (pa_cons he pa_nil (star1 hs)) (hfew := few1 hs) (hline := hl) (hs := star1 hs))) fun D σ H q => by
    obtain ⟨fx, Γ, s, F, A, R, K, ko, q⟩ := q
    dsimp only [w1] at q
    split at q
    · rename_i xs hxs
      obtain ⟨a, vs, h1, e2, e3, e4, e5, e6⟩ := ownAt R hxs
      refine ⟨.ref a, h1, .inl ⟨rfl, _, SqL.of e2⟩, fx, Γ, s, F, A, R, K.ex, ko.ex, wE_mono c (fun v Γ' s' q => ?_) q⟩
      intro y H' F' A' R' hx sb rv
      obtain ⟨d, F'', q, R'', sb', rp⟩ := R'.stay rv q
      split at q
      · rename_i zs hzs
        obtain ⟨a', ws, g1, g2, g3, g4, g5, g6⟩ := ownAt R'' hzs
        rw [h1] at g1
        cases g1
        refine ⟨a, ws, y, rfl, rfl, g2, by rw [g6.length]; exact big_lt q.1, ?_⟩
        exact ko.nx _ _ _ _ _ _ (R''.chgOwn (vs := ws) hzs h1 (g6.append (.cons rp .nil))) q.2
      · exact q.elim
    · exact q.elim
theorem n_expr {c : E rm.S} {e : Expr} {p : Pos} (he : PE X e (rdE W c)) (hs : shp e = true) (hc : isComp e = false) : PS X (.Expr e p) (rd1 W (.expr c)) :=
  PS_imp (ps_expr he (swap1 hs hc)) fun D σ H q => by
    obtain ⟨fx, Γ, s, F, A, R, K, ko, q⟩ := q
    dsimp only [w1] at q
    refine ⟨fx, Γ, s, F, A, R, K.ex, ko.ex, wE_mono c (fun v Γ' s' q => ?_) q⟩
    intro y H' F' A' R' hx sb rv
    exact ko.nx _ _ _ _ _ _ R' q
theorem n_retV {i : Nat} {x : Str} {p p2 : Pos} (hv : PE X (.Name x p2) (tVar i)) : PS X (.Return (some (.Name x p2)) p) (rd1 W (.ret (.var i : E rm.S))) :=
  PS_imp (ps_ret hv) fun D σ H q => by
    obtain ⟨fx, Γ, s, F, A, R, K, ko, q⟩ := q
    change (match look Γ i with
      | some (.dat d) => K.rt (.dat d) s
      | some (.own xs) => K.rt (.new xs) s
      | some (.hdl k) => K.rt (.hdl k) s
      | _ => False) at q
    split at q
    · rename_i d hd
      obtain ⟨y, h1, h2⟩ := R.sl i _ hd
      exact ⟨y, h1, ko.rt (.dat d) _ _ _ _ _ _ _ R h2 q⟩
    · rename_i xs hxs
      obtain ⟨a, vs, h1, e2, e3, e4, e5, e6⟩ := ownAt R hxs
      refine ⟨_, h1, ko.rt (.new xs) _ _ _ _ _ _ _ (R.drop (i := i)) ⟨a, vs, rfl, e2, e3, e4, e5, e6, R.letgo ((ownA_own hxs).mpr h1)⟩ q⟩
    · rename_i n hn
      obtain ⟨y, h1, h2⟩ := R.sl i _ hn
      exact ⟨y, h1, ko.rt (.hdl n) _ _ _ _ _ _ _ R h2 q⟩
    · exact q.elim
theorem n_ret {c : E rm.S} {e : Expr} {p : Pos} (he : PE X e (rdE W c)) (hv : ∀ i, c ≠ .var i) : PS X (.Return (some e) p) (rd1 W (.ret c)) :=
  PS_imp (ps_ret he) fun D σ H q => by
    obtain ⟨fx, Γ, s, F, A, R, K, ko, q⟩ := q
    have q' : wE K.ex c Γ s fun v _ s' => K.rt v s' := by
      cases c with
      | var i => exact absurd rfl (hv i)
      | _ => exact q
    refine ⟨fx, Γ, s, F, A, R, K.ex, ko.ex, wE_mono c (fun v Γ' s' q => ?_) q'⟩
    intro y H' F' A' R' hx sb rv
    exact ko.rt _ _ _ _ _ _ _ _ R' rv q
theorem n_brk {p : Pos} : PS X (.Break p) (rd1 W (.brk : St1 rm.S)) := PS_imp ps_break fun D σ H q => by
  obtain ⟨fx, Γ, s, F, A, R, K, ko, q⟩ := q
  exact ko.bk _ _ _ _ _ _ R q
theorem n_cnt {p : Pos} : PS X (.Continue p) (rd1 W (.cnt : St1 rm.S)) := PS_imp ps_continue fun D σ H q => by
  obtain ⟨fx, Γ, s, F, A, R, K, ko, q⟩ := q
  exact ko.ct _ _ _ _ _ _ R q
theorem n_pass {p : Pos} : PS X (.Pass p) (rd1 W (.nop : St1 rm.S)) := PS_imp ps_pass fun D σ H q => by
  obtain ⟨fx, Γ, s, F, A, R, K, ko, q⟩ := q
  exact ko.nx _ _ _ _ _ _ R q
theorem n_never {st : Stmt} : PS X st (rd1 W (.never : St1 rm.S)) := PS_imp ps_never fun D σ H q => by
  obtain ⟨fx, Γ, s, F, A, R, K, ko, q⟩ := q
  exact q
/-- what stays, as it stands now, is the ground -/
theorem SV.re {F0 : Hp} {x : V} {v : Val} (h : SV fx H F A x v) : SV (rm := rm) ⟨fx.L, F0, fx.A0⟩ H F A x v := by
  cases v <;> exact h
theorem SV.un {F0 : Hp} {x : V} {v : Val} (h : SV (rm := rm) ⟨fx.L, F0, fx.A0⟩ H F A x v) : SV fx H F A x v := by
  cases v <;> exact h
theorem SR.base (R : SR fx σ H Γ s F A) : SR (rm := rm) ⟨fx.L, F, fx.A0⟩ σ H Γ s F A where
  fh := R.fh
  fz := R.fz
  f0 := Sub.refl F
  lk := R.lk
  a0 := R.a0
  ok := R.ok
  ln := R.ln
  sl := fun i v e => let ⟨x, h1, h2⟩ := R.sl i v e; ⟨x, h1, h2.re⟩
  dj := R.dj
theorem SR.unbase {F0 : Hp} (R : SR (rm := rm) ⟨fx.L, F0, fx.A0⟩ σ H Γ s F A) (h : Sub fx.F0 F0) : SR fx σ H Γ s F A where
  fh := R.fh
  fz := R.fz
  f0 := h.trans R.f0
  lk := R.lk
  a0 := R.a0
  ok := R.ok
  ln := R.ln
  sl := fun i v e => let ⟨x, h1, h2⟩ := R.sl i v e; ⟨x, h1, h2.un⟩
  dj := R.dj
theorem n_aug {i : Nat} {x : Str} {c : E rm.S} {e : Expr} {o : Operator} {p p2 : Pos} (hN : X.N.Nodup) (hi : X.N[i]? = some x) (hx : Sto X x) (he : PE X e (rdP W c)) (ho : o = .Add ∨ o = .Sub) : PS X (.AugAssign (.Name x p2) o e p) (rd1 W (.aug i o c)) := by
  rcases ho with rfl | rfl
  · exact PS_imp (ps_aug hN hi hx.1 he ip_add hx.2) fun D σ H q => by
      obtain ⟨fx, Γ, s, F, A, R, K, ko, q⟩ := q
      dsimp only [w1] at q
      split at q
      · rename_i a ha
        obtain ⟨y, h1, h2⟩ := R.sl i _ ha
        cases h2
        refine ⟨_, h1, fx, Γ, s, F, A, R, K.ex, ko.ex, opnE_mono c (fun d Γ' s' q => ?_) q⟩
        intro z H' F' A' R' hx sb ro
        split at q
        · exact ⟨_, _, rfl, flat_int ro.1, ko.nx _ _ _ _ _ _ (R'.putD (.int _)) q⟩
        · exact q.elim
      · exact q.elim
  · exact PS_imp (ps_aug hN hi hx.1 he ip_sub hx.2) fun D σ H q => by
      obtain ⟨fx, Γ, s, F, A, R, K, ko, q⟩ := q
      dsimp only [w1] at q
      split at q
      · rename_i a ha
        obtain ⟨y, h1, h2⟩ := R.sl i _ ha
        cases h2
        refine ⟨_, h1, fx, Γ, s, F, A, R, K.ex, ko.ex, opnE_mono c (fun d Γ' s' q => ?_) q⟩
        intro z H' F' A' R' hx sb ro
        split at q
        · exact ⟨_, _, rfl, flat_int ro.1, ko.nx _ _ _ _ _ _ (R'.putD (.int _)) q⟩
        · exact q.elim
      · exact q.elim
/-! ### if, while, for -/
theorem n_ite {c : E rm.S} {e : Expr} {a b : List Stmt} {ca cb : Sms rm.S} {p : Pos} (hc : PT X e (rdT W c)) (ha : PSs X a (rdSs W ca)) (hb : PSs X b (rdSs W cb)) : PS X (.If e a b p) (rdS W (.ite c ca cb)) :=
  PS_imp (ps_if hc ha hb) fun D σ H q => by
    obtain ⟨fx, Γ, s, F, A, R, K, ko, q⟩ := q
    unfold wS at q
    refine ⟨fx, Γ, s, F, A, R, K.ex, ko.ex, opnE_mono c (fun d Γ' s' q => ?_) q⟩
    refine boolD_mono (fun b q => ?_) q
    intro H' F' A' R' hx sb
    exact ite_mono (fun q => ⟨fx, Γ', s', F', A', R', K, ko, q⟩) (fun q => ⟨fx, Γ', s', F', A', R', K, ko, q⟩) q
theorem n_whl {c : E rm.S} {e : Expr} {b : List Stmt} {cb : Sms rm.S} {p : Pos} (hp : PassesOwn (model X.prog X.w) X.A X.env X.xe) (hc : PT X e (rdT W c)) (hb : PSs X b (rdSs W cb)) : PS X (.While e b [] p) (rdS W (.whl c cb)) :=
  PS_imp (ps_while hp hc hb) fun D σ H q => by
    obtain ⟨fx, Γ, s, F, A, R, K, ko, q⟩ := q
    unfold wS at q
    obtain ⟨V, ⟨m0, v0⟩, turn⟩ := q
    refine ⟨fun m σ H => ∃ Γ s F A, SR fx σ H Γ s F A ∧ V m Γ s, ⟨m0, Γ, s, F, A, R, v0⟩, ?_⟩
    rintro m σ1 H1 ⟨Γ1, s1, F1, A1, R1, v1⟩
    refine ⟨fx, Γ1, s1, F1, A1, R1, K.ex, ko.ex, opnE_mono c (fun d Γ' s' q => ?_) (turn m Γ1 s1 v1)⟩
    refine boolD_mono (fun b q => ?_) q
    intro H' F' A' R' hx sb
    refine ite_mono (fun q => ?_) (fun q => ko.nx _ _ _ _ _ _ R' q) q
    refine ⟨fun σ H => ∃ m', m' < m ∧ ∃ Γ s F A, SR fx σ H Γ s F A ∧ V m' Γ s, fun σ' H' h => h, fx, Γ', s', F', A', R', _, ?_, q⟩
    exact { nx := fun Γ s σ H F A R ⟨m', h1, h2⟩ => ⟨m', h1, Γ, s, F, A, R, h2⟩, rt := ko.rt, bk := ko.nx, ct := fun Γ s σ H F A R ⟨m', h1, h2⟩ => ⟨m', h1, Γ, s, F, A, R, h2⟩, ex := ko.ex }
theorem n_for {tc : Tg} {it : It rm.S} {cb : Sms rm.S} {tg iter : Expr} {b : List Stmt} {p : Pos} (hp : PassesOwn (model X.prog X.w) X.A X.env X.xe) (hc : X.calm = true) (hi : PI X tg iter (rdJ W it)) (hg : PG X tg (rdG X.K tc)) (hb : PSs X b (rdSs W cb)) (hs : shp iter = true) : PS X (.For tg iter b [] p) (rdS W (.for tc it cb)) :=
  PS_imp (ps_for hp hc hi hg hb (fold1 hs)) fun D σ H q => by
    obtain ⟨fx, Γ, s, F, A, R, K, ko, q⟩ := q
    unfold wS at q
    refine ⟨fx, Γ, s, F, A, R, K.ex, ko.ex, wJ_mono it (fun xs Γ1 s1 q => ?_) q⟩
    intro J H1 F1 A1 R1 hx1 sb1 yl
    obtain ⟨hbig, q⟩ := q
    refine ⟨fun i m σ2 H2 => m = xs.length - i ∧ i ≤ xs.length ∧ ∃ Γ2 s2 F2 A2, SR fx σ2 H2 Γ2 s2 F2 A2 ∧ Sub F1 F2 ∧ fLoop (fun x Γ s K' => bindT tc x Γ fun Γ' => wSs cb Γ' s K') K (xs.drop i) Γ2 s2, ⟨xs.length, rfl, Nat.zero_le _, Γ1, s1, F1, A1, R1, Sub.refl F1, q⟩, ?_⟩
    rintro i m σ2 H2 ⟨rfl, hi, Γ2, s2, F2, A2, R2, sb2, q⟩
    have gs : Sub F1 H2 := sb2.trans R2.fh
    by_cases hlt : i < xs.length
    · obtain ⟨x0, e0⟩ := get_lt (l := xs) hlt
      have ed : xs.drop i = x0 :: xs.drop (i + 1) := by
        rw [List.drop_eq_getElem_cons hlt]
        rw [List.getElem?_eq_getElem hlt] at e0
        rw [Option.some.inj e0]
      rw [ed] at q
      obtain ⟨go, yld⟩ := (yl i H2 gs).1 hlt
      refine .inr ⟨go, fun σ' H' => ∃ Γ2 s2 F2 A2, SR fx σ' H' Γ2 s2 F2 A2 ∧ Sub F1 F2 ∧ fLoop (fun x Γ s K' => bindT tc x Γ fun Γ' => wSs cb Γ' s K') K (xs.drop (i + 1)) Γ2 s2, fun σ' H' w => ⟨xs.length - (i + 1), by omega, rfl, hlt, w⟩, fun x H3 y => ?_⟩
      obtain ⟨d, hd, hy⟩ := yld x H3 y
      rw [e0] at hd
      cases hd
      obtain ⟨F3, R3, hx3, sb3, rp⟩ := R2.yield sb2 hy
      have q' : bindT tc x0 Γ2 (fun Γ' => wSs cb Γ' s2 _) := q
      have g := bindT_rd (K := X.K) R3 rp q'
      refine n_comp.gmono tc (fun σ4 H4 z => ?_) g
      obtain ⟨rfl, _, Γ4, q4, R4⟩ := z
      refine ⟨⟨fx.L, F3, fx.A0⟩, Γ4, s2, F3, A2, R4.base, _, ?_, q4⟩
      exact {
        nx := fun Γ5 s5 σ5 H5 F5 A5 R5 q5 => ⟨Γ5, s5, F5, A5, R5.unbase (R4.f0), (sb2.trans sb3).trans R5.f0, q5⟩
        rt := fun v x Γ5 s5 σ5 H5 F5 A5 R5 rv q5 => ko.rt v x _ _ _ _ _ _ (R5.unbase R4.f0) rv.un q5
        bk := fun Γ5 s5 σ5 H5 F5 A5 R5 q5 => ko.nx _ _ _ _ _ _ (R5.unbase R4.f0) q5
        ct := fun Γ5 s5 σ5 H5 F5 A5 R5 q5 => ⟨Γ5, s5, F5, A5, R5.unbase (R4.f0), (sb2.trans sb3).trans R5.f0, q5⟩
        ex := fun n Γ5 s5 σ5 H5 F5 A5 R5 q5 => ko.ex n _ _ _ _ _ _ (R5.unbase R4.f0) q5 }
    · have e : i = xs.length := by omega
      subst e
      refine .inl ⟨(yl _ H2 gs).2 rfl, ?_⟩
      rw [List.drop_length] at q
      exact ko.nx _ _ _ _ _ _ R2 q
end
end Ac
namespace Ac
open PySem PySem.Spec PyProof.Rows L2
section
variable {rm : RM} {X : Cx} {k : Nat} {t : Sx} {W : WN} {fx : Fx rm} {xc : Nat → Ctx → rm.S → Prop} {σ : L2.St} {H F : Hp} {Γ : Ctx} {s : rm.S} {A : rm.A}
/-! ### what a for walks -/
theorem n_jSeq {c : E rm.S} {e tg : Expr} (h : PE X e (rdE W c)) : PI X tg e (rdJ W (.seq c)) := by
  refine PI_imp (pi_seq h) fun σ H R q => ?_
  obtain ⟨fx, Γ, s, F, A, R0, xc, xk, q⟩ := q
  unfold wJ at q
  refine ⟨fx, Γ, s, F, A, R0, xc, xk, wE_mono c (fun v Γ1 s1 q => ?_) q⟩
  intro x H1 F1 A1 R1 hx1 sb1 rv
  obtain ⟨d, F2, q, R2, sb2, rp⟩ := R1.stay rv q
  unfold seqD at q
  split at q
  · cases rp with
    | lst h1 r => exact .inl ⟨_, rfl, ⟨_, .inl (R2.fh.rd h1)⟩, q _ H1 F2 A1 R2 hx1 (sb1.trans sb2) (yl_list h1 r)⟩
  · cases rp with
    | tup h1 r => exact .inr (.inl ⟨_, rfl, ⟨_, .inl (.inl (R2.fh _ _ h1))⟩, q _ H1 F2 A1 R2 hx1 (sb1.trans sb2) (yl_tup h1 r)⟩)
  · cases rp
    exact .inr (.inr ⟨_, rfl, q _ H1 F2 A1 R2 hx1 (sb1.trans sb2) yl_str⟩)
  · exact q.elim
theorem n_jRng1 {c : E rm.S} {e tg : Expr} {p p2 : Pos} (hg : Gl X "range") (hm : X.mg "range" = none) (ha : PA X [e] (rdA W (.cons c .nil))) (hs : shp e = true) : PI X tg (.Call (.Name "range" p2) [e] [] p) (rdJ W (.rng (.cons c .nil))) := by
  refine PI_imp (pi_range1 hg hm ha (star1 hs)) fun σ H R q => ?_
  obtain ⟨fx, Γ, s, F, A, R0, xc, xk, q⟩ := q
  unfold wJ at q
  exact rng1_rd R0 xk q fun xs Γ' s' h J H' F' A' R' hx sb yl => h J H' F' A' R' hx sb (yl _ _)
theorem n_jRng2 {c c2 : E rm.S} {e e2 tg : Expr} {p p2 : Pos} (hg : Gl X "range") (hm : X.mg "range" = none) (ha : PA X [e, e2] (rdA W (.cons c (.cons c2 .nil)))) (hs : shp e = true) (hs2 : shp e2 = true) : PI X tg (.Call (.Name "range" p2) [e, e2] [] p) (rdJ W (.rng (.cons c (.cons c2 .nil)))) := by
  refine PI_imp (pi_range2 hg hm ha (by rw [star1 hs, star1 hs2]; rfl) (by rw [star1 hs2]; rfl)) fun σ H R q => ?_
  obtain ⟨fx, Γ, s, F, A, R0, xc, xk, q⟩ := q
  unfold wJ at q
  exact rng2_rd R0 xk q fun xs Γ' s' h J H' F' A' R' hx sb yl => h J H' F' A' R' hx sb (yl _ _)
theorem n_jRng3 {c c2 c3 : E rm.S} {e e2 e3 tg : Expr} {p p2 : Pos} (hg : Gl X "range") (hm : X.mg "range" = none) (ha : PA X [e, e2, e3] (rdA W (.cons c (.cons c2 (.cons c3 .nil))))) (hs : shp e = true) (hs2 : shpL [e2, e3] = true) : PI X tg (.Call (.Name "range" p2) [e, e2, e3] [] p) (rdJ W (.rng (.cons c (.cons c2 (.cons c3 .nil))))) := by
  refine PI_imp (pi_range3 hg hm ha (star1 hs) (stars hs2)) fun σ H R q => ?_
  obtain ⟨fx, Γ, s, F, A, R0, xc, xk, q⟩ := q
  unfold wJ at q
  exact rng3_rd R0 xk q fun xs Γ' s' h J H' F' A' R' hx sb yl => h J H' F' A' R' hx sb (yl _ _)
theorem n_iRng1 {c : E rm.S} {e tg : Expr} {p p2 : Pos} (hg : Gl X "range") (hm : X.mg "range" = none) (ha : PA X [e] (rdA W (.cons c .nil))) (hs : shp e = true) : PI X tg (.Call (.Name "range" p2) [e] [] p) (rdI W (.rng (.cons c .nil))) := by
  refine PI_imp (pi_range1 hg hm ha (star1 hs)) fun σ H R q => ?_
  obtain ⟨fx, Γ, s, F, A, R0, xc, xk, q⟩ := q
  unfold wI at q
  exact rng1_rd R0 xk q fun xs Γ' s' h J H' F' A' R' hx sb yl => h J H' F' A' (fun _ => none) R' hx sb nogc (yl _ _)
theorem n_iRng2 {c c2 : E rm.S} {e e2 tg : Expr} {p p2 : Pos} (hg : Gl X "range") (hm : X.mg "range" = none) (ha : PA X [e, e2] (rdA W (.cons c (.cons c2 .nil)))) (hs : shp e = true) (hs2 : shp e2 = true) : PI X tg (.Call (.Name "range" p2) [e, e2] [] p) (rdI W (.rng (.cons c (.cons c2 .nil)))) := by
  refine PI_imp (pi_range2 hg hm ha (by rw [star1 hs, star1 hs2]; rfl) (by rw [star1 hs2]; rfl)) fun σ H R q => ?_
  obtain ⟨fx, Γ, s, F, A, R0, xc, xk, q⟩ := q
  unfold wI at q
  exact rng2_rd R0 xk q fun xs Γ' s' h J H' F' A' R' hx sb yl => h J H' F' A' (fun _ => none) R' hx sb nogc (yl _ _)
theorem n_iRng3 {c c2 c3 : E rm.S} {e e2 e3 tg : Expr} {p p2 : Pos} (hg : Gl X "range") (hm : X.mg "range" = none) (ha : PA X [e, e2, e3] (rdA W (.cons c (.cons c2 (.cons c3 .nil))))) (hs : shp e = true) (hs2 : shpL [e2, e3] = true) : PI X tg (.Call (.Name "range" p2) [e, e2, e3] [] p) (rdI W (.rng (.cons c (.cons c2 (.cons c3 .nil))))) := by
  refine PI_imp (pi_range3 hg hm ha (star1 hs) (stars hs2)) fun σ H R q => ?_
  obtain ⟨fx, Γ, s, F, A, R0, xc, xk, q⟩ := q
  unfold wI at q
  exact rng3_rd R0 xk q fun xs Γ' s' h J H' F' A' R' hx sb yl => h J H' F' A' (fun _ => none) R' hx sb nogc (yl _ _)
theorem n_jEnu {c : E rm.S} {e : Expr} {elts : List Expr} {kk : Nat} {tp p p2 : Pos} (hg : Gl X "enumerate") (hm : X.mg "enumerate" = none) (h : PE X e (rdE W c)) (hs : shp e = true) : PI X (.Tuple elts kk tp) (.Call (.Name "enumerate" p2) [e] [] p) (rdJ W (.enu c)) := by
  refine PI_imp (pi_enum hg hm (pa_cons h pa_nil (star1 hs)) (star1 hs)) fun σ H R q => ?_
  obtain ⟨fx, Γ, s, F, A, R0, xc, xk, q⟩ := q
  unfold wJ at q
  refine ⟨fx, Γ, s, F, A, R0, xc, xk, wE_mono c (fun v Γ1 s1 q => ?_) q⟩
  intro x H1 F1 A1 R1 hx1 sb1 rv
  obtain ⟨d, F2, q, R2, sb2, rp⟩ := R1.stay rv q
  unfold lstD at q
  split at q
  · cases rp with
    | lst h1 r => exact ⟨_, _, rfl, .inl (R2.fh.rd h1), q _ H1 F2 A1 R2 hx1 (sb1.trans sb2) (yl_enum h1 r)⟩
  · exact q.elim
theorem n_jZip {c c2 : E rm.S} {e e2 : Expr} {elts : List Expr} {kk : Nat} {tp p p2 : Pos} (hg : Gl X "zip") (hm : X.mg "zip" = none) (h : PE X e (rdE W c)) (h2 : PE X e2 (rdE W c2)) (hs : shp e = true) (hs2 : shp e2 = true) : PI X (.Tuple elts kk tp) (.Call (.Name "zip" p2) [e, e2] [] p) (rdJ W (.zip c c2)) := by
  refine PI_imp (pi_zip hg hm (pa_cons h (pa_cons h2 pa_nil (star1 hs2)) (star1 hs)) (star1 hs) (stars (by unfold shpL; rw [List.all_cons, hs2]; rfl))) fun σ H R q => ?_
  obtain ⟨fx, Γ, s, F, A, R0, xc, xk, q⟩ := q
  unfold wJ at q
  refine ⟨fx, Γ, s, F, A, R0, xc, xk, wE_mono c (fun v Γ1 s1 q => ?_) q⟩
  intro x H1 F1 A1 R1 hx1 sb1 rv
  obtain ⟨d, F2, q, R2, sb2, rp⟩ := R1.stay rv q
  refine ⟨fx, Γ1, s1, F2, A1, R2, xc, xk, wE_mono c2 (fun v2 Γ3 s3 q => ?_) q⟩
  intro y H3 F3 A3 R3 hx3 sb3 rv3
  obtain ⟨d4, F4, q, R4, sb4, rp4⟩ := R3.stay rv3 q
  unfold lstD at q
  split at q
  · split at q
    · cases rp with
      | lst h1 r =>
        cases rp4 with
        | lst h5 r5 => exact ⟨_, _, _, _, rfl, .inl (R4.fh.rd ((sb3.trans sb4).rd h1)), .inl (R4.fh.rd h5), q _ H3 F4 A3 R4 (hx1.trans hx3) (((sb1.trans sb2).trans sb3).trans sb4) (yl_zip ((sb3.trans sb4).rd h1) h5 ((r.mono sb3).mono sb4) r5)⟩
    · exact q.elim
  · exact q.elim
/-! ### name = [..] -/
theorem n_asgL {i : Nat} {y : Str} {own : List Nat} {tc : Tg} {it : It rm.S} {c : Es rm.S} {ce : E rm.S} {elt tg iter : Expr} {ifs : List Expr} {scope : Scope} {ol : List (Str × Nat)} {p p2 p3 : Pos} (hy : X.N[i]? = some y) (hyl : X.env.scope.names.lookup y = some .local)
    (hsw : swapsWith (.ListComp elt [⟨tg, iter, ifs, 0⟩] scope p) (some (.Name y p2)) p3.line X.env = pure true) (hol : ol.map (·.2) = own) (hc : X.calm = true) (hN : X.N.Nodup)
    (hi : PI X tg iter (rdI W it)) (ok : BlkOk X.N X.env.scope scope ol)
    (hg : ∀ (s : Shared) (H : Hp) (C : Addr) (cl : List (Str × Addr)) (fp : List Addr), PG (X.blk s H scope (compEnvC scope cl C X.env) fp) tg (rdG X.K tc))
    (ht : ∀ (s : Shared) (H : Hp) (C : Addr) (cl : List (Str × Addr)) (fp : List Addr), PTs (X.blk s H scope (compEnvC scope cl C X.env) fp) ifs (rdC W0 c))
    (he : ∀ (s : Shared) (H : Hp) (C : Addr) (cl : List (Str × Addr)) (fp : List Addr), PE (X.blk s H scope (compEnvC scope cl C X.env) fp) elt (rdE W0 ce)) (hs : shp iter = true) (hin : tgIn tc own) :
    PS X (.Assign [.Name y p2] (.ListComp elt [⟨tg, iter, ifs, 0⟩] scope p) p3) (rd1 W (.asgL i (.comp own tc it c ce))) := by
  have h := ps_setLc (own := ol) hc hN hy hyl hsw hi ok hg ht he (fold1 hs)
  rw [hol] at h
  refine PS_imp h fun D σ H q => ?_
  obtain ⟨fx, Γ, s, F, A, R, K, ko, q⟩ := q
  dsimp only [w1] at q
  refine (n_comp (p := p) hol hc hN hi ok hg ht he hs hin).2 σ H _ ⟨fx, Γ, s, F, A, R, K.ex, ko.ex, wE_mono _ (fun v Γ' s' q => ?_) q⟩
  intro y H' F' A' R' hx sb rv
  exact ko.nx _ _ _ _ _ _ (R'.putV rv) q
/-! ### xs[j] = e; xs.insert(j, e); raise -/
theorem asg_sub {o i : Expr} {p : Pos} {env : Env} (h : shp i = true) : ∀ v, assign (.Subscript o i p) env v = (do
      let ov ← holding [v] (eval o env)
      let iv ← holding [v, ov] (eval i env)
      standAt p
      holding [v, ov, iv] (setItem ov iv v)
      release [v, ov, iv] []) := by
  cases i <;> first | (intro v; rfl) | cases h
theorem swsub {e o i : Expr} {p : Pos} {l : Nat} {env : Env} (h : shp e = true) (hc : isComp e = false) : swapsWithSole [.Subscript o i p] e l env = pure false := by
  cases e <;> first | rfl | exact Bool.noConfusion hc | exact Bool.noConfusion h
theorem swsub2 {e o i : Expr} {p : Pos} {env : Env} (h : isTupE e = false) : swappedStores [.Subscript o i p] e env = pure none := by
  cases e <;> first | rfl | cases h
theorem n_setI {i : Nat} {x : Str} {cj c : E rm.S} {j e : Expr} {p p2 p3 : Pos} (hv : PE X (.Name x p3) (tVar i)) (hj : PE X j (rdP W cj)) (he : PE X e (rdE W c)) (hsj : shp j = true) (hs : shp e = true) (hc : isComp e = false) (ht : isTupE e = false) : PS X (.Assign [.Subscript (.Name x p3) j p2] e p) (rd1 W (.setI i cj c)) :=
  PS_imp (ps_asg he (pg_sub hv hj set_list (asg_sub hsj)) (swsub hs hc) (swsub2 ht)) fun D σ H q => by
    obtain ⟨fx, Γ, s, F, A, R, K, ko, q⟩ := q
    dsimp only [w1] at q
    refine ⟨fx, Γ, s, F, A, R, K.ex, ko.ex, wE_mono c (fun v Γ' s' q => ?_) q⟩
    intro y H' F' A' R' hx sb rv
    obtain ⟨d, F'', q, R'', sb', rp⟩ := R'.stay rv q
    split at q
    · rename_i xs hxs
      obtain ⟨a, vs, h1, e2, e3, e4, e5, e6⟩ := ownAt R'' hxs
      refine ⟨.ref a, h1, fx, Γ', s', F'', A', R'', K.ex, ko.ex, opnE_mono cj (fun z Γ2 s2 q => ?_) q⟩
      intro w H2 F2 A2 R2 hx2 sb2 ro
      split at q
      · rename_i zs n hzs
        split at q
        · rename_i m hm
          obtain ⟨a', ws, g1, g2, g3, g4, g5, g6⟩ := ownAt R2 hzs
          rw [h1] at g1
          cases g1
          refine ⟨a, ws, n, m, rfl, flat_int ro.1, g2, by rw [g6.length]; exact hm, ?_⟩
          exact ko.nx _ _ _ _ _ _ (R2.chgOwn (vs := ws) hzs h1 (g6.set (rp.mono sb2) m)) q
        · exact q.elim
      · exact q.elim
    · exact q.elim
theorem RpL.ins {x : V} {d : D} (h : Rp F x d) : ∀ {vs : List V} {ds : List D} {n : Nat}, RpL F vs ds → n ≤ ds.length → RpL F (vs.take n ++ [x] ++ vs.drop n) (ds.insertIdx n d)
  | vs, ds, 0, r, _ => by
    rw [List.insertIdx_zero]
    exact .cons h r
  | _, _, n + 1, .nil, hn => absurd hn (Nat.not_succ_le_zero n)
  | _, _, n + 1, .cons (v := v) (d := d') a b, hn => by
    rw [List.insertIdx_succ_cons]
    exact .cons a (RpL.ins h b (Nat.le_of_succ_le_succ hn))
theorem n_ins {i : Nat} {x : Str} {cj c : E rm.S} {j e : Expr} {p p2 p3 p4 : Pos} (hv : PE X (.Name x p3) (tVar i)) (hj : PE X j (rdP W cj)) (he : PE X e (rdE W c)) (hsj : shp j = true) (hs : shp e = true) (hl : (p2.endLine == p4.line) = true) : PS X (.Expr (.Call (.Attribute (.Name x p3) "insert" p2) [j, e] [] p4) p) (rd1 W (.ins i cj c)) :=
  PS_imp (ps_expr (pe_bm PySem.F.plainAttrs_list PySem.F.slot_list_insert PySem.F.type_list_insert mt_insert hv (pa_cons hj (pa_cons he pa_nil (star1 hs)) (star1 hsj)) (hfew := few2 hsj hs) (hline := hl) (hs := star1 hsj) (hplain := stars (by unfold shpL; rw [List.all_cons, hs]; rfl)))) fun D σ H q => by
    obtain ⟨fx, Γ, s, F, A, R, K, ko, q⟩ := q
    dsimp only [w1] at q
    split at q
    · rename_i xs hxs
      obtain ⟨a, vs, h1, e2, e3, e4, e5, e6⟩ := ownAt R hxs
      refine ⟨.ref a, h1, .inl ⟨rfl, _, SqL.of e2⟩, fx, Γ, s, F, A, R, K.ex, ko.ex, opnE_mono cj (fun z Γ1 s1 q => ?_) q⟩
      intro w H1 F1 A1 R1 hx1 sb1 ro
      refine ⟨fx, Γ1, s1, F1, A1, R1, K.ex, ko.ex, wE_mono c (fun v Γ' s' q => ?_) q⟩
      intro y H' F' A' R' hx sb rv
      obtain ⟨d, F'', q, R'', sb', rp⟩ := R'.stay rv q
      split at q
      · rename_i zs n hzs _ _
        obtain ⟨a', ws, g1, g2, g3, g4, g5, g6⟩ := ownAt R'' hzs
        rw [h1] at g1
        cases g1
        obtain ⟨q1, q2, q3, q4⟩ := q
        have hb := big_lt q1
        have hbig : zs.length < 100000 := q1
        refine ⟨a, ws, n, y, rfl, by rw [flat_int ro.1], g2, by rw [g6.length]; exact hb, q2, by omega, ?_⟩
        exact ko.nx _ _ _ _ _ _ (R''.chgOwn (vs := ws) hzs h1 (RpL.ins rp g6 (by omega))) q4
      · exact q.elim
    · exact q.elim
where
  few2 {e e2 : Expr} {env : Env} {p : Pos} (hs : shp e = true) (hs2 : shp e2 = true) : ((backTo p (starEach [e, e2] env)).all (fun x => !x.1) && (backToKw p (keywordEach [] env)).all (fun x => x.1.isSome) && decide ([e, e2].length + ([] : List Keyword).length + (if ([] : List Keyword).isEmpty then 0 else 1) < 30)) = true := by
    rw [stars1 (es := [e, e2]) (by unfold shpL; rw [List.all_cons, hs, List.all_cons, hs2]; rfl)]
    rfl
/-- the program's exceptions: by a name its number, its class -/
structure ExF (X : Cx) (x : Str) (C : Addr) : Prop where
  mg : X.mg x = some (.ref C)
  ex : PySem.W.excIn X.K C [.type "ValueError", .type "Exception", .type "BaseException", .type "object"] "ValueError.__new__" = true
  kp : PySem.W.keepIn X.K (.ref C) = true
  sb : PySem.W.subIn X.K (.ref C) (.type "BaseException") = some true
  ty : PySem.W.typeIn X.K (.ref C) = some (.type "type")
theorem n_raise {cl : Nat → Addr} {x m : Str} {n j : Nat} {p p2 p3 p4 : Pos} (hc : X.calm = true) (tk : Takes X (WXof cl W)) (f : ExF X x (cl n)) (hg : Gl X x) (hdb : (x == ("__debug__" : Str)) = false) : PS X (.Raise (some (.Call (.Name x p3) [.Constant (.str m) j p4] [] p2)) none p) (rd1 W (.raise x n : St1 rm.S)) :=
  PS_imp (ps_raise hc tk (pmk_own PySem.F.excBase_ValueError f.ex f.mg f.kp (raises_own f.sb f.ty) hg hdb)) fun D σ H q => by
    obtain ⟨fx, Γ, s, F, A, R, K, ko, q⟩ := q
    dsimp only [w1] at q
    exact ⟨n, rfl, rfl, ko.ex n _ _ _ _ _ _ R q⟩
end
end Ac
namespace Ac
open PySem PySem.Spec PyProof.Rows L2
/-! ### set(xs) of a list of ints; sorted and len of it -/
abbrev nSet (wd : World) : Obj := { cls := .type "set", dict := none, data := .set #[] 0 (.fresh 0 0 (!wd.params.followText "set-order")) }
section
variable {Pg : Program} {wd : World} {Ar : Around} {Ex : Value → Shared → Prop} {sh : Shared}
set_option maxHeartbeats 3200000 in
theorem set_listI {ad : Addr} {its : Array Value} (ns : List Int) {Q : Value → Shared → Prop} (nh : Ar.handled = none) (hl : sh.heap.IsList ad its) (hI : IntsAre its.toList ns) (hb : ns.length + 1 < scanBound)
    (fin : ∀ (hp : Heap) (tk c : Nat), SetR wd hp sh.heap.objs.size (fun j => decide (j ∈ ns)) c → c ≤ ns.length → (∀ b o, sh.heap.get? b = some o → hp.get? b = some o) → Q (.ref sh.heap.objs.size) { sh with heap := hp, toks := tk }) :
    wpAny (model Pg wd) Ar (call (.type "set") [.ref ad]) Q Ex sh := by
  have hsz : its.size = ns.length := by
    have q := IntsAre.length hI
    rw [Array.length_toList] at q
    exact q
  obtain ⟨c, tl, hmro⟩ := F.called_set.mro
  have hmade := F.called_set.made
  have hsub := F.called_set.sub
  refine wpAny_call (codeAny_of_tree ?_)
  show wpAny _ _ (callAny (.type "set") _) _ _ _
  refine wpAny_pure ⟨Code.quiet_builtin _ (by decide +kernel), codeAny_builtin F.entry_type_call ?_⟩
  rw [Around.under_plain (weight_type_call_type "set" [.ref ad] []) rfl]
  have c1 := F.called_set.notType
  have c2 := F.called_set.canCreate
  have ct := F.typeCall_set_1 (.ref ad)
  repeat (any_goals (first | assumption | wp_step))
  refine codeAny_mono (code_set_led1 (.ref ad) (E := Ex) (Q₁ := fun ob s1 => ob = .ref sh.heap.objs.size ∧ s1 = { sh with heap := sh.heap.push (nSet wd) }) ⟨rfl, rfl⟩) fun r s1 hr => ?_
  cases r with
  | error e => exact hr
  | ok fl =>
    cases fl with
    | ret ob =>
      obtain ⟨rfl, rfl⟩ := hr
      have hS : (sh.heap.push (nSet wd)).get? sh.heap.objs.size = some (nSet wd) := Heap.get?_push_size _ rfl
      have hT : Shared.TypeIs { sh with heap := sh.heap.push (nSet wd) } (.ref sh.heap.objs.size) "set" := ⟨_, hS, rfl⟩
      have il := F.called_set.init.lookup
      have ib := F.called_set.init.bind (.ref sh.heap.objs.size)
      repeat (any_goals (first | assumption | wp_step))
      refine codeAny_mono (codeAny_call_builtin (R := wants (fun r s2 => r = .none ∧ ∃ hp tk c, s2 = { sh with heap := hp, toks := tk } ∧ SetR wd hp sh.heap.objs.size (fun j => decide (j ∈ ns)) c ∧ c ≤ ns.length ∧
          (∀ b o, sh.heap.get? b = some o → hp.get? b = some o)) Ex) F.called_set.init.plain F.entry_set_init (check_set_init_1 hT ?_)) fun r2 s2 hr2 => ?_
      · obtain ⟨ol, e1, e2, nl, e3⟩ := hl
        obtain ⟨x1, x2, x3, x4⟩ := ol
        simp only at e2 e3
        subst e2
        subst e3
        have e4 : (sh.heap.push (nSet wd)).get? ad = some { cls := .type "list", dict := x2, data := .seq its nl, slots := x4 } := Heap.get?_push_of_some _ e1
        have b1 := F.sub_list_set
        have b2 := F.sub_list_frozenset
        have b3 : (Value.type "list" == Value.type "dict") = false := by decide
        have isl : (sh.heap.push (nSet wd)).IsList ad its := ⟨_, e4, rfl, nl, rfl⟩
        unfold Builtin.«set.__init__» noKeywords Builtin.Frozenset.updateFrom
        generalize hPI : pyIter = PI
        wp_walk
        subst hPI
        refine wpAny_pyIter_list isl ?_
        refine wpAny_bind (wpAny_runValue ?_)
        have lt0 : ad < sh.heap.objs.size := Heap.lt_size e1
        have nh3 : Ar.in1.in1.in1.handled = none := by simp [nh]
        have sz1 : (sh.heap.push (nSet wd)).objs.size = sh.heap.objs.size + 1 := Heap.size_push ..
        have ne1 : ad ≠ (sh.heap.push (nSet wd)).objs.size := by rw [sz1]; exact Nat.ne_of_lt (Nat.lt_succ_of_lt lt0)
        have nm : sh.heap.objs.size ∉ [(sh.heap.push (nSet wd)).objs.size, ad] := by
          rw [sz1]
          simp only [List.mem_cons, List.mem_singleton, List.not_mem_nil, or_false, not_or]
          exact ⟨Nat.ne_of_lt (Nat.lt_succ_self _), Nat.ne_of_gt lt0⟩
        have val : ∀ (i : Nat) (v : Value), its[i]? = some v → ∃ k t, ns[i]? = some k ∧ v = .int k t := fun i v hv => by
          have hi : i < ns.length := by rw [← hsz]; exact (Array.getElem?_eq_some_iff.mp hv).1
          obtain ⟨t, e⟩ := PyProof.Rows.IntsAre.int_at hI i v (by rw [Array.getElem?_toList]; exact hv)
          refine ⟨ns[i], t, List.getElem?_eq_getElem hi, ?_⟩
          rw [e, List.getD_eq_getElem?_getD, List.getElem?_eq_getElem hi] <;> rfl
        refine set_update_ints ((Walks.list nh3 _ ad ne1 its).toS) sh.heap.objs.size nm ns hsz hb val (its.size - 0) 0 _ (by omega) (Nat.zero_le _) ⟨⟨_, Heap.get?_push_size _ rfl, rfl, rfl⟩, (isl.push _)⟩ ?hS0 ?hR
        case hS0 =>
          exact ⟨0, Nat.le_refl 0, setR_new_at (Heap.get?_push_of_some _ hS)⟩
        case hR =>
          intro s3 c3 hm hc3 hS3
          obtain ⟨hp, g2, d2, tk2, o2⟩ := s3
          have eg : g2 = sh.gens := hm.gens
          have ed : d2 = sh.drawn := hm.drawn
          have eo : o2 = sh.os := hm.os
          subst eg
          subst ed
          subst eo
          show wpAny _ _ _ _ _ _
          refine wpAny_pure ?_
          show wpAny _ _ (ret Value.none) _ _ _
          rw [hsz] at hc3
          refine wpAny_pure ⟨rfl, hp, tk2, c3, rfl, hS3, hc3, fun b o e => ?_⟩
          have l0 : b < sh.heap.objs.size := Heap.lt_size e
          refine hm.heap b o ?_ (Heap.get?_push_of_some _ (Heap.get?_push_of_some _ e))
          rw [sz1]
          simp only [List.mem_cons, List.mem_singleton, List.not_mem_nil, or_false, not_or]
          exact ⟨Nat.ne_of_lt l0, Nat.ne_of_lt (Nat.lt_succ_of_lt l0)⟩
      · cases r2 with
        | error e => exact hr2
        | ok fl2 =>
          cases fl2 with
          | ret r =>
            obtain ⟨rfl, hp, tk, c3, rfl, hS3, hc3, hk3⟩ := hr2
            repeat (any_goals (first | assumption | wp_step))
            exact fin _ _ _ hS3 hc3 hk3
          | _ => exact hr2.elim
    | _ => exact hr.elim
end
section
variable {X : Cx}
/-- set(xs) -/
def rSetI (K : PySem.W.Frag) (w : World) : List V → Hp → VK → Prop := fun vs H Q => ∃ (a : Addr) (ns : List Int), vs = [V.ref a] ∧ SqL K H a (ns.map V.int) ∧ ns.length + 1 < scanBound ∧
  ∀ p c (ms : List Int), H p = none → ms.Nodup → (∀ j, j ∈ ms ↔ j ∈ ns) → ms.length = c → Q (.ref p) (upd H p (SetO w p (fun j => decide (j ∈ ns)) c))
theorem cr_setI (hc : X.calm = true) : CallR X (.type "set") (rSetI X.K X.w) := by
  intro pins s σ H xs us Q I r h
  obtain ⟨a, ns, rfl, hs, hb, q⟩ := h
  rw [Vals.ref1 r]
  obtain ⟨its, rv, pl, hz⟩ := I.list hs
  refine set_listI ns (I.ok.hd hc) pl.isList (by simpa using ints_of_vals rv) hb fun hp tk c hS hcn hk => ?_
  obtain ⟨o, es, ep, t, ho, hx, hd, g, nd, hm, hbb, hf, hn, _⟩ := id hS
  refine ⟨.ref _, upd H s.heap.objs.size (SetO X.w s.heap.objs.size (fun j => decide (j ∈ ns)) c), I.laid (t' := tk) hk (Nat.le_refl _) (setO_new hS), rfl, q _ _ (es.toList.map keyOf) (I.hok.fresh (Nat.le_refl _)) nd (fun j => ?_) ?_⟩
  · rw [← hm j, decide_eq_true_eq]
  · rw [List.length_map, Array.length_toList]; exact hn
end
end Ac
namespace Ac
open PySem PySem.Spec PyProof.Rows L2
/-! ### repr(x), at any depth -/
def SmB (h : Heap) : Prop := ∃ o, h.get? sysModules = some o
section
variable {X : Cx} {pins : List (Addr × Obj)} {σ : L2.St} {H : Hp} {s : Shared}
theorem ne_sys (I : Inv X pins σ H s) (sm : SmB X.base) {a : Addr} {o : HO} (h : H a = some o) : sysModules ≠ a := fun e => by
  obtain ⟨ob, hb⟩ := sm
  have := (I.bs _ _ hb).2
  rw [e, h] at this
  cases this
theorem rd_sys (I : Inv X pins σ H s) (sm : SmB X.base) {a : Addr} {u : HO} (h : Rd H a u) : sysModules ≠ a := by
  rcases h with h | ⟨o, h⟩ <;> exact ne_sys I sm h
mutual
theorem Rp.reads (I : Inv X pins σ H s) (sm : SmB X.base) : ∀ {v : V} {d : D} {u : Value}, Rp H v d → RelV v u → ∃ as, Reads s.heap u d as ∧ sysModules ∉ as
  | _, _, _, .non, r => by
    cases r
    exact ⟨_, Reads.none, List.not_mem_nil⟩
  | _, _, _, .bl b, r => by
    cases r
    exact ⟨_, Reads.bool b, List.not_mem_nil⟩
  | _, _, _, .int i, r => by
    obtain ⟨t, rfl⟩ := r
    exact ⟨_, Reads.int i t, List.not_mem_nil⟩
  | _, _, _, .str x, r => by
    obtain ⟨t, rfl⟩ := r
    exact ⟨_, Reads.str x t, List.not_mem_nil⟩
  | _, _, _, .lst h l, r => by
    cases r
    obtain ⟨its, rv, ⟨o, n, ho, hc, _, hd⟩, _⟩ := I.list (.inl h)
    obtain ⟨as, hr, hn⟩ := RpL.reads I sm l rv
    exact ⟨_, Reads.list ho hc hd hr, fun z => by
      rcases List.mem_cons.mp z with z | z
      · exact rd_sys I sm h z
      · exact hn z⟩
  | _, _, _, .tup h l, r => by
    cases r
    obtain ⟨its, rv, ⟨o, ho, hc, n, hd⟩, _⟩ := I.tuple (.inl (.inl h))
    obtain ⟨as, hr, hn⟩ := RpL.reads I sm l rv
    exact ⟨_, Reads.tuple ho hc hd hr, hn⟩
  | _, _, _, .dic h l, r => by
    cases r
    obtain ⟨_, _, vs, kv, o, es, ep, ho, hx, hd, _, hp, _⟩ := I.hok _ _ h
    obtain ⟨as, bs, h1, h2, h3⟩ := RpK.reads I sm l kv hp
    exact ⟨_, Reads.dict ho hx.1 hd h1 h2, fun z => by
      rcases List.mem_append.mp z with z | z
      · rcases List.mem_cons.mp z with z | z
        · exact ne_sys I sm h z
        · exact h3 (List.mem_append_left _ z)
      · exact h3 (List.mem_append_right _ z)⟩
theorem RpL.reads (I : Inv X pins σ H s) (sm : SmB X.base) : ∀ {vs : List V} {ds : List D} {us : List Value}, RpL H vs ds → Vals vs us → ∃ as, ReadsAll s.heap us ds as ∧ sysModules ∉ as
  | _, _, _, .nil, r => by
    cases r
    exact ⟨_, ReadsAll.nil, List.not_mem_nil⟩
  | _, _, _, .cons h l, r => by
    cases r with
    | cons r1 r2 =>
      obtain ⟨as, q1, n1⟩ := Rp.reads I sm h r1
      obtain ⟨bs, q2, n2⟩ := RpL.reads I sm l r2
      exact ⟨_, ReadsAll.cons q1 q2, fun z => (List.mem_append.mp z).elim n1 n2⟩
theorem RpK.reads (I : Inv X pins σ H s) (sm : SmB X.base) : ∀ {kvs : List (Key × V)} {ds : List (D × D)} {vs : List (Key × Value)} {es : List DictEntry}, RpK H kvs ds → KV kvs vs → Pairs (mixKind X.prog X.w) es vs →
    ∃ as bs, ReadsAll s.heap (es.map (·.key)) (ds.map (·.1)) as ∧ ReadsAll s.heap (es.map (·.val)) (ds.map (·.2)) bs ∧ sysModules ∉ as ++ bs
  | _, _, _, _, .nil, kv, hp => by
    cases kv
    cases hp
    exact ⟨_, _, ReadsAll.nil, ReadsAll.nil, List.not_mem_nil⟩
  | _, _, _, _, .cons h l, kv, hp => by
    cases kv with
    | cons k1 k2 =>
      cases hp with
      | cons p1 p2 p3 =>
        obtain ⟨e1, e2⟩ := k1
        dsimp only at e1 e2
        obtain ⟨as, q1, n1⟩ := Rp.reads I sm h e2
        obtain ⟨cs, bs, r1, r2, n2⟩ := RpK.reads I sm l k2 p3
        rw [← p2] at q1
        rw [← e1] at p1
        refine ⟨[] ++ cs, as ++ bs, ?_, ReadsAll.cons q1 r2, fun z => ?_⟩
        · refine ReadsAll.cons ?_ r1
          rcases keyIs_shape p1 with ⟨i, t, ek, ev⟩ | ⟨x, t, ek, ev⟩
          · dsimp only
            rw [ek, ev]; exact Reads.int i t
          · dsimp only
            rw [ek, ev]; exact Reads.str x t
        · rw [List.nil_append] at z
          rcases List.mem_append.mp z with z | z
          · exact n2 (List.mem_append_left _ z)
          · rcases List.mem_append.mp z with z | z
            · exact n1 z
            · exact n2 (List.mem_append_right _ z)
end
def rRepr : List V → Hp → VK → Prop := fun xs H Q => ∃ x d, xs = [x] ∧ Rp H x d ∧ okR d ∧ Q (.str d.shown) H
theorem cr_repr (hg : X.A.guards = some []) (hu : X.A.units + 65 < cLine) (sm : SmB X.base) : CallR X (.builtin "repr") rRepr := by
  intro pins s σ H xs us Q I r h
  obtain ⟨x, d, rfl, hx, ⟨h1, h2, h3⟩, q⟩ := h
  cases r with
  | cons r1 r2 =>
    cases r2
    obtain ⟨as, rd, hn⟩ := Rp.reads I sm hx r1
    cases rd with
    | none => exact PySem.P.repr_of_none ⟨.str _, H, I.tok _, ⟨_, rfl⟩, q⟩
    | bool b => exact PySem.P.repr_of_bool ⟨.str _, H, I.tok _, ⟨_, rfl⟩, q⟩
    | int i t => exact PySem.P.repr_of_int (of_decide_eq_true (by simpa [PyData.showable] using h1)) ⟨.str _, H, I.tok _, ⟨_, rfl⟩, q⟩
    | str x t => exact PySem.P.repr_of_str ⟨.str _, H, I.tok _, ⟨_, rfl⟩, q⟩ (hsz := h3)
    | list a b c e => exact repr_of_reads' (.list a b c e) h1 (fun _ => hn) hg (by omega) (fun _ _ e => e) (fun h' u tk hk => ⟨.str _, H, I.kept hk, ⟨_, rfl⟩, q⟩) h3
    | tuple a b c e => exact repr_of_reads' (.tuple a b c e) h1 (fun _ => hn) hg (by omega) (fun _ _ e => e) (fun h' u tk hk => ⟨.str _, H, I.kept hk, ⟨_, rfl⟩, q⟩) h3
    | dict a b c e f => exact repr_of_reads' (.dict a b c e f) h1 (fun _ => hn) hg (by omega) (fun _ _ e => e) (fun h' u tk hk => ⟨.str _, H, I.kept hk, ⟨_, rfl⟩, q⟩) h3
end
section
variable {X : Cx}
theorem cs_repr (hg : X.A.guards = some []) (hu : X.A.units + 65 < cLine) (sm : SmB X.base) : CallS X (.builtin "repr") reprD := by
  refine ⟨_, cr_repr hg hu sm, ?_⟩
  intro rm fx σ H Γ s F A xs ds Q R hxs h
  unfold reprD at h
  split at h
  · obtain ⟨x, rfl, hx⟩ := hxs.one
    refine ⟨x, _, rfl, ?_, h.1, KQ.dat R (.str _) h.2⟩
    rcases hx with hx | ⟨a, vs, ds, e1, e2, e3, _, e5⟩
    · exact hx.mono R.fh
    · rw [e1, e2]
      exact .lst (.inl e3) (e5.mono R.fh)
  · exact h.elim
end
end Ac
namespace Ac
open PySem PySem.Spec PyProof.Rows L2
section
variable {rm : RM} {X : Cx} {k : Nat} {t : Sx} {W : WN} {fx : Fx rm} {xc : Nat → Ctx → rm.S → Prop} {σ : L2.St} {H F : Hp} {Γ : Ctx} {s : rm.S} {A : rm.A}
/-! ### sorted(xs) of pairs -/
def keyP (F : Hp) : V → Int × Int
  | .ref t => match F t with
    | some (.tup [.int i, .int j]) => (i, j)
    | _ => (0, 0)
  | _ => (0, 0)
theorem RpL.pairs : ∀ {vs : List V} {xs : List D} {ps : List (Int × Int)}, RpL F vs xs → pairsD xs = some ps → vs.map (keyP F) = ps ∧ ∀ v ∈ vs, ∃ t, v = V.ref t ∧ F t = some (.tup [.int (keyP F v).1, .int (keyP F v).2])
  | _, [], ps, .nil, h => by cases h; exact ⟨rfl, fun v hv => nomatch hv⟩
  | _, d :: xs, ps, .cons (v := v) (vs := vs) h r, e => by
    unfold pairsD at e
    split at e
    · rename_i z; cases z
    · rename_i i j r' z
      cases z
      cases e1 : pairsD xs with
      | none => rw [e1] at e; cases e
      | some qs =>
        rw [e1] at e
        cases e
        obtain ⟨h1, h2⟩ := RpL.pairs r e1
        cases h with
        | tup ht hr =>
          rename_i a us
          cases hr with
          | cons g1 g2 =>
            cases g2 with
            | cons g2 g3 =>
              cases g3
              cases g1
              cases g2
              have hk : keyP F (.ref a) = (i, j) := by
                show (match F a with | some (.tup [.int i, .int j]) => (i, j) | _ => (0, 0)) = (i, j)
                rw [ht]
              refine ⟨?_, fun v hv => ?_⟩
              · rw [List.map_cons, hk, h1]
              · rcases List.mem_cons.mp hv with rfl | hv
                · rw [hk]; exact ⟨a, rfl, ht⟩
                · exact h2 v hv
    · cases e
theorem rpl_keys : ∀ {ys : List V}, (∀ v ∈ ys, ∃ t, v = V.ref t ∧ F t = some (.tup [.int (keyP F v).1, .int (keyP F v).2])) → RpL F ys ((ys.map (keyP F)).map pairD)
  | [], _ => .nil
  | y :: ys, h => by
    obtain ⟨t, e1, e2⟩ := h y List.mem_cons_self
    refine .cons ?_ (rpl_keys fun v hv => h v (List.mem_cons_of_mem _ hv))
    generalize keyP F y = q at e2
    subst e1
    exact .tup e2 (.cons (.int _) (.cons (.int _) .nil))
theorem cs_sortP : CallS X (.builtin "sorted") sortPD := by
  refine ⟨_, cr_sortedPO, ?_⟩
  intro rm fx σ H Γ s F A xs ds Q R hxs h
  unfold sortPD at h
  split at h
  · obtain ⟨x, rfl, hx⟩ := hxs.one
    obtain ⟨ps, e, q⟩ := h
    obtain ⟨a, vs, e1, q1, r1⟩ := hx.lst R.fh
    obtain ⟨h1, h2⟩ := r1.pairs e
    refine ⟨a, vs, keyP F, by rw [e1], .inl q1, fun v hv => ?_, fun ys p hs hb hp => ?_⟩
    · obtain ⟨t, g1, g2⟩ := h2 v hv
      exact ⟨t, g1, R.fh _ _ g2⟩
    · refine KQ.mk R hp (rpl_keys fun v hv => h2 v (hb.perm.mem_iff.mp hv)) (q _ (by rw [← h1]; exact hb.perm.map _) ?_)
      rw [List.pairwise_map]
      refine hs.imp fun {u v} huv => ?_
      have := SrtO.lexB_no.mp huv
      unfold lexLe
      omega
  · exact h.elim
/-! ### sorted(xs) of triples -/
def keyT (F : Hp) : V → Int × Int × Int
  | .ref t => match F t with
    | some (.tup [.int i, .int j, .int k]) => (i, j, k)
    | _ => (0, 0, 0)
  | _ => (0, 0, 0)
theorem RpL.trips : ∀ {vs : List V} {ts : List (Int × Int × Int)}, RpL F vs (ts.map trpD) → vs.map (keyT F) = ts ∧ ∀ v ∈ vs, ∃ t, v = V.ref t ∧ F t = some (.tup [.int (keyT F v).1, .int (keyT F v).2.1, .int (keyT F v).2.2])
  | _, [], .nil => ⟨rfl, fun v hv => nomatch hv⟩
  | _, (i, j, l) :: ts, .cons (v := v) (vs := vs) h r => by
    obtain ⟨h1, h2⟩ := RpL.trips r
    cases h with
    | tup ht hr =>
      rename_i a us
      cases hr with
      | cons g1 g2 =>
        cases g2 with
        | cons g2 g3 =>
          cases g3 with
          | cons g3 g4 =>
            cases g4
            cases g1
            cases g2
            cases g3
            have hk : keyT F (.ref a) = (i, j, l) := by
              show (match F a with | some (.tup [.int i, .int j, .int k]) => (i, j, k) | _ => (0, 0, 0)) = (i, j, l)
              rw [ht]
            refine ⟨?_, fun v hv => ?_⟩
            · rw [List.map_cons, hk, h1]
            · rcases List.mem_cons.mp hv with rfl | hv
              · rw [hk]; exact ⟨a, rfl, ht⟩
              · exact h2 v hv
theorem rpl_trips : ∀ {ys : List V}, (∀ v ∈ ys, ∃ t, v = V.ref t ∧ F t = some (.tup [.int (keyT F v).1, .int (keyT F v).2.1, .int (keyT F v).2.2])) → RpL F ys ((ys.map (keyT F)).map trpD)
  | [], _ => .nil
  | y :: ys, h => by
    obtain ⟨t, e1, e2⟩ := h y List.mem_cons_self
    refine .cons ?_ (rpl_trips fun v hv => h v (List.mem_cons_of_mem _ hv))
    generalize keyT F y = q at e2
    subst e1
    exact .tup e2 (.cons (.int _) (.cons (.int _) (.cons (.int _) .nil)))
theorem code3 (i j l : Int) : TS.code 64 [i, j, l] = i * 4096 + (j * 64 + l) := by
  show i * 64 ^ 2 + (j * 64 ^ 1 + (l * 64 ^ 0 + 0)) = _
  omega
theorem cs_sortT : CallS X (.builtin "sorted") sortTD := by
  refine ⟨_, cr_sortT (d := 3) (B := 64) (by decide), ?_⟩
  intro rm fx σ H Γ s F A xs ds Q R hxs h
  unfold sortTD at h
  split at h
  · obtain ⟨x, rfl, hx⟩ := hxs.one
    obtain ⟨ts, rfl, hl, hb, q⟩ := h
    obtain ⟨a, vs, e1, q1, r1⟩ := hx.lst R.fh
    obtain ⟨h1, h2⟩ := r1.trips
    have tup : ∀ v ∈ vs, TupI X.K H v [(keyT F v).1, (keyT F v).2.1, (keyT F v).2.2] := fun v hv => by
      obtain ⟨t, g1, g2⟩ := h2 v hv
      exact ⟨t, g1, .inl (.inl (R.fh _ _ g2))⟩
    have sm : ∀ v ∈ vs, smT (keyT F v) := fun v hv => hb _ (by rw [← h1]; exact List.mem_map.mpr ⟨v, hv, rfl⟩)
    refine ⟨a, vs, by rw [e1], .inl q1, by rw [r1.length, List.length_map]; exact hl, fun v hv => ⟨_, tup v hv, rfl, fun n hn => ?_⟩, fun ys p hp hs hn => ?_⟩
    · obtain ⟨⟨s1, s2⟩, ⟨s3, s4⟩, s5, s6⟩ := sm v hv
      simp at hn
      rcases hn with rfl | rfl | rfl
      · exact ⟨s1, s2⟩
      · exact ⟨s3, s4⟩
      · exact ⟨s5, s6⟩
    · refine KQ.mk R hn (rpl_trips fun v hv => h2 v (hp.mem_iff.mp hv)) (q _ (by rw [← h1]; exact hp.map _) ?_)
      rw [List.pairwise_map]
      refine hs.imp_of_mem fun {u v} hu hv huv => ?_
      have hu := hp.mem_iff.mp hu
      have hv := hp.mem_iff.mp hv
      have hc := huv _ _ (tup u hu) (tup v hv)
      rw [code3, code3] at hc
      obtain ⟨⟨s1, s2⟩, ⟨s3, s4⟩, s5, s6⟩ := sm u hu
      obtain ⟨⟨t1, t2⟩, ⟨t3, t4⟩, t5, t6⟩ := sm v hv
      unfold lexLe3
      omega
  · exact h.elim
/-! ### dict([(k, True) ..]) -/
theorem RpL.trues : ∀ {vs : List V} {ns : List Int}, RpL F vs (ns.map trueD) → ∃ ps : List Addr, vs = ps.map V.ref ∧ Paired (fun p n => F p = some (.tup [.int n, .bl true])) ps ns
  | _, [], .nil => ⟨[], rfl, .nil⟩
  | _, n :: ns, .cons h r => by
    obtain ⟨ps, e, q⟩ := RpL.trues r
    cases h with
    | tup ht hr =>
      rename_i a us
      cases hr with
      | cons g1 g2 =>
        cases g2 with
        | cons g2 g3 =>
          cases g3
          cases g1
          cases g2
          exact ⟨a :: ps, by rw [e]; rfl, .cons ht q⟩
def TrueK (ns : List Int) (kvs : List (Key × V)) : Prop := ∃ ms : List Int, kvs = ms.map (fun m => ((.inl m : Key), V.bl true)) ∧ ∀ m ∈ ms, m ∈ ns
theorem TrueK.put {ns : List Int} {kvs : List (Key × V)} {n : Int} (h : TrueK ns kvs) (hn : n ∈ ns) : TrueK ns (putK kvs (.inl n) (.bl true)) := by
  obtain ⟨ms, rfl, hm⟩ := h
  unfold putK
  split
  · refine ⟨ms, ?_, hm⟩
    rw [List.map_map]
    refine List.map_congr_left fun m _ => ?_
    dsimp only [Function.comp]
    split <;> rfl
  · refine ⟨ms ++ [n], by rw [List.map_append]; rfl, fun m hmm => ?_⟩
    rcases List.mem_append.mp hmm with hmm | hmm
    · exact hm m hmm
    · rw [List.mem_singleton.mp hmm]; exact hn
theorem TrueK.merge {ns : List Int} : ∀ {ms : List Int} {kvs : List (Key × V)}, TrueK ns kvs → (∀ m ∈ ms, m ∈ ns) → TrueK ns (mergeK kvs (ms.map fun m => ((.inl m : Key), V.bl true)))
  | [], _, h, _ => h
  | m :: ms, kvs, h, hm => TrueK.merge (ms := ms) (h.put (hm m List.mem_cons_self)) fun j hj => hm j (List.mem_cons_of_mem _ hj)
theorem rpk_trues : ∀ ms : List Int, RpK F (ms.map fun m => ((.inl m : Key), V.bl true)) (ms.map fun m => (PyData.int m, PyData.bool true))
  | [] => .nil
  | m :: ms => RpK.cons (k := .inl m) (.bl true) (rpk_trues ms)
theorem cs_dictP (hc : X.calm = true) : CallS X (.type "dict") dictPD := by
  refine ⟨_, call_dictP hc, ?_⟩
  intro rm fx σ H Γ s F A xs ds Q R hxs h
  unfold dictPD at h
  split at h
  · obtain ⟨x, rfl, hx⟩ := hxs.one
    obtain ⟨ns, rfl, q⟩ := h
    obtain ⟨a, vs, e1, q1, r1⟩ := hx.lst R.fh
    obtain ⟨ps, rfl, hp⟩ := r1.trues
    refine ⟨a, ps, ns.map (fun n => ((.inl n : Key), V.bl true)), by rw [e1], .inl q1, ?_, fun p hpn => ?_⟩
    · clear q q1 r1 hx hxs
      induction hp with
      | nil => exact .nil
      | cons a b ih => exact .cons (.inl (.inl (R.fh _ _ a))) ih
    · have hl := length_mergeK (ns.map (fun n => ((.inl n : Key), V.bl true))) []
      obtain ⟨ms, e, hm⟩ := TrueK.merge (ns := ns) (ms := ns) (kvs := []) ⟨[], rfl, fun m hm => nomatch hm⟩ fun m hm => hm
      rw [e] at hl ⊢
      rw [List.length_map, List.length_map, List.length_nil, Nat.zero_add] at hl
      exact q ms hl hm (.ref p) _ (upd F p _) (R.lay hpn) (R.hx hpn) (upd_sub (R.nF hpn)) (.dic upd_same (rpk_trues ms))
  · exact h.elim
/-! ### sets -/
theorem op_rd1 {c : E rm.S} {W : WN} {Q : VK} {K : V → Hp → Prop} (g : D → (Val → Prop) → Prop) (R : SR fx σ H Γ s F A) (xk : XcOk W fx xc) (q : opn c (wE xc c) Γ s fun x Γ1 s1 => g x fun v => KE fx σ H F A Q v Γ1 s1)
    (hk : ∀ x d H1 F1 A1 Γ1 s1, SR fx σ H1 Γ1 s1 F1 A1 → HX H A H1 A1 → Sub F F1 → Ro H1 F1 A1 x d → g d (fun v => KE fx σ H F A Q v Γ1 s1) → K x H1) : rdP W c σ H K :=
  ⟨fx, Γ, s, F, A, R, xc, xk, opnE_mono c (fun d Γ1 s1 q x H1 F1 A1 R1 hx1 sb1 ro1 => hk x d H1 F1 A1 Γ1 s1 R1 hx1 sb1 ro1.1 q) q⟩
theorem nodup_sub : ∀ {ms : List Int}, ms.Nodup → ∀ {ns : List Int}, (∀ m ∈ ms, m ∈ ns) → ms.length ≤ ns.length
  | [], _, _, _ => Nat.zero_le _
  | m :: ms, hn, ns, h => by
    have hm := h m List.mem_cons_self
    rw [List.nodup_cons] at hn
    have ih := nodup_sub hn.2 (ns := ns.erase m) fun j hj => (List.mem_erase_of_ne fun e => hn.1 (by rw [← e]; exact hj)).mpr (h j (List.mem_cons_of_mem _ hj))
    rw [List.length_erase_of_mem hm] at ih
    have := List.length_pos_of_mem hm
    rw [List.length_cons]
    omega
theorem nodup_len_le {ms : List Int} (hn : ms.Nodup) {ns : List Int} (h : ∀ m ∈ ms, m ∈ ns) : ms.length ≤ ns.length := nodup_sub hn h
theorem n_srtS {c : E rm.S} {e : Expr} {p p1 p2 p3 : Pos} (hc : X.calm = true) (hg : Gl X "sorted") (hm : X.mg "sorted" = none) (hg2 : Gl X "set") (hm2 : X.mg "set" = none) (he : PE X e (rdP W c)) (hs : shp e = true) : PE X (.Call (.Name "sorted" p) [.Call (.Name "set" p2) [e] [] p3] [] p1) (rdE W (.srtS c)) := by
  refine PE_imp (pe_callB (cr_sortedSet hc) hg hm PyProof.Rows.boot_sorted (pa_cons (pe_callTy (cr_setI hc) hg2 hm2 PyProof.Rows.boot_set (pa_cons he pa_nil (star1 hs)) (he := star1 hs)) pa_nil)) fun σ H Q q => ?_
  obtain ⟨fx, Γ, s, F, A, R, xc, xk, q⟩ := q
  unfold wE at q
  refine op_rd1 (fun x k => srtSX x k) R xk q fun x d H1 F1 A1 Γ1 s1 R1 hx1 sb1 ro q => ?_
  unfold srtSX at q
  split at q
  · obtain ⟨ns, e, hl, hb, q⟩ := q
    obtain ⟨a, e1, q1⟩ := ro.ints R1.fh e
    refine ⟨a, ns, by rw [e1], .inl q1, by unfold scanBound; omega, fun p c ms hp hnd hmem hlen => ⟨p, _, c, rfl, upd_same, ?_, fun ms' p' hs hmm hl' hp' => ?_⟩⟩
    · rcases hb with hb | hb
      · have := nodup_len_le hnd (ns := ns) fun m hm => (hmem m).mp hm
        omega
      · have := nodup_len_le hnd (ns := (List.range 63).map fun (i : Nat) => (i : Int)) fun m hm => by
          obtain ⟨h1, h2⟩ := hb m ((hmem m).mp hm)
          exact List.mem_map.mpr ⟨m.toNat, List.mem_range.mpr (by omega), by omega⟩
        rw [List.length_map, List.length_range] at this
        omega
    · have R2 : SR fx σ (upd H1 p (SetO X.w p (fun j => decide (j ∈ ns)) c)) Γ1 s1 F1 A1 := R1.alloc hp
      have := KQ.mk (Q := Q) R2 hp' (RpL.ints ms') ((q ms' hs fun j => by rw [hmm j, decide_eq_true_eq]).kq (hx1.trans (R1.hx hp)) sb1)
      exact this
  · exact q.elim
/-- len(xs) of a set -/
theorem cr_lenSet : CallR X (.builtin "len") (fun vs H Q => ∃ (a : Addr) (S : Int → Bool) (n : Nat), vs = [V.ref a] ∧ H a = some (SetO X.w a S n) ∧ Q (.int (n : Nat)) H) := by
  intro pins s σ H xs us Q I r h
  obtain ⟨a, S, n, rfl, ha, q⟩ := h
  rw [Vals.ref1 r]
  obtain ⟨o, es, ep, t, ho, hx, hd, g, nd, hm, hb, hf, hn, _⟩ := setO_get I ha
  have hb' : es.size < 4096 := hb
  refine call_len_set ho hx hd hf (by omega) ⟨.int n, H, I.tok _, ⟨_, by rw [hn]⟩, q⟩
theorem n_lenS {c : E rm.S} {e : Expr} {p p1 p2 p3 : Pos} (hc : X.calm = true) (hg : Gl X "len") (hm : X.mg "len" = none) (hg2 : Gl X "set") (hm2 : X.mg "set" = none) (he : PE X e (rdP W c)) (hs : shp e = true) : PE X (.Call (.Name "len" p) [.Call (.Name "set" p2) [e] [] p3] [] p1) (rdE W (.lenS c)) := by
  refine PE_imp (pe_callB cr_lenSet hg hm PySem.boot_len (pa_cons (pe_callTy (cr_setI hc) hg2 hm2 PyProof.Rows.boot_set (pa_cons he pa_nil (star1 hs)) (he := star1 hs)) pa_nil)) fun σ H Q q => ?_
  obtain ⟨fx, Γ, s, F, A, R, xc, xk, q⟩ := q
  unfold wE at q
  refine op_rd1 (fun x k => lenSX x k) R xk q fun x d H1 F1 A1 Γ1 s1 R1 hx1 sb1 ro q => ?_
  unfold lenSX at q
  split at q
  · obtain ⟨ns, e, hl, q⟩ := q
    obtain ⟨a, e1, q1⟩ := ro.ints R1.fh e
    refine ⟨a, ns, by rw [e1], .inl q1, by unfold scanBound; omega, fun p c ms hp hnd hmem hlen => ⟨p, _, c, rfl, upd_same, ?_⟩⟩
    subst hlen
    have R2 : SR fx σ (upd H1 p (SetO X.w p (fun j => decide (j ∈ ns)) ms.length)) Γ1 s1 F1 A1 := R1.alloc hp
    exact q ms hnd hmem _ _ F1 A1 R2 (hx1.trans (R1.hx hp)) sb1 (.int _)
  · exact q.elim
/-! ### list(range(n)) -/
theorem n_lr {c : E rm.S} {e : Expr} {p p1 p2 p3 : Pos} (hc : X.calm = true) (hg : Gl X "list") (hm : X.mg "list" = none) (hg2 : Gl X "range") (hm2 : X.mg "range" = none) (he : PE X e (rdP W c)) (hs : shp e = true) : PE X (.Call (.Name "list" p) [.Call (.Name "range" p2) [e] [] p3] [] p1) (rdE W (.lr (.cons c .nil))) := by
  refine PE_imp (pe_listRg hc hg hm (prg_1 hg2 hm2 he (star1 hs))) fun σ H Q q => ?_
  obtain ⟨fx, Γ, s, F, A, R, xc, xk, q⟩ := q
  unfold wE wA at q
  refine ⟨fx, Γ, s, F, A, R, xc, xk, opnE_mono c (fun d Γ1 s1 q x H1 F1 A1 R1 hx1 sb1 ro1 => ?_) q⟩
  unfold wA at q
  dsimp only at q
  unfold rngD at q
  split at q
  · rename_i n z
    cases z
    obtain ⟨⟨q1, q2⟩, q3, q4⟩ := q
    rw [List.length_map, List.length_range] at q3
    have hb : n.toNat ≤ 100000 := q3
    refine ⟨n, flat_int ro1.1, ⟨by omega, by omega, q1, q2, ?_⟩, fun p hp => ?_⟩
    · rw [Int.sub_zero]; exact Nat.le_trans hb (by decide)
    · refine KQ.mk R1 hp ?_ (q4.kq hx1 sb1)
      unfold rgV
      rw [Int.sub_zero]
      have e1 : (List.range n.toNat).map (fun i => V.int (0 + (i : Nat))) = ((List.range n.toNat).map (fun (i : Nat) => (i : Int))).map V.int := by
        rw [List.map_map]
        exact List.map_congr_left fun i _ => by dsimp only [Function.comp]; rw [Int.zero_add]
      have e2 : (List.range n.toNat).map (fun i => PyData.int (i : Nat)) = ((List.range n.toNat).map (fun (i : Nat) => (i : Int))).map PyData.int := by
        rw [List.map_map]
        rfl
      rw [e1, e2]
      exact RpL.ints _
  · rename_i z; cases z
  · rename_i z; cases z
  · exact q.elim
/-! ### xs.index(y), xs.pop(i) -/
theorem idx_spec : ∀ {ns : List Int} {y : Int} {j : Nat}, idxD ns y = some j → ns[j]? = some y ∧ ∀ m z, m < j → ns[m]? = some z → z ≠ y := by
  intro ns y j h
  unfold idxD at h
  obtain ⟨hj, h1, h2⟩ := List.findIdx?_eq_some_iff_getElem.mp h
  refine ⟨?_, fun m z hm hz => ?_⟩
  · rw [List.getElem?_eq_getElem hj, of_decide_eq_true h1]
  · have := h2 m hm
    obtain ⟨hl, hz⟩ := List.getElem?_eq_some_iff.mp hz
    rw [← hz]
    intro e
    exact this (decide_eq_true e)
theorem n_index {i : Nat} {c : E rm.S} {x : Str} {e : Expr} {p2 p3 p4 : Pos} (hv : PE X (.Name x p3) (rdP W (.var i : E rm.S))) (he : PE X e (rdP W c)) (hs : shp e = true) (hl : (p2.endLine == p4.line) = true) : PE X (.Call (.Attribute (.Name x p3) "index" p2) [e] [] p4) (rdE W (.mt .index (.var i) (.cons c .nil))) := by
  refine PE_imp (pe_bm PySem.F.plainAttrs_list PySem.F.slot_list_index PySem.F.type_list_index mt_index hv (pa_cons he pa_nil (star1 hs)) (hfew := few1 hs) (hline := hl) (hs := star1 hs)) fun σ H Q q => ?_
  obtain ⟨fx, Γ, s, F, A, R, xc, xk, q⟩ := q
  unfold wE at q
  refine ⟨fx, Γ, s, F, A, R, xc, xk, opnE_mono (.var i) (fun d Γ1 s1 q x H1 F1 A1 R1 hx1 sb1 ro1 => ?_) q⟩
  unfold lstD at q
  split at q
  · rename_i xs
    unfold wA at q
    obtain ⟨a, vs, e1, q1, r1⟩ := ro1.1.lst R1.fh
    subst e1
    refine ⟨.inl ⟨rfl, _, .inl q1⟩, fx, Γ1, s1, F1, A1, R1, xc, xk, opnE_mono c (fun d Γ2 s2 q y H2 F2 A2 R2 hx2 sb2 ro2 => ?_) q⟩
    unfold wA at q
    obtain ⟨a', vs', e1', q1', r1'⟩ := (ro1.1.mono hx2 sb2).lst R2.fh
    cases e1'
    dsimp only [mtD] at q
    unfold indexD at q
    split at q
    · rename_i xs' y z1 z2
      cases z1
      cases z2
      obtain ⟨ns, en, q⟩ := q
      rw [intsD_eq en] at r1'
      have ev := r1'.of_ints
      subst ev
      split at q
      · rename_i j hj
        obtain ⟨h1, h2⟩ := idx_spec hj
        have hy := flat_int ro2.1
        subst hy
        refine ⟨a, ns.map V.int, .int y, j, .int y, rfl, rfl, .inl q1', rfl, ?_, ?_, ?_, fun m z' hm hz => ?_, q _ H2 F2 A2 R2 (hx1.trans hx2) (sb1.trans sb2) (.int _)⟩
        · rw [List.all_map]
          exact List.all_eq_true.mpr fun _ _ => rfl
        · rw [List.getElem?_map, h1]; rfl
        · show (y == y) = true
          exact beq_self_eq_true y
        · rw [List.getElem?_map] at hz
          cases e3 : ns[m]? with
          | none => rw [e3] at hz; cases hz
          | some z =>
            rw [e3] at hz
            cases hz
            show (z == y) = false
            exact beq_eq_false_iff_ne.mpr (h2 m z hm e3)
      · exact q.elim
    · exact q.elim
  · exact q.elim
/-! ### expressions of a statement: a list of one's own may change in them -/
def KM (fx : Fx rm) (σ : L2.St) (F : Hp) (A : rm.A) (Q : VK) : Val → Ctx → rm.S → Prop := fun v Γ' s' => ∀ x H' F' A', SR fx σ H' Γ' s' F' A' → rm.le A A' → Sub F F' → RV fx σ H' F' A' Γ' x v → Q x H'
def rdM (W : WN) (c : E rm.S) : TE := fun σ H Q => ∃ (fx : Fx rm) (Γ : Ctx) (s : rm.S) (F : Hp) (A : rm.A), SR fx σ H Γ s F A ∧ ∃ xc, XcOk W fx xc ∧ wE xc c Γ s (KM fx σ F A Q)
theorem to_M {c : E rm.S} {e : Expr} (h : PE X e (rdE W c)) : PE X e (rdM W c) := PE_imp h fun σ H Q q => by
  obtain ⟨fx, Γ, s, F, A, R, xc, xk, q⟩ := q
  exact ⟨fx, Γ, s, F, A, R, xc, xk, wE_mono c (fun v Γ' s' q x H' F' A' R' hx sb rv => q x H' F' A' R' hx.1 sb rv) q⟩
/-! [e, 0], as a thing with a state -/
def HOk (rm : RM) (φ : ESumm rm.S) : Prop := ∀ (fx : Fx rm) (σ : L2.St) (H : Hp) (Γ : Ctx) (s : rm.S) (F : Hp) (A : rm.A) (x : V) (v : Val) (p : Addr) (Q : VK), SR fx σ H Γ s F A → RV fx σ H F A Γ x v → H p = none →
  φ.run [v] s (fun w s2 => KM fx σ F A Q w Γ s2) (fun _ _ => False) → Q (.ref p) (upd H p (.lst [x, .int 0]))
theorem n_asgH {φ : ESumm rm.S} {c : E rm.S} {i : Nat} {y : Str} {e : Expr} {kk : Nat} {p p2 p3 p4 : Pos} (h : HOk rm φ) (hN : X.N.Nodup) (hi : X.N[i]? = some y) (hy : Sto X y) (he : PE X e (rdE W c)) (hs : shp e = true) : PS X (.Assign [.Name y p4] (.List [e, .Constant (.int 0) kk p2] p) p3) (rd1 W (.asgH i φ c)) :=
  PS_imp (ps_set hN hi hy.1 (pe_lst (pa_cons he (pa_cons pe_int pa_nil) (star1 hs))) rfl hy.2) fun D σ H q => by
    obtain ⟨fx, Γ, s, F, A, R, K, ko, q⟩ := q
    dsimp only [w1] at q
    refine ⟨fx, Γ, s, F, A, R, K.ex, ko.ex, wE_mono c (fun v Γ' s' q x H1 F1 A1 R1 hx1 sb1 rv => ?_) q⟩
    refine ⟨by show 2 ≤ sizeLine; decide, fun p hp => ?_⟩
    exact h fx σ H1 Γ' s' F1 A1 x v p (fun y H' => D.nx (σ.set i (some y)) H') R1 rv hp (φ.mono (fun w s2 q y H2 F2 A2 R2 _ _ rv2 => ko.nx _ _ _ _ _ _ (R2.putV rv2) q) (fun _ _ z => z) q)
/-! xs.pop(i) -/
theorem RpL.era : ∀ {vs : List V} {ds : List D} (n : Nat), RpL F vs ds → RpL F (vs.eraseIdx n) (ds.eraseIdx n)
  | _, _, _, .nil => .nil
  | _, _, 0, .cons _ r => r
  | _, _, n + 1, .cons h r => .cons h (RpL.era n r)
theorem n_pop {i : Nat} {c : E rm.S} {x : Str} {e : Expr} {p2 p3 p4 : Pos} (hv : PE X (.Name x p3) (tVar i)) (he : PE X e (rdP W c)) (hs : shp e = true) (hl : (p2.endLine == p4.line) = true) : PE X (.Call (.Attribute (.Name x p3) "pop" p2) [e] [] p4) (rdM W (.pop i c)) := by
  refine ⟨fun pins sh σ H Q I q => ?_⟩
  refine (pe_bm PySem.F.plainAttrs_list PySem.F.slot_list_pop PySem.F.type_list_pop mt_popAt hv (pa_cons he pa_nil (star1 hs)) (hfew := few1 hs) (hline := hl) (hs := star1 hs)).run pins sh σ H Q I ?_
  obtain ⟨fx, Γ, s, F, A, R, xc, xk, q⟩ := q
  unfold wE popW at q
  split at q
  · rename_i xs hxs
    obtain ⟨a, vs, h1, e2, e3, e4, e5, e6⟩ := ownAt R hxs
    refine ⟨.ref a, h1, .inl ⟨rfl, _, SqL.of e2⟩, fx, Γ, s, F, A, R, xc, xk, opnE_mono c (fun d Γ1 s1 q y H1 F1 A1 R1 hx1 sb1 ro1 => ?_) q⟩
    split at q
    · rename_i zs j hzs
      obtain ⟨a', ws, g1, g2, g3, g4, g5, g6⟩ := ownAt R1 hzs
      rw [h1] at g1
      cases g1
      split at q
      · rename_i pr hpr
        obtain ⟨m, d⟩ := pr
        cases e7 : ixN zs.length j with
        | none => rw [e7] at hpr; cases hpr
        | some m' =>
          rw [e7] at hpr
          have hpr' : (zs[m']?.map fun d => (m', d)) = some (m, d) := hpr
          cases e8 : zs[m']? with
          | none => rw [e8] at hpr'; cases hpr'
          | some d' =>
            rw [e8] at hpr'
            cases hpr'
            obtain ⟨w1, w2, w3, w4⟩ := ixN_seq e7
            obtain ⟨v, hv1, hv2⟩ := g6.get e8
            obtain ⟨⟨b1, b2⟩, q⟩ := q
            refine ⟨a, ws, j, m, v, rfl, by rw [flat_int ro1.1], g2, ?_, ?_, by rw [g6.length]; exact w1, hv1, ?_⟩
            · omega
            · omega
            · exact q v _ F1 A1 (R1.chgOwn (vs := ws) hzs h1 (g6.era m)) hx1.1 sb1 hv2
      · exact q.elim
    · exact q.elim
  · exact q.elim
theorem n_asgM {i : Nat} {x : Str} {c : E rm.S} {e : Expr} {p p2 : Pos} (hN : X.N.Nodup) (hi : X.N[i]? = some x) (hx : Sto X x) (he : PE X e (rdM W c)) (hsw : swapsWith e (some (.Name x p2)) p.line X.env = pure false) : PS X (.Assign [.Name x p2] e p) (rd1 W (.asg i c)) :=
  PS_imp (ps_set hN hi hx.1 he hsw hx.2) fun D σ H q => by
    obtain ⟨fx, Γ, s, F, A, R, K, ko, q⟩ := q
    dsimp only [w1] at q
    refine ⟨fx, Γ, s, F, A, R, K.ex, ko.ex, wE_mono c (fun v Γ' s' q => ?_) q⟩
    intro y H' F' A' R' hx sb rv
    exact ko.nx _ _ _ _ _ _ (R'.putV rv) q
theorem n_retM {c : E rm.S} {e : Expr} {p : Pos} (he : PE X e (rdM W c)) (hv : ∀ i, c ≠ .var i) : PS X (.Return (some e) p) (rd1 W (.ret c)) :=
  PS_imp (ps_ret he) fun D σ H q => by
    obtain ⟨fx, Γ, s, F, A, R, K, ko, q⟩ := q
    have q' : wE K.ex c Γ s fun v _ s' => K.rt v s' := by
      cases c with
      | var i => exact absurd rfl (hv i)
      | _ => exact q
    refine ⟨fx, Γ, s, F, A, R, K.ex, ko.ex, wE_mono c (fun v Γ' s' q => ?_) q'⟩
    intro y H' F' A' R' hx sb rv
    exact ko.rt _ _ _ _ _ _ _ _ R' rv q
/-- (e, ..), the second one such -/
theorem n_tp2M {c c2 : E rm.S} {e e2 : Expr} {kk : Nat} {p : Pos} (h : PE X e (rdE W c)) (h2 : PE X e2 (rdM W c2)) (hs : shp e = true) (hs2 : shp e2 = true) : PE X (.Tuple [e, e2] kk p) (rdM W (.tp (.cons c (.cons c2 .nil)))) := by
  refine PE_imp (pe_tup (pa_cons h (pa_cons h2 pa_nil (star1 hs2)) (star1 hs))) fun σ H Q q => ?_
  obtain ⟨fx, Γ, s, F, A, R, xc, xk, q⟩ := q
  unfold wE wX at q
  refine ⟨fx, Γ, s, F, A, R, xc, xk, wE_mono c (fun v Γ1 s1 q => ?_) q⟩
  intro x H1 F1 A1 R1 hx1 sb1 rv
  obtain ⟨d, F1', q, R1', sb1', rp⟩ := R1.stay rv q
  unfold wX at q
  refine ⟨fx, Γ1, s1, F1', A1, R1', xc, xk, wE_mono c2 (fun v Γ2 s2 q => ?_) q⟩
  intro y H2 F2 A2 R2 le2 sb2 rv2
  obtain ⟨d2, F2', q, R2', sb2', rp2⟩ := R2.stay rv2 q
  unfold wX at q
  refine ⟨by show 2 ≤ sizeLine; decide, fun p hp => ?_⟩
  have sb := sb2.trans sb2'
  refine q.2 (.ref p) _ (upd F2' p (.tup [x, y])) A2 (R2'.lay hp) (rm.le_trans hx1.1 le2) ((((sb1.trans sb1').trans sb2).trans sb2').trans (upd_sub (R2'.nF hp))) (.tup upd_same ?_)
  exact .cons ((rp.mono sb).mono (upd_sub (R2'.nF hp))) (.cons (rp2.mono (upd_sub (R2'.nF hp))) .nil)
theorem SR.backM {H1 F1 : Hp} {Γ1 : Ctx} {s1 : rm.S} {A1 : rm.A} {vs : List Nat} (R1 : SR fx σ H1 Γ1 s1 F1 A1) (R : SR fx (L2.wipe σ vs) H Γ s F A) (le : rm.le A1 A) (sb : Sub F1 F) : SR fx σ H (backG Γ1 vs Γ) s F A where
  fh := R.fh
  fz := R.fz
  f0 := R.f0
  lk := R.lk
  a0 := R.a0
  ok := R.ok
  ln := by rw [backG_length, R.ln, wipe_length]
  sl := fun i v e => by
    rcases look_backG e with ⟨_, h2, h3⟩ | ⟨h1, h2⟩
    · obtain ⟨x, h4, h5⟩ := R1.sl i v h2
      refine ⟨x, h4, ?_⟩
      cases v with
      | dat d => exact Rp.mono sb h5
      | new xs => exact h5
      | hdl n => exact rm.le_hd le h5
      | hds ks => exact HdsV.mono h5 sb le
      | _ => exact h3.elim
    · obtain ⟨x, h4, h5⟩ := R.sl i v h2
      rw [wipe_out h1] at h4
      exact ⟨x, h4, h5⟩
  dj := fun i j a s1 s2 => R.dj i j a (ownA_back s1) (ownA_back s2)
/-! [xs.pop(i) for ..] -/
theorem n_compM {own : List Nat} {tc : Tg} {it : It rm.S} {ip : Nat} {cp : E rm.S} {elt tg iter : Expr} {scope : Scope} {ol : List (Str × Nat)} {p : Pos} (hol : ol.map (·.2) = own) (hc : X.calm = true) (hN : X.N.Nodup)
    (hi : PI X tg iter (rdJ W it)) (ok : BlkOk X.N X.env.scope scope ol)
    (hg : ∀ (s : Shared) (H : Hp) (C : Addr) (cl : List (Str × Addr)) (fp : List Addr), PG (X.blk s H scope (compEnvC scope cl C X.env) fp) tg (rdG X.K tc))
    (he : ∀ (s : Shared) (H : Hp) (C : Addr) (cl : List (Str × Addr)) (fp : List Addr), PE (X.blk s H scope (compEnvC scope cl C X.env) fp) elt (rdM W0 (.pop ip cp))) (hs : shp iter = true) (hin : tgIn tc own) :
    PE X (.ListComp elt [⟨tg, iter, [], 0⟩] scope p) (rdM W (.compM own tc it ip cp)) ∧ ∀ σ H Q, rdM W (.compM own tc it ip cp) σ H Q → tLc (rdJ W it) (rdG X.K tc) (rdC W0 (.nil : Es rm.S)) (rdM W0 (.pop ip cp)) own σ H Q := by
  have key : ∀ σ H Q, rdM W (.compM own tc it ip cp) σ H Q → tLc (rdJ W it) (rdG X.K tc) (rdC W0 (.nil : Es rm.S)) (rdM W0 (.pop ip cp)) own σ H Q := by
    intro σ H Q q
    obtain ⟨fx, Γ, s, F, A, R, xc, xk, q⟩ := q
    unfold wE at q
    refine ⟨fx, Γ, s, F, A, R, xc, xk, wJ_mono it (fun xs Γ1 s1 q => ?_) q⟩
    intro J H1 F1 A1 R1 hx1 sb1 yl p hp
    obtain ⟨hbig, q⟩ := q
    have hlp := R1.nL hp
    refine ⟨fun i m H2 => m = xs.length - i ∧ i ≤ xs.length ∧ ∃ Γ2 s2 F2 A2 vs acc, SR (fxL fx p (.lst vs)) (wipe σ own) H2 Γ2 s2 F2 A2 ∧ rm.le A1 A2 ∧ Sub F1 F2 ∧ RpL F2 vs acc ∧ acc.length ≤ i ∧
      cLoop (fun x Γ s k => bindT tc x Γ fun Γ' => popW ip Γ' (fun k' => opn cp (wE xn cp) Γ' s k') fun v Γ3 s3 => asD v fun d => k (some d) (wipeG own Γ3) s3) (xs.drop i) Γ2 s2 acc
        (fun ys Γ' s' => KM fx σ F A Q (.new ys) (backG Γ1 own Γ') s'), ⟨xs.length, rfl, Nat.zero_le _, wipeG own Γ1, s1, F1, A1, [], [], ?_, rm.le_refl A1, Sub.refl F1, .nil, Nat.le_refl _, q⟩, ?_⟩
    · exact ((R1.wipe own).alloc hp).addL upd_same (R1.nF hp) (R1.nft hp) ((R1.wipe own).noOwn hp)
    · rintro i m H2 ⟨rfl, hi, Γ2, s2, F2, A2, vs, acc, R2, le2, sb2, rl, hal, q⟩
      have gs : Sub F1 H2 := sb2.trans R2.fh
      by_cases hlt : i < xs.length
      · obtain ⟨x0, e0⟩ := get_lt (l := xs) hlt
        have ed : xs.drop i = x0 :: xs.drop (i + 1) := by
          rw [List.drop_eq_getElem_cons hlt]
          rw [List.getElem?_eq_getElem hlt] at e0
          rw [Option.some.inj e0]
        rw [ed] at q
        obtain ⟨go, yld⟩ := (yl i H2 gs).1 hlt
        refine .inr ⟨go, fun H' => ∃ Γ2 s2 F2 A2 vs acc, SR (fxL fx p (.lst vs)) (wipe σ own) H' Γ2 s2 F2 A2 ∧ rm.le A1 A2 ∧ Sub F1 F2 ∧ RpL F2 vs acc ∧ acc.length ≤ i + 1 ∧
          cLoop (fun x Γ s k => bindT tc x Γ fun Γ' => popW ip Γ' (fun k' => opn cp (wE xn cp) Γ' s k') fun v Γ3 s3 => asD v fun d => k (some d) (wipeG own Γ3) s3) (xs.drop (i + 1)) Γ2 s2 acc
            (fun ys Γ' s' => KM fx σ F A Q (.new ys) (backG Γ1 own Γ') s'), fun H' w => ⟨xs.length - (i + 1), by omega, rfl, hlt, w⟩, fun x H3 y => ?_⟩
        obtain ⟨d, hd, hy⟩ := yld x H3 y
        rw [e0] at hd
        cases hd
        obtain ⟨F3, R3, hx3, sb3, rp⟩ := R2.yield sb2 hy
        have q' : bindT tc x0 Γ2 _ := q
        have g := bindT_rd (K := X.K) R3 rp q'
        refine n_comp.gmono tc (fun σ2 H4 z => ?_) g
        obtain ⟨rfl, wp, Γ3, q3, R4⟩ := z
        have ew : wipe σ2 own = wipe σ own := (wp own hin).trans wipe_wipe
        refine ⟨ew, ⟨_, Γ3, s2, F3, A2, R4, xn, xk0, ?_⟩⟩
        unfold wC
        intro H5 F5 A5 R5 hx5 sb5
        rw [if_pos rfl]
        refine ⟨_, Γ3, s2, F5, A5, R5, xn, xk0, ?_⟩
        unfold wE
        refine popW_mono (fun k k' hk => opnE_mono cp hk) (fun v Γ6 s6 q => ?_) q3
        intro y6 H6 F6 A6 R6 le6 sb6 rv
        obtain ⟨d, F7, q, R7, sb7, rp7⟩ := R6.stay rv q
        obtain ⟨w1, w2, w3⟩ := R7.lkP
        have hlen : vs.length < sizeLine := Nat.lt_of_lt_of_le (Nat.lt_of_le_of_lt (by rw [rl.length]; exact hal) hlt) (big_sz hbig)
        refine ⟨vs, w1, hlen, wipeG own Γ6, s6, F7, A6, vs ++ [y6], acc ++ [d], ?_, ?_, ?_, ?_, ?_, q⟩
        · have R8 := (R7.wipe own).chg (o' := .lst (vs ++ [y6])) hlp
          rw [ew] at R8
          exact R8
        · exact rm.le_trans (rm.le_trans (rm.le_trans le2 hx3.1) hx5.1) le6
        · exact (((sb2.trans sb3).trans sb5).trans sb6).trans sb7
        · exact (((((rl.mono sb3).mono sb5).mono sb6).mono sb7)).append (.cons rp7 .nil)
        · rw [List.length_append, List.length_singleton]; omega
      · have e : i = xs.length := by omega
        subst e
        refine .inl ⟨(yl _ H2 gs).2 rfl, ?_⟩
        rw [List.drop_length] at q
        have q' : KM fx σ F A Q (.new acc) (backG Γ1 own Γ2) s2 := q
        obtain ⟨w1, w2, w3⟩ := R2.lkP
        have no := R2.lkNo
        refine q' (V.ref p) H2 F2 A2 (R1.backM (R2.delL hlp) le2 sb2) (rm.le_trans hx1.1 le2) (sb1.trans sb2) ⟨p, vs, rfl, w1, w2, w3, hlp, rl, no.of fun j z => ownA_back z⟩
  refine ⟨?_, key⟩
  have h := pe_lc (own := ol) hc hN hi ok hg (fun s H C cl fp => pts_nilC (rm := rm)) he (fold1 hs) (pos := p)
  rw [hol] at h
  exact PE_imp h key
where
  pts_nilC {rm : RM} {X : Cx} : PTs X [] (rdC W0 (.nil : Es rm.S)) := ⟨fun pins s σ H Q I q => by
    obtain ⟨fx, Γ, s', F, A, R, xc, xk, q⟩ := q
    unfold wC at q
    exact pts_nil.run pins s σ H Q I (q H F A R (HX.refl H A) (Sub.refl F))⟩
theorem n_asgLM {i : Nat} {y : Str} {own : List Nat} {tc : Tg} {it : It rm.S} {ip : Nat} {cp : E rm.S} {elt tg iter : Expr} {scope : Scope} {ol : List (Str × Nat)} {p p2 p3 : Pos} (hy : X.N[i]? = some y) (hyl : X.env.scope.names.lookup y = some .local)
    (hsw : swapsWith (.ListComp elt [⟨tg, iter, [], 0⟩] scope p) (some (.Name y p2)) p3.line X.env = pure true) (hol : ol.map (·.2) = own) (hc : X.calm = true) (hN : X.N.Nodup)
    (hi : PI X tg iter (rdJ W it)) (ok : BlkOk X.N X.env.scope scope ol)
    (hg : ∀ (s : Shared) (H : Hp) (C : Addr) (cl : List (Str × Addr)) (fp : List Addr), PG (X.blk s H scope (compEnvC scope cl C X.env) fp) tg (rdG X.K tc))
    (he : ∀ (s : Shared) (H : Hp) (C : Addr) (cl : List (Str × Addr)) (fp : List Addr), PE (X.blk s H scope (compEnvC scope cl C X.env) fp) elt (rdM W0 (.pop ip cp))) (hs : shp iter = true) (hin : tgIn tc own) :
    PS X (.Assign [.Name y p2] (.ListComp elt [⟨tg, iter, [], 0⟩] scope p) p3) (rd1 W (.asgL i (.compM own tc it ip cp))) := by
  have h := ps_setLc (own := ol) hc hN hy hyl hsw hi ok hg (fun s H C cl fp => n_compM.pts_nilC (rm := rm)) he (fold1 hs)
  rw [hol] at h
  refine PS_imp h fun D σ H q => ?_
  obtain ⟨fx, Γ, s, F, A, R, K, ko, q⟩ := q
  dsimp only [w1] at q
  refine (n_compM (p := p) hol hc hN hi ok hg he hs hin).2 σ H _ ⟨fx, Γ, s, F, A, R, K.ex, ko.ex, wE_mono _ (fun v Γ' s' q => ?_) q⟩
  intro y H' F' A' R' hx sb rv
  exact ko.nx _ _ _ _ _ _ (R'.putV rv) q
end
end Ac
namespace Ac
open PySem PySem.Spec PyProof.Rows L2
/-! ### f((a, b), c): what is handed in is lent -/
section
variable {rm : RM} {X : Cx} {k : Nat} {W : WN} {fx : Fx rm} {σ : L2.St} {H F : Hp} {Γ : Ctx} {s : rm.S} {A : rm.A}
theorem scal_any {F F' : Hp} {v : V} {d : D} (h : Rp F v d) (sc : scal d = true) : Rp F' v d := by
  cases h <;> first | exact .non | exact .bl _ | exact .int _ | exact .str _ | cases sc
theorem scal_all {F F' : Hp} : ∀ {vs : List V} {ds : List D}, RpL F vs ds → ds.all scal = true → RpL F' vs ds
  | _, _, .nil, _ => .nil
  | _, _, .cons h r, sc => by
    rw [List.all_cons, Bool.and_eq_true] at sc
    exact .cons (scal_any h sc.1) (scal_all r sc.2)
/-- a name's thing, as it is read -/
theorem rd_var (R : SR fx σ H Γ s F A) {i : Nat} {q : D → Prop} (h : rdO (look Γ i) q) : ∃ y d, σ[i]? = some (some y) ∧ Ro H F A y d ∧ q d ∧ (match look Γ i with | some (.dat _) => True | some (.own _) => True | _ => False) := by
  cases e : look Γ i with
  | none => rw [e] at h; exact h.elim
  | some v =>
    rw [e] at h
    obtain ⟨y, h1, h2⟩ := R.sl i _ e
    cases v with
    | dat d => exact ⟨y, d, h1, .inl h2, h, trivial⟩
    | own xs =>
      obtain ⟨a, vs, e1, e2, e3, e4, e5, e6⟩ := h2
      exact ⟨y, .list xs, h1, .inr ⟨a, vs, xs, e1, rfl, e2, e4, e6⟩, h, trivial⟩
    | _ => exact h.elim
theorem n_callT {cl : Nat → Addr} {φ : Summ} {x x1 x2 x3 : Str} {i j l : Nat} {kk : Nat} {p p1 p2 p3 p4 p5 : Pos} (g : GoodP cl X k x φ) (hr : Room k X.A) (hgd : X.A.guards = some []) (hg : Gl X x) (tk : Takes X (WXof cl W))
    (h1 : PE X (.Name x1 p1) (tVar i)) (h2 : PE X (.Name x2 p2) (tVar j)) (h3 : PE X (.Name x3 p3) (tVar l)) (hdb : (x == ("__debug__" : Str)) = false) :
    PE X (.Call (.Name x p4) [.Tuple [.Name x1 p1, .Name x2 p2] kk p5, .Name x3 p3] [] p) (rdE W (.callT x φ i j l : E rm.S)) := by
  obtain ⟨f, fd, ps, G, g1, g2, g3⟩ := g
  refine PE_imp (pe_callG (E := fun σ => WE (WXof cl W) σ) G hr hgd hg g1 g2 g3 (fun σ => passAt tk σ) (pa_cons (pe_tup (pa_cons h1 (pa_cons h2 pa_nil))) (pa_cons h3 pa_nil)) hdb rfl rfl) fun σ H Q q => ?_
  obtain ⟨fx, Γ, s, F, A, R, xc, xk, q⟩ := q
  unfold wE at q
  obtain ⟨y1, d1, s1, r1, q, o1⟩ := rd_var R q
  obtain ⟨y2, d2, s2, r2, q, o2⟩ := rd_var R q
  obtain ⟨y3, d3, s3, r3, q, o3⟩ := rd_var R q
  refine ⟨y1, s1, y2, s2, by show (2 : Nat) ≤ sizeLine; decide, fun t ht => ⟨y3, s3, ?_⟩⟩
  obtain ⟨Fc, Rc, sbc, rl⟩ := frzA_ok (cs := .cons (.var i) (.cons (.var j) (.cons (.var l) .nil))) (xs := [y1, y2, y3]) (ds := [d1, d2, d3]) R ⟨o1, o2, o3, trivial⟩ ⟨⟨r1, s1⟩, ⟨r2, s2⟩, ⟨r3, s3⟩, trivial⟩
  have hft : Fc t = none := Rc.nF ht
  cases rl with
  | cons a1 rl =>
    cases rl with
    | cons a2 rl =>
      cases rl with
      | cons a3 rl =>
        cases rl
        have sbt : Sub Fc (upd Fc t (.tup [y1, y2])) := upd_sub hft
        refine ⟨upd Fc t (.tup [y1, y2]), [.tuple [d1, d2], d3], (Rc.lay (o := .tup [y1, y2]) ht).fh, .cons (.tup upd_same (.cons (a1.mono sbt) (.cons (a2.mono sbt) .nil))) (.cons (a3.mono sbt) .nil), φ.mono (fun v q => ?_) (fun n z => z.elim) q⟩
        intro y H' F' hh ff fh' nf rv
        have hH : Sub H H' := fun a o e => hh a o (by rw [upd_ne (ne_of_none e ht)]; exact e)
        refine q.2 y H' F A (R.grow hH) (HX.grow hH) (Sub.refl F) ?_
        have sc := q.1
        cases v with
        | dat d => exact scal_any rv sc
        | own ys => exact rv.elim
        | hdl n => exact rv.elim
        | tre ads d => cases sc
        | shl b => cases sc
        | odi b n f => cases sc
        | hds ks => cases sc
        | new ys =>
          obtain ⟨a, vs, e1, e2, e3, e4, e5⟩ := rv
          have ha : H a = none := by
            cases z : H a with
            | none => rfl
            | some o =>
              rw [upd_ne (ne_of_none z ht), z] at e4
              cases e4
          exact ⟨a, vs, e1, e2, R.nF ha, R.nft ha, R.nL ha, scal_all e5 sc, R.noOwn ha⟩
/-! ### a call that is lent names -/
def tNames : List Nat → TA
  | [] => fun _ H Q => Q [] H
  | i :: r => fun σ H Q => tVar i σ H fun x H1 => tNames r σ H1 fun xs H2 => Q (x :: xs) H2
theorem tNames_of {σ : L2.St} {H : Hp} : ∀ {is : List Nat} {xs : List V} {Q : List V → Hp → Prop}, Paired (fun (x : V) (i : Nat) => σ[i]? = some (some x)) xs is → Q xs H → tNames is σ H Q
  | _, _, _, .nil, q => q
  | _, _, _, .cons h t, q => ⟨_, h, tNames_of t q⟩
theorem RHL_mono {F F' : Hp} {A : rm.A} (sb : Sub F F') : ∀ {xs : List V} {vs : List Val}, RHL F A xs vs → RHL F' A xs vs
  | _, _, .nil => .nil
  | _, _, .cons h t => .cons (RH.mono h sb (rm.le_refl A)) (RHL_mono sb t)
theorem lendF (R : SR fx σ H Γ s F A) : ∀ {is : List Nat} {vs : List Val}, bV Γ is = some vs → ∃ (F0 : Hp) (xs : List V), Sub F F0 ∧ Sub F0 H ∧ (∀ a o, F0 a = some o → ¬ rm.ft A a) ∧ RHL F0 A xs vs ∧ Paired (fun (x : V) (i : Nat) => σ[i]? = some (some x)) xs is
  | [], vs, e => by
    cases e
    exact ⟨F, [], Sub.refl F, R.fh, R.fz, .nil, .nil⟩
  | i :: r, vs, e => by
    unfold bV at e
    cases e1 : look Γ i with
    | none => rw [e1] at e; cases e
    | some w =>
      obtain ⟨x, ex, sv⟩ := R.sl i w e1
      cases e2 : bV Γ r with
      | none => rw [e2] at e; cases z : lend1 (look Γ i) <;> rw [z] at e <;> cases e
      | some ws =>
        obtain ⟨F0, xs, h1, h2, h3, h4, h5⟩ := lendF R e2
        rw [e1, e2] at e
        cases w with
        | dat d =>
          cases e
          exact ⟨F0, x :: xs, h1, h2, h3, .cons (Rp.mono h1 sv) h4, .cons ex h5⟩
        | hdl k =>
          cases e
          exact ⟨F0, x :: xs, h1, h2, h3, .cons sv h4, .cons ex h5⟩
        | hds ks =>
          cases e
          exact ⟨F0, x :: xs, h1, h2, h3, .cons (HdsV.mono sv h1 (rm.le_refl A)) h4, .cons ex h5⟩
        | new ys => cases e
        | tre ads d => cases e
        | shl b => cases e
        | odi b n f => cases e
        | own ys =>
          cases e
          obtain ⟨a, us, rfl, g2, g3, g4, g5, g6⟩ := sv
          refine ⟨fun b => match F0 b with | some o => some o | none => if b = a then some (.lst us) else none, .ref a :: xs, ?_, ?_, ?_, ?_, .cons ex h5⟩
          · intro b o z
            dsimp only
            rw [h1 b o z]
          · intro b o z
            dsimp only at z
            cases q : F0 b with
            | some u => rw [q] at z; cases z; exact h2 b _ q
            | none =>
              rw [q] at z
              dsimp only at z
              by_cases hb : b = a
              · rw [if_pos hb] at z; cases z; rw [hb]; exact g2
              · rw [if_neg hb] at z; cases z
          · intro b o z
            dsimp only at z
            cases q : F0 b with
            | some u => exact h3 b _ q
            | none =>
              rw [q] at z
              dsimp only at z
              by_cases hb : b = a
              · rw [hb]; exact g4
              · rw [if_neg hb] at z; cases z
          · have sb : Sub F0 (fun b => match F0 b with | some o => some o | none => if b = a then some (.lst us) else none) := fun b o z => by
              dsimp only
              rw [z]
            have ea : (fun b => match F0 b with | some o => some o | none => if b = a then some (HO.lst us) else none) a = some (.lst us) := by
              dsimp only
              cases q : F0 a with
              | some u =>
                have := h2 a u q
                rw [g2] at this
                exact this.symm
              | none => dsimp only; rw [if_pos rfl]
            refine .cons (Rp.lst (.inl ea) (g6.mono (h1.trans sb))) ?_
            exact RHL_mono sb h4
theorem n_calB {cl : Nat → Addr} {φ : ESumm rm.S} {x : Str} {is : List Nat} {e0 : Expr} {es : List Expr} {p p2 : Pos} (g : GoodE rm cl X k x φ) (hr : Room k X.A) (hgd : X.A.guards = some []) (hg : Gl X x) (tk : Takes X (WXof cl W)) (ha : PA X (e0 :: es) (tNames is)) (hs : shpL (e0 :: es) = true) (hdb : (x == ("__debug__" : Str)) = false) : PE X (.Call (.Name x p2) (e0 :: es) [] p) (rdE W (.calB x φ is : E rm.S)) := by
  obtain ⟨f, fd, ps, G, h1, h2, h3⟩ := g
  unfold shpL at hs
  rw [List.all_cons, Bool.and_eq_true] at hs
  refine PE_imp (pe_callG (E := fun σ => WE (WXof cl W) σ) G hr hgd hg h1 h2 h3 (fun σ => passAt tk σ) ha hdb (star1 hs.1) (stars hs.2)) fun σ H Q q => ?_
  obtain ⟨fx, Γ, s, F, A, R, xc, xk, q⟩ := q
  unfold wE at q
  obtain ⟨vs, ev, q⟩ := q
  obtain ⟨F0, xs, sb, f0h, fz0, rl, hx⟩ := lendF R ev
  refine tNames_of hx ?_
  refine ⟨F0, A, s, vs, f0h, fz0, R.ok, rl, φ.mono (fun v s2 q => ?_) (fun n s2 q => ?_) q⟩
  · intro y H' F' A' hxx ff fh' fz' nf okk rv
    refine q.2 y H' F A' (R.afterX hxx okk) hxx (Sub.refl F) ?_
    have sc := q.1
    cases v with
    | dat d => exact scal_any rv sc
    | own ys => exact rv.elim
    | _ => cases sc
  · intro H' A' hxx okk
    exact ⟨n, rfl, rfl, xk n _ _ _ _ _ _ (R.afterX hxx okk) q⟩
end
end Ac
namespace Ac
open PySem PySem.Spec PyProof.Rows L2
/-! ### errors as things -/
def exName : Nat → Str
  | 0 => "NoRing" | 1 => "NoArc" | 2 => "NoPlace" | 3 => "TooMany" | 4 => "NoText" | 5 => "NoName" | 6 => "NoRow" | _ => "ValueError"
/-- what the classes of errors say -/
structure XTop (K : PySem.W.Frag) (mg : Str → Option Value) (cl : Nat → Addr) : Prop where
  pin : ∃ C, mg "PinError" = some (.ref C) ∧ ∀ n, n < 7 → PySem.W.exmOne K (.ref (cl n)) (.ref C) = some true
  nm : ∀ n, n < 7 → mg (exName n) = some (.ref (cl n))
  ec : ∀ n, n < 7 → ExcC K (cl n)
  kk : ∀ n m, n < 7 → m < 7 → PySem.W.kitOne K (.ref (cl n)) (.ref (cl m)) = some (decide (n = m))
  kv : ∀ n, n < 7 → PySem.W.kitOne K (.ref (cl n)) (.type "ValueError") = some true
  kn : ∀ m, m < 7 → PySem.W.kitOne K (.type "NoneType") (.ref (cl m)) = some false
  ve : mg "ValueError" = none
/-- errors are among the things with a state -/
structure RMX (rm : RM) (cl : Nat → Addr) : Prop where
  new : ∀ {fx : Fx rm} {σ : L2.St} {H : Hp} {Γ : Ctx} {s : rm.S} {F : Hp} {A : rm.A} {a : Addr} {n : Nat}, SR fx σ H Γ s F A → H a = none → ∃ A', SR fx σ (upd H a (ErrO (.ref (cl n)) a)) Γ s F A' ∧ rm.hd A' (100 + n) (.ref a)
  get : ∀ {A : rm.A} {s : rm.S} {H : Hp} {n : Nat} {x : V}, rm.ok A s H → n < 7 → rm.hd A (100 + n) x → ∃ a, x = .ref a ∧ H a = some (ErrO (.ref (cl n)) a)
def okCl (n : Nat) : Bool := decide (n < 7) || decide (n = 99)
theorem okCl_or {n : Nat} (h : okCl n = true) : n < 7 ∨ n = 99 := by
  unfold okCl at h
  simpa using h
def clsV (cl : Nat → Addr) (n : Nat) : V := if n = 99 then .ty "ValueError" else .ref (cl n)
def clsU (cl : Nat → Addr) (n : Nat) : Value := if n = 99 then .type "ValueError" else .ref (cl n)
theorem cls_rel {cl : Nat → Addr} {n : Nat} : ClsV (clsV cl n) (clsU cl n) := by
  unfold clsV clsU
  by_cases h : n = 99
  · rw [if_pos h, if_pos h]; exact .ty _
  · rw [if_neg h, if_neg h]; exact .own _
section
variable {rm : RM} {X : Cx} {k : Nat} {t : Sx} {W : WN} {fx : Fx rm} {xc : Nat → Ctx → rm.S → Prop} {σ : L2.St} {H F : Hp} {Γ : Ctx} {s : rm.S} {A : rm.A} {cl : Nat → Addr}
theorem pe_cls {n : Nat} {p : Pos} (xt : XTop X.K X.mg cl) (hn : okCl n = true) (hg : Gl X (exName n)) : PE X (.Name (exName n) p) (tC (clsV cl n)) := by
  rcases okCl_or hn with h | rfl
  · have e : clsV cl n = .ref (cl n) := by unfold clsV; rw [if_neg (by omega)]
    rw [e]
    refine pe_glob hg (xt.nm n h) rfl ?_
    match n, h with
    | 0, _ => decide +kernel
    | 1, _ => decide +kernel
    | 2, _ => decide +kernel
    | 3, _ => decide +kernel
    | 4, _ => decide +kernel
    | 5, _ => decide +kernel
    | 6, _ => decide +kernel
    | n + 7, h => omega
  · exact pe_bltn (v := .ty "ValueError") hg xt.ve (by decide +kernel) rfl (by decide +kernel) (by decide +kernel)
theorem kit_none {n : Nat} {K : PySem.W.Frag} {mg : Str → Option Value} (xt : XTop K mg cl) (hn : okCl n = true) : PySem.W.kitOne K (.type "NoneType") (clsU cl n) = some false := by
  rcases okCl_or hn with h | rfl
  · unfold clsU; rw [if_neg (by omega)]; exact xt.kn n h
  · exact kit_ty (by decide +kernel)
theorem kit_err {n m : Nat} {K : PySem.W.Frag} {mg : Str → Option Value} (xt : XTop K mg cl) (hn : okCl n = true) (hm : m < 7) : PySem.W.kitOne K (.ref (cl m)) (clsU cl n) = some (decide (n = 99) || decide (100 + m = 100 + n)) := by
  rcases okCl_or hn with h | rfl
  · unfold clsU
    rw [if_neg (by omega), xt.kk m n hm h, decide_eq_false (show ¬ n = 99 by omega), Bool.false_or]
    congr 1
    by_cases e : m = n
    · rw [decide_eq_true e, decide_eq_true (by omega)]
    · rw [decide_eq_false e, decide_eq_false (by omega)]
  · exact xt.kv m hm
theorem kitAny_of {K : PySem.W.Frag} {t : Value} {f : Nat → Bool} : ∀ {ns : List Nat}, (∀ n ∈ ns, PySem.W.kitOne K t (clsU cl n) = some (f n)) → PySem.W.kitAny K t (ns.map (clsU cl)) = some (ns.any f)
  | [], _ => rfl
  | n :: ns, h => by
    rw [List.map_cons, List.any_cons]
    refine kitAny_cons (h n List.mem_cons_self) (fun e => ?_) (fun e => by rw [e]; rfl)
    rw [e, Bool.false_or]
    exact kitAny_of fun m hm => h m (List.mem_cons_of_mem _ hm)
/-- what isinstance asks of such a name -/
theorem isC_ty {i : Nat} {ns : List Nat} {kk : Bool → Prop} (xt : XTop X.K X.mg cl) (rx : RMX rm cl) (hn : ∀ n ∈ ns, okCl n = true) (R : SR fx σ H Γ s F A) (q : isCW ns (look Γ i) kk) :
    ∃ x t f, σ[i]? = some (some x) ∧ (TyX X.K H x t ∧ (∀ H', TyX X.K H' x t) ∨ ∃ a C, x = .ref a ∧ t = .ref C ∧ H a = some (ErrO (.ref C) a) ∧ ExcC X.K C) ∧ (∀ n ∈ ns, PySem.W.kitOne X.K t (clsU cl n) = some (f n)) ∧ kk (ns.any f) := by
  unfold isCW at q
  split at q
  · rename_i d e
    obtain ⟨y, h1, h2⟩ := R.sl i _ e
    have ed : d = .none := by
      have := q.1
      cases d <;> first | rfl | cases this
    subst ed
    have h2' : Rp F y .none := h2
    cases h2'
    have ef : (ns.any fun _ => false) = false := by simp
    exact ⟨.non, .type "NoneType", fun _ => false, h1, .inl ⟨.base .non, fun _ => .base .non⟩, fun n h => kit_none xt (hn n h), by rw [ef]; exact q.2⟩
  · rename_i m e
    obtain ⟨y, h1, h2⟩ := R.sl i _ e
    obtain ⟨⟨q1, q2⟩, q⟩ := q
    obtain ⟨m', rfl⟩ : ∃ m', m = 100 + m' := ⟨m - 100, by omega⟩
    obtain ⟨a, rfl, ha⟩ := rx.get R.ok (by omega) h2
    exact ⟨.ref a, .ref (cl m'), fun n => decide (n = 99) || decide (100 + m' = 100 + n), h1, .inr ⟨a, cl m', rfl, rfl, ha, xt.ec m' (by omega)⟩, fun n h => kit_err xt (hn n h) (by omega), q⟩
  · exact q.elim
theorem n_isC1 {i n : Nat} {y : Str} {p p2 p3 p4 : Pos} (xt : XTop X.K X.mg cl) (rx : RMX rm cl) (hn : okCl n = true) (hg : Gl X "isinstance") (hm : X.mg "isinstance" = none) (hv : PE X (.Name y p3) (tVar i)) (hgn : Gl X (exName n)) :
    PE X (.Call (.Name "isinstance" p2) [.Name y p3, .Name (exName n) p4] [] p) (rdE W (.isC i false [n] : E rm.S)) := by
  refine PE_imp (pe_callB call_isX hg hm PyProof.Rows.boot_isinstance (pa_cons hv (pa_cons (pe_cls xt hn hgn) pa_nil) (star1 rfl)) (he := star1 rfl)) fun σ H Q q => ?_
  obtain ⟨fx, Γ, s, F, A, R, xc, xk, q⟩ := q
  unfold wE at q
  obtain ⟨x, t, f, h1, h2, h3, h4⟩ := isC_ty xt rx (fun m hm => by rw [List.mem_singleton.mp hm]; exact hn) R q
  refine ⟨x, h1, x, clsV cl n, t, clsU cl n, f n, rfl, cls_rel, h2.elim (fun z => .inl z.1) .inr, h3 n List.mem_cons_self, ?_⟩
  have e : [n].any f = f n := by simp
  rw [e] at h4
  exact h4 _ H F A R (HX.refl H A) (Sub.refl F) (.bl _)
def ClNs (X : Cx) : List Nat → List Expr → Prop
  | [], [] => True
  | n :: ns, .Name z _ :: es => z = exName n ∧ okCl n = true ∧ Gl X z ∧ ClNs X ns es
  | _, _ => False
theorem pa_cls (xt : XTop X.K X.mg cl) : ∀ {ns : List Nat} {es : List Expr}, ClNs X ns es → PA X es (fun σ H Q => Q (ns.map (clsV cl)) H)
  | [], [], _ => pa_nil
  | n :: ns, .Name z p :: es, h => by
    obtain ⟨rfl, h1, h2, h3⟩ := h
    exact PA_imp (pa_cons (pe_cls xt h1 h2) (pa_cls xt h3) (star1 rfl)) fun σ H Q q => q
theorem clns_ok : ∀ {ns : List Nat} {es : List Expr}, ClNs X ns es → ∀ n ∈ ns, okCl n = true
  | [], _, _, n, h => nomatch h
  | n :: ns, .Name z p :: es, h, m, hm => by
    rcases List.mem_cons.mp hm with rfl | hm
    · exact h.2.1
    · exact clns_ok h.2.2.2 m hm
theorem cls_rels : ∀ {ns : List Nat}, Paired ClsV (ns.map (clsV cl)) (ns.map (clsU cl))
  | [] => .nil
  | _ :: _ => .cons cls_rel cls_rels
theorem n_isCT {i : Nat} {ns : List Nat} {es : List Expr} {y : Str} {kk : Nat} {p p2 p3 p4 : Pos} (xt : XTop X.K X.mg cl) (rx : RMX rm cl) (hn : ClNs X ns es) (hl : ns.length ≤ 100) (hg : Gl X "isinstance") (hm : X.mg "isinstance" = none) (hv : PE X (.Name y p3) (tVar i)) :
    PE X (.Call (.Name "isinstance" p2) [.Name y p3, .Tuple es kk p4] [] p) (rdE W (.isC i true ns : E rm.S)) := by
  refine PE_imp (pe_callB call_isXT hg hm PyProof.Rows.boot_isinstance (pa_cons hv (pa_cons (pe_tup (pa_cls xt hn)) pa_nil (star1 rfl)) (star1 rfl)) (he := star1 rfl)) fun σ H Q q => ?_
  obtain ⟨fx, Γ, s, F, A, R, xc, xk, q⟩ := q
  unfold wE at q
  obtain ⟨x, t, f, h1, h2, h3, h4⟩ := isC_ty xt rx (clns_ok hn) R q
  refine ⟨x, h1, ?_, fun T hT => ?_⟩
  · rw [List.length_map, sizeLine_eq]; omega
  · refine ⟨x, T, ns.map (clsV cl), t, ns.map (clsU cl), ns.any f, rfl, upd_same, cls_rels, ?_, kitAny_of h3, ?_⟩
    · rcases h2 with z | ⟨a, C, e1, e2, e3, e4⟩
      · exact .inl (z.2 _)
      · exact .inr ⟨a, C, e1, e2, by rw [upd_ne (ne_of_none e3 hT)]; exact e3, e4⟩
    · exact h4 _ _ F A (R.alloc hT) (R.hx hT) (Sub.refl F) (.bl _)
/-! a is None, a an error perhaps -/
theorem nonev_iff {x : V} {v : Val} (h : RV fx σ H F A Γ x v) : decide (x = .non) = noneV v := by
  cases v with
  | dat d => exact isnone_iff (H := H) (A := A) (.inl h)
  | own xs => exact h.elim
  | new xs => obtain ⟨p, vs, rfl, _⟩ := h; rfl
  | hdl m => obtain ⟨p, rfl⟩ := rm.hd_ref h; rfl
  | tre ads d => cases h.1 <;> rfl
  | shl b => exact h.elim
  | odi b n f => exact h.elim
  | hds ks => obtain ⟨p, vs, rfl, _⟩ := h; rfl
theorem n_isnH {ca : E rm.S} {a : Expr} {j : Nat} {p p' : Pos} (ha : PE X a (rdE W ca)) :
    (PE X (.Compare a [.Is] [.Constant .none j p'] p) (rdE W (.isnH true ca)) ∧ PT X (.Compare a [.Is] [.Constant .none j p'] p) (rdT W (.isnH true ca))) ∧
    (PE X (.Compare a [.IsNot] [.Constant .none j p'] p) (rdE W (.isnH false ca)) ∧ PT X (.Compare a [.IsNot] [.Constant .none j p'] p) (rdT W (.isnH false ca))) := by
  refine ⟨⟨PE_imp (pe_cmp (pc_isN ha)) fun σ H Q q => ?_, PT_imp (pt_cmp (pc_isN ha)) fun σ H Q q => ?_⟩, ⟨PE_imp (pe_cmp (pc_notN ha)) fun σ H Q q => ?_, PT_imp (pt_cmp (pc_notN ha)) fun σ H Q q => ?_⟩⟩
  · obtain ⟨fx, Γ, s, F, A, R, xc, xk, q⟩ := q
    unfold wE at q
    refine ⟨fx, Γ, s, F, A, R, xc, xk, wE_mono ca (fun v Γ1 s1 h => ?_) q⟩
    intro x H1 F1 A1 R1 hx1 sb1 rv
    rw [nonev_iff rv]
    exact h _ H1 F1 A1 R1 hx1 sb1 (.bl _)
  · obtain ⟨fx, Γ, s, F, A, R, xc, xk, q⟩ := q
    change opn (.isnH true ca) _ Γ s _ at q
    rw [opn_nv (c := (.isnH true ca)) (fun i h => nomatch h)] at q
    unfold wE at q
    refine ⟨fx, Γ, s, F, A, R, xc, xk, wE_mono ca (fun v Γ1 s1 h => ?_) q⟩
    intro x H1 F1 A1 R1 hx1 sb1 rv
    refine ⟨_, rfl, ?_⟩
    rw [nonev_iff rv]
    exact h H1 F1 A1 R1 hx1 sb1
  · obtain ⟨fx, Γ, s, F, A, R, xc, xk, q⟩ := q
    unfold wE at q
    refine ⟨fx, Γ, s, F, A, R, xc, xk, wE_mono ca (fun v Γ1 s1 h => ?_) q⟩
    intro x H1 F1 A1 R1 hx1 sb1 rv
    rw [nonev_iff rv]
    exact h _ H1 F1 A1 R1 hx1 sb1 (.bl _)
  · obtain ⟨fx, Γ, s, F, A, R, xc, xk, q⟩ := q
    change opn (.isnH false ca) _ Γ s _ at q
    rw [opn_nv (c := (.isnH false ca)) (fun i h => nomatch h)] at q
    unfold wE at q
    refine ⟨fx, Γ, s, F, A, R, xc, xk, wE_mono ca (fun v Γ1 s1 h => ?_) q⟩
    intro x H1 F1 A1 R1 hx1 sb1 rv
    refine ⟨_, rfl, ?_⟩
    rw [nonev_iff rv]
    exact h H1 F1 A1 R1 hx1 sb1
/-! {k: v} -/
theorem n_d1 {ck cv : E rm.S} {ek ev : Expr} {p : Pos} (hk : PE X ek (rdP W ck)) (hv : PE X ev (rdE W cv)) : PE X (.Dict [some ek] [ev] p) (rdE W (.d1 ck cv)) := by
  refine PE_imp (pe_disp (pps_cons hk hv pps_nil) rfl rfl (List.cons_ne_nil _ _) (by simp)) fun σ H Q q => ?_
  obtain ⟨fx, Γ, s, F, A, R, xc, xk, q⟩ := q
  unfold wE at q
  intro p hp
  have hl := R.nL hp
  have R0 : SR (fxL fx p (.dK [])) σ (upd H p (.dK [])) Γ s F A := (R.alloc hp).addL upd_same (R.nF hp) (R.nft hp) (R.noOwn hp)
  have xk' : XcOk W (fxL fx p (.dK [])) xc := fun n Γ s σ H F A R' z => xk n Γ s σ H F A (R'.delL hl) z
  refine ⟨fxL fx p (.dK []), Γ, s, F, A, R0, xc, xk', opnE_mono ck (fun x Γ1 s1 q => ?_) q⟩
  intro y H1 F1 A1 R1 hx1 sb1 ro1
  refine ⟨fxL fx p (.dK []), Γ1, s1, F1, A1, R1, xc, xk', wE_mono cv (fun w Γ2 s2 q => ?_) q⟩
  intro z H2 F2 A2 R2 hx2 sb2 rv2
  obtain ⟨d, F3, q, R3, sb3, rp⟩ := R2.stay rv2 q
  have hx : HX H A H2 A2 := (HX.trans (R.hx hp) hx1).trans hx2
  have fin : ∀ (key : Key) (x' : D), x' = (match key with | .inl i => .int i | .inr x => .str x) → y = kV key → KE fx σ H F A Q (.dat (.dict [(x', d)])) Γ2 s2 → H2 p = some (.dK []) ∧ ∃ kvs : List (Key × V), [(y, z)] = kvs.map (fun kv => (kV kv.1, kv.2)) ∧ kvs.length ≤ 15 ∧ Q (.ref p) (upd H2 p (.dK (mergeK [] kvs))) := fun key x' e1 e2 q => by
    subst e1 e2
    refine ⟨R2.lkP.1, [(key, z)], rfl, by simp, ?_⟩
    have R4 : SR (fxL fx p (.dK [(key, z)])) σ (upd H2 p (.dK [(key, z)])) Γ2 s2 F3 A2 := R3.chg hl
    have R5 := (R4.delL hl).frz upd_same R4.lkP.2.1 R4.lkP.2.2 hl R4.lkNo
    refine q (.ref p) _ _ A2 R5 ⟨hx.1, fun a o e n => ?_⟩ ((sb1.trans sb2).trans (sb3.trans (upd_sub R4.lkP.2.1))) (Rp.dic upd_same (RpK.cons (rp.mono (upd_sub R4.lkP.2.1)) .nil))
    have na : a ≠ p := ne_of_none e hp
    rw [upd_ne na]
    exact hx.2 a o e n
  show (H2 p = some (.dK []) ∧ _)
  unfold keyD at q
  split at q
  · exact fin (.inl _) _ rfl (flat_int ro1.1) q
  · exact fin (.inr _) _ rfl (flat_str ro1.1) q
  · exact q.elim
/-! ### try .. except .. as e: x = e -/
theorem SR.gone (R : SR fx σ H Γ s F A) {i : Nat} : SR fx (σ.set i none) H (Ac.put Γ i none) s F A where
  fh := R.fh
  fz := R.fz
  f0 := R.f0
  lk := R.lk
  a0 := R.a0
  ok := R.ok
  ln := by rw [put_length, List.length_set]; exact R.ln
  sl := fun j w e => by
    rcases look_put e with ⟨_, z⟩ | ⟨ne, e'⟩
    · cases z
    · obtain ⟨y, h1, h2⟩ := R.sl j w e'
      exact ⟨y, by rw [List.getElem?_set_ne (Ne.symm ne)]; exact h1, h2⟩
  dj := fun j k a s1 s2 => by
    have f : ∀ {j : Nat}, ownA (σ.set i none) (Ac.put Γ i none) j a → ownA σ Γ j a := fun {j} z => by
      by_cases n : j = i
      · subst n; exact (ownA_at z).elim
      · exact (ownA_ne n).mp z
    exact R.dj j k a (f s1) (f s2)
theorem n_try {b : Sms rm.S} {i j : Nat} {c : E rm.S} {bd su : List Stmt} {s0 : Stmt} {n : Str} {np p0 p1 : Pos} (xt : XTop X.K X.mg cl) (rx : RMX rm cl) (hs : X.stack = X.env :: X.outer) (hf : X.env.frame = some X.env.locals) (hx : X.ex = []) (hN : X.N.Nodup) (hi : X.N[i]? = some n)
    (hl : X.env.kindOf n = some .local) (hg : Gl X "PinError") (tk : Takes X (WXof cl W))
    (hb : ∀ (W' : WN) (pn : List (Addr × Obj)) (xe : Value → Shared → Prop), Takes (X.tr pn xe) (WXof cl W') → PassesOwn (model X.prog X.w) X.A X.env xe → PSs (X.tr pn xe) bd (rdSs W' b))
    (hsu : ∀ (a : Addr) (pn : List (Addr × Obj)), PSs (X.suite a pn) (s0 :: su) (rd1 W0 (.asg j c : St1 rm.S))) :
    PS X (.Try bd [.ExceptHandler (some (.Name "PinError" np)) (some n) (s0 :: su) p1] [] [] p0) (rdS W (.tryC b i j c)) := by
  obtain ⟨C, hC, hm⟩ := xt.pin
  refine PS_imp (ps_tryK (tb := fun W => rdSs (fun n σ H => W (.ref (cl n)) none σ H) b) (ts := fun _ _ => rd1 W0 (.asg j c : St1 rm.S)) hs hf hx hN hi hl ⟨hg, by decide +kernel, .inl hC⟩ tk
    (fun W pn xe t1 t2 => hb _ pn xe (t1.imp fun cls d σ H ⟨n, e1, e2, z⟩ => by rw [e1, e2]; exact z) t2) (fun a _ pn => hsu a pn)) fun D σ H q => ?_
  obtain ⟨fx, Γ, s, F, A, R, K', ko', q⟩ := q
  unfold wS at q
  obtain ⟨K, le, q⟩ := q
  have knx : ∀ Γ s σ H F A, SR fx σ H Γ s F A → K.nx Γ s → D.nx σ H := fun Γ s σ H F A R z => ko'.nx Γ s σ H F A R (le.nx _ _ z)
  refine ⟨fx, Γ, s, F, A, R, { K with ex := fun n Γ' s' => n < 7 ∧ wE xn c (put Γ' i (some (.hdl (100 + n)))) s' fun v Γ2 s2 => K.nx (put (put Γ2 j (slotV v)) i none) s2 }, { nx := knx, rt := fun v x Γ s σ H F A R r z => ko'.rt v x Γ s σ H F A R r (le.rt _ _ z), bk := fun Γ s σ H F A R z => ko'.bk Γ s σ H F A R (le.bk _ _ z), ct := fun Γ s σ H F A R z => ko'.ct Γ s σ H F A R (le.ct _ _ z), ex := fun m Γ' s' σ' H' F' A' R' z => ?_ }, q⟩
  obtain ⟨hm7, z⟩ := z
  refine ⟨rfl, true, hm m hm7, (fun e => nomatch e), fun _ hlt a ha => ?_⟩
  obtain ⟨A2, R2, h2⟩ := rx.new (n := m) R' ha
  have R3 := R2.putH (i := i) h2
  refine ⟨fx, _, s', F', A2, R3, ⟨fun Γ2 s2 => K.nx (put Γ2 i none) s2, fun _ _ => False, fun _ _ => False, fun _ _ => False, xn⟩, { nx := fun Γ2 s2 σ2 H2 F2 A2 R2 z => knx _ _ _ _ _ _ R2.gone z, rt := fun _ _ _ _ _ _ _ _ _ _ z => z.elim, bk := fun _ _ _ _ _ _ _ z => z.elim, ct := fun _ _ _ _ _ _ _ z => z.elim, ex := fun _ _ _ _ _ _ _ _ z => z }, ?_⟩
  exact z
theorem n_tryS {b : Sms rm.S} {i : Nat} {c : Sms rm.S} {bd su : List Stmt} {s0 : Stmt} {n : Str} {np p0 p1 : Pos} (xt : XTop X.K X.mg cl) (rx : RMX rm cl) (hs : X.stack = X.env :: X.outer) (hf : X.env.frame = some X.env.locals) (hx : X.ex = []) (hN : X.N.Nodup) (hi : X.N[i]? = some n)
    (hl : X.env.kindOf n = some .local) (hg : Gl X "PinError") (tk : Takes X (WXof cl W))
    (hb : ∀ (W' : WN) (pn : List (Addr × Obj)) (xe : Value → Shared → Prop), Takes (X.tr pn xe) (WXof cl W') → PassesOwn (model X.prog X.w) X.A X.env xe → PSs (X.tr pn xe) bd (rdSs W' b))
    (hsu : ∀ (a : Addr) (pn : List (Addr × Obj)), PSs (X.suite a pn) (s0 :: su) (rdSs W0 c)) :
    PS X (.Try bd [.ExceptHandler (some (.Name "PinError" np)) (some n) (s0 :: su) p1] [] [] p0) (rdS W (.tryS b i c)) := by
  obtain ⟨C, hC, hm⟩ := xt.pin
  refine PS_imp (ps_tryK (tb := fun W => rdSs (fun n σ H => W (.ref (cl n)) none σ H) b) (ts := fun _ _ => rdSs W0 c) hs hf hx hN hi hl ⟨hg, by decide +kernel, .inl hC⟩ tk
    (fun W pn xe t1 t2 => hb _ pn xe (t1.imp fun cls d σ H ⟨n, e1, e2, z⟩ => by rw [e1, e2]; exact z) t2) (fun a _ pn => hsu a pn)) fun D σ H q => ?_
  obtain ⟨fx, Γ, s, F, A, R, K', ko', q⟩ := q
  unfold wS at q
  obtain ⟨K, le, q⟩ := q
  have knx : ∀ Γ s σ H F A, SR fx σ H Γ s F A → K.nx Γ s → D.nx σ H := fun Γ s σ H F A R z => ko'.nx Γ s σ H F A R (le.nx _ _ z)
  refine ⟨fx, Γ, s, F, A, R, { K with ex := fun n Γ' s' => n < 7 ∧ wSs c (put Γ' i (some (.hdl (100 + n)))) s' { nx := fun Γ2 s2 => K.nx (put Γ2 i none) s2, rt := fun _ _ => False, ex := xn } }, { nx := knx, rt := fun v x Γ s σ H F A R r z => ko'.rt v x Γ s σ H F A R r (le.rt _ _ z), bk := fun Γ s σ H F A R z => ko'.bk Γ s σ H F A R (le.bk _ _ z), ct := fun Γ s σ H F A R z => ko'.ct Γ s σ H F A R (le.ct _ _ z), ex := fun m Γ' s' σ' H' F' A' R' z => ?_ }, q⟩
  obtain ⟨hm7, z⟩ := z
  refine ⟨rfl, true, hm m hm7, (fun e => nomatch e), fun _ hlt a ha => ?_⟩
  obtain ⟨A2, R2, h2⟩ := rx.new (n := m) R' ha
  have R3 := R2.putH (i := i) h2
  refine ⟨fx, _, s', F', A2, R3, ⟨fun Γ2 s2 => K.nx (put Γ2 i none) s2, fun _ _ => False, fun _ _ => False, fun _ _ => False, xn⟩, { nx := fun Γ2 s2 σ2 H2 F2 A2 R2 z => knx _ _ _ _ _ _ R2.gone z, rt := fun _ _ _ _ _ _ _ _ _ _ z => z.elim, bk := fun _ _ _ _ _ _ _ z => z.elim, ct := fun _ _ _ _ _ _ _ z => z.elim, ex := fun _ _ _ _ _ _ _ _ z => z }, ?_⟩
  exact z
end
end Ac
namespace Ac
open PySem PySem.Spec PyProof.Rows L2
/-! ### instances: methods, and how one is made -/
def plainM (m : Str) : Bool := !(decide (m = ("n" : Str))) && !(decide (m = ("arcs" : Str))) && !(decide (m = ("told" : Str)))
/-- an object that is asked as it is -/
def baseB : Expr → Bool
  | .Call (.Name _ _) [] [] _ => false
  | _ => true
theorem base_of {o : Expr} {a : Str} {env : Env} {w : Sem Value} (h : baseB o = true) : attributeBase o a env w = w := by
  unfold attributeBase
  split
  · cases h
  · rfl
/-- instances are among the things with a state -/
def RMK (rm : RM) (cl : Nat → Addr) : Prop := ∀ {A : rm.A} {s : rm.S} {H : Hp} {k : Nat} {x : V}, rm.ok A s H → 200 ≤ k → rm.hd A k x → ∃ a dx fs, x = .ref a ∧ H a = some (.ins (cl 7) dx fs) ∧ ∀ m, plainM m = true → fs.lookup m = none
section
variable {X : Cx} {k : Nat} {f C : Addr} {fd : FuncData} {ps : List Str} {sp : Sp} {E : L2.St → XK} {x m : Str} {p pos apos : Pos} {e o : Expr} {es : List Expr} {t : TA} {to : TE}
theorem form_of {env : Env} (hs : shpL es = true) (hl : es.length < 20) : methodCallForm (es.length + ([] : List Keyword).length) (backTo p (starEach es env)) (backToKw p (keywordEach [] env)) = true := by
  unfold methodCallForm
  have h1 : (backTo p (starEach es env)).all (fun x => !x.1) = true := by
    have := stars (env := env) (pos := p) hs
    rw [List.all_eq_true]
    intro y hy
    rw [Bool.not_eq_true']
    exact Bool.eq_false_iff.mpr fun z => by
      have := List.any_eq_false.mp this y hy
      exact this z
  rw [h1, Bool.true_and]
  have h2 : (backToKw p (keywordEach [] env)) = [] := rfl
  rw [h2]
  simp
  omega
theorem mcall_eq {env : Env} (hb : baseB o = true) (hs : shpL es = true) (hl : es.length < 20) (hline : (apos.endLine == pos.line) = true) : eval (.Call (.Attribute o m apos) es [] pos) env = (do
      let ov ← eval o env
      standAt apos.atName
      let (f, first) ← holding [ov] (getMethod ov m (do return (← importBound o env).getD true))
      callWith pos f first (backTo pos (starEach es env)) (backToKw pos (keywordEach [] env))) := by
  rw [arm_eval_Call, base_of hb]
  have hform := form_of (p := pos) (env := env) hs hl
  have hpos : methodCallPos true o env apos pos = pure pos := by unfold methodCallPos; simp [hline]
  unfold methodCall calleeOf
  rw [hform, hpos]
  rfl
theorem pe_methG (he : PE X o to) (c : Cls X.K C) (hm : Meth X.K C m f) (F : FnG X.prog X.w X.K X.mg X.base k f fd ps sp) (hr : Room k X.A) (hgd : X.A.guards = some []) (hb : Binds X.K fd ps []) (hx : ∀ σ, PassesAt (L2.CX X.prog X.w) X σ (E σ)) (ha : PA X (e :: es) t)
    (hbb : baseB o = true) (hs : shpL (e :: es) = true) (hl : (e :: es).length < 20) (hline : (apos.endLine == pos.line) = true) :
    PE X (.Call (.Attribute o m apos) (e :: es) [] pos) (fun σ H Q => to σ H fun x H1 => ∃ a dx fs, x = .ref a ∧ H1 a = some (.ins C dx fs) ∧ fs.lookup m = none ∧ t σ H1 fun vs H2 => sp (x :: vs) H2 Q (E σ)) := by
  constructor
  intro pins s σ H Q I h
  refine PySem.W.methodCall_KW (thn (he.run pins s σ H _ I h) fun u s1 ⟨x, H1, I1, rx, a, dx, fs, ex, ea, l, q⟩ => ?_) (mcall_eq hbb hs hl hline)
  subst ex
  obtain rfl : u = Value.ref a := rx
  refine getmeth_ok I1 ea c hm l ?_
  have hs' := hs
  unfold shpL at hs'
  rw [List.all_cons, Bool.and_eq_true] at hs'
  refine PySem.W.callWith_K (first := [.ref a]) (h₀ := X.base) I.ok.mod.kin hm.kp (thn (ha.run pos pins s1 σ H1 _ I1 q) fun us s2 z => ?_) (star1 hs'.1) (stars hs'.2)
  obtain ⟨vs, H2, I2, r, q2⟩ := z
  exact ⟨I2.kIn, runG (us := .ref a :: us) (vs := .ref a :: vs) F hr hgd hb (hx σ) I2 (.cons rfl r) q2⟩
theorem pe_methG0 (he : PE X o to) (c : Cls X.K C) (hm : Meth X.K C m f) (F : FnG X.prog X.w X.K X.mg X.base k f fd ps sp) (hr : Room k X.A) (hgd : X.A.guards = some []) (hb : Binds X.K fd ps []) (hx : ∀ σ, PassesAt (L2.CX X.prog X.w) X σ (E σ))
    (hbb : baseB o = true) (hline : (apos.endLine == pos.line) = true) :
    PE X (.Call (.Attribute o m apos) [] [] pos) (fun σ H Q => to σ H fun x H1 => ∃ a dx fs, x = .ref a ∧ H1 a = some (.ins C dx fs) ∧ fs.lookup m = none ∧ sp [x] H1 Q (E σ)) := by
  constructor
  intro pins s σ H Q I h
  refine PySem.W.methodCall_KW (thn (he.run pins s σ H _ I h) fun u s1 ⟨x, H1, I1, rx, a, dx, fs, ex, ea, l, q⟩ => ?_) (mcall_eq hbb rfl (by decide) hline)
  subst ex
  obtain rfl : u = Value.ref a := rx
  refine getmeth_ok I1 ea c hm l ?_
  exact PySem.W.callWith_K0 (first := [.ref a]) I1.kIn hm.kp (runG (us := [.ref a]) (vs := [.ref a]) F hr hgd hb (hx σ) I1 (.cons rfl .nil) q)
/-- a new instance -/
theorem runG_make {pins : List (Addr × Obj)} {σ : L2.St} {H : Hp} {s : Shared} {Q : VK} {us : List Value} {vs : List V} (M : Mk X.K C f) (F : FnG X.prog X.w X.K X.mg X.base k f fd ps sp) (hr : Room (k + 1) X.A) (hgd : X.A.guards = some []) (hb : Binds X.K fd ps [])
    (hx : ∀ (x dx : Addr), H x = none → H dx = none → dx ≠ x → ∀ (s : Shared) (e : Value) (s' : Shared), Inv X pins σ (upd (upd H dx (.own x)) x (.ins C dx [])) s → L2.CX X.prog X.w X.stack (upd (upd H dx (.own x)) x (.ins C dx [])) s (E σ) e s' → X.xe e s') (I : Inv X pins σ H s) (r : Vals vs us)
    (h : ∀ x dx, H x = none → H dx = none → dx ≠ x → sp (.ref x :: vs) (upd (upd H dx (.own x)) x (.ins C dx [])) (fun v H2 => v = .non ∧ Q (.ref x) H2) (E σ)) :
    wpAny (model X.prog X.w) X.A (call (.ref C) us) (EP X pins σ Q) X.xe s := by
  have n1 : H (s.heap.objs.size + 1) = none := I.hok.fresh (Nat.le_succ _)
  have n2 : H s.heap.objs.size = none := I.hok.fresh (Nat.le_refl _)
  have n3 : s.heap.objs.size ≠ s.heap.objs.size + 1 := Nat.ne_of_lt (Nat.lt_succ_self _)
  have hq := h (s.heap.objs.size + 1) s.heap.objs.size n1 n2 n3
  have I2 := Inv.made (C := C) I
  have r2 : Vals (V.ref (s.heap.objs.size + 1) :: vs) (Value.ref (s.heap.objs.size + 1) :: us) := .cons rfl r
  have hl : (Value.ref (s.heap.objs.size + 1) :: us).length = ps.length := by
    have e := r2.length
    rw [F.len _ _ _ _ hq] at e
    exact e.symm
  have hb2 := hb _ (Value.ref (s.heap.objs.size + 1) :: us) I2.kIn (by rw [List.append_nil]; exact hl)
  rw [List.append_nil] at hb2
  refine wpAny_call (make_map (f := f) I.kIn M.makes M.init (beq_iff_eq.mp M.fn) (codeAny_mono (F.run _ X.stack _ _ ⟨Value.ref (s.heap.objs.size + 1) :: us, []⟩ (Value.ref (s.heap.objs.size + 1) :: us) _ _ (E σ) (hr.make C us [])
    (by exact hgd) (I2.env0.make C us []) hb2 r2 hq) fun r s' hq' => ?_))
  cases r with
  | error e => exact hx _ _ n1 n2 n3 _ e s' I2 hq'
  | ok fl =>
    cases fl with
    | ret u =>
      obtain ⟨v, H', I3, rv, ev, q3⟩ := I2.after hq'
      subst ev
      exact ⟨rv, ⟨V.ref (s.heap.objs.size + 1), H', I3, rfl, q3⟩⟩
    | next => exact False.elim hq'
    | brk => exact False.elim hq'
    | cont => exact False.elim hq'
end
/-- __init__'s promise: the instance is new, and of nobody -/
def spI (rm : RM) (cl : Nat → Addr) (φ : ESumm rm.S) : Sp := fun vs H1 Q E => ∃ (x dx : Addr) (us : List V) (H F : Hp) (A : rm.A) (s : rm.S) (ws : List Val), vs = .ref x :: us ∧ H x = none ∧ H dx = none ∧ dx ≠ x ∧ H1 = upd (upd H dx (.own x)) x (.ins (cl 7) dx []) ∧
  Sub F H ∧ (∀ a o, F a = some o → ¬ rm.ft A a) ∧ rm.ok A s H ∧ RHL F A us ws ∧
  φ.run ws s (fun v s' => ∀ H' F' A', HX H A H' A' → Sub F F' → Sub F' H' → (∀ a o, F' a = some o → ¬ rm.ft A' a) → (∀ a, H a ≠ none → ¬ rm.ft A a → (∀ vs, H a ≠ some (.tup vs)) → F' a = F a) → rm.ok A' s' H' → RVe H H' F' A' (.ref x) v → Q .non H')
    (fun n s' => ∀ H' A', HX H A H' A' → rm.ok A' s' H' → E (.ref (cl n)) none H')
def GoodM (rm : RM) (cl : Nat → Addr) (X : Cx) (k : Nat) (m : Str) (φ : ESumm rm.S) : Prop := ∃ f fd ps, FnG X.prog X.w X.K X.mg X.base k f fd ps (spE rm cl φ) ∧ Meth X.K (cl 7) m f ∧ Cls X.K (cl 7) ∧ RMK rm cl ∧ Binds X.K fd ps []
def GoodK (rm : RM) (cl : Nat → Addr) (X : Cx) (k : Nat) (x : Str) (φ : ESumm rm.S) : Prop := ∃ j f fd ps, j + 1 ≤ k ∧ FnG X.prog X.w X.K X.mg X.base j f fd ps (spI rm cl φ) ∧ Mk X.K (cl 7) f ∧ X.mg x = some (.ref (cl 7)) ∧ Binds X.K fd ps []
section
variable {rm : RM} {X : Cx} {k : Nat} {W : WN} {fx : Fx rm} {σ : L2.St} {H F : Hp} {Γ : Ctx} {s : rm.S} {A : rm.A} {cl : Nat → Addr}
theorem n_met {φ : ESumm rm.S} {m : Str} {co : E rm.S} {cs : Es rm.S} {eo e0 : Expr} {es : List Expr} {p p2 : Pos} (g : GoodM rm cl X k m φ) (hm : plainM m = true) (hr : Room k X.A) (hgd : X.A.guards = some []) (tk : Takes X (WXof cl W)) (ho : PE X eo (rdE W co)) (hb : baseB eo = true) (ha : PA X (e0 :: es) (rdV W cs)) (hs : shpL (e0 :: es) = true) (hl : (e0 :: es).length < 20) (hline : (p2.endLine == p.line) = true) :
    PE X (.Call (.Attribute eo m p2) (e0 :: es) [] p) (rdE W (.met m φ co cs)) := by
  obtain ⟨f, fd, ps, G, h1, h2, rk, h3⟩ := g
  refine PE_imp (pe_methG (E := fun σ => WE (WXof cl W) σ) ho h2 h1 G hr hgd h3 (fun σ => passAt tk σ) ha hb hs hl hline) fun σ H Q q => ?_
  obtain ⟨fx, Γ, s, F, A, R, xc, xk, q⟩ := q
  unfold wE at q
  refine ⟨fx, Γ, s, F, A, R, xc, xk, wE_mono co (fun v Γ1 s1 q => ?_) q⟩
  intro x H1 F1 A1 R1 hx1 sb1 rv1
  split at q
  · rename_i kk
    obtain ⟨hk, q⟩ := q
    have rv1' : rm.hd A1 kk x := rv1
    obtain ⟨a, dx, fs, rfl, ha', hfs⟩ := rk R1.ok hk rv1'
    refine ⟨a, dx, fs, rfl, ha', hfs m hm, ?_⟩
    refine ⟨fx, Γ1, s1, F1, A1, R1, xc, xk, wV_mono cs (fun vs Γ2 s2 q => ?_) q⟩
    intro xs H2 F2 A2 R2 hx2 sb2 ar
    refine ⟨F2, A2, s2, .hdl kk :: vs, R2.fh, R2.fz, R2.ok, .cons (rm.le_hd hx2.1 rv1') ar, φ.mono (fun v s3 q => ?_) (fun n s3 q => ?_) q⟩
    · intro y H' F' A' hxx ff fh' fz' nf okk rv
      exact q y H' F' A' (R2.after hxx ff fh' fz' nf okk) ((hx1.trans hx2).trans hxx) ((sb1.trans sb2).trans ff) (rv.rv R2)
    · intro H' A' hxx okk
      exact ⟨n, rfl, rfl, xk n _ _ _ _ _ _ (R2.afterX hxx okk) q⟩
  · exact q.elim
theorem n_met0 {φ : ESumm rm.S} {m : Str} {co : E rm.S} {cs : Es rm.S} {eo : Expr} {p p2 : Pos} (g : GoodM rm cl X k m φ) (hm : plainM m = true) (hr : Room k X.A) (hgd : X.A.guards = some []) (tk : Takes X (WXof cl W)) (ho : PE X eo (rdE W co)) (hb : baseB eo = true) (hc : cs = .nil) (hline : (p2.endLine == p.line) = true) :
    PE X (.Call (.Attribute eo m p2) [] [] p) (rdE W (.met m φ co cs)) := by
  subst hc
  obtain ⟨f, fd, ps, G, h1, h2, rk, h3⟩ := g
  refine PE_imp (pe_methG0 (E := fun σ => WE (WXof cl W) σ) ho h2 h1 G hr hgd h3 (fun σ => passAt tk σ) hb hline) fun σ H Q q => ?_
  obtain ⟨fx, Γ, s, F, A, R, xc, xk, q⟩ := q
  unfold wE at q
  refine ⟨fx, Γ, s, F, A, R, xc, xk, wE_mono co (fun v Γ1 s1 q => ?_) q⟩
  intro x H1 F1 A1 R1 hx1 sb1 rv1
  split at q
  · rename_i kk
    obtain ⟨hk, q⟩ := q
    unfold wV at q
    have rv1' : rm.hd A1 kk x := rv1
    obtain ⟨a, dx, fs, rfl, ha', hfs⟩ := rk R1.ok hk rv1'
    refine ⟨a, dx, fs, rfl, ha', hfs m hm, ?_⟩
    refine ⟨F1, A1, s1, [.hdl kk], R1.fh, R1.fz, R1.ok, .cons rv1' .nil, φ.mono (fun v s3 q => ?_) (fun n s3 q => ?_) q⟩
    · intro y H' F' A' hxx ff fh' fz' nf okk rv
      exact q y H' F' A' (R1.after hxx ff fh' fz' nf okk) (hx1.trans hxx) (sb1.trans ff) (rv.rv R1)
    · intro H' A' hxx okk
      exact ⟨n, rfl, rfl, xk n _ _ _ _ _ _ (R1.afterX hxx okk) q⟩
  · exact q.elim
theorem n_mk {φ : ESumm rm.S} {x : Str} {cs : Es rm.S} {e0 : Expr} {es : List Expr} {p p2 : Pos} (g : GoodK rm cl X k x φ) (hr : Room k X.A) (hgd : X.A.guards = some []) (hg : Gl X x) (tk : Takes X (WXof cl W)) (ha : PA X (e0 :: es) (rdV W cs)) (hs : shpL (e0 :: es) = true) (hdb : (x == ("__debug__" : Str)) = false) : PE X (.Call (.Name x p2) (e0 :: es) [] p) (rdE W (.mk x φ cs)) := by
  obtain ⟨j, f, fd, ps, hj, G, M, h1, h3⟩ := g
  unfold shpL at hs
  rw [List.all_cons, Bool.and_eq_true] at hs
  refine PE_imp (t := fun σ H Q => rdV W cs σ H fun vs H1 => ∀ x dx, H1 x = none → H1 dx = none → dx ≠ x → spI rm cl φ (.ref x :: vs) (upd (upd H1 dx (.own x)) x (.ins (cl 7) dx [])) (fun v H2 => v = .non ∧ Q (.ref x) H2) (WE (WXof cl W) σ)) ⟨fun pins s σ H Q I h => ?_⟩ fun σ H Q q => ?_
  · refine wpAny_Call_Name_kw (ld_glob I hg h1 ?_ hdb)
    refine PySem.W.callWith_K (h₀ := X.base) I.ok.mod.kin M.kp (thn (ha.run p pins s σ H _ I h) fun us s1 z => ?_) (star1 hs.1) (stars hs.2)
    obtain ⟨vs, H1, I1, r, q⟩ := z
    exact ⟨I1.kIn, runG_make (E := fun σ => WE (WXof cl W) σ) M G (hr.mono hj) hgd h3 (fun x dx _ _ _ s e s' I z => passAt tk σ _ _ _ _ _ I z) I1 r q⟩
  · obtain ⟨fx, Γ, s, F, A, R, xc, xk, q⟩ := q
    unfold wE at q
    refine ⟨fx, Γ, s, F, A, R, xc, xk, wV_mono cs (fun vs Γ1 s1 q => ?_) q⟩
    intro xs H1 F1 A1 R1 hx1 sb1 ar y dx e1 e2 e3
    refine ⟨y, dx, xs, H1, F1, A1, s1, vs, rfl, e1, e2, e3, rfl, R1.fh, R1.fz, R1.ok, ar, φ.mono (fun v s2 q => ?_) (fun n s2 q => ?_) q⟩
    · intro H' F' A' hxx ff fh' fz' nf okk rv
      exact ⟨rfl, q _ H' F' A' (R1.after hxx ff fh' fz' nf okk) (hx1.trans hxx) (sb1.trans ff) (rv.rv R1)⟩
    · intro H' A' hxx okk
      exact ⟨n, rfl, rfl, xk n _ _ _ _ _ _ (R1.afterX hxx okk) q⟩
end
end Ac
namespace Ac
open PySem PySem.Spec PyProof.Rows L2
/-! ### sorted(xs, key=len) -/
theorem eachRel : ∀ {xs : List V} {us : List Value}, Vals xs us → PySem.W.EachIs (fun u x => RelV x u) us xs
  | _, _, .nil => .nil
  | _, _, .cons r t => .cons r (eachRel t)
theorem relEach : ∀ {xs : List V} {us : List Value}, PySem.W.EachIs (fun u x => RelV x u) us xs → Vals xs us
  | _, _, .nil => .nil
  | _, _, .cons r t => .cons r (relEach t)
def rSortLen (K : PySem.W.Frag) : List V → Hp → VK → Prop := fun vs H Q => ∃ (a : Addr) (xs : List V) (k : V → Nat), vs = [V.ref a] ∧ SqL K H a xs ∧ (∀ x ∈ xs, ∃ p ys, x = V.ref p ∧ SqL K H p ys ∧ k x = ys.length) ∧
  ∀ zs p, zs.Perm xs → zs.Pairwise (fun x y => k x ≤ k y) → H p = none → Q (.ref p) (upd H p (.lst zs))
section
variable {X : Cx} {e : Expr} {p p2 kp pos : Pos} {t : TA}
theorem run_sortLen (hu : X.A.units + 65 < cLine) {pins : List (Addr × Obj)} {s : Shared} {σ : L2.St} {H : Hp} {vs : List V} {us : List Value} {Q : VK} (I : Inv X pins σ H s) (r : Vals vs us) (h : rSortLen X.K vs H Q) :
    wpAny (model X.prog X.w) X.A (call (.builtin "sorted") us [(Str.ofString "key", .builtin "len")]) (EP X pins σ Q) X.xe s := by
  obtain ⟨a, xs, k, rfl, hx, hk, q⟩ := h
  obtain rfl := Vals.ref1 r
  obtain ⟨its, rv, hl, hz⟩ := I.list hx
  refine PySem.W.sorted_key_data (b := false) (fun x => .int (k x : Nat)) hl.isList (eachRel rv) (PySem.W.AllAlike.of fun b b' => rfl) (.inr fun d hd => ?_) (by exact hz) (fun x _ => ?_) (ksk_s1 _ _) (fun _ => ksk_l1 _ _) (fun _ => ksk_t4 _ _) ?_ ?_
  · obtain ⟨x, _, rfl⟩ := List.mem_map.mp hd
    exact ⟨fun e => (nomatch e), fun xs e => (nomatch e)⟩
  · have : (PyData.int (k x : Nat)).depth ≤ 1 := by simp [PyData.depth]
    omega
  · intro v x hR hxm h tk keep
    obtain ⟨p, ys, rfl, hp, e⟩ := hk x hxm
    cases hR
    obtain ⟨its2, rv2, hl2, hz2⟩ := I.list hp
    have hn := line63
    have hlen := rv2.length
    have hl3 : ({ s with heap := h, toks := tk } : Shared).heap.IsList p its2.toArray := by
      obtain ⟨o, ho, hc, n, hd⟩ := hl2.isList
      exact ⟨o, keep _ _ ho, hc, n, hd⟩
    refine Calls.call_len_list hl3 (by simp only [List.size_toArray] <;> omega) ⟨h, tk + 1 + 1, rfl, fun _ _ e => e, ?_⟩
    rw [e, hlen, List.size_toArray]
    exact .int _ _
  · intro out c h' tk keep fr ho hlen he
    refine ⟨.ref _, upd H (s.heap.objs.size + 1) (.lst (xs.mergeSort (PySem.W.dataLe false fun x => .int (k x : Nat)))), I.laid (t' := tk) keep (Nat.le_succ _) ⟨by rw [List.length_mergeSort]; exact hz, _, c, relEach he, ho⟩, rfl, ?_⟩
    refine q _ _ (List.mergeSort_perm _ _) ?_ (I.hok.fresh (Nat.le_succ _))
    rw [PySem.W.dataLe_int fun x => (k x : Int)]
    refine (List.pairwise_mergeSort (fun a b c => ?_) (fun a b => ?_) _).imp fun {a b} h => ?_
    · simp only [decide_eq_true_eq]; omega
    · simp only [Bool.or_eq_true, decide_eq_true_eq]; omega
    · simp only [decide_eq_true_eq] at h; omega
theorem pe_sortLen (hu : X.A.units + 65 < cLine) (hg : Gl X "sorted") (hm : X.mg "sorted" = none) (hg2 : Gl X "len") (hm2 : X.mg "len" = none) (ha : PA X [e] t) (hs : shp e = true) :
    PE X (.Call (.Name "sorted" p) [e] [⟨some "key", .Name "len" p2, kp⟩] pos) (fun σ H Q => t σ H fun vs H1 => rSortLen X.K vs H1 Q) := by
  have hb : backTo pos (starEach [e] X.env) = (false, eval e X.env) :: backTo pos (starEach [] X.env) := by rw [star1 hs]; rfl
  refine ⟨fun pins s σ H Q I h => ?_⟩
  refine wpAny_Call_Name_kw (ld_blt I hg hm PyProof.Rows.boot_sorted ?_)
  refine PyProof.Rows.callWith_kw (thn (ha.run pos pins s σ H _ I h) fun us s1 ⟨vs, H1, I1, r1, q1⟩ => ?_) hb (by rw [hb]; rfl) rfl rfl
  show wpAny _ _ (evalAll ((do let v ← eval (.Name "len" p2) X.env; standAt pos; pure v) :: [])) _ _ s1
  refine wpAny_evalAll_cons (wpAny_bind (ld_blt I1 hg2 hm2 PySem.boot_len (wpAny_bind (wpAny_standAt (wpAny_pure (wpAny_evalAll_nil ?_))))))
  exact run_sortLen hu I1 r1 q1
end
section
variable {rm : RM} {X : Cx} {W : WN} {fx : Fx rm} {xc : Nat → Ctx → rm.S → Prop} {σ : L2.St} {H F : Hp} {Γ : Ctx} {s : rm.S} {A : rm.A}
def lenF (F : Hp) : V → Nat
  | .ref a => match F a with
    | some (.lst ys) => ys.length
    | some (.frz _ (.lst ys)) => ys.length
    | _ => 0
  | _ => 0
theorem lenF_rd {a : Addr} {ys : List V} (h : Rd F a (.lst ys)) : lenF F (.ref a) = ys.length := by
  rcases h with h | ⟨o, h⟩ <;> (unfold lenF; simp only [h])
theorem RpL.permS {vs zs : List V} (p : vs.Perm zs) : ∀ {ds : List D}, RpL F vs ds → ∃ es : List D, es.Perm ds ∧ RpL F zs es := by
  induction p with
  | nil => exact fun {ds} r => ⟨ds, .refl _, r⟩
  | cons x _ ih =>
    intro ds r
    cases r with
    | cons r1 r2 =>
      obtain ⟨es, p, r⟩ := ih r2
      exact ⟨_ :: es, p.cons _, .cons r1 r⟩
  | swap x y l =>
    intro ds r
    cases r with
    | cons r1 r2 =>
      cases r2 with
      | cons r2 r3 => exact ⟨_, .swap _ _ _, .cons r2 (.cons r1 r3)⟩
  | trans _ _ i1 i2 =>
    intro ds r
    obtain ⟨es, p1, r1⟩ := i1 r
    obtain ⟨fs, p2, r2⟩ := i2 r1
    exact ⟨fs, p2.trans p1, r2⟩
theorem Rp.lenF {v : V} {d : D} (h : Rp F v d) (hd : isLD d = true) : Ac.lenF F v = lenDN d := by
  cases h with
  | lst h r =>
    rw [lenF_rd h, r.length]
    rfl
  | _ => cases hd
theorem RpL.lenS : ∀ {vs : List V} {ds : List D}, RpL F vs ds → (∀ d ∈ ds, isLD d = true) → vs.Pairwise (fun x y => lenF F x ≤ lenF F y) → ds.Pairwise (fun x y => lenDN x ≤ lenDN y)
  | _, _, .nil, _, _ => .nil
  | _, _, .cons r rs, hd, h => by
    rw [List.pairwise_cons] at h ⊢
    refine ⟨fun d hm => ?_, RpL.lenS rs (fun d hm => hd d (List.mem_cons_of_mem _ hm)) h.2⟩
    obtain ⟨i, hi⟩ := List.getElem?_of_mem hm
    obtain ⟨x, hx, rx⟩ := rs.get hi
    have := h.1 x (List.mem_of_getElem? hx)
    rw [r.lenF (hd _ List.mem_cons_self), rx.lenF (hd d (List.mem_cons_of_mem _ hm))] at this
    exact this
theorem n_srtL {c : E rm.S} {e : Expr} {p p2 kp pos : Pos} (hu : X.A.units + 65 < cLine) (hg : Gl X "sorted") (hm : X.mg "sorted" = none) (hg2 : Gl X "len") (hm2 : X.mg "len" = none) (he : PE X e (rdP W c)) (hs : shp e = true) :
    PE X (.Call (.Name "sorted" p) [e] [⟨some "key", .Name "len" p2, kp⟩] pos) (rdE W (.srtL c)) := by
  refine PE_imp (pe_sortLen hu hg hm hg2 hm2 (pa_cons he pa_nil (star1 hs)) hs) fun σ H Q q => ?_
  obtain ⟨fx, Γ, s, F, A, R, xc, xk, q⟩ := q
  unfold wE at q
  refine op_rd1 (fun x k => srtLX x k) R xk q fun x d H1 F1 A1 Γ1 s1 R1 hx1 sb1 ro q => ?_
  unfold srtLX at q
  split at q
  · rename_i xs
    obtain ⟨hl, q⟩ := q
    obtain ⟨a, vs, e1, q1, r1⟩ := ro.lst R1.fh
    refine ⟨a, vs, lenF F1, by rw [e1], .inl q1, fun x hm => ?_, fun zs p hp hz hn => ?_⟩
    · obtain ⟨i, hi⟩ := List.getElem?_of_mem hm
      obtain ⟨d, hd, rd⟩ := r1.get' hi
      have := hl d (List.mem_of_getElem? hd)
      cases rd with
      | lst h r => exact ⟨_, _, rfl, .inl (R1.fh.rd h), lenF_rd h⟩
      | _ => cases this
    · obtain ⟨es, pe, re⟩ := RpL.permS hp.symm r1
      exact KQ.mk (Q := Q) R1 hn re ((q es pe (re.lenS (fun d hm => hl d (pe.mem_iff.mp hm)) hz)).kq hx1 sb1)
  · exact q.elim
end
end Ac
namespace Ac
open PySem PySem.Spec PyProof.Rows L2
/-! ### trees of one's own: rules -/
/-! plain facts -/
theorem OwL.append {H : Hp} : ∀ {ads bds : List Addr} {v w : List V} {d e : List D}, OwL H ads v d → OwL H bds w e → (∀ a ∈ ads, a ∉ bds) → OwL H (ads ++ bds) (v ++ w) (d ++ e)
  | _, _, _, _, _, _, .nil, s, _ => s
  | _, bds, _, _, _, _, .cons (ads := a1) (bds := a2) h r n, s, hn => by
    rw [List.append_assoc]
    exact .cons h (r.append s fun a ha => hn a (List.mem_append_right _ ha)) fun a ha hb => (List.mem_append.mp hb).elim (n a ha) (hn a (List.mem_append_left _ ha))
theorem OwL.one {H : Hp} {ads : List Addr} {v : V} {d : D} (h : OwT H ads v d) : OwL H ads [v] [d] := by
  have := OwL.cons h .nil (fun a _ => nofun)
  rwa [List.append_nil] at this
theorem OwL.get {H : Hp} : ∀ {ads : List Addr} {vs : List V} {ds : List D} {m : Nat} {d : D}, OwL H ads vs ds → ds[m]? = some d → ∃ v bds, vs[m]? = some v ∧ OwT H bds v d ∧ (∀ b ∈ bds, b ∈ ads) ∧
    ∀ H' v' d' bds', (∀ a us, H a = some (.tup us) → H' a = some (.tup us)) → (∀ a ∈ ads, a ∉ bds → H' a = H a) → OwT H' bds' v' d' → (∀ b ∈ bds', b ∈ ads → b ∈ bds) →
      ∃ ads', OwL H' ads' (vs.set m v') (ds.set m d') ∧ ∀ b ∈ ads', b ∈ bds' ∨ (b ∈ ads ∧ b ∉ bds)
  | _, _, _, _, _, .nil, e => by simp at e
  | _, _, _, 0, _, .cons (ads := a1) (bds := a2) h r n, e => by
    simp at e
    subst e
    refine ⟨_, a1, rfl, h, fun b hb => List.mem_append_left _ hb, fun H' v' d' bds' ht hk h' hb' => ⟨bds' ++ a2, ?_, ?_⟩⟩
    · exact .cons h' (r.mono ht fun a ha => hk a (List.mem_append_right _ ha) fun m => n a m ha) fun a ha ha2 => n a (hb' a ha (List.mem_append_right _ ha2)) ha2
    · intro b hb
      rcases List.mem_append.mp hb with m | m
      · exact .inl m
      · exact .inr ⟨List.mem_append_right _ m, fun z => n b z m⟩
  | _, _, _, m + 1, _, .cons (ads := a1) (bds := a2) h r n, e => by
    obtain ⟨v, bds, h1, h2, h3, h4⟩ := OwL.get (m := m) r (by simpa using e)
    refine ⟨v, bds, by simpa using h1, h2, fun b hb => List.mem_append_right _ (h3 b hb), fun H' v' d' bds' ht hk h' hb' => ?_⟩
    obtain ⟨ads', g1, g2⟩ := h4 H' v' d' bds' ht (fun a ha => hk a (List.mem_append_right _ ha)) h' (fun b hb z => hb' b hb (List.mem_append_right _ z))
    refine ⟨a1 ++ ads', ?_, ?_⟩
    · refine OwL.cons (h.mono ht fun a ha => hk a (List.mem_append_left _ ha) fun z => n a ha (h3 a z)) g1 fun a ha hb => ?_
      rcases g2 a hb with z | ⟨z, _⟩
      · exact n a ha (h3 a (hb' a z (List.mem_append_left _ ha)))
      · exact n a ha z
    · intro b hb
      rcases List.mem_append.mp hb with z | z
      · exact .inr ⟨List.mem_append_left _ z, fun y => n b z (h3 b y)⟩
      · rcases g2 b z with y | ⟨y1, y2⟩
        · exact .inl y
        · exact .inr ⟨List.mem_append_right _ y1, y2⟩
/-- what a path leads to -/
def AtP (H : Hp) : V → List Int → V → Prop
  | x, [], y => y = x
  | x, j :: js, y => ∃ a vs v, x = .ref a ∧ (H a = some (.lst vs) ∨ H a = some (.tup vs)) ∧ atI vs j = some v ∧ AtP H v js y
theorem set_same' {α : Type} : ∀ {l : List α} {i : Nat} {x : α}, l[i]? = some x → l.set i x = l
  | [], _, _, h => by simp at h
  | y :: r, 0, x, h => by simp at h; subst h; rfl
  | y :: r, i + 1, x, h => by
    rw [List.set_cons_succ, set_same' (by simpa using h)]
theorem OwT.upd {H : Hp} {f : List D → Option (List D)} : ∀ {js : List Int} {ads : List Addr} {x : V} {d d' : D}, OwT H ads x d → updAt f js d = some d' →
    ∃ a vs es es' cds, AtP H x js (.ref a) ∧ H a = some (.lst vs) ∧ OwL H cds vs es ∧ f es = some es' ∧ a ∈ ads ∧ (∀ c ∈ cds, c ∈ ads ∧ c ≠ a) ∧
      ∀ ws wds, OwL (L2.upd H a (.lst ws)) wds ws es' → a ∉ wds → (∀ w ∈ wds, w ∈ ads → w ∈ cds) → ∃ ads', OwT (L2.upd H a (.lst ws)) ads' x d' ∧ ∀ b ∈ ads', b ∈ ads ∨ b ∈ wds
  | [], _, _, _, d', .lst (a := a) (vs := vs) (ads := ads) (ds := ds) h r n, e => by
    unfold updAt at e
    cases q : f ds with
    | none => rw [q] at e; cases e
    | some es' =>
      rw [q] at e
      cases e
      refine ⟨a, vs, ds, es', ads, rfl, h, r, q, List.mem_cons_self, fun c hc => ⟨List.mem_cons_of_mem _ hc, fun z => n (by rw [← z]; exact hc)⟩, fun ws wds hw hn hc => ⟨a :: wds, .lst upd_same hw hn, fun b hb => ?_⟩⟩
      rcases List.mem_cons.mp hb with rfl | hb
      · exact .inl List.mem_cons_self
      · exact .inr hb
  | j :: js, _, _, _, d', .lst (a := a0) (vs := vs0) (ads := ads0) (ds := ds) h r n, e => by
    unfold updAt at e
    obtain ⟨m, hm, e⟩ := Option.bind_eq_some_iff.mp e
    obtain ⟨x0, hx0, e⟩ := Option.bind_eq_some_iff.mp e
    obtain ⟨y0, hy0, e⟩ := Option.map_eq_some_iff.mp e
    subst e
    obtain ⟨v, bds, g1, g2, g3, g4⟩ := r.get hx0
    obtain ⟨a, vs, es, es', cds, p1, p2, p3, p4, p5, p6, p7⟩ := OwT.upd g2 hy0
    refine ⟨a, vs, es, es', cds, ⟨a0, vs0, v, rfl, .inl h, ?_, p1⟩, p2, p3, p4, List.mem_cons_of_mem _ (g3 a p5), fun c hc => ⟨List.mem_cons_of_mem _ (g3 c (p6 c hc).1), (p6 c hc).2⟩, fun ws wds hw hn hc => ?_⟩
    · unfold atI
      rw [r.length, hm]
      exact g1
    · have htu : ∀ b us, H b = some (.tup us) → L2.upd H a (.lst ws) b = some (.tup us) := fun b us z => by
        rw [upd_ne (fun y => by rw [y, p2] at z; cases z)]
        exact z
      obtain ⟨bds', q1, q2⟩ := p7 ws wds hw hn (fun w hw2 hb => hc w hw2 (List.mem_cons_of_mem _ (g3 w hb)))
      obtain ⟨ads', s1, s2⟩ := g4 (L2.upd H a (.lst ws)) v y0 bds' htu (fun b hb hb2 => upd_ne fun z => hb2 (by rw [z]; exact p5)) q1 (fun b hb hb2 => by
        rcases q2 b hb with z | z
        · exact z
        · exact (p6 b (hc b z (List.mem_cons_of_mem _ hb2))).1)
      rw [set_same' g1] at s1
      have na : a0 ≠ a := fun z => n (by rw [z]; exact g3 a p5)
      refine ⟨a0 :: ads', .lst (by rw [upd_ne na]; exact h) s1 fun z => ?_, fun b hb => ?_⟩
      · rcases s2 a0 z with y | ⟨y, _⟩
        · rcases q2 a0 y with y | y
          · exact n (g3 a0 y)
          · exact n (g3 a0 (p6 a0 (hc a0 y List.mem_cons_self)).1)
        · exact n y
      · rcases List.mem_cons.mp hb with rfl | hb
        · exact .inl List.mem_cons_self
        · rcases s2 b hb with y | ⟨y, _⟩
          · rcases q2 b y with y | y
            · exact .inl (List.mem_cons_of_mem _ (g3 b y))
            · exact .inr y
          · exact .inl (List.mem_cons_of_mem _ y)
  | j :: js, _, _, _, d', .tup (a := a0) (vs := vs0) (ads := ads0) (ds := ds) h r, e => by
    unfold updAt at e
    obtain ⟨m, hm, e⟩ := Option.bind_eq_some_iff.mp e
    obtain ⟨x0, hx0, e⟩ := Option.bind_eq_some_iff.mp e
    obtain ⟨y0, hy0, e⟩ := Option.map_eq_some_iff.mp e
    subst e
    obtain ⟨v, bds, g1, g2, g3, g4⟩ := r.get hx0
    obtain ⟨a, vs, es, es', cds, p1, p2, p3, p4, p5, p6, p7⟩ := OwT.upd g2 hy0
    refine ⟨a, vs, es, es', cds, ⟨a0, vs0, v, rfl, .inr h, ?_, p1⟩, p2, p3, p4, g3 a p5, fun c hc => ⟨g3 c (p6 c hc).1, (p6 c hc).2⟩, fun ws wds hw hn hc => ?_⟩
    · unfold atI
      rw [r.length, hm]
      exact g1
    · have htu : ∀ b us, H b = some (.tup us) → L2.upd H a (.lst ws) b = some (.tup us) := fun b us z => by
        rw [upd_ne (fun y => by rw [y, p2] at z; cases z)]
        exact z
      obtain ⟨bds', q1, q2⟩ := p7 ws wds hw hn (fun w hw2 hb => hc w hw2 (g3 w hb))
      obtain ⟨ads', s1, s2⟩ := g4 (L2.upd H a (.lst ws)) v y0 bds' htu (fun b hb hb2 => upd_ne fun z => hb2 (by rw [z]; exact p5)) q1 (fun b hb hb2 => by
        rcases q2 b hb with z | z
        · exact z
        · exact (p6 b (hc b z hb2)).1)
      rw [set_same' g1] at s1
      refine ⟨ads', .tup (htu _ _ h) s1, fun b hb => ?_⟩
      rcases s2 b hb with y | ⟨y, _⟩
      · rcases q2 b y with y | y
        · exact .inl (g3 b y)
        · exact .inr y
      · exact .inl y
  | [], _, _, _, _, .non, e | [], _, _, _, _, .bl _, e | [], _, _, _, _, .int _, e | [], _, _, _, _, .str _, e | [], _, _, _, _, .tup _ _, e => by unfold updAt at e; cases e
  | _ :: _, _, _, _, _, .non, e | _ :: _, _, _, _, _, .bl _, e | _ :: _, _, _, _, _, .int _, e | _ :: _, _, _, _, _, .str _, e => by unfold updAt at e; cases e
section
variable {rm : RM} {X : Cx} {k : Nat} {t : Sx} {W : WN} {fx : Fx rm} {xc : Nat → Ctx → rm.S → Prop} {σ : L2.St} {H F : Hp} {Γ : Ctx} {s : rm.S} {A : rm.A}
/-- what a tree of one's own may lie at -/
def OwOk (fx : Fx rm) (σ : L2.St) (F : Hp) (A : rm.A) (Γ : Ctx) (ads : List Addr) : Prop := ∀ a ∈ ads, F a = none ∧ ¬ rm.ft A a ∧ fx.L a = none ∧ NoOwn σ Γ a
theorem HX.tup {H H' : Hp} {A A' : rm.A} (ok : rm.ok A s H) (hx : HX H A H' A') : ∀ a us, H a = some (.tup us) → H' a = some (.tup us) := fun a us z => (hx.2 a _ z fun n => rm.nt ok n us z).1
theorem owV_rd (R : SR fx σ H Γ s F A) {x : V} {v : Val} {q : List Addr → D → Prop} (rv : RV fx σ H F A Γ x v) (h : owV v q) : ∃ ads d, q ads d ∧ OwT H ads x d ∧ OwOk fx σ F A Γ ads := by
  cases v with
  | dat d => exact ⟨[], d, h.2, Rp.owT R.fh rv h.1, nofun⟩
  | new xs =>
    obtain ⟨a, vs, rfl, e2, e3, e4, e5, e6, e7⟩ := rv
    refine ⟨[a], _, h.2 a, .lst e2 (RpL.owL R.fh e6 h.1) nofun, fun b hb => ?_⟩
    rcases List.mem_singleton.mp hb with rfl
    exact ⟨e3, e4, e5, e7⟩
  | tre ads d => exact ⟨ads, d, h, rv.1, rv.2⟩
  | _ => exact h.elim
/-! things aside -/
def fxA (fx : Fx rm) (H : Hp) (ads : List Addr) : Fx rm := { fx with L := fun a => if a ∈ ads then H a else fx.L a }
theorem fxA_in {fx : Fx rm} {H : Hp} {ads : List Addr} {a : Addr} (h : a ∈ ads) : (fxA fx H ads).L a = H a := by unfold fxA; exact if_pos h
theorem fxA_out {fx : Fx rm} {H : Hp} {ads : List Addr} {a : Addr} (h : a ∉ ads) : (fxA fx H ads).L a = fx.L a := by unfold fxA; exact if_neg h
theorem SR.addLs (R : SR fx σ H Γ s F A) {ads : List Addr} (ok : OwOk fx σ F A Γ ads) : SR (fxA fx H ads) σ H Γ s F A where
  fh := R.fh
  fz := R.fz
  f0 := R.f0
  lk := fun a u e => by
    by_cases h : a ∈ ads
    · rw [fxA_in h] at e
      exact ⟨e, fun _ => (ok a h).1, (ok a h).2.1⟩
    · rw [fxA_out h] at e
      exact R.lk a u e
  a0 := R.a0
  ok := R.ok
  ln := R.ln
  sl := fun i v e => by
    obtain ⟨x, h1, h2⟩ := R.sl i v e
    refine ⟨x, h1, ?_⟩
    cases v with
    | own xs =>
      obtain ⟨a, vs, e1, e2, e3, e4, e5, e6⟩ := h2
      have h : a ∉ ads := fun z => (ok a z).2.2.2 i ((ownA_own e).mpr (by rw [h1, e1]))
      exact ⟨a, vs, e1, e2, e3, e4, by rw [fxA_out h]; exact e5, e6⟩
    | tre bds d => exact ⟨h2.1, fun a ha => by
        have h : a ∉ ads := fun z => (ok a z).2.2.2 i ((ownA_tre e).mpr ha)
        exact ⟨(h2.2 a ha).1, (h2.2 a ha).2.1, by rw [fxA_out h]; exact (h2.2 a ha).2.2⟩⟩
    | shl b =>
      have h : b ∉ ads := fun z => (ok b z).2.2.2 i ((ownA_shl e).mpr rfl)
      exact ⟨h2.1, h2.2.1, h2.2.2.1, by rw [fxA_out h]; exact h2.2.2.2.1, h2.2.2.2.2⟩
    | odi b n f =>
      have h : b ∉ ads := fun z => (ok b z).2.2.2 i ((ownA_odi e).mpr rfl)
      exact ⟨h2.1, h2.2.1, h2.2.2.1, by rw [fxA_out h]; exact h2.2.2.2.1, h2.2.2.2.2⟩
    | _ => exact h2
  dj := R.dj
theorem SR.delLs {H0 : Hp} {ads : List Addr} (R : SR (fxA fx H0 ads) σ H Γ s F A) (hl : ∀ a ∈ ads, fx.L a = none) : SR fx σ H Γ s F A where
  fh := R.fh
  fz := R.fz
  f0 := R.f0
  lk := fun a u e => R.lk a u (by rw [fxA_out (fun h => by rw [hl a h] at e; cases e)]; exact e)
  a0 := R.a0
  ok := R.ok
  ln := R.ln
  sl := fun i v e => by
    have n : ∀ {a}, (fxA fx H0 ads).L a = none → fx.L a = none := fun {a} z => by
      by_cases h : a ∈ ads
      · exact hl a h
      · rw [fxA_out h] at z; exact z
    obtain ⟨x, h1, h2⟩ := R.sl i v e
    refine ⟨x, h1, ?_⟩
    cases v with
    | own xs =>
      obtain ⟨a, vs, e1, e2, e3, e4, e5, e6⟩ := h2
      exact ⟨a, vs, e1, e2, e3, e4, n e5, e6⟩
    | tre bds d => exact ⟨h2.1, fun a ha => ⟨(h2.2 a ha).1, (h2.2 a ha).2.1, n (h2.2 a ha).2.2⟩⟩
    | shl b => exact ⟨h2.1, h2.2.1, h2.2.2.1, n h2.2.2.2.1, h2.2.2.2.2⟩
    | odi b m f => exact ⟨h2.1, h2.2.1, h2.2.2.1, n h2.2.2.2.1, h2.2.2.2.2⟩
    | _ => exact h2
  dj := R.dj
/-- what was aside is as it was -/
theorem SR.lkAs {H0 : Hp} {ads : List Addr} (R : SR (fxA fx H0 ads) σ H Γ s F A) (hh : ∀ a ∈ ads, ∃ vs, H0 a = some (.lst vs)) : ∀ a ∈ ads, H a = H0 a ∧ F a = none ∧ ¬ rm.ft A a ∧ NoOwn σ Γ a := fun a h => by
  obtain ⟨vs, e⟩ := hh a h
  have el : (fxA fx H0 ads).L a = some (.lst vs) := by rw [fxA_in h]; exact e
  obtain ⟨q1, q2, q3⟩ := R.lk a _ el
  refine ⟨by rw [q1, e], q2 (fun vs z => nomatch z), q3, fun i z => ?_⟩
  have := (R.owned z).2.2.2
  rw [el] at this
  cases this
theorem fxA_nin {fx : Fx rm} {H0 : Hp} {ads : List Addr} (hh : ∀ a ∈ ads, ∃ vs, H0 a = some (.lst vs)) {a : Addr} (h : (fxA fx H0 ads).L a = none) : a ∉ ads ∧ fx.L a = none := by
  by_cases m : a ∈ ads
  · obtain ⟨vs, e⟩ := hh a m
    rw [fxA_in m, e] at h
    cases h
  · rw [fxA_out m] at h
    exact ⟨m, h⟩
/-! lent for a while -/
theorem SR.lendR (R : SR fx σ H Γ s F A) : ∀ is : List Nat, ∃ F1, SR fx σ H (lendG is Γ) s F1 A ∧ Sub F F1 ∧ ∀ i a, ownA σ Γ i a → ownA σ (lendG is Γ) i a ∨ F1 a ≠ none
  | [] => ⟨F, R, Sub.refl F, fun i a h => .inl h⟩
  | i :: r => by
    obtain ⟨F1, R1, sb, ow⟩ := R.lendR r
    cases e : look (lendG r Γ) i with
    | none =>
      have e2 : lendG (i :: r) Γ = lendG r Γ := by
        show (match look (lendG r Γ) i with | some (.tre _ d) => Ac.put (lendG r Γ) i (some (.dat d)) | some (.own xs) => Ac.put (lendG r Γ) i (some (.dat (.list xs))) | _ => lendG r Γ) = _
        rw [e]
      rw [e2]
      exact ⟨F1, R1, sb, ow⟩
    | some v =>
      have e3 : lendG (i :: r) Γ = (match look (lendG r Γ) i with | some (.tre _ d) => Ac.put (lendG r Γ) i (some (.dat d)) | some (.own xs) => Ac.put (lendG r Γ) i (some (.dat (.list xs))) | _ => lendG r Γ) := rfl
      rw [e3, e]
      cases v with
      | tre ads d =>
        obtain ⟨x, F2, h1, sb2, rp, R2, inF⟩ := R1.frzTre e
        refine ⟨F2, R2, sb.trans sb2, fun j a h => ?_⟩
        rcases ow j a h with z | z
        · by_cases hj : j = i
          · subst hj
            exact .inr (inF a ((ownA_tre e).mp z))
          · exact .inl ((ownA_neG hj).mpr z)
        · exact .inr (sub_ne sb2 z)
      | own xs =>
        obtain ⟨b, vs, h1, h2, h3, rl, R2⟩ := R1.frzOwn e
        refine ⟨_, R2, sb.trans (upd_sub h3), fun j a h => ?_⟩
        rcases ow j a h with z | z
        · by_cases hj : j = i
          · subst hj
            have z' := (ownA_own e).mp z
            rw [h1] at z'
            cases z'
            exact .inr (by rw [upd_same]; exact nofun)
          · exact .inl ((ownA_neG hj).mpr z)
        · exact .inr (sub_ne (upd_sub h3) z)
      | _ => exact ⟨F1, R1, sb, ow⟩
theorem lnd_rv {is : List Nat} {F1 H' F' : Hp} {A' : rm.A} {x : V} {v : Val} (ow : ∀ i a, ownA σ Γ i a → ownA σ (lendG is Γ) i a ∨ F1 a ≠ none) (sb0 : Sub F F1) (sb : Sub F1 F') (rv : RV fx σ H' F' A' (lendG is Γ) x v) (lv : lndV v = true) : RV fx σ H' F A' Γ x v := by
  have nn : ∀ a, F' a = none → F a = none := fun a z => by
    cases e : F a with
    | none => rfl
    | some o => rw [(sb0.trans sb) a o e] at z; cases z
  have no : ∀ a, F' a = none → NoOwn σ (lendG is Γ) a → NoOwn σ Γ a := fun a z n i w => by
    rcases ow i a w with y | y
    · exact n i y
    · exact sub_ne sb y z
  cases v with
  | dat d => exact scal_any rv lv
  | new xs =>
    obtain ⟨a, vs, e1, e2, e3, e4, e5, e6, e7⟩ := rv
    exact ⟨a, vs, e1, e2, nn a e3, e4, e5, scal_all e6 lv, no a e3 e7⟩
  | tre ads d => exact ⟨rv.1, fun a ha => let ⟨q1, q2, q3, q4⟩ := rv.2 a ha; ⟨nn a q1, q2, q3, no a q1 q4⟩⟩
  | _ => cases lv
theorem n_lend {is : List Nat} {c : E rm.S} {e : Expr} (hv : ∀ i, c ≠ .var i) (h : PE X e (rdE W0 c)) (h2 : PT X e (rdT W0 c)) : PE X e (rdE W (.lend is c)) ∧ PT X e (rdT W (.lend is c)) := by
  constructor
  · refine PE_imp h fun σ H Q q => ?_
    obtain ⟨fx, Γ, s, F, A, R, xc, xk, q⟩ := q
    unfold wE at q
    obtain ⟨F1, R1, sb0, ow⟩ := R.lendR is
    refine ⟨fx, lendG is Γ, s, F1, A, R1, xn, xk0, wE_mono c (fun v Γ' s' q => ?_) q⟩
    obtain ⟨rfl, lv, q⟩ := q
    intro x H' F' A' R' hx sb rv
    exact q x H' F A' (R.afterX hx R'.ok) hx (Sub.refl F) (lnd_rv ow sb0 sb rv lv)
  · refine PT_imp h2 fun σ H Q q => ?_
    obtain ⟨fx, Γ, s, F, A, R, xc, xk, q⟩ := q
    change opn (.lend is c) _ Γ s _ at q
    rw [opn_nv (c := (.lend is c)) (fun i h => nomatch h)] at q
    unfold wE at q
    obtain ⟨F1, R1, sb0, ow⟩ := R.lendR is
    refine ⟨fx, lendG is Γ, s, F1, A, R1, xn, xk0, ?_⟩
    show opn c (wE xn c) (lendG is Γ) s _
    rw [opn_nv hv]
    refine wE_mono c (fun v Γ' s' q => ?_) q
    obtain ⟨rfl, lv, q⟩ := q
    refine asD_mono (fun d => boolD_mono fun b q => ?_) q
    intro H' F' A' R' hx sb
    exact q H' F A' (R.afterX hx R'.ok) hx (Sub.refl F)
/-! moved, asked whether None -/
theorem n_mv {i : Nat} {x : Str} {p : Pos} (hv : PE X (.Name x p) (tVar i)) : PE X (.Name x p) (rdE W (.mv i : E rm.S)) := PE_imp hv fun σ H Q q => by
  obtain ⟨fx, Γ, s, F, A, R, xc, xk, q⟩ := q
  unfold wE at q
  split at q
  · rename_i xs e
    obtain ⟨y, h1, a, vs, rfl, e2, e3, e4, e5, e6⟩ := R.sl i _ e
    exact ⟨_, h1, q _ H F A R.drop (HX.refl H A) (Sub.refl F) ⟨a, vs, rfl, e2, e3, e4, e5, e6, R.letgo ((ownA_own e).mpr h1)⟩⟩
  · rename_i ads d e
    obtain ⟨y, h1, h2, h3⟩ := R.sl i _ e
    exact ⟨_, h1, q _ H F A R.drop (HX.refl H A) (Sub.refl F) ⟨h2, fun a ha => ⟨(h3 a ha).1, (h3 a ha).2.1, (h3 a ha).2.2, R.letgo ((ownA_tre e).mpr ha)⟩⟩⟩
  · exact q.elim
theorem sv_none {x : V} {v : Val} (h : SV fx H F A x v) : decide (x = .non) = noneV v := by
  cases v with
  | dat d => exact isnone_iff (H := H) (A := A) (.inl h)
  | own xs => obtain ⟨p, vs, rfl, _⟩ := h; rfl
  | new xs => exact h.elim
  | hdl m => obtain ⟨p, rfl⟩ := rm.hd_ref h; rfl
  | tre ads d => cases h.1 <;> rfl
  | shl b => obtain ⟨rfl, _⟩ := h; rfl
  | odi b n f => obtain ⟨rfl, _⟩ := h; rfl
  | hds ks => obtain ⟨p, vs, rfl, _⟩ := h; rfl
theorem n_isnS {i : Nat} {x : Str} {j : Nat} {p p' p2 : Pos} (ha : PE X (.Name x p2) (tVar i)) :
    (PE X (.Compare (.Name x p2) [.Is] [.Constant .none j p'] p) (rdE W (.isnS true i : E rm.S)) ∧ PT X (.Compare (.Name x p2) [.Is] [.Constant .none j p'] p) (rdT W (.isnS true i : E rm.S))) ∧
    (PE X (.Compare (.Name x p2) [.IsNot] [.Constant .none j p'] p) (rdE W (.isnS false i : E rm.S)) ∧ PT X (.Compare (.Name x p2) [.IsNot] [.Constant .none j p'] p) (rdT W (.isnS false i : E rm.S))) := by
  refine ⟨⟨PE_imp (pe_cmp (pc_isN ha)) fun σ H Q q => ?_, PT_imp (pt_cmp (pc_isN ha)) fun σ H Q q => ?_⟩, ⟨PE_imp (pe_cmp (pc_notN ha)) fun σ H Q q => ?_, PT_imp (pt_cmp (pc_notN ha)) fun σ H Q q => ?_⟩⟩
  · obtain ⟨fx, Γ, s, F, A, R, xc, xk, q⟩ := q
    unfold wE at q
    cases e : look Γ i with
    | none => rw [e] at q; exact q.elim
    | some v =>
      rw [e] at q
      obtain ⟨y, h1, h2⟩ := R.sl i v e
      refine ⟨y, h1, ?_⟩
      dsimp only
      rw [sv_none h2]
      exact q _ H F A R (HX.refl H A) (Sub.refl F) (.bl _)
  · obtain ⟨fx, Γ, s, F, A, R, xc, xk, q⟩ := q
    change opn (.isnS true i) _ Γ s _ at q
    rw [opn_nv (c := (.isnS true i)) (fun i h => nomatch h)] at q
    unfold wE at q
    cases e : look Γ i with
    | none => rw [e] at q; exact q.elim
    | some v =>
      rw [e] at q
      obtain ⟨y, h1, h2⟩ := R.sl i v e
      refine ⟨y, h1, ?_⟩
      dsimp only
      rw [sv_none h2]
      refine ⟨_, rfl, ?_⟩
      exact q H F A R (HX.refl H A) (Sub.refl F)
  · obtain ⟨fx, Γ, s, F, A, R, xc, xk, q⟩ := q
    unfold wE at q
    cases e : look Γ i with
    | none => rw [e] at q; exact q.elim
    | some v =>
      rw [e] at q
      obtain ⟨y, h1, h2⟩ := R.sl i v e
      refine ⟨y, h1, ?_⟩
      dsimp only
      rw [sv_none h2]
      exact q _ H F A R (HX.refl H A) (Sub.refl F) (.bl _)
  · obtain ⟨fx, Γ, s, F, A, R, xc, xk, q⟩ := q
    change opn (.isnS false i) _ Γ s _ at q
    rw [opn_nv (c := (.isnS false i)) (fun i h => nomatch h)] at q
    unfold wE at q
    cases e : look Γ i with
    | none => rw [e] at q; exact q.elim
    | some v =>
      rw [e] at q
      obtain ⟨y, h1, h2⟩ := R.sl i v e
      refine ⟨y, h1, ?_⟩
      dsimp only
      rw [sv_none h2]
      refine ⟨_, rfl, ?_⟩
      exact q H F A R (HX.refl H A) (Sub.refl F)
/-! displays -/
def rdY (W : WN) (c : Es rm.S) : TA := fun σ H Q => ∃ (fx : Fx rm) (Γ : Ctx) (s : rm.S) (F : Hp) (A : rm.A), SR fx σ H Γ s F A ∧ ∃ xc, XcOk W fx xc ∧
  wY xc c Γ s fun ads ds Γ' s' => ∀ xs H' F' A', SR fx σ H' Γ' s' F' A' → HX H A H' A' → Sub F F' → OwL H' ads xs ds → OwOk fx σ F' A' Γ' ads → Q xs H'
theorem n_y0 : PA X [] (rdY W (.nil : Es rm.S)) := by
  refine PA_imp pa_nil fun σ H Q q => ?_
  obtain ⟨fx, Γ, s, F, A, R, xc, xk, q⟩ := q
  unfold wY at q
  exact q [] H F A R (HX.refl H A) (Sub.refl F) .nil nofun
theorem n_y1 {c : E rm.S} {r : Es rm.S} {e : Expr} {es : List Expr} (h : PE X e (rdE W c)) (hr : PA X es (rdY W r)) (hs : shp e = true) : PA X (e :: es) (rdY W (.cons c r)) := by
  refine PA_imp (pa_cons h hr (star1 hs)) fun σ H Q q => ?_
  obtain ⟨fx, Γ, s, F, A, R, xc, xk, q⟩ := q
  unfold wY at q
  refine ⟨fx, Γ, s, F, A, R, xc, xk, wE_mono c (fun v Γ1 s1 q => ?_) q⟩
  intro x H1 F1 A1 R1 hx1 sb1 rv
  obtain ⟨ads, d, q, ot, ok⟩ := owV_rd R1 rv q
  have hl : ∀ a ∈ ads, fx.L a = none := fun a ha => (ok a ha).2.2.1
  have hls := ot.lists
  refine ⟨fxA fx H1 ads, Γ1, s1, F1, A1, R1.addLs ok, xc, fun n Γ s σ H F A R' z => xk n Γ s σ H F A (R'.delLs hl) z, wY_mono r (fun bds ds Γ2 s2 q => ?_) q⟩
  intro xs H2 F2 A2 R2 hx2 sb2 ol ok2
  have lk := R2.lkAs hls
  refine q (x :: xs) H2 F2 A2 (R2.delLs hl) (hx1.trans hx2) (sb1.trans sb2) (.cons (ot.mono (hx2.tup R1.ok) fun a ha => (lk a ha).1) ol fun a ha hb => (fxA_nin hls (ok2 a hb).2.2.1).1 ha) fun a ha => ?_
  rcases List.mem_append.mp ha with m | m
  · exact ⟨(lk a m).2.1, (lk a m).2.2.1, hl a m, (lk a m).2.2.2⟩
  · exact ⟨(ok2 a m).1, (ok2 a m).2.1, (fxA_nin hls (ok2 a m).2.2.1).2, (ok2 a m).2.2.2⟩
theorem OwOk.alloc (R : SR fx σ H Γ s F A) {p : Addr} {ads : List Addr} (hp : H p = none) (ok : OwOk fx σ F A Γ ads) : OwOk fx σ F A Γ (p :: ads) := fun a ha => by
  rcases List.mem_cons.mp ha with rfl | m
  · exact ⟨R.nF hp, R.nft hp, R.nL hp, R.noOwn hp⟩
  · exact ok a m
theorem ow_nin {ads : List Addr} {xs : List V} {ds : List D} {p : Addr} (hp : H p = none) (ol : OwL H ads xs ds) : p ∉ ads := fun m => by
  obtain ⟨vs, e⟩ := ol.lists p m
  rw [hp] at e
  cases e
theorem OwL.alloc {ads : List Addr} {xs : List V} {ds : List D} {p : Addr} {o : HO} (hp : H p = none) (ol : OwL H ads xs ds) : OwL (L2.upd H p o) ads xs ds :=
  ol.mono (fun a us z => upd_sub hp _ _ z) fun a ha => upd_ne fun z => ow_nin hp ol (by rw [← z]; exact ha)
theorem n_tT {cs : Es rm.S} {es : List Expr} {kk : Nat} {p : Pos} (h : PA X es (rdY W cs)) : PE X (.Tuple es kk p) (rdE W (.tT cs)) := by
  refine PE_imp (pe_tup h) fun σ H Q q => ?_
  obtain ⟨fx, Γ, s, F, A, R, xc, xk, q⟩ := q
  unfold wE at q
  refine ⟨fx, Γ, s, F, A, R, xc, xk, wY_mono cs (fun ads ds Γ1 s1 q => ?_) q⟩
  intro xs H1 F1 A1 R1 hx1 sb1 ol ok
  exact ⟨by rw [ol.length]; exact big_sz q.1, fun p hp => q.2 _ _ F1 A1 (R1.alloc hp) (hx1.trans (R1.hx hp)) sb1 ⟨.tup upd_same (ol.alloc hp), ok⟩⟩
theorem n_lT {cs : Es rm.S} {es : List Expr} {p : Pos} (h : PA X es (rdY W cs)) : PE X (.List es p) (rdE W (.lT cs)) := by
  refine PE_imp (pe_lst h) fun σ H Q q => ?_
  obtain ⟨fx, Γ, s, F, A, R, xc, xk, q⟩ := q
  unfold wE at q
  refine ⟨fx, Γ, s, F, A, R, xc, xk, wY_mono cs (fun ads ds Γ1 s1 q => ?_) q⟩
  intro xs H1 F1 A1 R1 hx1 sb1 ol ok
  exact ⟨by rw [ol.length]; exact big_sz q.1, fun p hp => q.2 p _ _ F1 A1 (R1.alloc hp) (hx1.trans (R1.hx hp)) sb1 ⟨.lst upd_same (ol.alloc hp) (ow_nin hp ol), OwOk.alloc R1 hp ok⟩⟩
theorem hdls_rd {F1 : Hp} {A1 : rm.A} : ∀ {xs : List V} {vs : List Val} {ks : List Nat}, RHL F1 A1 xs vs → hdlsOf vs = some ks → Paired (fun (v : V) (k : Nat) => rm.hd A1 k v) xs ks
  | _, _, ks, .nil, e => by cases e; exact .nil
  | _, v :: vs, ks, .cons h t, e => by
    cases v with
    | hdl k =>
      have e' : (hdlsOf vs).map (k :: ·) = some ks := e
      obtain ⟨r, e1, e2⟩ := Option.map_eq_some_iff.mp e'
      subst e2
      exact .cons h (hdls_rd t e1)
    | _ => cases e
theorem n_hl {cs : Es rm.S} {es : List Expr} {p : Pos} (h : PA X es (rdV W cs)) : PE X (.List es p) (rdE W (.hl cs)) := by
  refine PE_imp (pe_lst h) fun σ H Q q => ?_
  obtain ⟨fx, Γ, s, F, A, R, xc, xk, q⟩ := q
  unfold wE at q
  refine ⟨fx, Γ, s, F, A, R, xc, xk, wV_mono cs (fun vs Γ1 s1 q => ?_) q⟩
  intro xs H1 F1 A1 R1 hx1 sb1 rl
  obtain ⟨ks, e, e2, q⟩ := q
  have pr := hdls_rd rl e
  have hl : xs.length = ks.length := Paired.length pr
  exact ⟨by rw [hl]; exact big_sz e2, fun p hp => q _ _ _ A1 (R1.lay hp) (hx1.trans (R1.hx hp)) (sb1.trans (upd_sub (R1.nF hp))) ⟨p, xs, rfl, upd_same, pr⟩⟩
theorem hds_get {A1 : rm.A} : ∀ {xs : List V} {ks : List Nat} {i : Nat} {k : Nat}, Paired (fun (v : V) (k : Nat) => rm.hd A1 k v) xs ks → ks[i]? = some k → ∃ v, xs[i]? = some v ∧ rm.hd A1 k v
  | _, _, _, _, .nil, e => by simp at e
  | _, _, 0, _, .cons h t, e => by simp at e; subst e; exact ⟨_, rfl, h⟩
  | _, _, i + 1, _, .cons h t, e => by
    obtain ⟨v, h1, h2⟩ := hds_get (i := i) t (by simpa using e)
    exact ⟨v, by simpa using h1, h2⟩
theorem n_hix {i : Nat} {c : E rm.S} {x : Str} {e : Expr} {p p2 : Pos} (hv : PE X (.Name x p2) (tVar i)) (he : PE X e (rdP W c)) (hs : PlainIx e) : PE X (.Subscript (.Name x p2) e p) (rdE W (.hix i c)) := by
  refine PE_imp (pe_ix ix_seq hv he hs) fun σ H Q q => ?_
  obtain ⟨fx, Γ, s, F, A, R, xc, xk, q⟩ := q
  unfold wE at q
  cases e : look Γ i with
  | none => rw [e] at q; exact q.elim
  | some v =>
    rw [e] at q
    cases v with
    | hds ks =>
      have q' : opn c (wE xc c) Γ s fun y Γ1 s1 => hixX ks y fun v => KE fx σ H F A Q v Γ1 s1 := q
      obtain ⟨y, h1, a, vs, rfl, fa, pr⟩ := R.sl i _ e
      refine ⟨_, h1, fx, Γ, s, F, A, R, xc, xk, opnE_mono c (fun d Γ1 s1 q => ?_) q'⟩
      intro z H1 F1 A1 R1 hx1 sb1 ro1
      unfold hixX at q
      split at q
      · rename_i j
        split at q
        · rename_i h hh
          obtain ⟨m, hm, hk⟩ := Option.bind_eq_some_iff.mp hh
          obtain ⟨v, g1, g2⟩ := hds_get pr hk
          refine .inl ⟨a, vs, j, v, rfl, flat_int ro1.1, .inl (.inl (R1.fh _ _ (sb1 _ _ fa))), ?_, q v H1 F1 A1 R1 hx1 sb1 (rm.le_hd hx1.1 g2)⟩
          unfold atI
          rw [Paired.length pr, hm]
          exact g1
        · exact q.elim
      · exact q.elim
    | _ => exact q.elim
end
end Ac
namespace Ac
open PySem PySem.Spec PyProof.Rows L2
section
variable {rm : RM} {X : Cx} {k : Nat} {t : Sx} {W : WN} {fx : Fx rm} {xc : Nat → Ctx → rm.S → Prop} {σ : L2.St} {H F : Hp} {Γ : Ctx} {s : rm.S} {A : rm.A}
/-! ### a comprehension whose things are one's own -/
theorem pts_nilT {rm : RM} {X : Cx} : PTs X [] (rdC W0 (.nil : Es rm.S)) := ⟨fun pins s σ H Q I q => by
  obtain ⟨fx, Γ, s1, F, A, R, xc, xk, q⟩ := q
  unfold wC at q
  exact pts_nil.run pins s σ H Q I (q H F A R (HX.refl H A) (Sub.refl F))⟩
theorem n_compT {own : List Nat} {tc : Tg} {it : It rm.S} {ce : E rm.S} {elt tg iter : Expr} {scope : Scope} {ol : List (Str × Nat)} {p : Pos} (hol : ol.map (·.2) = own) (hc : X.calm = true) (hN : X.N.Nodup)
    (hi : PI X tg iter (rdI W it)) (ok : BlkOk X.N X.env.scope scope ol)
    (hg : ∀ (s : Shared) (H : Hp) (C : Addr) (cl : List (Str × Addr)) (fp : List Addr), PG (X.blk s H scope (compEnvC scope cl C X.env) fp) tg (rdG X.K tc))
    (he : ∀ (s : Shared) (H : Hp) (C : Addr) (cl : List (Str × Addr)) (fp : List Addr), PE (X.blk s H scope (compEnvC scope cl C X.env) fp) elt (rdE W0 ce)) (hs : shp iter = true) (hin : tgIn tc own) :
    PE X (.ListComp elt [⟨tg, iter, [], 0⟩] scope p) (rdE W (.compT own tc it ce)) ∧ ∀ σ H Q, rdE W (.compT own tc it ce) σ H Q → tLc (rdI W it) (rdG X.K tc) (rdC W0 (.nil : Es rm.S)) (rdE W0 ce) own σ H Q := by
  have key : ∀ σ H Q, rdE W (.compT own tc it ce) σ H Q → tLc (rdI W it) (rdG X.K tc) (rdC W0 (.nil : Es rm.S)) (rdE W0 ce) own σ H Q := by
    intro σ H Q q
    obtain ⟨fx, Γ, s, F, A, R, xc, xk, q⟩ := q
    unfold wE at q
    refine ⟨fx, Γ, s, F, A, R, xc, xk, wI_mono it (fun xs Γ1 s1 q => ?_) q⟩
    intro J H1 F1 A1 G R1 hx1 sb1 hG yl p hp
    obtain ⟨hbig, q⟩ := q
    have hlp := R1.nL hp
    refine ⟨fun i m H2 => m = xs.length - i ∧ i ≤ xs.length ∧ ∃ Γ2 s2 F2 A2 vs ads acc, SR (fxL fx p (.lst vs)) (wipe σ own) H2 Γ2 s2 F2 A2 ∧ HX H1 A1 H2 A2 ∧ Sub F1 F2 ∧ OwL H2 ads vs acc ∧ OwOk (fxL fx p (.lst vs)) (wipe σ own) F2 A2 Γ2 ads ∧ acc.length ≤ i ∧
      cLoopT (fun x Γ s k => bindT tc x Γ fun Γ' => wE xn ce Γ' s fun v Γ3 s3 => owV v fun ads d => k ads d (wipeG own Γ3) s3) (xs.drop i) Γ2 s2 ads acc
        (fun ads ys Γ' s' => ∀ b, KE fx σ H F A Q (.tre (b :: ads) (.list ys)) (backG Γ1 own Γ') s'), ⟨xs.length, rfl, Nat.zero_le _, wipeG own Γ1, s1, F1, A1, [], [], [], ?_, R1.hx hp, Sub.refl F1, .nil, nofun, Nat.le_refl _, q⟩, ?_⟩
    · exact ((R1.wipe own).alloc hp).addL upd_same (R1.nF hp) (R1.nft hp) ((R1.wipe own).noOwn hp)
    · rintro i m H2 ⟨rfl, hi, Γ2, s2, F2, A2, vs, ads, acc, R2, hx2, sb2, ol, oo, hal, q⟩
      have gs : Sub G H2 := fun b o e => (hx2.2 b o (hG b o e).1 (hG b o e).2).1
      by_cases hlt : i < xs.length
      · obtain ⟨x0, e0⟩ := get_lt (l := xs) hlt
        have ed : xs.drop i = x0 :: xs.drop (i + 1) := by
          rw [List.drop_eq_getElem_cons hlt]
          rw [List.getElem?_eq_getElem hlt] at e0
          rw [Option.some.inj e0]
        rw [ed] at q
        obtain ⟨go, yld⟩ := (yl i H2 gs).1 hlt
        refine .inr ⟨go, fun H' => ∃ Γ2 s2 F2 A2 vs ads acc, SR (fxL fx p (.lst vs)) (wipe σ own) H' Γ2 s2 F2 A2 ∧ HX H1 A1 H' A2 ∧ Sub F1 F2 ∧ OwL H' ads vs acc ∧ OwOk (fxL fx p (.lst vs)) (wipe σ own) F2 A2 Γ2 ads ∧ acc.length ≤ i + 1 ∧
          cLoopT (fun x Γ s k => bindT tc x Γ fun Γ' => wE xn ce Γ' s fun v Γ3 s3 => owV v fun ads d => k ads d (wipeG own Γ3) s3) (xs.drop (i + 1)) Γ2 s2 ads acc
            (fun ads ys Γ' s' => ∀ b, KE fx σ H F A Q (.tre (b :: ads) (.list ys)) (backG Γ1 own Γ') s'), fun H' w => ⟨xs.length - (i + 1), by omega, rfl, hlt, w⟩, fun x H3 y => ?_⟩
        obtain ⟨d, hd, hy⟩ := yld x H3 y
        rw [e0] at hd
        cases hd
        -- the tree so far is put aside
        have hls := ol.lists
        have R2L := R2.addLs oo
        have hlA : ∀ a ∈ ads, (fxL fx p (.lst vs)).L a = none := fun a ha => (oo a ha).2.2.1
        obtain ⟨F3, R3, hx3, sb3, rp⟩ := R2L.yield sb2 hy
        have q' : bindT tc x0 Γ2 _ := q
        have g := bindT_rd (K := X.K) R3 rp q'
        refine n_comp.gmono tc (fun σ2 H4 z => ?_) g
        obtain ⟨rfl, wp, Γ3, q3, R4⟩ := z
        have ew : wipe σ2 own = wipe σ own := (wp own hin).trans wipe_wipe
        refine ⟨ew, ⟨_, Γ3, s2, F3, A2, R4, xn, xk0, ?_⟩⟩
        unfold wC
        intro H5 F5 A5 R5 hx5 sb5
        rw [if_pos rfl]
        refine ⟨_, Γ3, s2, F5, A5, R5, xn, xk0, wE_mono ce (fun v Γ6 s6 q => ?_) q3⟩
        intro y6 H6 F6 A6 R6 hx6 sb6 rv
        obtain ⟨bds, d, q, ot, ok6⟩ := owV_rd R6 rv q
        have lk := R6.lkAs hls
        have R7 := R6.delLs hlA
        obtain ⟨w1, w2, w3⟩ := R7.lkP
        have wno := R7.lkNo
        have hlen : vs.length < sizeLine := Nat.lt_of_lt_of_le (Nat.lt_of_le_of_lt (by rw [ol.length]; exact hal) hlt) (big_sz hbig)
        have zx := ((hx2.trans hx3).trans hx5).trans hx6
        have htu : ∀ a us, H2 a = some (.tup us) → H6 a = some (.tup us) := fun a us z => ((hx3.trans hx5).trans hx6).tup R2.ok a us z
        have ol6 : OwL H6 ads vs acc := ol.mono htu fun a ha => (lk a ha).1
        have ol7 : OwL H6 (ads ++ bds) (vs ++ [y6]) (acc ++ [d]) := ol6.append (.one ot) fun a ha hb => (fxA_nin hls (ok6 a hb).2.2.1).1 ha
        have okAll : OwOk (fxL fx p (.lst vs)) (wipe σ own) F6 A6 (wipeG own Γ6) (ads ++ bds) := fun a ha => by
          have no : ∀ {Δ : Ctx}, NoOwn σ2 Γ6 a → NoOwn (wipe σ own) (wipeG own Γ6) a := fun n => n.of fun j z => by
            rw [← ew] at z
            exact ownA_wipe z
          rcases List.mem_append.mp ha with m | m
          · exact ⟨(lk a m).2.1, (lk a m).2.2.1, hlA a m, no (Δ := Γ6) (lk a m).2.2.2⟩
          · exact ⟨(ok6 a m).1, (ok6 a m).2.1, (fxA_nin hls (ok6 a m).2.2.1).2, no (Δ := Γ6) (ok6 a m).2.2.2⟩
        have np : ∀ a ∈ ads ++ bds, a ≠ p := fun a ha z => by
          have := (okAll a ha).2.2.1
          rw [z] at this
          have e5' : L2.upd fx.L p (.lst vs) p = none := this
          rw [upd_same] at e5'
          cases e5'
        refine ⟨vs, w1, hlen, wipeG own Γ6, s6, F6, A6, vs ++ [y6], ads ++ bds, acc ++ [d], ?_, ?_, ?_, ?_, ?_, ?_, q⟩
        · have R8 := (R7.wipe own).chg (o' := .lst (vs ++ [y6])) hlp
          rw [ew] at R8
          exact R8
        · refine ⟨zx.1, fun a o e n => ?_⟩
          obtain ⟨z1, z2⟩ := zx.2 a o e n
          refine ⟨?_, z2⟩
          rw [upd_ne (fun z => by rw [z, hp] at e; cases e)]
          exact z1
        · exact ((sb2.trans sb3).trans sb5).trans sb6
        · exact ol7.mono (fun a us z => by rw [upd_ne (fun y => by rw [y, w1] at z; cases z)]; exact z) fun a ha => upd_ne (np a ha)
        · intro a ha
          obtain ⟨q1, q2, q3, q4⟩ := okAll a ha
          refine ⟨q1, q2, ?_, q4⟩
          show L2.upd fx.L p (.lst (vs ++ [y6])) a = none
          rw [upd_ne (np a ha)]
          have e5' : L2.upd fx.L p (.lst vs) a = none := q3
          rwa [upd_ne (np a ha)] at e5'
        · rw [List.length_append, List.length_singleton]; omega
      · have e : i = xs.length := by omega
        subst e
        refine .inl ⟨(yl _ H2 gs).2 rfl, ?_⟩
        rw [List.drop_length] at q
        have q' : ∀ b, KE fx σ H F A Q (.tre (b :: ads) (.list acc)) (backG Γ1 own Γ2) s2 := q
        obtain ⟨w1, w2, w3⟩ := R2.lkP
        have no := R2.lkNo
        refine q' p (V.ref p) H2 F2 A2 (R1.back (R2.delL hlp) hx2 sb2) (hx1.trans hx2) (sb1.trans sb2) ⟨.lst w1 ol fun m => ?_, fun a ha => ?_⟩
        · have e5' : L2.upd fx.L p (.lst vs) p = none := (oo p m).2.2.1
          rw [upd_same] at e5'
          cases e5'
        · rcases List.mem_cons.mp ha with rfl | m
          · exact ⟨w2, w3, hlp, no.of fun j z => ownA_back z⟩
          · exact ⟨(oo a m).1, (oo a m).2.1, fxL_none (oo a m).2.2.1, (oo a m).2.2.2.of fun j z => ownA_back z⟩
  refine ⟨?_, key⟩
  have h := pe_lc (own := ol) hc hN hi ok hg (fun s H C cl fp => pts_nilT (rm := rm)) he (fold1 hs) (pos := p)
  rw [hol] at h
  exact PE_imp h key
/-! ### [x] + xs: both are let go -/
theorem owS_rd (R : SR fx σ H Γ s F A) {i : Nat} {q : List Addr → D → Prop} (h : owS (look Γ i) q) : ∃ x ads d, σ[i]? = some (some x) ∧ q ads d ∧ OwT H ads x d ∧ ∀ a, a ∈ ads → ownA σ Γ i a := by
  cases e : look Γ i with
  | none => rw [e] at h; exact h.elim
  | some v =>
    rw [e] at h
    obtain ⟨x, h1, h2⟩ := R.sl i v e
    cases v with
    | own xs =>
      obtain ⟨a, vs, rfl, e2, e3, e4, e5, e6⟩ := h2
      refine ⟨_, [a], _, h1, h.2 a, .lst e2 (RpL.owL R.fh e6 h.1) nofun, fun b hb => ?_⟩
      rcases List.mem_singleton.mp hb with rfl
      exact (ownA_own e).mpr h1
    | tre ads d => exact ⟨x, ads, d, h1, h, h2.1, fun a ha => (ownA_tre e).mpr ha⟩
    | _ => exact h.elim
theorem SR.shlIn {j : Nat} (R : SR fx σ H (Ac.put Γ j none) s F A) {b : Addr} {vs : List V} (h1 : σ[j]? = some (some (V.ref b))) (hb : H b = some (.lst vs)) (hl : vs.length < big) (hf : F b = none) (hz : ¬ rm.ft A b) (hL : fx.L b = none) (no : NoOwn σ (Ac.put Γ j none) b) (hj : j < Γ.length) : SR fx σ H (Ac.put Γ j (some (.shl b))) s F A where
  fh := R.fh
  fz := R.fz
  f0 := R.f0
  lk := R.lk
  a0 := R.a0
  ok := R.ok
  ln := by rw [put_length]; have := R.ln; rw [put_length] at this; exact this
  sl := fun i w e => by
    rcases look_put e with ⟨rfl, z⟩ | ⟨ne, e'⟩
    · cases z
      exact ⟨_, h1, rfl, hf, hz, hL, vs, hb, hl⟩
    · exact R.sl i w (by rw [look_put_ne ne]; exact e')
  dj := fun i k a s1 s2 => by
    have f : ∀ {i : Nat}, i ≠ j → ownA σ (Ac.put Γ j (some (.shl b))) i a → ownA σ (Ac.put Γ j none) i a := fun {i} n z => (ownA_neG n).mpr ((ownA_neG n).mp z)
    by_cases n1 : i = j
    · by_cases n2 : k = j
      · rw [n1, n2]
      · subst n1
        have : a = b := ownA_at s1
        subst this
        exact (no k (f n2 s2)).elim
    · by_cases n2 : k = j
      · subst n2
        have : a = b := ownA_at s2
        subst this
        exact (no i (f n1 s1)).elim
      · exact R.dj i k a (f n1 s1) (f n2 s2)
theorem n_catT {i j : Nat} {x y : Str} {p p1 p2 p3 : Pos} (hx : PE X (.Name x p1) (tVar i)) (hy : PE X (.Name y p2) (tVar j)) : PE X (.BinOp (.List [.Name x p1] p3) .Add (.Name y p2) p) (rdE W (.catT i j : E rm.S)) := by
  refine PE_imp (pe_op op_catR (pe_lst (pa_cons hx pa_nil)) hy) fun σ H Q q => ?_
  obtain ⟨fx, Γ, s, F, A, R, xc, xk, q⟩ := q
  unfold wE at q
  obtain ⟨nij, q⟩ := q
  unfold catX at q
  obtain ⟨u, ads, d, h1, q, ot, ow⟩ := owS_rd R q
  obtain ⟨w, bds, e, h2, q, ot2, ow2⟩ := owS_rd R q
  split at q
  · rename_i es
    obtain ⟨hl, q⟩ := q
    cases ot2 with
    | lst hb ol nb =>
      rename_i b vs bds
      have hlv : vs.length = es.length := ol.length
      have hbb : ownA σ Γ j b := ow2 b List.mem_cons_self
      have dis : ∀ a ∈ ads, a ∉ b :: bds := fun a ha hb => nij (R.dj i j a (ow a ha) (ow2 a hb))
      refine ⟨u, h1, by show 1 ≤ sizeLine; decide, fun p hp => ⟨_, h2, p, b, [u], vs, rfl, rfl, .inl upd_same, .inl (upd_sub hp _ _ hb), ?_, fun c hc => ?_⟩⟩
      · have : [u].length + vs.length ≤ big := by rw [hlv, List.length_singleton]; omega
        exact big_sz this
      · have hcH : H c = none := by
          cases z : H c with
          | none => rfl
          | some o => rw [upd_sub hp _ _ z] at hc; cases hc
        have R1 := (R.alloc (o := .lst [u]) hp).alloc (o := .lst ([u] ++ vs)) hc
        have R2 : SR fx σ _ (Ac.put Γ i none) s F A := R1.drop
        have hjb : ownA σ (Ac.put Γ i none) j b := (ownA_neG (Ne.symm nij)).mpr hbb
        have ob := R.owned hbb
        have R3 : SR fx σ _ (Ac.put (Ac.put Γ i none) j (some (.shl b))) s F A := (R2.drop (i := j)).shlIn h2 (upd_sub hc _ _ (upd_sub hp _ _ hb)) (by rw [hlv]; exact hl) ob.2.1 ob.2.2.1 ob.2.2.2 (R2.letgo hjb) (ownA_lt hjb)
        refine q b (c :: (ads ++ bds)) (.ref c) _ F A R3 ((R.hx hp).trans ((R.alloc (o := .lst [u]) hp).hx hc)) (Sub.refl F) ⟨?_, fun a ha => ?_⟩
        · refine .lst upd_same (.cons ((ot.mono (fun a us z => upd_sub hc _ _ (upd_sub hp _ _ z)) fun a ha => ?_)) ((ol.alloc hp).alloc hc) fun a ha hb => dis a ha (List.mem_cons_of_mem _ hb)) fun m => ?_
          · obtain ⟨us, z⟩ := ot.lists a ha
            rw [z]
            exact upd_sub hc _ _ (upd_sub hp _ _ z)
          · rcases List.mem_append.mp m with m | m
            · obtain ⟨us, z⟩ := ot.lists c m
              rw [hcH] at z
              cases z
            · exact ow_nin hcH ol m
        · have no : ∀ {a}, (a ∈ ads ∨ a ∈ bds) → NoOwn σ (Ac.put (Ac.put Γ i none) j (some (.shl b))) a := fun {a} hm k z => by
            by_cases n : k = j
            · subst n
              have : a = b := ownA_at z
              subst this
              rcases hm with m | m
              · exact dis a m List.mem_cons_self
              · exact nb m
            · have z1 := ownA_drop ((ownA_neG n).mp z)
              rcases hm with m | m
              · exact z1.1 (R.dj k i a z1.2 (ow a m))
              · exact n (R.dj k j a z1.2 (ow2 a (List.mem_cons_of_mem _ m)))
          rcases List.mem_cons.mp ha with rfl | m
          · refine ⟨R.nF hcH, R.nft hcH, R.nL hcH, fun k z => ?_⟩
            by_cases n : k = j
            · subst n
              have : a = b := ownA_at z
              subst this
              rw [hcH] at hb
              cases hb
            · exact R.noOwn hcH k (ownA_drop ((ownA_neG n).mp z)).2
          · rcases List.mem_append.mp m with m | m
            · obtain ⟨_, g1, g2, g3⟩ := R.owned (ow a m)
              exact ⟨g1, g2, g3, no (.inl m)⟩
            · obtain ⟨_, g1, g2, g3⟩ := R.owned (ow2 a (List.mem_cons_of_mem _ m))
              exact ⟨g1, g2, g3, no (.inr m)⟩
  · exact q.elim
end
end Ac
namespace Ac
open PySem PySem.Spec PyProof.Rows L2
section
variable {rm : RM} {X : Cx} {k : Nat} {t : Sx} {W : WN} {fx : Fx rm} {xc : Nat → Ctx → rm.S → Prop} {σ : L2.St} {H F : Hp} {Γ : Ctx} {s : rm.S} {A : rm.A}
/-! ### a, b = (a tree of one's own) -/
theorem OwT.scal {ads : List Addr} {x : V} {d : D} (h : OwT H ads x d) (sc : scal d = true) : Rp F x d := by
  cases h <;> first | exact .non | exact .bl _ | exact .int _ | exact .str _ | cases sc
theorem putAllT_rd : ∀ {is : List Nat} {ds : List D} {xs : List V} {ads : List Addr} {σ : L2.St} {Γ : Ctx} {K : Ctx → Prop}, SR fx σ H Γ s F A → OwL H ads xs ds → OwOk fx σ F A Γ ads → putAllT is ds Γ K →
    rdGs is xs σ H fun σ2 H2 => H2 = H ∧ ∃ Γ2, K Γ2 ∧ SR fx σ2 H Γ2 s F A
  | [], [], _, _, σ, Γ, K, R, .nil, _, q => ⟨rfl, rfl, Γ, q, R⟩
  | [], _ :: _, _, _, _, _, _, _, _, _, q => q.elim
  | _ :: _, [], _, _, _, _, _, _, _, _, q => q.elim
  | i :: is, d :: ds, _, _, σ, Γ, K, R, .cons (v := x) (vs := xs) (ads := a1) (bds := a2) h r n, ok, q => by
    refine ⟨x, xs, rfl, ?_⟩
    show rdGs is xs (σ.set i (some x)) H _
    unfold putAllT at q
    by_cases e : scal d = true
    · rw [if_pos e] at q
      refine putAllT_rd (R.putD (i := i) (h.scal e)) r (fun a ha => ?_) q
      obtain ⟨q1, q2, q3, q4⟩ := ok a (List.mem_append_right _ ha)
      refine ⟨q1, q2, q3, fun j z => ?_⟩
      by_cases hj : j = i
      · subst hj; exact ownA_set_at R.ln z
      · exact q4 j ((ownA_ne hj).mp z)
    · rw [if_neg e] at q
      refine putAllT_rd (R.put (i := i) (x := x) (v := some (.tre a1 d)) (fun w z => by cases z; exact ⟨h, fun a ha => let ⟨q1, q2, q3, _⟩ := ok a (List.mem_append_left _ ha); ⟨q1, q2, q3⟩⟩) (fun a z j _ => (ok a (List.mem_append_left _ z)).2.2.2 j)) r (fun a ha => ?_) (q a1)
      obtain ⟨q1, q2, q3, q4⟩ := ok a (List.mem_append_right _ ha)
      refine ⟨q1, q2, q3, fun j z => ?_⟩
      by_cases hj : j = i
      · subst hj
        exact n a (ownA_set_at R.ln z) ha
      · exact q4 j ((ownA_ne hj).mp z)
theorem putAllT_len : ∀ {is : List Nat} {ds : List D} {Γ : Ctx} {K : Ctx → Prop}, putAllT is ds Γ K → ds.length = is.length
  | [], [], _, _, _ => rfl
  | [], _ :: _, _, _, q => q.elim
  | _ :: _, [], _, _, q => q.elim
  | i :: is, d :: ds, Γ, K, q => by
    unfold putAllT at q
    by_cases e : scal d = true
    · rw [if_pos e] at q
      rw [List.length_cons, List.length_cons, putAllT_len q]
    · rw [if_neg e] at q
      rw [List.length_cons, List.length_cons, putAllT_len (q [])]
theorem n_asgTT {xs : List Expr} {is : List Nat} {c : E rm.S} {e : Expr} {kk : Nat} {p p2 : Pos} (hc : X.calm = true) (hN : X.N.Nodup) (hn : NmOk X xs is) (he : PE X e (rdE W c)) (hs : shp e = true) (hcc : isComp e = false) (ht : isTupE e = false) : PS X (.Assign [.Tuple xs kk p2] e p) (rd1 W (.asgTT is c)) :=
  PS_imp (ps_asg he (n_pgT hc hN hn) (swso hs hcc) (swst ht)) fun D σ H q => by
    obtain ⟨fx, Γ, s, F, A, R, K, ko, q⟩ := q
    dsimp only [w1] at q
    refine ⟨fx, Γ, s, F, A, R, K.ex, ko.ex, wE_mono c (fun v Γ' s' q => ?_) q⟩
    intro y H' F' A' R' hx sb rv
    unfold asgTX at q
    split at q
    · rename_i ads ds
      obtain ⟨ot, ok⟩ := rv
      cases ot with
      | tup h1 r =>
        rename_i a vs
        have hl : vs.length = is.length := by rw [r.length]; exact putAllT_len q
        refine ⟨a, vs, rfl, .inl (.inl h1), hl, ?_⟩
        refine putAll_rd.rdGs_mono is (fun σ2 H2 z => ?_) (putAllT_rd R' r ok q)
        obtain ⟨rfl, Γ2, h1, h2⟩ := z
        exact ko.nx _ _ _ _ _ _ h2 h1
    · exact q.elim
/-! ### a list within is changed -/
theorem treAt (R : SR fx σ H Γ s F A) {i : Nat} {ads : List Addr} {d : D} (h : look Γ i = some (.tre ads d)) : ∃ x, σ[i]? = some (some x) ∧ OwT H ads x d ∧ ∀ a ∈ ads, F a = none ∧ ¬ rm.ft A a ∧ fx.L a = none := R.sl i _ h
theorem SR.updTre (R : SR fx σ H Γ s F A) {i : Nat} {ads : List Addr} {d d' : D} {f : List D → Option (List D)} {js : List Int} (h : look Γ i = some (.tre ads d)) (hu : updAt f js d = some d') : ∃ x a vs es es' cds, σ[i]? = some (some x) ∧ AtP H x js (.ref a) ∧ H a = some (.lst vs) ∧ OwL H cds vs es ∧ f es = some es' ∧ (∀ c ∈ cds, c ∈ ads) ∧
    ∀ ws wds, OwL H wds ws es' → (∀ w ∈ wds, w ∈ cds ∨ (F w = none ∧ ¬ rm.ft A w ∧ fx.L w = none ∧ NoOwn σ Γ w)) → ∃ ads', SR fx σ (upd H a (.lst ws)) (Ac.put Γ i (some (.tre ads' d'))) s F A := by
  obtain ⟨x, h1, ot, oo⟩ := treAt R h
  obtain ⟨a, vs, es, es', cds, p1, p2, p3, p4, p5, p6, p7⟩ := ot.upd hu
  refine ⟨x, a, vs, es, es', cds, h1, p1, p2, p3, p4, fun c hc => (p6 c hc).1, fun ws wds ol ok => ?_⟩
  have hi : ownA σ Γ i a := (ownA_tre h).mpr p5
  have na : a ∉ wds := fun m => by
    rcases ok a m with z | z
    · exact (p6 a z).2 rfl
    · exact z.2.2.2 i hi
  have htu : ∀ b us, H b = some (.tup us) → upd H a (.lst ws) b = some (.tup us) := fun b us z => by
    rw [upd_ne (fun y => by rw [y, p2] at z; cases z)]
    exact z
  obtain ⟨ads', q1, q2⟩ := p7 ws wds (ol.mono htu fun b hb => upd_ne fun z => na (by rw [← z]; exact hb)) na (fun w hw ha => by
    rcases ok w hw with z | z
    · exact z
    · exact (z.2.2.2 i ((ownA_tre h).mpr ha)).elim)
  obtain ⟨_, g1, g2, g3⟩ := R.owned hi
  have okA : ∀ b ∈ ads', F b = none ∧ ¬ rm.ft A b ∧ fx.L b = none ∧ ∀ j, j ≠ i → ¬ ownA σ Γ j b := fun b hb => by
    rcases q2 b hb with z | z
    · exact ⟨(oo b z).1, (oo b z).2.1, (oo b z).2.2, fun j ne y => ne (R.dj j i b y ((ownA_tre h).mpr z))⟩
    · rcases ok b z with y | y
      · have y' := (p6 b y).1
        exact ⟨(oo b y').1, (oo b y').2.1, (oo b y').2.2, fun j ne w => ne (R.dj j i b w ((ownA_tre h).mpr y'))⟩
      · exact ⟨y.1, y.2.1, y.2.2.1, fun j _ => y.2.2.2 j⟩
  refine ⟨ads', {
    fh := fun b u e => by
      have hb : b ≠ a := fun z => by rw [z, g1] at e; cases e
      rw [upd_ne hb]; exact R.fh b u e
    fz := R.fz
    f0 := R.f0
    lk := fun b u e => by
      have hb : b ≠ a := fun z => by rw [z, g3] at e; cases e
      rw [upd_ne hb]; exact R.lk b u e
    a0 := R.a0
    ok := rm.frame R.ok (fun q hq => upd_ne fun z => g2 (by rw [← z]; exact hq)) htu
    ln := by rw [put_length]; exact R.ln
    sl := fun j w e => by
      rcases look_put e with ⟨rfl, z⟩ | ⟨ne, e'⟩
      · cases z
        exact ⟨x, h1, q1, fun b hb => ⟨(okA b hb).1, (okA b hb).2.1, (okA b hb).2.2.1⟩⟩
      · obtain ⟨y, w1, w2⟩ := R.sl j w e'
        refine ⟨y, w1, ?_⟩
        cases w with
        | dat d => exact w2
        | new xs => exact w2
        | hdl k => exact w2
        | hds ks => exact w2
        | own zs =>
          obtain ⟨b, us, rfl, w3, w4⟩ := w2
          have hb : b ≠ a := fun z => by
            rw [z] at w1
            exact ne (R.dj j i a ((ownA_own e').mpr w1) hi)
          exact ⟨b, us, rfl, by rw [upd_ne hb]; exact w3, w4⟩
        | tre bds e => exact ⟨w2.1.mono htu (fun c hc => upd_ne fun y => ne (R.dj j i a ((ownA_tre e').mpr (by rw [← y]; exact hc)) hi)), w2.2⟩
        | shl b =>
          obtain ⟨g1, g2, g3, g4, us, g5, g6⟩ := w2
          have hb : b ≠ a := fun z => ne (R.dj j i a ((ownA_shl e').mpr z.symm) hi)
          exact ⟨g1, g2, g3, g4, us, by rw [upd_ne hb]; exact g5, g6⟩
        | odi b n f =>
          obtain ⟨g1, g2, g3, g4, us, g5, g6⟩ := w2
          have hb : b ≠ a := fun z => ne (R.dj j i a ((ownA_odi e').mpr z.symm) hi)
          exact ⟨g1, g2, g3, g4, us, by rw [upd_ne hb]; exact g5, g6⟩
    dj := fun j l b s1 s2 => by
      by_cases n1 : j = i
      · by_cases n2 : l = i
        · rw [n1, n2]
        · subst n1
          exact ((okA b (ownA_at s1)).2.2.2 l n2 ((ownA_neG n2).mp s2)).elim
      · by_cases n2 : l = i
        · subst n2
          exact ((okA b (ownA_at s2)).2.2.2 j n1 ((ownA_neG n1).mp s1)).elim
        · exact R.dj j l b ((ownA_neG n1).mp s1) ((ownA_neG n2).mp s2) }⟩
/-! paths -/
/-- the steps of a path, as the slots have them -/
def PxOk (σ : L2.St) : List Px → List Int → Prop := Paired fun (p : Px) (j : Int) => match p with
  | .c i => i = j
  | .v k => σ[k]? = some (some (V.int j))
def tPx (i : Nat) (ps : List Px) : TE := fun σ H Q => ∃ x js a, σ[i]? = some (some x) ∧ PxOk σ ps js ∧ AtP H x js (.ref a) ∧ Q (.ref a) H
theorem pathV_ok (R : SR fx σ H Γ s F A) : ∀ {ps : List Px} {js : List Int}, pathV ps Γ = some js → PxOk σ ps js
  | [], js, e => by cases e; exact .nil
  | p :: r, js, e => by
    unfold pathV at e
    obtain ⟨j, h1, e⟩ := Option.bind_eq_some_iff.mp e
    obtain ⟨js', h2, e⟩ := Option.map_eq_some_iff.mp e
    subst e
    refine .cons ?_ (pathV_ok R h2)
    cases p with
    | c i => cases h1; rfl
    | v k =>
      cases e3 : look Γ k with
      | none => simp [pxV, e3] at h1
      | some w =>
        cases w with
        | dat dd =>
          cases dd with
          | int j' =>
            simp [pxV, e3] at h1
            subst h1
            obtain ⟨y, g1, g2⟩ := R.sl k _ e3
            cases g2
            exact g1
          | _ => simp [pxV, e3] at h1
        | _ => simp [pxV, e3] at h1
theorem n_px0 {i : Nat} {x : Str} {p : Pos} (hv : PE X (.Name x p) (tVar i)) : PE X (.Name x p) (tPx i []) := PE_imp hv fun σ H Q q => by
  obtain ⟨y, js, a, h1, h2, h3, q⟩ := q
  cases h2
  have e : V.ref a = y := h3
  rw [e] at q
  exact ⟨y, h1, q⟩
theorem n_px1 {i : Nat} {x : Str} {px : Px} {e : Expr} {p p2 : Pos} (hv : PE X (.Name x p2) (tVar i)) (he : PE X e (match px with | .c n => tC (.int n) | .v k => tVar k)) (hs : PlainIx e) : PE X (.Subscript (.Name x p2) e p) (tPx i [px]) := by
  refine PE_imp (pe_ix ix_seq hv he hs) fun σ H Q q => ?_
  obtain ⟨y, js, a, h1, h2, h3, q⟩ := q
  refine ⟨y, h1, ?_⟩
  cases h2 with
  | cons hp ht =>
    rename_i j js
    cases ht
    obtain ⟨b, vs, v, rfl, hb, hv, e⟩ := h3
    have e : V.ref a = v := e
    subst e
    have fin : rIx X.K (.ref b) (.int j) H Q := by
      rcases hb with hb | hb
      · exact .inl ⟨b, vs, j, _, rfl, rfl, .inl (.inl hb), hv, q⟩
      · exact .inr (.inl ⟨b, vs, j, _, rfl, rfl, .inl (.inl hb), hv, q⟩)
    cases px with
    | c n =>
      have hp : n = j := hp
      subst hp
      exact fin
    | v k => exact ⟨_, hp, fin⟩
theorem AtP.det : ∀ {js : List Int} {x y z : V}, AtP H x js y → AtP H x js z → y = z
  | [], _, _, _, h, h' => h.trans h'.symm
  | j :: js, _, _, _, h, h' => by
    obtain ⟨a, vs, v, e1, e2, e3, e4⟩ := h
    obtain ⟨b, us, u, g1, g2, g3, g4⟩ := h'
    rw [e1] at g1
    cases g1
    have : vs = us := by
      rcases e2 with e2 | e2 <;> rcases g2 with g2 | g2 <;> rw [e2] at g2 <;> first | (cases g2; rfl) | cases g2
    subst this
    rw [e3] at g3
    cases g3
    exact AtP.det e4 g4
theorem updAt_at {f : List D → Option (List D)} : ∀ {js : List Int} {d : D}, updAt f js d ≠ none → updAt some js d ≠ none
  | [], d, h => by
    cases d <;> unfold updAt at h ⊢ <;> first | exact absurd rfl h | (intro z; cases z)
  | j :: js, d, h => by
    cases d with
    | list xs =>
      unfold updAt at h ⊢
      cases e : ixN xs.length j with
      | none => rw [e] at h; exact h
      | some m =>
        rw [e] at h
        cases e2 : xs[m]? with
        | none => simp [e2] at h
        | some x =>
          simp [e2] at h ⊢
          exact updAt_at h
    | tuple xs =>
      unfold updAt at h ⊢
      cases e : ixN xs.length j with
      | none => rw [e] at h; exact h
      | some m =>
        rw [e] at h
        cases e2 : xs[m]? with
        | none => simp [e2] at h
        | some x =>
          simp [e2] at h ⊢
          exact updAt_at h
    | _ => unfold updAt at h; exact absurd rfl h
/-- the object of such a call -/
theorem refP_rd (R : SR fx σ H Γ s F A) {i : Nat} {ps : List Px} (h : refP i ps Γ) : ∃ x js a vs ads d, look Γ i = some (.tre ads d) ∧ pathV ps Γ = some js ∧ σ[i]? = some (some x) ∧ PxOk σ ps js ∧ AtP H x js (.ref a) ∧ H a = some (.lst vs) ∧ ¬ rm.ft A a := by
  unfold refP at h
  split at h
  · rename_i ads d e
    split at h
    · rename_i d' hd
      obtain ⟨js, h1, h2⟩ := Option.bind_eq_some_iff.mp hd
      obtain ⟨x, g1, ot, oo⟩ := treAt R e
      obtain ⟨a, vs, es, es', cds, p1, p2, p3, p4, p5, p6, p7⟩ := ot.upd h2
      exact ⟨x, js, a, vs, ads, d, e, h1, g1, pathV_ok R h1, p1, p2, (oo a p5).2.1⟩
    · exact h.elim
  · exact h.elim
theorem AtP.keep {H' : Hp} (ht : ∀ a us, H a = some (.tup us) → H' a = some (.tup us)) {f : List D → Option (List D)} : ∀ {js : List Int} {ads : List Addr} {x y : V} {d : D}, OwT H ads x d → updAt f js d ≠ none → (∀ a ∈ ads, H' a = H a) → AtP H x js y → AtP H' x js y
  | [], _, _, _, _, _, _, _, h => h
  | j :: js, _, _, _, _, .lst (a := a0) (vs := vs0) (ads := ads0) (ds := ds) h r n, hu, hk, h' => by
    obtain ⟨a, vs, v, e1, e2, e3, e4⟩ := h'
    cases e1
    have ev : vs = vs0 := by
      rcases e2 with e2 | e2 <;> rw [h] at e2 <;> first | (cases e2; rfl) | cases e2
    subst ev
    unfold updAt at hu
    cases e : ixN ds.length j with
    | none => rw [e] at hu; exact absurd rfl hu
    | some m =>
      rw [e] at hu
      cases e5 : ds[m]? with
      | none => simp [e5] at hu
      | some x0 =>
        simp [e5] at hu
        obtain ⟨u, bds, g1, g2, g3, g4⟩ := r.get e5
        have : u = v := by
          unfold atI at e3
          rw [r.length, e] at e3
          have e3' : vs[m]? = some v := e3
          rw [g1] at e3'
          exact Option.some.inj e3'
        subst this
        exact ⟨a0, vs, u, rfl, .inl ((hk a0 List.mem_cons_self).trans h), e3, AtP.keep ht g2 hu (fun a ha => hk a (List.mem_cons_of_mem _ (g3 a ha))) e4⟩
  | j :: js, _, _, _, _, .tup (a := a0) (vs := vs0) (ads := ads0) (ds := ds) h r, hu, hk, h' => by
    obtain ⟨a, vs, v, e1, e2, e3, e4⟩ := h'
    cases e1
    have ev : vs = vs0 := by
      rcases e2 with e2 | e2 <;> rw [h] at e2 <;> first | (cases e2; rfl) | cases e2
    subst ev
    unfold updAt at hu
    cases e : ixN ds.length j with
    | none => rw [e] at hu; exact absurd rfl hu
    | some m =>
      rw [e] at hu
      cases e5 : ds[m]? with
      | none => simp [e5] at hu
      | some x0 =>
        simp [e5] at hu
        obtain ⟨u, bds, g1, g2, g3, g4⟩ := r.get e5
        have : u = v := by
          unfold atI at e3
          rw [r.length, e] at e3
          have e3' : vs[m]? = some v := e3
          rw [g1] at e3'
          exact Option.some.inj e3'
        subst this
        exact ⟨a0, vs, u, rfl, .inr (ht _ _ h), e3, AtP.keep ht g2 hu (fun a ha => hk a (g3 a ha)) e4⟩
  | _ :: _, _, _, _, _, .non, hu, _, _ | _ :: _, _, _, _, _, .bl _, hu, _, _ | _ :: _, _, _, _, _, .int _, hu, _, _ | _ :: _, _, _, _, _, .str _, hu, _, _ => by unfold updAt at hu; exact absurd rfl hu
/-- behind the evaluation of what is put in -/
theorem upd_fin {En : Ends} {K : Kn rm.S} (ko : KOk W fx En K) (R : SR fx σ H Γ s F A) {H' F' : Hp} {A' : rm.A} {Γ' : Ctx} {s' : rm.S} (R' : SR fx σ H' Γ' s' F' A') (hx : HX H A H' A') {i : Nat} {ps : List Px} {x : V} {js : List Int} {a : Addr} {ads : List Addr} {d : D}
    (e : look Γ i = some (.tre ads d)) (h1 : σ[i]? = some (some x)) (h2 : pathV ps Γ = some js) (h3 : AtP H x js (.ref a)) (sp : samePa i ps Γ Γ') {f : List D → Option (List D)} (q : updX f ps Γ' i fun Γ2 => K.nx Γ2 s')
    {bds : List Addr} {y : V} {dv : D} (ot : OwT H' bds y dv) (ok : OwOk fx σ F' A' Γ' bds) {ws : List V → List V} (hf : ∀ {cds : List Addr} {vs : List V} {es es' : List D}, f es = some es' → OwL H' cds vs es → (∀ c ∈ cds, c ∉ bds) → vs.length < sizeLine → ∃ wds, OwL H' wds (ws vs) es' ∧ ∀ w ∈ wds, w ∈ cds ∨ w ∈ bds)
    (hlen : ∀ es es', f es = some es' → es.length < big) :
    ∃ vs, H' a = some (.lst vs) ∧ vs.length < sizeLine ∧ En.nx σ (upd H' a (.lst (ws vs))) := by
  unfold updX at q
  rw [sp.1, e] at q
  rw [sp.2, h2] at q
  have q : (match updAt f js d with | some d' => ∀ ads, K.nx (Ac.put Γ' i (some (.tre ads d'))) s' | none => False) := q
  split at q
  · rename_i d' hd
    obtain ⟨x', a', vs, es, es', cds, g1, g2, g3, g4, g5, g5', g6⟩ := R'.updTre (i := i) (by rw [sp.1]; exact e) hd
    rw [h1] at g1
    cases g1
    obtain ⟨x2, j1, ot0, oo⟩ := treAt R e
    rw [h1] at j1
    cases j1
    have h3' : AtP H' x js (.ref a) := AtP.keep (f := f) (hx.tup R.ok) ot0 (by rw [hd]; exact nofun) (fun b hb => by
      obtain ⟨us, z⟩ := ot0.lists b hb
      rw [z]
      exact (hx.2 b _ z (oo b hb).2.1).1) h3
    have := AtP.det h3' g2
    cases this
    have hl : vs.length < sizeLine := by rw [g4.length]; exact big_lt (hlen _ _ g5)
    obtain ⟨wds, k1, k2⟩ := hf g5 g4 (fun c hc hb => (ok c hb).2.2.2 i ((ownA_tre (by rw [sp.1]; exact e)).mpr (g5' c hc))) hl
    obtain ⟨ads', R2⟩ := g6 _ wds k1 fun w hw => by
      rcases k2 w hw with z | z
      · exact .inl z
      · exact .inr (ok w z)
    exact ⟨vs, g3, hl, ko.nx _ _ _ _ _ _ R2 (q ads')⟩
  · exact q.elim
theorem n_appP {i : Nat} {ps : List Px} {c : E rm.S} {o e : Expr} {p p2 p4 : Pos} (ho : PE X o (tPx i ps)) (he : PE X e (rdE W c)) (hs : shp e = true) (hb : ∀ w, attributeBase o "append" X.env w = w) (hl : (p2.endLine == p4.line) = true) : PS X (.Expr (.Call (.Attribute o "append" p2) [e] [] p4) p) (rd1 W (.appP i ps c)) :=
  PS_imp (ps_expr (pe_bm PySem.F.plainAttrs_list PySem.F.slot_list_append PySem.F.type_list_append mt_append ho (pa_cons he pa_nil (star1 hs)) (hbase := hb _) (hfew := few1 hs) (hline := hl) (hs := star1 hs))) fun D σ H q => by
    obtain ⟨fx, Γ, s, F, A, R, K, ko, q⟩ := q
    dsimp only [w1] at q
    obtain ⟨rp, q⟩ := q
    obtain ⟨x, js, a, vs, ads, d, e1, e2, e3, e4, e5, e6, e7⟩ := refP_rd R rp
    refine ⟨x, js, a, e3, e4, e5, .inl ⟨rfl, _, SqL.of e6⟩, fx, Γ, s, F, A, R, K.ex, ko.ex, wE_mono c (fun v Γ' s' q => ?_) q⟩
    intro y H' F' A' R' hx sb rv
    obtain ⟨sp, q⟩ := q
    obtain ⟨bds, dv, q, ot, ok⟩ := owV_rd R' rv q
    obtain ⟨vs', g1, g2, g3⟩ := upd_fin (ws := fun vs => vs ++ [y]) ko R R' hx e1 e3 e2 e5 sp q ot ok (fun {cds vs es es'} hf ol hn _ => by
      unfold fApp at hf
      split at hf
      · cases hf
        exact ⟨cds ++ bds, ol.append (.one ot) hn, fun w hw => List.mem_append.mp hw⟩
      · cases hf) (fun es es' hf => by
      unfold fApp at hf
      split at hf
      · assumption
      · cases hf)
    exact ⟨a, vs', y, rfl, rfl, g1, g2, g3⟩
theorem n_insP {i : Nat} {ps : List Px} {c : E rm.S} {o e : Expr} {kk : Nat} {p p2 p3 p4 : Pos} (ho : PE X o (tPx i ps)) (he : PE X e (rdE W c)) (hs : shp e = true) (hb : ∀ w, attributeBase o "insert" X.env w = w) (hl : (p2.endLine == p4.line) = true) : PS X (.Expr (.Call (.Attribute o "insert" p2) [.Constant (.int 0) kk p3, e] [] p4) p) (rd1 W (.insP i ps c)) :=
  PS_imp (ps_expr (pe_bm PySem.F.plainAttrs_list PySem.F.slot_list_insert PySem.F.type_list_insert mt_insert ho (pa_cons pe_int (pa_cons he pa_nil (star1 hs)) rfl) (hbase := hb _) (hfew := n_ins.few2 rfl hs) (hline := hl) (hs := rfl) (hplain := stars (by unfold shpL; rw [List.all_cons, hs]; rfl)))) fun D σ H q => by
    obtain ⟨fx, Γ, s, F, A, R, K, ko, q⟩ := q
    dsimp only [w1] at q
    obtain ⟨rp, q⟩ := q
    obtain ⟨x, js, a, vs, ads, d, e1, e2, e3, e4, e5, e6, e7⟩ := refP_rd R rp
    refine ⟨x, js, a, e3, e4, e5, .inl ⟨rfl, _, SqL.of e6⟩, fx, Γ, s, F, A, R, K.ex, ko.ex, wE_mono c (fun v Γ' s' q => ?_) q⟩
    intro y H' F' A' R' hx sb rv
    obtain ⟨sp, q⟩ := q
    obtain ⟨bds, dv, q, ot, ok⟩ := owV_rd R' rv q
    obtain ⟨vs', g1, g2, g3⟩ := upd_fin (ws := fun vs => y :: vs) ko R R' hx e1 e3 e2 e5 sp q ot ok (fun {cds vs es es'} hf ol hn _ => by
      unfold fIns at hf
      split at hf
      · cases hf
        exact ⟨bds ++ cds, .cons ot ol fun a ha hc => hn a hc ha, fun w hw => (List.mem_append.mp hw).symm⟩
      · cases hf) (fun es es' hf => by
      unfold fIns at hf
      split at hf
      · assumption
      · cases hf)
    exact ⟨a, vs', 0, y, rfl, rfl, g1, g2, by decide, by decide, g3⟩
theorem n_appS {i : Nat} {x : Str} {c : E rm.S} {e : Expr} {p p2 p3 p4 : Pos} (hv : PE X (.Name x p3) (tVar i)) (he : PE X e (rdE W c)) (hs : shp e = true) (hl : (p2.endLine == p4.line) = true) : PS X (.Expr (.Call (.Attribute (.Name x p3) "append" p2) [e] [] p4) p) (rd1 W (.appS i c)) :=
  PS_imp (ps_expr (pe_bm PySem.F.plainAttrs_list PySem.F.slot_list_append PySem.F.type_list_append mt_append hv (pa_cons he pa_nil (star1 hs)) (hfew := few1 hs) (hline := hl) (hs := star1 hs))) fun D σ H q => by
    obtain ⟨fx, Γ, s, F, A, R, K, ko, q⟩ := q
    dsimp only [w1] at q
    obtain ⟨sh, q⟩ := q
    cases e : look Γ i with
    | none => rw [e] at sh; exact sh.elim
    | some w =>
      rw [e] at sh
      cases w with
      | shl b =>
        obtain ⟨y0, h1, rfl, h2, h3, h4, vs, h5, h6⟩ := R.sl i _ e
        refine ⟨.ref b, h1, .inl ⟨rfl, _, SqL.of h5⟩, fx, Γ, s, F, A, R, K.ex, ko.ex, wE_mono c (fun v Γ' s' q => ?_) q⟩
        intro y H' F' A' R' hx sb rv
        obtain ⟨d, F'', q, R'', sb', rp⟩ := R'.stay rv q
        split at q
        · rename_i b' hb'
          obtain ⟨z0, g1, rfl, g2, g3, g4, us, g5, g6⟩ := R''.sl i _ hb'
          rw [h1] at g1
          cases g1
          refine ⟨b, us, y, rfl, rfl, g5, big_lt g6, ?_⟩
          have no := R''.letgo ((ownA_shl hb').mpr rfl)
          have R3 := ((R''.drop (i := i)).addL g5 g2 g3 no).chg (o' := .lst (us ++ [y])) g4
          exact ko.nx _ _ _ _ _ _ (R3.delL g4) q
        · exact q.elim
      | _ => exact sh.elim
theorem OwL.set {H : Hp} {bds : List Addr} {y : V} {dv : D} (ot : OwT H bds y dv) : ∀ {cds : List Addr} {vs : List V} {es : List D} (m : Nat), OwL H cds vs es → (∀ c ∈ cds, c ∉ bds) → ∃ wds, OwL H wds (vs.set m y) (es.set m dv) ∧ ∀ w ∈ wds, w ∈ cds ∨ w ∈ bds
  | _, _, _, _, .nil, _ => ⟨[], .nil, nofun⟩
  | _, _, _, 0, .cons (ads := a1) (bds := a2) h r n, hn => ⟨bds ++ a2, .cons ot r fun a ha hc => hn a (List.mem_append_right _ hc) ha, fun w hw => (List.mem_append.mp hw).elim .inr fun z => .inl (List.mem_append_right _ z)⟩
  | _, _, _, m + 1, .cons (ads := a1) (bds := a2) h r n, hn => by
    obtain ⟨wds, k1, k2⟩ := OwL.set ot m r fun c hc => hn c (List.mem_append_right _ hc)
    refine ⟨a1 ++ wds, .cons h k1 fun a ha hc => ?_, fun w hw => ?_⟩
    · rcases k2 a hc with z | z
      · exact n a ha z
      · exact hn a (List.mem_append_left _ ha) z
    · rcases List.mem_append.mp hw with z | z
      · exact .inl (List.mem_append_left _ z)
      · rcases k2 w z with y | y
        · exact .inl (List.mem_append_right _ y)
        · exact .inr y
end
end Ac
namespace Ac
open PySem PySem.Spec PyProof.Rows L2
section
variable {rm : RM} {X : Cx} {k : Nat} {t : Sx} {W : WN} {fx : Fx rm} {xc : Nat → Ctx → rm.S → Prop} {σ : L2.St} {H F : Hp} {Γ : Ctx} {s : rm.S} {A : rm.A}
/-! ### xs[j] = e, within a tree -/
theorem n_setP {i : Nat} {ps : List Px} {cj c : E rm.S} {o j e : Expr} {p p2 : Pos} (ho : PE X o (tPx i ps)) (hj : PE X j (rdP W cj)) (he : PE X e (rdE W c)) (hsj : shp j = true) (hs : shp e = true) (hc : isComp e = false) (ht : isTupE e = false) : PS X (.Assign [.Subscript o j p2] e p) (rd1 W (.setP i ps cj c)) :=
  PS_imp (ps_asg he (pg_sub ho hj set_list (asg_sub hsj)) (swsub hs hc) (swsub2 ht)) fun D σ H q => by
    obtain ⟨fx, Γ, s, F, A, R, K, ko, q⟩ := q
    dsimp only [w1] at q
    refine ⟨fx, Γ, s, F, A, R, K.ex, ko.ex, wE_mono c (fun v Γ' s' q => ?_) q⟩
    intro y H' F' A' R' hx sb rv
    obtain ⟨bds, dv, q, ot, ok⟩ := owV_rd R' rv q
    obtain ⟨rp, q⟩ := q
    obtain ⟨x, js, a, vs, ads, d, e1, e2, e3, e4, e5, e6, e7⟩ := refP_rd R' rp
    have hl : ∀ a ∈ bds, fx.L a = none := fun a ha => (ok a ha).2.2.1
    have hls := ot.lists
    refine ⟨x, js, a, e3, e4, e5, fxA fx H' bds, Γ', s', F', A', R'.addLs ok, K.ex, fun n Γ s σ H F A R' z => ko.ex n Γ s σ H F A (R'.delLs hl) z, opnE_mono cj (fun z Γ2 s2 q => ?_) q⟩
    intro w H2 F2 A2 R2 hx2 sb2 ro
    obtain ⟨sp, q⟩ := q
    have lk := R2.lkAs hls
    have R3 := R2.delLs hl
    have ot2 : OwT H2 bds y dv := ot.mono (hx2.tup R'.ok) fun a ha => (lk a ha).1
    split at q
    · rename_i n
      have hm : ∀ es es', fSet n dv es = some es' → ∃ m, ixN es.length n = some m ∧ es' = es.set m dv := fun es es' hf => by
        unfold fSet at hf
        obtain ⟨m, h1, h2⟩ := Option.map_eq_some_iff.mp hf
        exact ⟨m, h1, h2.symm⟩
      unfold updX at q
      rw [sp.1, e1] at q
      rw [sp.2, e2] at q
      have q : (match updAt (fSet n dv) js d with | some d' => ∀ ads, K.nx (Ac.put Γ2 i (some (.tre ads d'))) s2 | none => False) := q
      split at q
      · rename_i d' hd
        obtain ⟨x', a', vs2, es, es', cds, g1, g2, g3, g4, g5, g5', g6⟩ := R3.updTre (i := i) (by rw [sp.1]; exact e1) hd
        rw [e3] at g1
        cases g1
        obtain ⟨x2, j1, ot0, oo⟩ := treAt R' e1
        rw [e3] at j1
        cases j1
        have h3' : AtP H2 x js (.ref a) := AtP.keep (f := fSet n dv) (hx2.tup R'.ok) ot0 (by rw [hd]; exact nofun) (fun b hb => by
          obtain ⟨us, z⟩ := ot0.lists b hb
          rw [z]
          exact (hx2.2 b _ z (oo b hb).2.1).1) e5
        have := AtP.det h3' g2
        cases this
        obtain ⟨m, m1, m2⟩ := hm _ _ g5
        subst m2
        obtain ⟨wds, k1, k2⟩ := OwL.set ot2 m g4 (fun c hc hb => (lk c hb).2.2.2 i ((ownA_tre (by rw [sp.1]; exact e1)).mpr (g5' c hc)))
        obtain ⟨ads', R4⟩ := g6 _ wds k1 fun w hw => by
          rcases k2 w hw with z | z
          · exact .inl z
          · exact .inr ⟨(lk w z).2.1, (lk w z).2.2.1, hl w z, (lk w z).2.2.2⟩
        refine ⟨a, vs2, n, m, rfl, flat_int ro.1, g3, by rw [g4.length]; exact m1, ?_⟩
        exact ko.nx _ _ _ _ _ _ R4 (q ads')
      · exact q.elim
    · exact q.elim
/-! ### name = [..], a tree -/
theorem n_asgLT {i : Nat} {y : Str} {own : List Nat} {tc : Tg} {it : It rm.S} {ce : E rm.S} {elt tg iter : Expr} {scope : Scope} {ol : List (Str × Nat)} {p p2 p3 : Pos} (hy : X.N[i]? = some y) (hyl : X.env.scope.names.lookup y = some .local)
    (hsw : swapsWith (.ListComp elt [⟨tg, iter, [], 0⟩] scope p) (some (.Name y p2)) p3.line X.env = pure true) (hol : ol.map (·.2) = own) (hc : X.calm = true) (hN : X.N.Nodup)
    (hi : PI X tg iter (rdI W it)) (ok : BlkOk X.N X.env.scope scope ol)
    (hg : ∀ (s : Shared) (H : Hp) (C : Addr) (cl : List (Str × Addr)) (fp : List Addr), PG (X.blk s H scope (compEnvC scope cl C X.env) fp) tg (rdG X.K tc))
    (he : ∀ (s : Shared) (H : Hp) (C : Addr) (cl : List (Str × Addr)) (fp : List Addr), PE (X.blk s H scope (compEnvC scope cl C X.env) fp) elt (rdE W0 ce)) (hs : shp iter = true) (hin : tgIn tc own) :
    PS X (.Assign [.Name y p2] (.ListComp elt [⟨tg, iter, [], 0⟩] scope p) p3) (rd1 W (.asgL i (.compT own tc it ce))) := by
  have h := ps_setLc (own := ol) hc hN hy hyl hsw hi ok hg (fun s H C cl fp => pts_nilT (rm := rm)) he (fold1 hs)
  rw [hol] at h
  refine PS_imp h fun D σ H q => ?_
  obtain ⟨fx, Γ, s, F, A, R, K, ko, q⟩ := q
  dsimp only [w1] at q
  refine (n_compT (p := p) hol hc hN hi ok hg he hs hin).2 σ H _ ⟨fx, Γ, s, F, A, R, K.ex, ko.ex, wE_mono _ (fun v Γ' s' q => ?_) q⟩
  intro y H' F' A' R' hx sb rv
  exact ko.nx _ _ _ _ _ _ (R'.putV rv) q
/-! ### a part of a tree, moved out -/
theorem n_mvI {i n : Nat} {x : Str} {kk : Nat} {p p2 p3 : Pos} (hv : PE X (.Name x p2) (tVar i)) : PE X (.Subscript (.Name x p2) (.Constant (.int n) kk p3) p) (rdE W (.mvI i n : E rm.S)) := by
  refine PE_imp (pe_ix ix_seq hv pe_int (plain1 rfl)) fun σ H Q q => ?_
  obtain ⟨fx, Γ, s, F, A, R, xc, xk, q⟩ := q
  unfold wE at q
  unfold treO at q
  split at q
  · rename_i ads d e
    unfold tupN at q
    split at q
    · rename_i ds
      split at q
      · rename_i d' hd
        obtain ⟨x0, h1, ot, oo⟩ := treAt R e
        cases ot with
        | tup ha ol =>
          rename_i a vs
          obtain ⟨v, bds, g1, g2, g3, _⟩ := ol.get hd
          have hn : n < vs.length := by
            rcases Nat.lt_or_ge n vs.length with h | h
            · exact h
            · rw [List.getElem?_eq_none h] at g1; cases g1
          refine ⟨_, h1, .inr (.inl ⟨a, vs, (n : Int), v, rfl, rfl, .inl (.inl ha), ?_, ?_⟩)⟩
          · unfold atI ixN
            rw [if_pos (by omega), if_pos (by omega)]
            exact g1
          · exact q bds v H F A R.drop (HX.refl H A) (Sub.refl F) ⟨g2, fun b hb => ⟨(oo b (g3 b hb)).1, (oo b (g3 b hb)).2.1, (oo b (g3 b hb)).2.2, R.letgo ((ownA_tre e).mpr (g3 b hb))⟩⟩
      · exact q.elim
    · exact q.elim
  · exact q.elim
/-! ### for row in rows: row.append(c) -/
theorem SR.less {Γ' : Ctx} (R : SR fx σ H Γ s F A) (hl : Γ'.length = Γ.length) (h : ∀ k v, look Γ' k = some v → look Γ k = some v) : SR fx σ H Γ' s F A where
  fh := R.fh
  fz := R.fz
  f0 := R.f0
  lk := R.lk
  a0 := R.a0
  ok := R.ok
  ln := hl.trans R.ln
  sl := fun i v e => R.sl i v (h i v e)
  dj := fun i j a s1 s2 => by
    have f : ∀ {i : Nat}, ownA σ Γ' i a → ownA σ Γ i a := fun {i} z => by
      cases e : look Γ' i with
      | none => unfold ownA at z; rw [e] at z; exact z.elim
      | some v => unfold ownA at z ⊢; rw [h i v e]; rw [e] at z; exact z
    exact R.dj i j a (f s1) (f s2)
theorem appAll_len {c : Int} : ∀ {ds ds' : List D}, appAll c ds = some ds' → ds'.length = ds.length
  | [], ds', e => by cases e; rfl
  | .list xs :: r, ds', e => by
    unfold appAll at e
    split at e
    · obtain ⟨r', h1, h2⟩ := Option.map_eq_some_iff.mp e
      subst h2
      rw [List.length_cons, List.length_cons, appAll_len h1]
    · cases e
  | .none :: _, _, e | .bool _ :: _, _, e | .int _ :: _, _, e | .str _ :: _, _, e | .tuple _ :: _, _, e | .dict _ :: _, _, e => by unfold appAll at e; cases e
theorem appAll_get {c : Int} : ∀ {ds ds' : List D} {i : Nat}, appAll c ds = some ds' → i < ds.length → ∃ xs, ds[i]? = some (.list xs) ∧ xs.length < big ∧ ds'[i]? = some (.list (xs ++ [.int c]))
  | [], _, _, _, h => absurd h (Nat.not_lt_zero _)
  | .list xs :: r, ds', i, e, h => by
    unfold appAll at e
    split at e
    · rename_i hb
      obtain ⟨r', h1, h2⟩ := Option.map_eq_some_iff.mp e
      subst h2
      cases i with
      | zero => exact ⟨xs, rfl, hb, rfl⟩
      | succ i =>
        obtain ⟨ys, g1, g2, g3⟩ := appAll_get (i := i) h1 (by simpa using h)
        exact ⟨ys, by simpa using g1, g2, by simpa using g3⟩
    · cases e
  | .none :: _, _, _, e, _ | .bool _ :: _, _, _, e, _ | .int _ :: _, _, _, e, _ | .str _ :: _, _, _, e, _ | .tuple _ :: _, _, _, e, _ | .dict _ :: _, _, _, e, _ => by unfold appAll at e; cases e
theorem done_get {ds ds' : List D} (hl : ds'.length = ds.length) {i : Nat} : (ds'.take i ++ ds.drop i)[i]? = ds[i]? := by
  by_cases h : i ≤ ds.length
  · rw [List.getElem?_append_right (by rw [List.length_take]; omega), List.length_take, Nat.min_eq_left (by omega), Nat.sub_self, List.getElem?_drop]
    rfl
  · rw [List.getElem?_eq_none (by rw [List.length_append, List.length_take, List.length_drop]; omega), List.getElem?_eq_none (by omega)]
theorem done_set {ds ds' : List D} (hl : ds'.length = ds.length) {i : Nat} {y : D} (hi : i < ds.length) (hy : ds'[i]? = some y) : (ds'.take i ++ ds.drop i).set i y = ds'.take (i + 1) ++ ds.drop (i + 1) := by
  have h1 : (ds'.take i).length = i := by rw [List.length_take]; omega
  rw [List.set_append_right _ _ (by omega), h1, Nat.sub_self]
  rw [List.drop_eq_getElem_cons hi, List.set_cons_zero]
  have e : ds'.take (i + 1) = ds'.take i ++ [y] := by
    rw [List.take_succ, hy]
    rfl
  rw [e, List.append_assoc]
  rfl
theorem ixN_at {n j : Nat} (hj : j < n) : ixN n (j : Int) = some j := by
  unfold ixN
  rw [if_pos (by omega), if_pos (by omega)]
  simp
theorem n_forA {i j : Nat} {c : Int} {x y z : Str} {kk : Nat} {p p1 p2 p3 p4 p5 p6 p7 : Pos} (hp : PassesOwn (model X.prog X.w) X.A X.env X.xe) (hc : X.calm = true) (hN : X.N.Nodup) (hj : X.N[j]? = some y) (hsj : Sto X y) (hx : PE X (.Name x p1) (tVar i)) (hy : PE X (.Name z p5) (tVar j)) (hl : (p3.endLine == p6.line) = true) :
    PS X (.For (.Name y p2) (.Name x p1) [.Expr (.Call (.Attribute (.Name z p5) "append" p3) [.Constant (.int c) kk p4] [] p6) p7] [] p) (rdS W (.forA i j c : Sm rm.S)) :=
  PS_imp (ps_for hp hc (pi_seq hx) (pg_name hN hj hsj.1 hsj.2) (pss_one (ps_expr (pe_bm PySem.F.plainAttrs_list PySem.F.slot_list_append PySem.F.type_list_append mt_append hy (pa_cons pe_int pa_nil) (hline := hl)))) (fold1 rfl)) fun D σ H q => by
    obtain ⟨fx, Γ, s, F, A, R, K, ko, q⟩ := q
    unfold wS forAX at q
    split at q
    · rename_i ads ds hi
      split at q
      · rename_i ds' hd
        obtain ⟨⟨nij, hjG⟩, hbig, q⟩ := q
        have hlen := appAll_len hd
        obtain ⟨x0, h1, ot, oo⟩ := treAt R hi
        cases ot with
        | lst ha ol na =>
          rename_i a vs ads
          refine ⟨_, h1, .inl ⟨a, rfl, ⟨vs, .inl (.inl ha)⟩, ?_⟩⟩
          refine ⟨fun n m σ2 H2 => m = ds.length - n ∧ n ≤ ds.length ∧ ∃ Γ2 ads2, SR fx σ2 H2 Γ2 s F A ∧ σ2[i]? = some (some (V.ref a)) ∧ look Γ2 i = some (.tre ads2 (.list (ds'.take n ++ ds.drop n))) ∧ Γ2.length = Γ.length ∧ look Γ2 j = none ∧ ∀ k, k ≠ i → k ≠ j → look Γ2 k = look Γ k,
            ⟨ds.length, rfl, Nat.zero_le _, Ac.put Γ j none, _, R.drop, h1, by rw [look_put_ne nij, hi]; rfl, put_length, ?_, fun k _ h => look_put_ne h⟩, ?_⟩
          · cases e : look (Ac.put Γ j none) j with
            | none => rfl
            | some v =>
              rcases look_put e with ⟨_, w⟩ | ⟨w, _⟩
              · cases w
              · exact absurd rfl w
          · rintro n m σ2 H2 ⟨rfl, hn, Γ2, ads2, R2, g1, g2, g3, g4, g5⟩
            obtain ⟨x2, k1, ot2, oo2⟩ := treAt R2 g2
            rw [g1] at k1
            cases k1
            cases ot2 with
            | lst ha2 ol2 na2 =>
              rename_i vs2 ads2
              have hl2 : vs2.length = ds.length := by rw [ol2.length, List.length_append, List.length_take, List.length_drop]; omega
              by_cases hlt : n < ds.length
              · obtain ⟨xs, f1, f2, f3⟩ := appAll_get hd hlt
                have e1 : (ds'.take n ++ ds.drop n)[n]? = some (.list xs) := (done_get hlen).trans f1
                obtain ⟨v, bds, v1, v2, v3, _⟩ := ol2.get e1
                refine .inr ⟨⟨vs2, v, .inl (.inl ha2), v1⟩, fun σ' H' => ∃ Γ2 ads2, SR fx σ' H' Γ2 s F A ∧ σ'[i]? = some (some (V.ref a)) ∧ look Γ2 i = some (.tre ads2 (.list (ds'.take (n + 1) ++ ds.drop (n + 1)))) ∧ Γ2.length = Γ.length ∧ look Γ2 j = none ∧ ∀ k, k ≠ i → k ≠ j → look Γ2 k = look Γ k,
                  fun σ' H' w => ⟨ds.length - (n + 1), by omega, rfl, hlt, w⟩, fun u H3 yy => ?_⟩
                obtain ⟨rfl, yy⟩ := yy
                have hu := yy vs2 (.inl (.inl ha2))
                rw [v1] at hu
                cases hu
                have R3 : SR fx (σ2.set j (some v)) H3 (Ac.put Γ2 j none) s F A := R2.putN
                have hb : updAt (fApp (.int c)) [(n : Int)] (.list (ds'.take n ++ ds.drop n)) = some (.list (ds'.take (n + 1) ++ ds.drop (n + 1))) := by
                  unfold updAt
                  have ix : ixN (ds'.take n ++ ds.drop n).length (n : Int) = some n := by
                    have : (ds'.take n ++ ds.drop n).length = ds.length := by rw [List.length_append, List.length_take, List.length_drop]; omega
                    rw [this]
                    exact ixN_at hlt
                  rw [ix]
                  show Option.bind ((ds'.take n ++ ds.drop n)[n]?) _ = _
                  rw [e1]
                  show Option.map _ (updAt (fApp (.int c)) [] (.list xs)) = _
                  unfold updAt fApp
                  rw [if_pos f2]
                  show some (PyData.list ((ds'.take n ++ ds.drop n).set n (.list (xs ++ [.int c])))) = _
                  rw [done_set hlen hlt f3]
                obtain ⟨x4, a4, vs4, es4, es4', cds4, q1, q2, q3, q4, q5, q5', q6⟩ := R3.updTre (i := i) (by rw [look_put_ne nij]; exact g2) hb
                rw [List.getElem?_set_ne (Ne.symm nij), g1] at q1
                cases q1
                obtain ⟨a5, vs5, v5, w1, w2, w3, w4⟩ := q2
                cases w1
                have ev : vs5 = vs2 := by
                  rcases w2 with w2 | w2 <;> rw [ha2] at w2 <;> first | (cases w2; rfl) | cases w2
                subst ev
                have ev : v5 = v := by
                  unfold atI at w3
                  rw [hl2, ixN_at hlt] at w3
                  have w3' : vs5[n]? = some v5 := w3
                  rw [v1] at w3'
                  exact (Option.some.inj w3').symm
                subst ev
                have w4 : V.ref a4 = v5 := w4
                subst w4
                unfold fApp at q5
                split at q5
                · rename_i hb4
                  cases q5
                  obtain ⟨ads6, R6⟩ := q6 (vs4 ++ [.int c]) (cds4 ++ []) (q4.append (OwL.one (.int c)) (fun _ _ => nofun)) fun w hw => .inl (by rw [List.append_nil] at hw; exact hw)
                  have hjl : j < σ2.length := by rw [← R2.ln, g3]; exact hjG
                  refine ⟨_, List.getElem?_set_self hjl, .inl ⟨rfl, _, SqL.of q3⟩, a4, vs4, .int c, rfl, rfl, q3, by rw [q4.length]; exact big_lt hb4, ?_⟩
                  refine ⟨_, ads6, R6, by rw [List.getElem?_set_ne (Ne.symm nij)]; exact g1, look_put_same (by rw [put_length]; exact look_lt g2), by rw [put_length, put_length]; exact g3, ?_, fun k h1 h2 => by rw [look_put_ne h1, look_put_ne h2]; exact g5 k h1 h2⟩
                  rw [look_put_ne (Ne.symm nij)]
                  cases e : look (Ac.put Γ2 j none) j with
                  | none => rfl
                  | some v =>
                    rcases look_put e with ⟨_, w⟩ | ⟨w, _⟩
                    · cases w
                    · exact absurd rfl w
                · cases q5
              · have e : n = ds.length := by omega
                subst e
                refine .inl ⟨⟨vs2, .inl (.inl ha2), by rw [hl2]; exact Nat.le_refl _⟩, ?_⟩
                rw [List.take_of_length_le (by omega), List.drop_length, List.append_nil] at g2
                refine ko.nx _ _ _ _ _ _ (R2.less (Γ' := Ac.put (Ac.put Γ j none) i (some (.tre (a :: ads2) (.list ds')))) (by rw [put_length, put_length]; exact g3.symm) fun k v e => ?_) (q _)
                rcases look_put e with ⟨rfl, w⟩ | ⟨h1, w⟩
                · rw [g2]; exact w
                · rcases look_put w with ⟨_, w⟩ | ⟨h2, w⟩
                  · cases w
                  · rw [g5 k h1 h2]; exact w
      · exact q.elim
    · exact q.elim
end
end Ac
namespace Ac
open PySem PySem.Spec PyProof.Rows L2
/-! ### a def that is handed a tree of one's own -/
def RVs (y : V) : Val → Prop
  | .dat d => scal d = true ∧ Rp (fun _ => none) y d
  | _ => False
/-- its promise: the tree is its own, what else stood stands; it tells a plain thing -/
def spO (φ : Summ) : Sp := fun vs H Q E => ∃ F x us ads d ds, vs = x :: us ∧ Sub F H ∧ OwT H ads x d ∧ (∀ a ∈ ads, F a = none) ∧ RpL F us ds ∧
  φ.run (d :: ds) (fun v => ∀ y H', (∀ a o, H a = some o → a ∉ ads → H' a = some o) → RVs y v → Q y H') (fun _ => False)
def GoodO (X : Cx) (k : Nat) (x : Str) (φ : Summ) : Prop := ∃ f fd ps, FnG X.prog X.w X.K X.mg X.base k f fd ps (spO φ) ∧ X.mg x = some (.ref f) ∧ PySem.W.keepIn X.K (.ref f) = true ∧ Binds X.K fd ps []
section
variable {rm : RM} {X : Cx} {k : Nat} {t : Sx} {W : WN} {fx : Fx rm} {xc : Nat → Ctx → rm.S → Prop} {σ : L2.St} {H F : Hp} {Γ : Ctx} {s : rm.S} {A : rm.A}
theorem SR.growX {H' : Hp} {ads : List Addr} (R : SR fx σ H Γ s F A) (ok : ∀ a ∈ ads, (∃ vs, H a = some (.lst vs)) ∧ F a = none ∧ ¬ rm.ft A a ∧ fx.L a = none ∧ NoOwn σ Γ a) (hh : ∀ a o, H a = some o → a ∉ ads → H' a = some o) : SR fx σ H' Γ s F A := by
  have htu : ∀ a us, H a = some (.tup us) → H' a = some (.tup us) := fun a us z => hh a _ z fun m => by
    obtain ⟨vs, e⟩ := (ok a m).1
    rw [z] at e
    cases e
  exact {
    fh := fun a o e => hh a o (R.fh a o e) fun m => by rw [(ok a m).2.1] at e; cases e
    fz := R.fz
    f0 := R.f0
    lk := fun a o e => ⟨hh a o (R.lk a o e).1 (fun m => by rw [(ok a m).2.2.2.1] at e; cases e), (R.lk a o e).2⟩
    a0 := R.a0
    ok := rm.frame R.ok (fun a ha => by
      cases e : H a with
      | none => exact absurd e (rm.ex R.ok ha)
      | some o => exact hh a o e fun m => (ok a m).2.2.1 ha) htu
    ln := R.ln
    sl := fun i w e => by
      obtain ⟨z, e1, e2⟩ := R.sl i w e
      refine ⟨z, e1, ?_⟩
      cases w with
      | own ys =>
        obtain ⟨a, vs, rfl, w2, w3⟩ := e2
        exact ⟨a, vs, rfl, hh _ _ w2 fun m => (ok a m).2.2.2.2 i ((ownA_own e).mpr e1), w3⟩
      | tre bds d => exact ⟨e2.1.mono htu (fun a ha => by obtain ⟨vs, z⟩ := e2.1.lists a ha; rw [z]; exact hh _ _ z fun m => (ok a m).2.2.2.2 i ((ownA_tre e).mpr ha)), e2.2⟩
      | shl b => obtain ⟨g1, g2, g3, g4, vs, g5, g6⟩ := e2; exact ⟨g1, g2, g3, g4, vs, hh _ _ g5 fun m => (ok b m).2.2.2.2 i ((ownA_shl e).mpr rfl), g6⟩
      | odi b n f => obtain ⟨g1, g2, g3, g4, vs, g5, g6⟩ := e2; exact ⟨g1, g2, g3, g4, vs, hh _ _ g5 fun m => (ok b m).2.2.2.2 i ((ownA_odi e).mpr rfl), g6⟩
      | _ => exact e2
    dj := R.dj }
/-- what names hold, read for a while -/
theorem lend_at {Γ : Ctx} : ∀ {js : List Nat} {j : Nat}, (∀ d, look Γ j = some (.dat d) → look (lendG js Γ) j = some (.dat d)) ∧ (∀ xs, look Γ j = some (.own xs) → look (lendG js Γ) j = some (.own xs) ∨ look (lendG js Γ) j = some (.dat (.list xs))) ∧
    (∀ ads d, look Γ j = some (.tre ads d) → look (lendG js Γ) j = some (.tre ads d) ∨ look (lendG js Γ) j = some (.dat d)) ∧ (j ∈ js → ∀ v, look (lendG js Γ) j = some v → (∀ xs, v ≠ .own xs) ∧ ∀ ads d, v ≠ .tre ads d)
  | [], j => ⟨fun d h => h, fun xs h => .inl h, fun ads d h => .inl h, nofun⟩
  | i :: r, j => by
    obtain ⟨h1, h2, h3, h4⟩ := lend_at (Γ := Γ) (js := r) (j := j)
    have e3 : lendG (i :: r) Γ = (match look (lendG r Γ) i with | some (.tre _ d) => Ac.put (lendG r Γ) i (some (.dat d)) | some (.own xs) => Ac.put (lendG r Γ) i (some (.dat (.list xs))) | _ => lendG r Γ) := rfl
    by_cases hj : j = i
    · subst hj
      have hl : ∀ {v}, look (lendG r Γ) j = some v → j < (lendG r Γ).length := fun h => look_lt h
      rw [e3]
      cases e : look (lendG r Γ) j with
      | none =>
        dsimp only
        refine ⟨fun d h => absurd (h1 d h) (by rw [e]; exact nofun), fun xs h => ?_, fun ads d h => ?_, fun _ v h => by rw [e] at h; cases h⟩
        · rcases h2 xs h with z | z <;> rw [e] at z <;> cases z
        · rcases h3 ads d h with z | z <;> rw [e] at z <;> cases z
      | some w =>
        have hlt := hl e
        cases w with
        | tre ads d =>
          dsimp only
          rw [look_put_same hlt]
          refine ⟨fun d' h => ?_, fun xs h => ?_, fun ads' d' h => ?_, fun _ v h => by cases h; exact ⟨nofun, nofun⟩⟩
          · have := h1 d' h; rw [e] at this; cases this
          · rcases h2 xs h with z | z <;> rw [e] at z <;> cases z
          · rcases h3 ads' d' h with z | z <;> rw [e] at z <;> cases z; exact .inr rfl
        | own ys =>
          dsimp only
          rw [look_put_same hlt]
          refine ⟨fun d' h => ?_, fun xs h => ?_, fun ads' d' h => ?_, fun _ v h => by cases h; exact ⟨nofun, nofun⟩⟩
          · have := h1 d' h; rw [e] at this; cases this
          · rcases h2 xs h with z | z <;> rw [e] at z <;> cases z; exact .inr rfl
          · rcases h3 ads' d' h with z | z <;> rw [e] at z <;> cases z
        | dat d =>
          dsimp only
          rw [e]
          exact ⟨fun d' h => by have := h1 d' h; rw [e] at this; exact this, fun xs h => by have := h2 xs h; rw [e] at this; exact this, fun ads d' h => by have := h3 ads d' h; rw [e] at this; exact this, fun _ v h => by cases h; exact ⟨nofun, nofun⟩⟩
        | _ =>
          dsimp only
          rw [e]
          exact ⟨fun d' h => by have := h1 d' h; rw [e] at this; exact this, fun xs h => by have := h2 xs h; rw [e] at this; exact this, fun ads d' h => by have := h3 ads d' h; rw [e] at this; exact this, fun _ v h => by cases h; exact ⟨nofun, nofun⟩⟩
    · have e4 : look (lendG (i :: r) Γ) j = look (lendG r Γ) j := by
        rw [e3]
        cases look (lendG r Γ) i with
        | none => rfl
        | some w => cases w <;> first | rfl | exact look_put_ne hj
      rw [e4]
      refine ⟨h1, h2, h3, fun m => h4 ?_⟩
      rcases List.mem_cons.mp m with z | z
      · exact absurd z hj
      · exact z
theorem lendD_rd {F1 : Hp} {Δ : Ctx} (R : SR fx σ H (lendG js0 Δ) s F1 A) : ∀ {js : List Nat} {ds : List D}, (∀ j ∈ js, j ∈ js0) → lendD js Δ = some ds → ∃ xs, RpL F1 xs ds ∧ Paired (fun (x : V) (i : Nat) => σ[i]? = some (some x)) xs js
  | [], ds, _, e => by cases e; exact ⟨[], .nil, .nil⟩
  | j :: r, ds, hs, e => by
    have key : ∀ d, look (lendG js0 Δ) j = some (.dat d) → ∀ ds', lendD r Δ = some ds' → ∃ xs, RpL F1 xs (d :: ds') ∧ Paired (fun (x : V) (i : Nat) => σ[i]? = some (some x)) xs (j :: r) := fun d hd ds' h' => by
      obtain ⟨xs, g1, g2⟩ := lendD_rd R (js := r) (fun j hj => hs j (List.mem_cons_of_mem _ hj)) h'
      obtain ⟨x, k1, k2⟩ := R.sl j _ hd
      exact ⟨x :: xs, .cons k2 g1, .cons k1 g2⟩
    obtain ⟨h1, h2, h3, h4⟩ := lend_at (Γ := Δ) (js := js0) (j := j)
    have hj := hs j List.mem_cons_self
    unfold lendD at e
    split at e
    · rename_i d hd
      obtain ⟨ds', g1, g2⟩ := Option.map_eq_some_iff.mp e
      subst g2
      exact key d (h1 d hd) ds' g1
    · rename_i ys hd
      obtain ⟨ds', g1, g2⟩ := Option.map_eq_some_iff.mp e
      subst g2
      rcases h2 ys hd with z | z
      · exact absurd rfl ((h4 hj _ z).1 ys)
      · exact key _ z ds' g1
    · rename_i ads d hd
      obtain ⟨ds', g1, g2⟩ := Option.map_eq_some_iff.mp e
      subst g2
      rcases h3 ads d hd with z | z
      · exact absurd rfl ((h4 hj _ z).2 ads d)
      · exact key _ z ds' g1
    · cases e
theorem n_ifO {cl : Nat → Addr} {φ : Summ} {x : Str} {i : Nat} {js : List Nat} {c : E rm.S} {ct : Sms rm.S} {e0 b : Expr} {es r : List Expr} {sa : List Stmt} {p p2 p3 p4 p5 : Pos} (g : GoodO X k x φ) (hr : Room k X.A) (hgd : X.A.guards = some []) (hg : Gl X x) (tk : Takes X (WXof cl W))
    (ha : PA X (e0 :: es) (tNames (i :: js))) (hs : shpL (e0 :: es) = true) (hdb : (x == ("__debug__" : Str)) = false) (hc : PW X (.BoolOp .Or (b :: r) p4) (rdT W c)) (ht : PSs X sa (rdSs W ct)) :
    PS X (.If (.BoolOp .Or (.UnaryOp .Not (.Call (.Name x p2) (e0 :: es) [] p3) p5 :: b :: r) p4) sa [] p) (rdS W (.ifO x φ i js c ct)) := by
  obtain ⟨f, fd, ps, G, h1, h2, h3⟩ := g
  unfold shpL at hs
  rw [List.all_cons, Bool.and_eq_true] at hs
  have hcall := pe_callG (E := fun σ => WE (WXof cl W) σ) (pos := p3) (p := p2) G hr hgd hg h1 h2 h3 (fun σ => passAt tk σ) ha hdb (star1 hs.1) (stars hs.2)
  refine PS_imp (ps_if (pw_or (pt_not (pt_val hcall (tst1 rfl))) hc).pt ht pss_nil) fun D σ H q => ?_
  obtain ⟨fx, Γ, s, F, A, R, K, ko, q⟩ := q
  unfold wS at q
  unfold treO at q
  split at q
  · rename_i ads d e
    obtain ⟨hij, ds, hd, q⟩ := q
    obtain ⟨x0, k1, ot, oo⟩ := treAt R e
    have ok : OwOk fx σ F A (Ac.put Γ i none) ads := fun a ha => ⟨(oo a ha).1, (oo a ha).2.1, (oo a ha).2.2, R.letgo ((ownA_tre e).mpr ha)⟩
    have R1 := (R.drop (i := i)).addLs ok
    obtain ⟨F1, R2, sb, _⟩ := R1.lendR js
    obtain ⟨xs, g1, g2⟩ := lendD_rd R2 (fun j h => h) hd
    have hls := ot.lists
    have lk := R2.lkAs hls
    refine tNames_of (.cons k1 g2) ?_
    refine ⟨F1, x0, xs, ads, d, ds, rfl, R2.fh, ot, fun a ha => (lk a ha).2.1, g1, φ.mono (fun v q => ?_) (fun _ z => z) q⟩
    intro y H' hh rv
    have R3 : SR fx σ H' (Ac.put Γ i none) s F A := (R.drop (i := i)).growX (fun a ha => ⟨hls a ha, (ok a ha).1, (ok a ha).2.1, (ok a ha).2.2.1, (ok a ha).2.2.2⟩) hh
    cases v with
    | dat dd =>
      cases dd with
      | bool bb =>
        obtain ⟨_, rp⟩ := rv
        cases rp
        have q' : if bb = true then wT K.ex c (Ac.put Γ i none) s fun b' Γ1 s1 => if b' = true then wSs ct Γ1 s1 K else K.nx Γ1 s1 else wSs ct (Ac.put Γ i none) s K := q
        refine ⟨bb, rfl, ?_⟩
        cases bb with
        | true =>
          rw [if_pos rfl] at q'
          show (if (!true) = true then _ else _)
          rw [if_neg (by decide)]
          refine ⟨fx, _, s, F, A, R3, K.ex, ko.ex, opnE_mono c (fun d Γ' s' q => ?_) q'⟩
          refine boolD_mono (fun b q => ?_) q
          intro H2 F2 A2 R4 hx sb2
          exact ite_mono (fun q => ⟨fx, Γ', s', F2, A2, R4, K, ko, q⟩) (fun q => ko.nx _ _ _ _ _ _ R4 q) q
        | false =>
          rw [if_neg (by decide)] at q'
          show (if (!false) = true then _ else _)
          rw [if_pos (show (!false) = true from rfl)]
          show (if true = true then _ else _)
          rw [if_pos (show true = true from rfl)]
          exact ⟨fx, _, s, F, A, R3, K, ko, q'⟩
      | _ => exact q.elim
    | _ => exact q.elim
  · exact q.elim
end
end Ac
namespace Ac
open PySem PySem.Spec PyProof.Rows L2
/-! ### texts: split, partition, join, strip; a text so many times -/
section
variable {rm : RM} {X : Cx} {k : Nat} {t : Sx} {W : WN} {fx : Fx rm} {xc : Nat → Ctx → rm.S → Prop} {σ : L2.St} {H F : Hp} {Γ : Ctx} {s : rm.S} {A : rm.A}
theorem strX_some {d : D} {P : Prop} (h : strX d P) : ∃ z, d = .str z ∧ P := by
  cases d <;> first | exact ⟨_, rfl, h⟩ | exact h.elim
theorem RpL.strs {F : Hp} : ∀ ys : List Str, RpL F (ys.map V.str) (ys.map PyData.str)
  | [] => .nil
  | y :: r => .cons (.str y) (RpL.strs r)
theorem strsD_eq : ∀ {xs : List D} {ys : List Str}, strsD xs = some ys → xs = ys.map PyData.str
  | [], ys, h => by cases h; rfl
  | .str i :: r, ys, h => by
    have h' : (strsD r).map (i :: ·) = some ys := h
    cases e : strsD r with
    | none => rw [e] at h'; cases h'
    | some ms =>
      rw [e] at h'
      cases h'
      rw [strsD_eq e]
      rfl
  | .none :: _, _, h => by cases h
  | .bool _ :: _, _, h => by cases h
  | .int _ :: _, _, h => by cases h
  | .list _ :: _, _, h => by cases h
  | .tuple _ :: _, _, h => by cases h
  | .dict _ :: _, _, h => by cases h
theorem strsD_map : ∀ ys : List Str, strsD (ys.map PyData.str) = some ys
  | [] => rfl
  | n :: r => by
    show (strsD (r.map PyData.str)).map (n :: ·) = _
    rw [strsD_map r]
    rfl
theorem RpL.of_strs {F : Hp} : ∀ {vs : List V} {ys : List Str}, RpL F vs (ys.map PyData.str) → vs = ys.map V.str
  | _, [], .nil => rfl
  | _, n :: r, .cons h t => by
    cases h
    rw [RpL.of_strs t]
    rfl
theorem tx_rd {ca cb : E rm.S} {o : T2} {r : V → List V → Hp → VK → Prop}
    (hr : ∀ (rm : RM) (fx : Fx rm) (σ : L2.St) (H : Hp) (Γ : Ctx) (s : rm.S) (F : Hp) (A : rm.A) (x y : V) (d e : D) (Q : VK), SR fx σ H Γ s F A → Ro H F A x d → Ro H F A y e → txD o d e (KQ fx σ H F A Γ s Q) → r x [y] H Q)
    {Q : VK} (q : rdE W (.tx o ca cb) σ H Q) : tM1 r (rdP W ca) (rdP W cb) σ H Q := by
  obtain ⟨fx, Γ, s, F, A, R, xc, xk, q⟩ := q
  unfold wE at q
  refine ⟨fx, Γ, s, F, A, R, xc, xk, opnE_mono ca (fun d Γ1 s1 h => ?_) q⟩
  intro x H1 F1 A1 R1 hx1 sb1 ro1
  obtain ⟨z, rfl, h⟩ := strX_some h
  refine ⟨⟨z, flat_str ro1.1⟩, fx, Γ1, s1, F1, A1, R1, xc, xk, opnE_mono cb (fun e Γ2 s2 h => ?_) h⟩
  intro y H2 F2 A2 R2 hx2 sb2 ro2
  exact hr rm fx σ H2 Γ2 s2 F2 A2 x y _ e Q R2 (ro1.1.mono hx2 sb2) ro2.1 (txD_mono (fun v q => q.kq (hx1.trans hx2) (sb1.trans sb2)) h)
theorem n_tx {ca cb : E rm.S} {o : T2} {a b : Expr} {p p2 : Pos} (ho : isMul o = false) (ha : PE X a (rdP W ca)) (hb : PE X b (rdP W cb)) (hba : baseB a = true) (hs : shp b = true) (hl : (p2.endLine == p.line) = true) :
    PE X (.Call (.Attribute a (txN o) p2) [b] [] p) (rdE W (.tx o ca cb)) := by
  cases o with
  | mulS => cases ho
  | split =>
    refine PE_imp (pe_split ha hb (star1 hs) (base_of hba) hl) fun σ H Q q => tx_rd ?_ q
    intro rm fx σ H Γ s F A x y d e Q R hx hy h
    dsimp only [txD] at h
    unfold txSplit at h
    split at h
    · rename_i u v
      exact ⟨u, v, flat_str hx, by rw [flat_str hy], h.1.1, Nat.le_trans (Nat.add_le_add_right h.1.2 2) (by decide), fun p hp => KQ.mk R hp (RpL.strs _) h.2⟩
    · exact h.elim
  | part =>
    refine PE_imp (pe_partition ha hb (star1 hs) (base_of hba) hl) fun σ H Q q => tx_rd ?_ q
    intro rm fx σ H Γ s F A x y d e Q R hx hy h
    dsimp only [txD] at h
    unfold txPart at h
    split at h
    · rename_i u v
      exact ⟨u, v, flat_str hx, by rw [flat_str hy], h.1.1, big_sz h.1.2, fun p hp => KQ.mkT R hp (.cons (.str _) (.cons (.str _) (.cons (.str _) .nil))) h.2⟩
    · exact h.elim
  | join =>
    refine PE_imp (pe_join ha hb (star1 hs) (base_of hba) hl) fun σ H Q q => tx_rd ?_ q
    intro rm fx σ H Γ s F A x y d e Q R hx hy h
    dsimp only [txD] at h
    unfold txJoin at h
    split at h
    · rename_i u xs
      obtain ⟨ys, e1, e2, e3⟩ := h
      obtain rfl := strsD_eq e1
      obtain ⟨p, vs, rfl, q1, r1⟩ := hy.lst R.fh
      obtain rfl := r1.of_strs
      exact ⟨u, p, ys, flat_str hx, rfl, .inl (.inl q1), Nat.le_trans e2 (by decide), KQ.dat R (.str _) e3⟩
    · exact h.elim
  | strip =>
    refine PE_imp (pe_m1 PySem.F.slot_str_strip PySem.F.type_str_strip mt_stripChars ha hb (star1 hs) (base_of hba) hl) fun σ H Q q => tx_rd ?_ q
    intro rm fx σ H Γ s F A x y d e Q R hx hy h
    dsimp only [txD] at h
    unfold txStrip at h
    split at h
    · rename_i u v
      exact ⟨u, v, flat_str hx, by rw [flat_str hy], big_sz h.1, KQ.dat R (.str _) h.2⟩
    · exact h.elim
theorem rep_fold (l : List Nat) : ∀ (m : Nat) (acc : List Nat), List.foldl (fun x y => x ++ y) acc.toArray (List.replicate m l.toArray) = (acc ++ (List.replicate m l).flatten).toArray
  | 0, acc => by simp
  | m + 1, acc => by
    rw [List.replicate_succ, List.foldl_cons, List.replicate_succ, List.flatten_cons, ← List.append_assoc]
    have : acc.toArray ++ l.toArray = (acc ++ l).toArray := by simp
    rw [this]
    exact rep_fold l m (acc ++ l)
def rRepS : R2 := fun x y H Q => ∃ (z : Str) (n : Int), x = .str z ∧ y = .int n ∧ 0 ≤ n ∧ n ≤ 1000 ∧ z.length ≤ 100 ∧ Q (.str (repS z n.toNat)) H
theorem op_repS : OpR X (binaryOp .Mult) rRepS := by
  intro pins s σ H x y v u Q I rx ry h
  obtain ⟨z, n, rfl, rfl, h0, h1, h2, q⟩ := h
  obtain ⟨t, rfl⟩ := rx
  obtain ⟨t', rfl⟩ := ry
  have hf : List.foldl (fun x y => x ++ y) #[] (List.replicate n.toNat z.cps) = (repS z n.toNat).cps := by
    have := rep_fold z.cps.toList n.toNat []
    simpa [repS] using this
  refine PySem.P.mul_str ?_ ?_ ?_ ?_
  · rw [decide_eq_false (by omega), decide_eq_false (by omega)]; rfl
  · intro a b
    have : (z.length : Int) ≤ 100 := by omega
    have h3 : (1000 : Int) ≤ (2 ^ 63 - 1) / n := by
      rw [Int.le_ediv_iff_mul_le (by omega)]
      omega
    omega
  · intro a b
    have : z.length * n.toNat ≤ 100 * 1000 := Nat.mul_le_mul h2 (by omega)
    show decide (z.length * n.toNat > sizeLine) = false
    exact decide_eq_false (Nat.not_lt.mpr (Nat.le_trans this (by decide)))
  · split
    · have : n = 0 := by omega
      subst this
      refine ⟨by decide, .str _, H, I.tok _, ⟨_, rfl⟩, ?_⟩
      exact q
    · split
      · rename_i a b
        refine ⟨.str z, H, I.tok _, ⟨t, rfl⟩, ?_⟩
        have e : repS z n.toNat = z := by
          rw [Bool.or_eq_true] at b
          unfold repS
          rcases b with b | b
          · have : n = 1 := by simpa using b
            subst this
            simp
          · have : z.cps.toList = [] := by
              have : z.length = 0 := by simpa using b
              unfold Str.length at this
              simpa using this
            rw [this]
            have : z = ⟨#[]⟩ := by
              cases z
              simp at this ⊢
              exact this
            rw [this]
            simp
        rw [e] at q
        exact q
      · rw [hf]
        refine ⟨?_, .str _, H, I.tok _, ⟨_, rfl⟩, q⟩
        have h4 : (repS z n.toNat).length = n.toNat * z.length := by
          unfold repS Str.length
          simp
        have h5 : n.toNat * z.length ≤ 1000 * 100 := Nat.mul_le_mul (by omega) h2
        exact Nat.le_trans (Nat.le_of_eq h4) (Nat.le_trans h5 (by decide))
theorem n_mulS {ca cb : E rm.S} {a b : Expr} {p : Pos} (ha : PE X a (rdP W ca)) (hb : PE X b (rdP W cb)) : PE X (.BinOp a .Mult b p) (rdE W (.tx .mulS ca cb)) := by
  refine PE_imp (pe_op op_repS ha hb) fun σ H Q q => ?_
  obtain ⟨fx, Γ, s, F, A, R, xc, xk, q⟩ := q
  unfold wE at q
  refine op_rd (f := binaryOp .Mult) (g := fun x y k => strX x (txMul x y k)) ?_ ?_ R xk (opnE_mono ca (fun d Γ1 s1 q => ?_) q)
  · intro rm fx σ H Γ s F A x y d e Q R hx hy h
    obtain ⟨z, rfl, h⟩ := strX_some h
    cases e with
    | int n => exact ⟨_, n, flat_str hx, flat_int hy, h.1.1, h.1.2.1, h.1.2.2, KQ.dat R (.str _) h.2⟩
    | _ => exact h.elim
  · intro x y k k' hk h
    exact strX_mono (fun h => txD_mono (o := .mulS) hk h) h
  · obtain ⟨z, rfl, q⟩ := strX_some q
    exact opnE_mono cb (fun e Γ2 s2 q => q) q
end
end Ac
namespace Ac
open PySem PySem.Spec PyProof.Rows L2
/-! ### a dict of one's own, its keys texts -/
section
variable {rm : RM} {X : Cx} {k : Nat} {t : Sx} {W : WN} {fx : Fx rm} {xc : Nat → Ctx → rm.S → Prop} {σ : L2.St} {H F : Hp} {Γ : Ctx} {s : rm.S} {A : rm.A}
theorem odiO_some {v : Option Val} {k : Addr → Nat → (Str → Option D) → Prop} (h : odiO v k) : ∃ b n f, v = some (.odi b n f) ∧ k b n f := by
  unfold odiO at h
  split at h
  · exact ⟨_, _, _, rfl, h⟩
  · exact h.elim
theorem strO_some {v : Option Val} {k : Str → Prop} (h : strO v k) : ∃ z, v = some (.dat (.str z)) ∧ k z := by
  unfold strO at h
  split at h
  · exact ⟨_, rfl, h⟩
  · exact h.elim
theorem datO_some {v : Option Val} {k : D → Prop} (h : datO v k) : ∃ d, v = some (.dat d) ∧ k d := by
  unfold datO at h
  split at h
  · exact ⟨_, rfl, h⟩
  · exact h.elim
theorem n_dGet {i j m : Nat} {x y z : Str} {p p1 p2 p3 p4 : Pos} (hu : X.A.units + 1 < cLine) (hx : PE X (.Name x p1) (tVar i)) (hy : PE X (.Name y p3) (tVar j)) (hz : PE X (.Name z p4) (tVar m)) (hl : (p2.endLine == p.line) = true) :
    PE X (.Call (.Attribute (.Name x p1) "get" p2) [.Name y p3, .Name z p4] [] p) (rdE W (.dGet i j m : E rm.S)) := by
  refine PE_imp (pe_dget2 hu hx hy hz ⟨rfl, rfl, hl, rfl⟩) fun σ H Q q => ?_
  obtain ⟨fx, Γ, s, F, A, R, xc, xk, q⟩ := q
  unfold wE at q
  obtain ⟨b, n, f, e1, q⟩ := odiO_some q
  obtain ⟨w, e2, q⟩ := strO_some q
  obtain ⟨d, e3, q⟩ := datO_some q
  obtain ⟨x0, h1, rfl, g2, g3, g4, us, g5, g6, g7⟩ := R.sl i _ e1
  obtain ⟨y0, h2, ry⟩ := R.sl j _ e2
  obtain ⟨z0, h3, rz⟩ := R.sl m _ e3
  have ry' : Rp F y0 (.str w) := ry
  have rz' : Rp F z0 d := rz
  cases ry'
  refine ⟨_, h1, b, rfl, .inl ⟨us, .inl g5⟩, _, h2, _, h3, valV us (.inr w), DGet.k (k := .inr w) g5, ?_⟩
  have g := g7 w
  refine q _ H F A R (HX.refl H A) (Sub.refl F) ?_
  show Rp F _ _
  cases e : f w with
  | none =>
    rw [e] at g
    rw [g]
    exact rz'
  | some d' =>
    rw [e] at g
    obtain ⟨x1, q1, q2⟩ := g
    rw [q1]
    exact q2
theorem n_asgD {i : Nat} {x : Str} {p p2 p3 : Pos} (hN : X.N.Nodup) (hi : X.N[i]? = some x) (hx : Sto X x) : PS X (.Assign [.Name x p2] (.Dict [] [] p3) p) (rd1 W (.asgD i : St1 rm.S)) :=
  PS_imp (ps_set hN hi hx.1 pe_dnewK (swap1 rfl rfl) hx.2) fun D σ H q => by
    obtain ⟨fx, Γ, s, F, A, R, K, ko, q⟩ := q
    dsimp only [w1] at q
    intro b hb
    have R1 := R.alloc (o := .dK []) hb
    exact ko.nx _ _ _ _ _ _ (R1.put (v := some (.odi b 0 fun _ => none)) (fun w e => by
      cases e
      exact ⟨rfl, R.nF hb, R.nft hb, R.nL hb, [], upd_same, Nat.le_refl 0, fun z => rfl⟩) (fun a e j ne => by
      have e' : a = b := e
      subst e'
      exact R.noOwn hb j)) (q b)
theorem SR.chgOdi (R : SR fx σ H Γ s F A) {i : Nat} {b : Addr} {n m : Nat} {f g : Str → Option D} {us : List (Key × V)} (h : look Γ i = some (.odi b n f)) (hl : us.length ≤ m) (r : DkV F us g) : SR fx σ (upd H b (.dK us)) (Ac.put Γ i (some (.odi b m g))) s F A := by
  obtain ⟨x, hs, rfl, e3, e4, e5, us0, e2, _, _⟩ := R.sl i _ h
  exact {
    fh := fun a u e => by
      have hb : a ≠ b := fun z => by rw [z, e3] at e; cases e
      rw [upd_ne hb]; exact R.fh a u e
    fz := R.fz
    f0 := R.f0
    lk := fun a u e => by
      have hb : a ≠ b := fun z => by rw [z, e5] at e; cases e
      rw [upd_ne hb]; exact R.lk a u e
    a0 := R.a0
    ok := rm.frame R.ok (fun q hq => upd_ne fun z => e4 (by rw [← z]; exact hq)) fun q vs e => by rw [upd_ne (fun z => by rw [z, e2] at e; cases e)]; exact e
    ln := by rw [put_length]; exact R.ln
    sl := fun j w e => by
      rcases look_put e with ⟨rfl, z⟩ | ⟨ne, e'⟩
      · cases z
        exact ⟨_, hs, rfl, e3, e4, e5, us, upd_same, hl, r⟩
      · obtain ⟨y, q1, q2⟩ := R.sl j w e'
        refine ⟨y, q1, ?_⟩
        cases w with
        | dat d => exact q2
        | new xs => exact q2
        | hdl k => exact q2
        | hds ks => exact q2
        | own zs =>
          obtain ⟨a, vs, rfl, w2, w3⟩ := q2
          exact ⟨a, vs, rfl, by rw [upd_ne (fun z => by rw [z, e2] at w2; cases w2)]; exact w2, w3⟩
        | tre ads d => exact ⟨q2.1.mono (fun c vs z => by rw [upd_ne (fun y => by rw [y, e2] at z; cases z)]; exact z) (fun c hc => upd_ne fun y => by
            obtain ⟨vs, z⟩ := q2.1.lists c hc
            rw [y, e2] at z
            cases z), q2.2⟩
        | shl a =>
          obtain ⟨g1, g2, g3, g4, vs, g5, g6⟩ := q2
          exact ⟨g1, g2, g3, g4, vs, by rw [upd_ne (fun y => by rw [y, e2] at g5; cases g5)]; exact g5, g6⟩
        | odi a k f =>
          obtain ⟨g1, g2, g3, g4, vs, g5, g6⟩ := q2
          have hb : a ≠ b := fun z => ne (R.dj j i b ((ownA_odi e').mpr z.symm) ((ownA_odi h).mpr rfl))
          exact ⟨g1, g2, g3, g4, vs, by rw [upd_ne hb]; exact g5, g6⟩
    dj := fun j l a s1 s2 => by
      have f : ∀ {j : Nat}, ownA σ (Ac.put Γ i (some (.odi b m g))) j a → ownA σ Γ j a := fun {j} z => by
        by_cases n : j = i
        · subst n; exact (ownA_odi h).mpr (ownA_at z)
        · exact (ownA_neG n).mp z
      exact R.dj j l a (f s1) (f s2) }
theorem n_dSet {i j m : Nat} {x y z : Str} {p p1 p2 p3 p4 : Pos} (hu : X.A.units + 1 < cLine) (hx : PE X (.Name x p1) (tVar i)) (hy : PE X (.Name y p3) (tVar j)) (hz : PE X (.Name z p4) (tVar m)) :
    PS X (.Assign [.Subscript (.Name x p1) (.Name y p3) p2] (.Name z p4) p) (rd1 W (.dSet i j m : St1 rm.S)) :=
  PS_imp (ps_dput hu hx hy hz (swap1 rfl rfl)) fun D σ H q => by
    obtain ⟨fx, Γ, s, F, A, R, K, ko, q⟩ := q
    dsimp only [w1] at q
    obtain ⟨b, n, f, e1, q⟩ := odiO_some q
    obtain ⟨w, e2, q⟩ := strO_some q
    obtain ⟨d, e3, hn, q⟩ := datO_some q
    obtain ⟨x0, h1, rfl, g2, g3, g4, us, g5, g6, g7⟩ := R.sl i _ e1
    obtain ⟨y0, h2, ry⟩ := R.sl j _ e2
    obtain ⟨z0, h3, rz⟩ := R.sl m _ e3
    have ry' : Rp F y0 (.str w) := ry
    have rz' : Rp F z0 d := rz
    cases ry'
    refine ⟨z0, h3, _, h1, _, h2, b, _, rfl, DPut.k (k := .inr w) g5 (big_lt (Nat.lt_of_le_of_lt g6 hn)), ?_⟩
    refine ko.nx _ _ _ _ _ _ (R.chgOdi (m := n + 1) (g := setF f w d) e1 (Nat.le_trans (length_putK us (.inr w) z0) (Nat.succ_le_succ g6)) fun v => ?_) q
    have hv := valV_put us (.inr w) (.inr v) z0
    unfold setF
    by_cases e : v = w
    · subst e
      rw [if_pos rfl] at hv ⊢
      exact ⟨z0, hv, rz'⟩
    · rw [if_neg (fun z => e (Sum.inr.inj z))] at hv
      rw [if_neg e]
      have g := g7 v
      cases e : f v with
      | none => rw [e] at g; exact hv.trans g
      | some d' =>
        rw [e] at g
        obtain ⟨x1, q1, q2⟩ := g
        exact ⟨x1, hv.trans q1, q2⟩
end
end Ac
namespace Ac
open PySem PySem.Spec PyProof.Rows L2

/-! ### the checker: PySem's tree is the one meant -/
def sVis (sc : Scope) (x : Str) : Bool := match sc.names.lookup x with
  | some .local => true
  | some .cell => true
  | some .free => true
  | _ => false
def sGl (sc : Scope) (x : Str) : Bool := match sc.names.lookup x with
  | some .globalImplicit => true
  | _ => false
def sSto (t : Sx) (x : Str) : Bool := match t.sc.names.lookup x with
  | some .local => true
  | some .cell => t.fb x
  | _ => false
def plainN (x : Str) : Bool := !(x == ("__debug__" : Str)) && !(x == ("__classdict__" : Str)) && !(decide (x = ("__name__" : Str)))
def hasB (t : Sx) (x : Str) : Bool := sGl t.sc x && decide (x ∈ t.bn) && plainN x
def chNm (t : Sx) (i : Nat) : Expr → Bool
  | .Name x _ => decide (t.N[i]? = some x) && sVis t.sc x && plainN x
  | _ => false
def chNms (t : Sx) : List Nat → List Expr → Bool
  | [], [] => true
  | i :: r, e :: es => chNm t i e && chNms t r es
  | _, _ => false
def chTn (t : Sx) : List Nat → List Expr → Bool
  | [], [] => true
  | i :: is, .Name x _ :: es => decide (t.N[i]? = some x) && sSto t x && chTn t is es
  | _, _ => false
def chTg (t : Sx) : Tg → Expr → Bool
  | .nm i, .Name x _ => decide (t.N[i]? = some x) && sSto t x
  | .tp is, .Tuple es _ _ => chTn t is es
  | _, _ => false
/-- a built-in of its own kind: a function, a type -/
def biN : BI → Option (Bool × String)
  | .len => some (false, "len") | .min2 => some (false, "min") | .max2 => some (false, "max") | .minL => some (false, "min") | .maxL => some (false, "max")
  | .sum => some (false, "sum") | .sorted => some (false, "sorted") | .list => some (true, "list") | .tuple => some (true, "tuple") | .abs => some (false, "abs")
  | .int => some (true, "int") | .str => some (true, "str") | .sortP => some (false, "sorted") | .sortT => some (false, "sorted") | .repr => some (false, "repr") | .dictP => some (true, "dict") | _ => none
def biI : BI → Option String
  | .isint => some "int" | .isbool => some "bool" | .islist => some "list" | .istuple => some "tuple" | .isstr => some "str" | _ => none
def isOne {α : Type} : List α → Bool
  | [_] => true
  | _ => false
def esLen {S : Type} : Es S → Nat
  | .nil => 0
  | .cons _ r => esLen r + 1
/-- how many arguments -/
def biA : BI → Nat
  | .min2 => 2
  | .max2 => 2
  | _ => 1
def subT (t : Sx) (scope : Scope) : Sx := { t with sc := relS scope t.sc, fb := fun x => scope.names.lookup x == some .cell }
def ownOf (t : Sx) (own : List Nat) : List (Str × Nat) := own.filterMap fun i => (t.N[i]?).map fun x => (x, i)
def tgSub : Tg → List Nat → Bool
  | .nm i, vs => decide (i ∈ vs)
  | .tp is, vs => is.all fun i => decide (i ∈ vs)
section
variable {S : Type}
def isVarE : E S → Bool
  | .var _ => true
  | _ => false
/-- names of classes of errors -/
def chCls (t : Sx) : List Nat → List Expr → Bool
  | [], [] => true
  | n :: ns, .Name z _ :: es => decide (z = exName n) && okCl n && sGl t.sc z && chCls t ns es
  | _, _ => false
def chIsC (i : Nat) (tp : Bool) (ns : List Nat) (t : Sx) (e : Expr) : Bool := match e with
  | .Call (.Name y _) [e0, .Name z pz] [] _ => !tp && t.xt && decide (y = ("isinstance" : Str)) && hasB t y && chNm t i e0 && chCls t ns [.Name z pz]
  | .Call (.Name y _) [e0, .Tuple es _ _] [] _ => tp && t.xt && decide (y = ("isinstance" : Str)) && hasB t y && chNm t i e0 && chCls t ns es && decide (ns.length ≤ 100)
  | _ => false
mutual
def chE : E S → Sx → Expr → Bool
  | .var i => fun t e => chNm t i e
  | .non => fun _ e => match e with | .Constant .none _ _ => true | _ => false
  | .bl b => fun _ e => match e with | .Constant (.bool c) _ _ => decide (b = c) | _ => false
  | .int i => fun _ e => match e with | .Constant (.int j) _ _ => decide (i = j) | _ => false
  | .str x => fun _ e => match e with | .Constant (.str y) _ _ => decide (x = y) | _ => false
  | .glb x i => fun t e => match e with | .Name y _ => decide (x = y) && sGl t.sc x && decide (t.cn.lookup x = some i) && plainN x | _ => false
  | .glbS x z => fun t e => match e with | .Name y _ => decide (x = y) && sGl t.sc x && decide (t.cs.lookup x = some z) && plainN x | _ => false
  | .tx o a b => fun t e => match e with
    | .BinOp ea o' eb _ => isMul o && decide (o' = .Mult) && chE a t ea && chE b t eb
    | .Call (.Attribute ea y p2) [eb] [] p => !(isMul o) && decide (y = txN o) && baseB ea && (p2.endLine == p.line) && chE a t ea && chE b t eb && shp eb
    | _ => false
  | .op o a b => fun t e => match e with | .BinOp ea o' eb _ => decide (o = o') && chE a t ea && chE b t eb | _ => false
  | .neg a => fun t e => match e with | .UnaryOp .USub ea _ => chE a t ea | _ => false
  | .nt a => fun t e => match e with | .UnaryOp .Not ea _ => chE a t ea | _ => false
  | .an a b => fun t e => match e with | .BoolOp .And (ea :: eb :: r) _ => chE a t ea && (match r with | [] => chE b t eb | _ :: _ => chAn b t (eb :: r)) | _ => false
  | .or a b => fun t e => match e with | .BoolOp .Or (ea :: eb :: r) _ => chE a t ea && (match r with | [] => chE b t eb | _ :: _ => chOr b t (eb :: r)) | _ => false
  | .cmp o a b => fun t e => match e with | .Compare ea [o'] [eb] _ => decide (o = o') && chE a t ea && chE b t eb && shp eb | _ => false
  | .ch o o' a b c => fun t e => match e with | .Compare ea [p, p'] [eb, ec] _ => decide (o = p) && decide (o' = p') && chE a t ea && chE b t eb && chE c t ec && !(lastMarks [p, p'] [eb, ec]) | _ => false
  | .isn pz a => fun t e => match e with | .Compare ea [o] [.Constant .none _ _] _ => decide (o = if pz then CmpOp.Is else CmpOp.IsNot) && chE a t ea | _ => false
  | .isb pz b a => fun t e => match e with | .Compare ea [o] [.Constant (.bool c) _ _] _ => decide (o = if pz then CmpOp.Is else CmpOp.IsNot) && decide (b = c) && chE a t ea | _ => false
  | .ix a b => fun t e => match e with | .Subscript ea eb _ => chE a t ea && chE b t eb && shp eb | _ => false
  | .sl a lo hi => fun t e => match e with | .Subscript ea (.Slice l h none _) _ => chE a t ea && chP lo t l && chP hi t h | _ => false
  | .rv a => fun t e => match e with | .Subscript ea (.Slice none none (some (.UnaryOp .USub (.Constant (.int 1) _ _) _)) _) _ => chE a t ea | _ => false
  | .ls es => fun t e => match e with | .List xs _ => chEs es t xs | _ => false
  | .tp es => fun t e => match e with | .Tuple xs _ _ => chEs es t xs | _ => false
  | .rep es b => fun t e => match e with | .BinOp (.List xs _) .Mult eb _ => chEs es t xs && chE b t eb | _ => false
  | .comp own tg it c ce => fun t e => match e with
    | .ListComp elt [⟨tge, iter, ifs, z⟩] scope _ => decide (z = 0) && chI it t tge iter && blkC t.N t.sc scope (ownOf t own) && decide ((ownOf t own).map (·.2) = own) && chTg (subT t scope) tg tge && chC c (subT t scope) ifs && chE ce (subT t scope) elt && shp iter && tgSub tg own
    | _ => false
  | .call x _ es => fun t e => match e with | .Call (.Name y _) (e0 :: er) [] _ => decide (x = y) && sGl t.sc x && plainN x && chEs es t (e0 :: er) | _ => false
  | .cal0 x _ => fun t e => match e with | .Call (.Name y _) [] [] _ => decide (x = y) && sGl t.sc x && plainN x | _ => false
  | .calE x _ es => fun t e => match e with | .Call (.Name y _) (e0 :: er) [] _ => decide (x = y) && sGl t.sc x && plainN x && chEs es t (e0 :: er) | _ => false
  | .bi b es => fun t e => match e with
    | .Call (.Name y _) (e0 :: er) [] _ => (match biN b with
      | some (_, n) => decide (y = PySem.Str.ofString n) && hasB t y && chEs es t (e0 :: er) && decide (esLen es = biA b)
      | none => (match biI b, er with
        | some n, [.Name z _] => decide (y = ("isinstance" : Str)) && hasB t y && decide (z = PySem.Str.ofString n) && hasB t z && chEs es t [e0]
        | _, _ => false))
    | _ => false
  | .mt m a es => fun t e => match e with | .Call (.Attribute (.Name x p3) y p2) [e0] [] p4 => decide (y = ("index" : Str)) && isVarE a && chE a t (.Name x p3) && chEs es t [e0] && (p2.endLine == p4.line) | _ => false
  | .pop _ _ => fun _ _ => false
  | .d0 => fun _ e => match e with | .Dict [] [] _ => true | _ => false
  | .d1 k v => fun t e => match e with | .Dict [some ek] [ev] _ => chE k t ek && chE v t ev | _ => false
  | .compM _ _ _ _ _ => fun _ _ => false
  | .srtS a => fun t e => match e with | .Call (.Name y _) [.Call (.Name z _) [e0] [] _] [] _ => decide (y = ("sorted" : Str)) && hasB t y && decide (z = ("set" : Str)) && hasB t z && chE a t e0 && shp e0 | _ => false
  | .srtL a => fun t e => match e with | .Call (.Name y _) [e0] [⟨some kw, .Name z _, _⟩] _ => decide (y = ("sorted" : Str)) && hasB t y && decide (z = ("len" : Str)) && hasB t z && chE a t e0 && shp e0 && decide (kw = ("key" : Str)) | _ => false
  | .lenS a => fun t e => match e with | .Call (.Name y _) [.Call (.Name z _) [e0] [] _] [] _ => decide (y = ("len" : Str)) && hasB t y && decide (z = ("set" : Str)) && hasB t z && chE a t e0 && shp e0 | _ => false
  | .lr es => fun t e => match e with | .Call (.Name y _) [.Call (.Name z _) [e0] [] _] [] _ => decide (y = ("list" : Str)) && hasB t y && decide (z = ("range" : Str)) && hasB t z && chEs es t [e0] | _ => false
  | .callT x _ i j k => fun t e => match e with | .Call (.Name y _) [.Tuple [.Name a pa, .Name b pb] _ _, .Name c pc] [] _ => decide (x = y) && sGl t.sc x && plainN x && chNm t i (.Name a pa) && chNm t j (.Name b pb) && chNm t k (.Name c pc) | _ => false
  | .isC i tp ns => fun t e => chIsC i tp ns t e
  | .isnH pz a => fun t e => match e with | .Compare ea [o] [.Constant .none _ _] _ => decide (o = if pz then CmpOp.Is else CmpOp.IsNot) && chE a t ea | _ => false
  | .met m _ o es => fun t e => match e with | .Call (.Attribute eo y p2) args [] p => decide (m = y) && plainM y && chE o t eo && shp eo && baseB eo && chEs es t args && decide (args.length < 20) && (p2.endLine == p.line) | _ => false
  | .mk x _ es => fun t e => match e with | .Call (.Name y _) (e0 :: er) [] _ => decide (x = y) && sGl t.sc x && plainN x && chEs es t (e0 :: er) | _ => false
  | .calB x _ is => fun t e => match e with | .Call (.Name y _) (e0 :: er) [] _ => decide (x = y) && sGl t.sc x && plainN x && chNms t is (e0 :: er) | _ => false
  | .lend _ a => fun t e => !(isVarE a) && chE a t e
  | .mv i => fun t e => chNm t i e
  | .dGet i j k => fun t e => match e with
    | .Call (.Attribute (.Name x p1) y p2) [.Name x2 p3, .Name x3 p4] [] p => chNm t i (.Name x p1) && chNm t j (.Name x2 p3) && chNm t k (.Name x3 p4) && decide (y = ("get" : Str)) && (p2.endLine == p.line)
    | _ => false
  | .isnS pz i => fun t e => match e with | .Compare ea [o] [.Constant .none _ _] _ => decide (o = if pz then CmpOp.Is else CmpOp.IsNot) && chNm t i ea | _ => false
  | .mvI i n => fun t e => match e with | .Subscript ea (.Constant (.int m) _ _) _ => chNm t i ea && decide (m = (n : Int)) | _ => false
  | .tT es => fun t e => match e with | .Tuple xs _ _ => chEs es t xs | _ => false
  | .lT es => fun t e => match e with | .List xs _ => chEs es t xs | _ => false
  | .compT own tg it ce => fun t e => match e with
    | .ListComp elt [⟨tge, iter, [], z⟩] scope _ => decide (z = 0) && chI it t tge iter && blkC t.N t.sc scope (ownOf t own) && decide ((ownOf t own).map (·.2) = own) && chTg (subT t scope) tg tge && chE ce (subT t scope) elt && shp iter && tgSub tg own
    | _ => false
  | .catT i j => fun t e => match e with | .BinOp (.List [.Name a pa] _) .Add (.Name b pb) _ => chNm t i (.Name a pa) && chNm t j (.Name b pb) | _ => false
  | .hl es => fun t e => match e with | .List xs _ => chEs es t xs | _ => false
  | .hix i a => fun t e => match e with | .Subscript ea eb _ => chNm t i ea && chE a t eb && shp eb | _ => false
def chAn : E S → Sx → List Expr → Bool
  | .an a b => fun t es => match es with | ea :: eb :: r => chE a t ea && (match r with | [] => chE b t eb | _ :: _ => chAn b t (eb :: r)) | _ => false
  | _ => fun _ _ => false
def chOr : E S → Sx → List Expr → Bool
  | .or a b => fun t es => match es with | ea :: eb :: r => chE a t ea && (match r with | [] => chE b t eb | _ :: _ => chOr b t (eb :: r)) | _ => false
  | _ => fun _ _ => false
def chEs : Es S → Sx → List Expr → Bool
  | .nil => fun _ es => match es with | [] => true | _ => false
  | .cons a r => fun t es => match es with | e :: er => chE a t e && shp e && chEs r t er | _ => false
def chP : Es S → Sx → Option Expr → Bool
  | .nil => fun _ e => match e with | none => true | _ => false
  | .cons a _ => fun t e => match e with | some e => chE a t e | _ => false
def chC : Es S → Sx → List Expr → Bool
  | .nil => fun _ e => match e with | [] => true | _ => false
  | .cons a .nil => fun t e => match e with | [e] => chE a t e | _ => false
  | .cons _ (.cons _ _) => fun _ _ => false
def chI : It S → Sx → Expr → Expr → Bool
  | .seq a => fun t _ e => chE a t e
  | .rng es => fun t _ e => match e with | .Call (.Name y _) (e0 :: er) [] _ => decide (y = ("range" : Str)) && hasB t y && chEs es t (e0 :: er) && decide (esLen es ≤ 3) | _ => false
  | .enu a => fun t tg e => match tg, e with | .Tuple _ _ _, .Call (.Name y _) [e0] [] _ => decide (y = ("enumerate" : Str)) && hasB t y && chE a t e0 && shp e0 | _, _ => false
  | .zip a b => fun t tg e => match tg, e with | .Tuple _ _ _, .Call (.Name y _) [e0, e1] [] _ => decide (y = ("zip" : Str)) && hasB t y && chE a t e0 && chE b t e1 && shp e0 && shp e1 | _, _ => false
end
/-- xs.pop(i) -/
def chPop (i : Nat) (a : E S) (t : Sx) (e : Expr) : Bool := match e with
  | .Call (.Attribute (.Name x p3) m p2) [e0] [] p4 => decide (m = ("pop" : Str)) && chNm t i (.Name x p3) && chE a t e0 && shp e0 && (p2.endLine == p4.line)
  | _ => false
/-- [xs.pop(i) for ..] -/
def chCM (own : List Nat) (tg : Tg) (it : It S) (i : Nat) (a : E S) (t : Sx) (e : Expr) : Bool := match e with
  | .ListComp elt [⟨tge, iter, [], z⟩] scope _ => decide (z = 0) && chI it t tge iter && blkC t.N t.sc scope (ownOf t own) && decide ((ownOf t own).map (·.2) = own) && chTg (subT t scope) tg tge && chPop i a (subT t scope) elt && shp iter && tgSub tg own
  | _ => false
/-- an expression of a statement -/
def chM : E S → Sx → Expr → Bool
  | .pop i a, t, e => chPop i a t e
  | .compM own tg it i a, t, e => chCM own tg it i a t e
  | .tp (.cons c (.cons (.compM own tg it i a) .nil)), t, e => (match e with | .Tuple [e1, e2] _ _ => chE c t e1 && chCM own tg it i a t e2 && shp e1 | _ => false)
  | c, t, e => chE c t e
/-! what is asked of the defs that are called -/
structure Gs (S : Type) where
  h : ESumm S → Prop
  m : Str → ESumm S → Prop
  k : Str → ESumm S → Prop
  o : Str → Summ → Prop
def gs0 (S : Type) : Gs S := ⟨fun _ => False, fun _ _ => False, fun _ _ => False, fun _ _ => False⟩
mutual
def fnE (G : Str → Summ → Prop) (GE : Str → ESumm S → Prop) (GH : Gs S) : E S → Prop
  | .var _ | .non | .bl _ | .int _ | .str _ | .glb _ _ | .glbS _ _ | .d0 | .isC _ _ _ | .mv _ | .mvI _ _ | .isnS _ _ | .catT _ _ | .dGet _ _ _ => True
  | .lend _ a | .hix _ a => fnE G GE GH a
  | .tT es | .lT es | .hl es => fnEs G GE GH es
  | .compT _ _ it e => fnI G GE GH it ∧ fnE G GE GH e
  | .op _ a b | .tx _ a b | .an a b | .or a b | .cmp _ a b | .ix a b | .d1 a b => fnE G GE GH a ∧ fnE G GE GH b
  | .neg a | .nt a | .isn _ a | .isnH _ a | .isb _ _ a | .rv a | .pop _ a | .srtS a | .srtL a | .lenS a => fnE G GE GH a
  | .ch _ _ a b c => fnE G GE GH a ∧ fnE G GE GH b ∧ fnE G GE GH c
  | .sl a lo hi => fnE G GE GH a ∧ fnEs G GE GH lo ∧ fnEs G GE GH hi
  | .compM _ _ it _ a => fnI G GE GH it ∧ fnE G GE GH a
  | .ls es | .tp es | .lr es => fnEs G GE GH es
  | .rep es b => fnEs G GE GH es ∧ fnE G GE GH b
  | .comp _ _ it c e => fnI G GE GH it ∧ fnEs G GE GH c ∧ fnE G GE GH e
  | .call x φ es => G x φ ∧ fnEs G GE GH es
  | .cal0 x φ => G x φ
  | .callT x φ _ _ _ => G x φ
  | .met m φ o es => GH.m m φ ∧ fnE G GE GH o ∧ fnEs G GE GH es
  | .mk x φ es => GH.k x φ ∧ fnEs G GE GH es
  | .calB x φ _ => GE x φ
  | .calE x φ es => GE x φ ∧ fnEs G GE GH es
  | .bi _ es => fnEs G GE GH es
  | .mt _ a es => fnE G GE GH a ∧ fnEs G GE GH es
def fnEs (G : Str → Summ → Prop) (GE : Str → ESumm S → Prop) (GH : Gs S) : Es S → Prop
  | .nil => True
  | .cons a r => fnE G GE GH a ∧ fnEs G GE GH r
def fnI (G : Str → Summ → Prop) (GE : Str → ESumm S → Prop) (GH : Gs S) : It S → Prop
  | .seq a => fnE G GE GH a
  | .rng es => fnEs G GE GH es
  | .enu a => fnE G GE GH a
  | .zip a b => fnE G GE GH a ∧ fnE G GE GH b
end
end
end Ac
namespace Ac
open PySem PySem.Spec PyProof.Rows L2
structure XC (rm : RM) (X : Cx) (k : Nat) (t : Sx) (cl : Nat → Addr) (W : WN) (G : Str → Summ → Prop) (GE : Str → ESumm rm.S → Prop) (GH : Gs rm.S) : Prop where
  calm : X.calm = true
  hN : X.N = t.N
  nd : t.N.Nodup
  hs : X.env.scope = t.sc
  hf : ∀ x, t.fb x = true → X.fn x = true
  bn : ∀ x ∈ t.bn, X.mg x = none
  cn : ∀ x i, t.cn.lookup x = some i → ∃ u, X.mg x = some (.int i u)
  cs : ∀ x z, t.cs.lookup x = some z → ∃ u, X.mg x = some (.str z u)
  room : Room k X.A
  gd : X.A.guards = some []
  sm : SmB X.base
  tk : Takes X (WXof cl W)
  gp : ∀ x φ, G x φ → GoodP cl X k x φ
  ge : ∀ x φ, GE x φ → GoodE rm cl X k x φ
  gh : ∀ φ, GH.h φ → HOk rm φ
  gm : ∀ m φ, GH.m m φ → GoodM rm cl X k m φ
  gk : ∀ x φ, GH.k x φ → GoodK rm cl X k x φ
  go : ∀ x φ, GH.o x φ → GoodO X k x φ
  xt : t.xt = true → XTop X.K X.mg cl
  rx : t.xt = true → RMX rm cl
section
variable {rm : RM} {X : Cx} {k : Nat} {t : Sx} {cl : Nat → Addr} {W : WN} {G : Str → Summ → Prop} {GE : Str → ESumm rm.S → Prop} {GH : Gs rm.S}
theorem XC.blk (x : XC rm X k t cl W G GE GH) (s : Shared) (H : Hp) (scope : Scope) (cs : List (Str × Addr)) (C : Addr) (fp : List Addr) : XC rm (X.blk s H scope (compEnvC scope cs C X.env) fp) k (subT t scope) cl W0 G GE GH where
  calm := x.calm
  hN := x.hN
  nd := x.nd
  hs := by
    show relS scope X.env.scope = relS scope t.sc
    rw [x.hs]
  hf := fun _ h => h
  bn := x.bn
  cn := x.cn
  cs := x.cs
  room := x.room
  gd := x.gd
  sm := x.sm
  tk := tk0
  gp := x.gp
  ge := x.ge
  gh := x.gh
  gm := x.gm
  gk := x.gk
  go := x.go
  xt := x.xt
  rx := x.rx
theorem XC.vis (x : XC rm X k t cl W G GE GH) {y : Str} (h : sVis t.sc y = true) : Vis X.env.scope y := by
  unfold sVis at h
  rw [x.hs]
  split at h
  · exact .inl ‹_›
  · exact .inr (.inl ‹_›)
  · exact .inr (.inr ‹_›)
  · cases h
theorem XC.gl (x : XC rm X k t cl W G GE GH) {y : Str} (h : sGl t.sc y = true) : Gl X y := by
  unfold sGl at h
  show X.env.scope.names.lookup y = _
  rw [x.hs]
  split at h
  · assumption
  · cases h
theorem XC.sto (x : XC rm X k t cl W G GE GH) {y : Str} (h : sSto t y = true) : Sto X y := by
  unfold sSto at h
  unfold Sto L2.Loc
  rw [x.hs]
  split at h
  · exact ⟨.inl ‹_›, .inr ‹_›⟩
  · exact ⟨.inr ‹_›, .inl (x.hf _ h)⟩
  · cases h
theorem plain3 {y : Str} (h : plainN y = true) : (y == ("__debug__" : Str)) = false ∧ (y == ("__classdict__" : Str)) = false ∧ y ≠ "__name__" := by
  unfold plainN at h
  rw [Bool.and_eq_true, Bool.and_eq_true, Bool.not_eq_true', Bool.not_eq_true', Bool.not_eq_true', decide_eq_false_iff_not] at h
  exact ⟨h.1.1, h.1.2, h.2⟩
theorem XC.nm (x : XC rm X k t cl W G GE GH) {i : Nat} {e : Expr} (h : chNm t i e = true) : ∃ y p, e = .Name y p ∧ PE X e (tVar i) := by
  unfold chNm at h
  split at h
  · rename_i y p
    rw [Bool.and_eq_true, Bool.and_eq_true, decide_eq_true_eq] at h
    obtain ⟨⟨h1, h2⟩, h3⟩ := h
    exact ⟨y, p, rfl, pe_var (by rw [x.hN]; exact h1) (x.vis h2) (plain3 h3).1 (plain3 h3).2.1⟩
  · cases h
theorem XC.nms (x : XC rm X k t cl W G GE GH) : ∀ {is : List Nat} {es : List Expr}, chNms t is es = true → PA X es (tNames is) ∧ shpL es = true
  | [], [], _ => ⟨pa_nil, rfl⟩
  | i :: r, e :: es, h => by
    unfold chNms at h
    rw [Bool.and_eq_true] at h
    obtain ⟨y, p, rfl, v⟩ := x.nm h.1
    obtain ⟨v2, s2⟩ := x.nms h.2
    refine ⟨pa_cons v v2, ?_⟩
    unfold shpL at s2 ⊢
    rw [List.all_cons, s2]
    rfl
  | [], _ :: _, h => by cases h
  | _ :: _, [], h => by cases h
theorem XC.hasB (x : XC rm X k t cl W G GE GH) {y : Str} (h : hasB t y = true) : Gl X y ∧ X.mg y = none ∧ y ≠ "__name__" ∧ (y == ("__debug__" : Str)) = false := by
  unfold Ac.hasB at h
  rw [Bool.and_eq_true, Bool.and_eq_true, decide_eq_true_eq] at h
  exact ⟨x.gl h.1.1, x.bn y h.1.2, (plain3 h.2).2.2, (plain3 h.2).1⟩
theorem XC.hu (x : XC rm X k t cl W G GE GH) : X.A.units + 65 < cLine := by
  have := x.room.un
  omega
theorem both {c : E rm.S} {e : Expr} (h : PE X e (rdE W c)) (hv : ∀ i, c ≠ .var i) (ht : tst e = true) : PE X e (rdE W c) ∧ PT X e (rdT W c) := ⟨h, to_test (to_opn h hv) ht⟩
/-- .. as an operand -/
theorem XC.toP (x : XC rm X k t cl W G GE GH) {c : E rm.S} {e : Expr} (hc : chE c t e = true) (h : PE X e (rdE W c)) : PE X e (rdP W c) := by
  cases c with
  | var i =>
    unfold chE at hc
    obtain ⟨y, p, rfl, hv⟩ := x.nm hc
    exact n_varP hv
  | _ => exact to_opn h (fun i e => nomatch e)
theorem csB {b : BI} {T : Bool} {n : String} (hc : X.calm = true) (hg : X.A.guards = some []) (hu : X.A.units + 65 < cLine) (sm : SmB X.base) (h : biN b = some (T, n)) : CallS X (if T then .type n else .builtin n) (biD b) ∧ bootBuiltins (PySem.Str.ofString n) = some (if T then .type n else .builtin n) := by
  cases b <;> unfold biN at h <;> first | (cases h; done) | skip
  all_goals (obtain ⟨rfl, rfl⟩ := Prod.mk.inj (Option.some.inj h))
  · exact ⟨cs_len, PySem.boot_len⟩
  · exact ⟨cs_int2 (call_min2 hc), PyProof.Rows.boot_min⟩
  · exact ⟨cs_int2 (call_max2 hc), PyProof.Rows.boot_max⟩
  · exact ⟨cs_minL hc, PyProof.Rows.boot_min⟩
  · exact ⟨cs_maxL hc, PyProof.Rows.boot_max⟩
  · exact ⟨cs_sum hc, PyProof.Rows.boot_sum⟩
  · exact ⟨cs_sorted, PyProof.Rows.boot_sorted⟩
  · exact ⟨cs_list, PyProof.Rows.boot_list⟩
  · exact ⟨cs_tuple, PyProof.Rows.boot_tuple⟩
  · exact ⟨cs_abs, PyProof.Rows.boot_abs⟩
  · exact ⟨cs_toInt, PyProof.Rows.boot_int⟩
  · exact ⟨cs_toStr, PyProof.Rows.boot_str⟩
  · exact ⟨cs_sortP, PyProof.Rows.boot_sorted⟩
  · exact ⟨cs_sortT, PyProof.Rows.boot_sorted⟩
  · exact ⟨cs_dictP hc, PyProof.Rows.boot_dict⟩
  · exact ⟨cs_repr hg hu sm, PyProof.Rows.boot_repr⟩
theorem ciB {b : BI} {n : String} {K : PySem.W.Frag} (h : biI b = some n) : ∃ f, biD b = isD f ∧ (∀ d, PySem.W.kitOne K (.type (tyN d)) (.type n) = some (f d)) ∧ bootBuiltins (PySem.Str.ofString n) = some (.type n) := by
  cases b <;> unfold biI at h <;> first | (cases h; done) | skip
  all_goals (obtain rfl := Option.some.inj h)
  · exact ⟨_, rfl, fun d => (kit_all d).1, PyProof.Rows.boot_int⟩
  · exact ⟨_, rfl, fun d => (kit_all d).2.1, PyProof.Rows.boot_bool⟩
  · exact ⟨_, rfl, fun d => (kit_all d).2.2.1, PyProof.Rows.boot_list⟩
  · exact ⟨_, rfl, fun d => (kit_all d).2.2.2.1, PyProof.Rows.boot_tuple⟩
  · exact ⟨_, rfl, fun d => (kit_all d).2.2.2.2, PyProof.Rows.boot_str⟩
theorem tgS {tg : Tg} {vs : List Nat} (h : tgSub tg vs = true) : tgIn tg vs := by
  cases tg with
  | nm i => unfold tgSub at h; exact (of_decide_eq_true h : i ∈ vs)
  | tp is => unfold tgSub at h; exact fun i hi => of_decide_eq_true (List.all_eq_true.mp h i hi)
theorem XC.tn (x : XC rm X k t cl W G GE GH) : ∀ {is : List Nat} {es : List Expr}, chTn t is es = true → NmOk X es is
  | [], [], _ => .nil
  | [], _ :: _, h => by unfold chTn at h; cases h
  | _ :: _, [], h => by unfold chTn at h; cases h
  | i :: is, e :: es, h => by
    unfold chTn at h
    split at h
    · rename_i z; cases z
    · rename_i a1 a2 y p es' z1 z2
      cases z1
      cases z2
      rw [Bool.and_eq_true, Bool.and_eq_true, decide_eq_true_eq] at h
      exact .cons ⟨y, p, rfl, by rw [x.hN]; exact h.1.1, x.sto h.1.2⟩ (x.tn h.2)
    · cases h
theorem XC.cls (x : XC rm X k t cl W G GE GH) : ∀ {ns : List Nat} {es : List Expr}, chCls t ns es = true → ClNs X ns es
  | [], [], _ => trivial
  | [], _ :: _, h => by unfold chCls at h; cases h
  | _ :: _, [], h => by unfold chCls at h; cases h
  | n :: ns, e :: es, h => by
    unfold chCls at h
    split at h
    · rename_i z; cases z
    · rename_i a1 a2 y p es' z1 z2
      cases z1
      cases z2
      rw [Bool.and_eq_true, Bool.and_eq_true, Bool.and_eq_true, decide_eq_true_eq] at h
      exact ⟨h.1.1.1, h.1.1.2, x.gl h.1.2, x.cls h.2⟩
    · cases h
theorem XC.tg (x : XC rm X k t cl W G GE GH) {tg : Tg} {e : Expr} (h : chTg t tg e = true) : PG X e (rdG X.K tg) := by
  unfold chTg at h
  split at h
  · rw [Bool.and_eq_true, decide_eq_true_eq] at h
    have s := x.sto h.2
    exact pg_name (by rw [x.hN]; exact x.nd) (by rw [x.hN]; exact h.1) s.1 s.2
  · exact n_pgT x.calm (by rw [x.hN]; exact x.nd) (x.tn h)
  · cases h
end
end Ac
namespace Ac
open PySem PySem.Spec PyProof.Rows L2
section
variable {rm : RM} {k : Nat} {cl : Nat → Addr} {G : Str → Summ → Prop} {GE : Str → ESumm rm.S → Prop} {GH : Gs rm.S}
theorem n_c0 {X : Cx} {W : WN} : PTs X [] (rdC W (.nil : Es rm.S)) := ⟨fun pins s σ H Q I q => by
  obtain ⟨fx, Γ, s', F, A, R, xc, xk, q⟩ := q
  unfold wC at q
  exact pts_nil.run pins s σ H Q I (q H F A R (HX.refl H A) (Sub.refl F))⟩
theorem n_c1 {X : Cx} {W : WN} {c : E rm.S} {r : Es rm.S} {e : Expr} (h : PT X e (rdT W c)) : PTs X [e] (rdC W (.cons c r)) := ⟨fun pins s σ H Q I q => by
  obtain ⟨fx, Γ, s', F, A, R, xc, xk, q⟩ := q
  unfold wC at q
  exact (pts_one h).run pins s σ H Q I ⟨fx, Γ, s', F, A, R, xc, xk, q⟩⟩
theorem shpL_of : ∀ {cs : Es rm.S} {t : Sx} {es : List Expr}, chEs cs t es = true → shpL es = true
  | .nil, t, es, h => by
    unfold chEs at h
    split at h
    · rfl
    · cases h
  | .cons a r, t, es, h => by
    unfold chEs at h
    split at h
    · rw [Bool.and_eq_true, Bool.and_eq_true] at h
      unfold shpL
      rw [List.all_cons, h.1.2]
      exact shpL_of h.2
    · cases h
theorem esLen_of : ∀ {cs : Es rm.S} {t : Sx} {es : List Expr}, chEs cs t es = true → es.length = esLen cs
  | .nil, t, es, h => by
    unfold chEs at h
    split at h
    · rfl
    · cases h
  | .cons a r, t, es, h => by
    unfold chEs at h
    split at h
    · rw [Bool.and_eq_true, Bool.and_eq_true] at h
      unfold esLen
      rw [List.length_cons, esLen_of h.2]
    · cases h
theorem nil_of {cs : Es rm.S} {t : Sx} (h : chEs cs t [] = true) : cs = .nil := by
  cases cs with
  | nil => rfl
  | cons a r => unfold chEs at h; cases h
theorem shp3 {e e2 e3 : Expr} (h : shpL [e, e2, e3] = true) : shp e = true ∧ shpL [e2, e3] = true := by
  unfold shpL at h ⊢
  rw [List.all_cons, Bool.and_eq_true] at h
  exact h
theorem shp2 {e e2 : Expr} (h : shpL [e, e2] = true) : shp e = true ∧ shp e2 = true := by
  unfold shpL at h
  rw [List.all_cons, List.all_cons, Bool.and_eq_true, Bool.and_eq_true] at h
  exact ⟨h.1, h.2.1⟩
theorem shp1 {e : Expr} (h : shpL [e] = true) : shp e = true := by
  unfold shpL at h
  rw [List.all_cons, Bool.and_eq_true] at h
  exact h.1
theorem rngI {X : Cx} {t : Sx} {W : WN} {tg e0 : Expr} {er : List Expr} {p p2 : Pos} (es : Es rm.S) (h : chEs es t (e0 :: er) = true) (ha : PA X (e0 :: er) (rdA W es)) (hg : Gl X "range") (hm : X.mg "range" = none) (h3 : esLen es ≤ 3) : PI X tg (.Call (.Name "range" p2) (e0 :: er) [] p) (rdI W (.rng es)) := by
  have sl := shpL_of h
  have ln := esLen_of h
  match es, er, h, ha, sl, ln, h3 with
  | .nil, _, _, _, _, ln, _ => cases ln
  | .cons a .nil, [], _, ha, sl, _, _ => exact n_iRng1 hg hm ha (shp1 sl)
  | .cons a (.cons b .nil), [e1], _, ha, sl, _, _ => exact n_iRng2 hg hm ha (shp2 sl).1 (shp2 sl).2
  | .cons a (.cons b (.cons c .nil)), [e1, e2], _, ha, sl, _, _ => exact n_iRng3 hg hm ha (shp3 sl).1 (shp3 sl).2
  | .cons a .nil, _ :: _, _, _, _, ln, _ => unfold esLen esLen at ln; simp at ln
  | .cons a (.cons b .nil), [], _, _, _, ln, _ => unfold esLen esLen esLen at ln; simp at ln
  | .cons a (.cons b .nil), _ :: _ :: _, _, _, _, ln, _ => unfold esLen esLen esLen at ln; simp at ln
  | .cons a (.cons b (.cons c .nil)), [], _, _, _, ln, _ => unfold esLen esLen esLen esLen at ln; simp at ln
  | .cons a (.cons b (.cons c .nil)), [_], _, _, _, ln, _ => unfold esLen esLen esLen esLen at ln; simp at ln
  | .cons a (.cons b (.cons c .nil)), _ :: _ :: _ :: _, _, _, _, ln, _ => unfold esLen esLen esLen esLen at ln; simp at ln
  | .cons a (.cons b (.cons c (.cons d r))), _, _, _, _, _, h3 => unfold esLen esLen esLen esLen at h3; omega
theorem rngJ {X : Cx} {t : Sx} {W : WN} {tg e0 : Expr} {er : List Expr} {p p2 : Pos} (es : Es rm.S) (h : chEs es t (e0 :: er) = true) (ha : PA X (e0 :: er) (rdA W es)) (hg : Gl X "range") (hm : X.mg "range" = none) (h3 : esLen es ≤ 3) : PI X tg (.Call (.Name "range" p2) (e0 :: er) [] p) (rdJ W (.rng es)) := by
  have sl := shpL_of h
  have ln := esLen_of h
  match es, er, h, ha, sl, ln, h3 with
  | .nil, _, _, _, _, ln, _ => cases ln
  | .cons a .nil, [], _, ha, sl, _, _ => exact n_jRng1 hg hm ha (shp1 sl)
  | .cons a (.cons b .nil), [e1], _, ha, sl, _, _ => exact n_jRng2 hg hm ha (shp2 sl).1 (shp2 sl).2
  | .cons a (.cons b (.cons c .nil)), [e1, e2], _, ha, sl, _, _ => exact n_jRng3 hg hm ha (shp3 sl).1 (shp3 sl).2
  | .cons a .nil, _ :: _, _, _, _, ln, _ => unfold esLen esLen at ln; simp at ln
  | .cons a (.cons b .nil), [], _, _, _, ln, _ => unfold esLen esLen esLen at ln; simp at ln
  | .cons a (.cons b .nil), _ :: _ :: _, _, _, _, ln, _ => unfold esLen esLen esLen at ln; simp at ln
  | .cons a (.cons b (.cons c .nil)), [], _, _, _, ln, _ => unfold esLen esLen esLen esLen at ln; simp at ln
  | .cons a (.cons b (.cons c .nil)), [_], _, _, _, ln, _ => unfold esLen esLen esLen esLen at ln; simp at ln
  | .cons a (.cons b (.cons c .nil)), _ :: _ :: _ :: _, _, _, _, ln, _ => unfold esLen esLen esLen esLen at ln; simp at ln
  | .cons a (.cons b (.cons c (.cons d r))), _, _, _, _, _, h3 => unfold esLen esLen esLen esLen at h3; omega
theorem own_ix {t : Sx} {own : List Nat} {scope : Scope} (h : blkC t.N t.sc scope (ownOf t own) = true) : BlkOk t.N t.sc scope (ownOf t own) := blkOk_by h
theorem sndIsC {i : Nat} {tp : Bool} {ns : List Nat} {X : Cx} {t : Sx} {W : WN} {e : Expr} (x : XC rm X k t cl W G GE GH) (h : chIsC i tp ns t e = true) : PE X e (rdE W (.isC i tp ns : E rm.S)) ∧ PT X e (rdT W (.isC i tp ns : E rm.S)) := by
  unfold chIsC at h
  split at h
  · simp only [Bool.and_eq_true, decide_eq_true_eq, Bool.not_eq_true'] at h
    obtain ⟨⟨⟨⟨⟨rfl, h1⟩, rfl⟩, h2⟩, h3⟩, h4⟩ := h
    obtain ⟨y, p, rfl, hv⟩ := x.nm h3
    obtain ⟨g1, g2, g3, g4⟩ := x.hasB h2
    have hc := x.cls h4
    match ns, hc with
    | [], hc => exact hc.elim
    | _ :: _ :: _, hc => exact hc.2.2.2.elim
    | [n], hc =>
      obtain ⟨rfl, c1, c2, _⟩ := hc
      exact both (n_isC1 (x.xt h1) (x.rx h1) c1 g1 g2 hv c2) (fun i e => nomatch e) rfl
  · simp only [Bool.and_eq_true, decide_eq_true_eq, Bool.not_eq_true'] at h
    obtain ⟨⟨⟨⟨⟨⟨rfl, h1⟩, rfl⟩, h2⟩, h3⟩, h4⟩, h5⟩ := h
    obtain ⟨y, p, rfl, hv⟩ := x.nm h3
    obtain ⟨g1, g2, g3, g4⟩ := x.hasB h2
    exact both (n_isCT (x.xt h1) (x.rx h1) (x.cls h4) h5 g1 g2 hv) (fun i e => nomatch e) rfl
  · cases h
mutual
theorem sndE : ∀ (c : E rm.S) {X : Cx} {t : Sx} {W : WN} {e : Expr}, XC rm X k t cl W G GE GH → chE c t e = true → fnE G GE GH c → PE X e (rdE W c) ∧ PT X e (rdT W c)
  | .var i, X, t, W, e, x, h, _ => by
    unfold chE at h
    obtain ⟨y, p, rfl, hv⟩ := x.nm h
    exact ⟨n_varE hv, to_test (n_varP hv) rfl⟩
  | .non, X, t, W, e, x, h, _ => by
    unfold chE at h
    split at h
    · exact both (n_cst pe_non (fun F => .non) (fun xc Γ s Q => by unfold wE; rfl)) (fun i e => nomatch e) rfl
    · cases h
  | .bl b, X, t, W, e, x, h, _ => by
    unfold chE at h
    split at h
    · obtain rfl := of_decide_eq_true h
      exact both (n_cst pe_bl (fun F => .bl _) (fun xc Γ s Q => by unfold wE; rfl)) (fun i e => nomatch e) rfl
    · cases h
  | .int b, X, t, W, e, x, h, _ => by
    unfold chE at h
    split at h
    · obtain rfl := of_decide_eq_true h
      exact both (n_cst pe_int (fun F => .int _) (fun xc Γ s Q => by unfold wE; rfl)) (fun i e => nomatch e) rfl
    · cases h
  | .str b, X, t, W, e, x, h, _ => by
    unfold chE at h
    split at h
    · obtain rfl := of_decide_eq_true h
      exact both (n_cst pe_str (fun F => .str _) (fun xc Γ s Q => by unfold wE; rfl)) (fun i e => nomatch e) rfl
    · cases h
  | .glb y i, X, t, W, e, x, h, _ => by
    unfold chE at h
    split at h
    · simp only [Bool.and_eq_true, decide_eq_true_eq] at h
      obtain ⟨⟨⟨rfl, h2⟩, h3⟩, h4⟩ := h
      obtain ⟨u, hu⟩ := x.cn _ _ h3
      exact both (n_cst (pe_glob (v := .int i) (x.gl h2) hu ⟨u, rfl⟩ (plain3 h4).1) (fun F => .int i) (fun xc Γ s Q => by unfold wE; rfl)) (fun i e => nomatch e) rfl
    · cases h
  | .glbS y z, X, t, W, e, x, h, _ => by
    unfold chE at h
    split at h
    · simp only [Bool.and_eq_true, decide_eq_true_eq] at h
      obtain ⟨⟨⟨rfl, h2⟩, h3⟩, h4⟩ := h
      obtain ⟨u, hu⟩ := x.cs _ _ h3
      exact both (n_cst (pe_glob (v := .str z) (x.gl h2) hu ⟨u, rfl⟩ (plain3 h4).1) (fun F => .str z) (fun xc Γ s Q => by unfold wE; rfl)) (fun i e => nomatch e) rfl
    · cases h
  | .tx o a b, X, t, W, e, x, h, f => by
    unfold chE at h
    unfold fnE at f
    split at h
    · simp only [Bool.and_eq_true, decide_eq_true_eq] at h
      obtain ⟨⟨⟨h0, rfl⟩, h1⟩, h2⟩ := h
      have e : o = .mulS := by cases o <;> first | rfl | cases h0
      subst e
      exact both (n_mulS (x.toP h1 (sndE a x h1 f.1).1) (x.toP h2 (sndE b x h2 f.2).1)) (fun i e => nomatch e) rfl
    · simp only [Bool.and_eq_true, decide_eq_true_eq, Bool.not_eq_true'] at h
      obtain ⟨⟨⟨⟨⟨⟨h0, rfl⟩, h1⟩, h2⟩, h3⟩, h4⟩, h5⟩ := h
      exact both (n_tx h0 (x.toP h3 (sndE a x h3 f.1).1) (x.toP h4 (sndE b x h4 f.2).1) h1 h5 h2) (fun i e => nomatch e) rfl
    · cases h
  | .op o a b, X, t, W, e, x, h, f => by
    unfold chE at h
    unfold fnE at f
    split at h
    · simp only [Bool.and_eq_true, decide_eq_true_eq] at h
      obtain ⟨⟨rfl, h1⟩, h2⟩ := h
      exact both (n_op (x.toP h1 (sndE a x h1 f.1).1) (x.toP h2 (sndE b x h2 f.2).1)) (fun i e => nomatch e) rfl
    · cases h
  | .neg a, X, t, W, e, x, h, f => by
    unfold chE at h
    unfold fnE at f
    split at h
    · exact both (n_neg (x.toP h (sndE a x h f).1)) (fun i e => nomatch e) rfl
    · cases h
  | .nt a, X, t, W, e, x, h, f => by
    unfold chE at h
    unfold fnE at f
    split at h
    · have s := sndE a x h f
      exact n_nt (x.toP h s.1) s.2
    · cases h
  | .an a b, X, t, W, e, x, h, f => by
    unfold chE at h
    unfold fnE at f
    split at h
    · rename_i ea eb r p
      rw [Bool.and_eq_true] at h
      have s := sndE a x h.1 f.1
      split at h
      · have s2 := sndE b x h.2 f.2
        exact ⟨n_an (x.toP h.1 s.1) (pe_one (x.toP h.2 s2.1)), (n_anT s.2 (pw_and1 s2.2)).pt⟩
      · have s2 := sndAn b x h.2 f.2 p
        exact ⟨n_an (x.toP h.1 s.1) s2.1, (n_anT s.2 s2.2).pt⟩
    · cases h
  | .or a b, X, t, W, e, x, h, f => by
    unfold chE at h
    unfold fnE at f
    split at h
    · rename_i ea eb r p
      rw [Bool.and_eq_true] at h
      have s := sndE a x h.1 f.1
      split at h
      · have s2 := sndE b x h.2 f.2
        exact ⟨n_or (x.toP h.1 s.1) (pe_one (x.toP h.2 s2.1)), (n_orT s.2 (pw_or1 s2.2)).pt⟩
      · have s2 := sndOr b x h.2 f.2 p
        exact ⟨n_or (x.toP h.1 s.1) s2.1, (n_orT s.2 s2.2).pt⟩
    · cases h
  | .cmp o a b, X, t, W, e, x, h, f => by
    unfold chE at h
    unfold fnE at f
    split at h
    · simp only [Bool.and_eq_true, decide_eq_true_eq] at h
      obtain ⟨⟨⟨rfl, h1⟩, h2⟩, h3⟩ := h
      exact n_cmp x.hu (x.toP h1 (sndE a x h1 f.1).1) (x.toP h2 (sndE b x h2 f.2).1) (mark1 h3)
    · cases h
  | .ch o o' a b c, X, t, W, e, x, h, f => by
    unfold chE at h
    unfold fnE at f
    split at h
    · simp only [Bool.and_eq_true, decide_eq_true_eq] at h
      obtain ⟨⟨⟨⟨⟨rfl, rfl⟩, h1⟩, h2⟩, h3⟩, h4⟩ := h
      exact n_ch x.hu (x.toP h1 (sndE a x h1 f.1).1) (x.toP h2 (sndE b x h2 f.2.1).1) (x.toP h3 (sndE c x h3 f.2.2).1) (by rw [Bool.not_eq_true'] at h4; exact h4)
    · cases h
  | .isn pz a, X, t, W, e, x, h, f => by
    unfold chE at h
    unfold fnE at f
    split at h
    · simp only [Bool.and_eq_true, decide_eq_true_eq] at h
      obtain ⟨rfl, h1⟩ := h
      cases pz with
      | true => exact (n_isn (x.toP h1 (sndE a x h1 f).1)).1
      | false => exact (n_isn (x.toP h1 (sndE a x h1 f).1)).2
    · cases h
  | .isb pz b a, X, t, W, e, x, h, f => by
    unfold chE at h
    unfold fnE at f
    split at h
    · simp only [Bool.and_eq_true, decide_eq_true_eq] at h
      obtain ⟨⟨rfl, rfl⟩, h1⟩ := h
      cases pz with
      | true => exact (n_isb (x.toP h1 (sndE a x h1 f).1)).1
      | false => exact (n_isb (x.toP h1 (sndE a x h1 f).1)).2
    · cases h
  | .ix a b, X, t, W, e, x, h, f => by
    unfold chE at h
    unfold fnE at f
    split at h
    · simp only [Bool.and_eq_true] at h
      obtain ⟨⟨h1, h2⟩, h3⟩ := h
      exact both (n_ix (x.toP h1 (sndE a x h1 f.1).1) (x.toP h2 (sndE b x h2 f.2).1) (plain1 h3)) (fun i e => nomatch e) rfl
    · cases h
  | .sl a lo hi, X, t, W, e, x, h, f => by
    unfold chE at h
    unfold fnE at f
    split at h
    · simp only [Bool.and_eq_true] at h
      obtain ⟨⟨h1, h2⟩, h3⟩ := h
      exact both (n_sl (x.toP h1 (sndE a x h1 f.1).1) (sndPt lo x h2 f.2.1) (sndPt hi x h3 f.2.2)) (fun i e => nomatch e) rfl
    · cases h
  | .rv a, X, t, W, e, x, h, f => by
    unfold chE at h
    unfold fnE at f
    split at h
    · exact both (n_rv (x.toP h (sndE a x h f).1)) (fun i e => nomatch e) rfl
    · cases h
  | .ls es, X, t, W, e, x, h, f => by
    unfold chE at h
    unfold fnE at f
    split at h
    · exact both (n_ls (sndEs es x h f).2.1) (fun i e => nomatch e) rfl
    · cases h
  | .tp es, X, t, W, e, x, h, f => by
    unfold chE at h
    unfold fnE at f
    split at h
    · exact both (n_tp (sndEs es x h f).2.1) (fun i e => nomatch e) rfl
    · cases h
  | .rep es b, X, t, W, e, x, h, f => by
    unfold chE at h
    unfold fnE at f
    split at h
    · rw [Bool.and_eq_true] at h
      exact both (n_rep (sndEs es x h.1 f.1).2.1 (x.toP h.2 (sndE b x h.2 f.2).1)) (fun i e => nomatch e) rfl
    · cases h
  | .comp own tg it c ce, X, t, W, e, x, h, f => by
    unfold chE at h
    unfold fnE at f
    split at h
    · simp only [Bool.and_eq_true, decide_eq_true_eq] at h
      obtain ⟨⟨⟨⟨⟨⟨⟨⟨rfl, h1⟩, h2⟩, h3⟩, h4⟩, h5⟩, h6⟩, h7⟩, h8⟩ := h
      refine both (n_comp (ol := ownOf t own) h3 x.calm (by rw [x.hN]; exact x.nd) (sndI it x h1 f.1) (by rw [x.hN, x.hs]; exact own_ix h2) (fun s H C cs fp => (x.blk s H _ cs C fp).tg h4) (fun s H C cs fp => sndC c (x.blk s H _ cs C fp) h5 f.2.1) (fun s H C cs fp => (sndE ce (x.blk s H _ cs C fp) h6 f.2.2).1) h7 (tgS h8)).1 (fun i e => nomatch e) rfl
    · cases h
  | .call y φ es, X, t, W, e, x, h, f => by
    unfold chE at h
    unfold fnE at f
    split at h
    · simp only [Bool.and_eq_true, decide_eq_true_eq] at h
      obtain ⟨⟨⟨rfl, h1⟩, h2⟩, h3⟩ := h
      exact both (n_call (x.gp _ _ f.1) x.room x.gd (x.gl h1) x.tk (sndEs es x h3 f.2).1 (shpL_of h3) (plain3 h2).1) (fun i e => nomatch e) rfl
    · cases h
  | .cal0 y φ, X, t, W, e, x, h, f => by
    unfold chE at h
    unfold fnE at f
    split at h
    · simp only [Bool.and_eq_true, decide_eq_true_eq] at h
      obtain ⟨⟨rfl, h1⟩, h2⟩ := h
      exact both (n_cal0 (x.gp _ _ f) x.room x.gd (x.gl h1) (plain3 h2).1) (fun i e => nomatch e) rfl
    · cases h
  | .calE y φ es, X, t, W, e, x, h, f => by
    unfold chE at h
    unfold fnE at f
    split at h
    · simp only [Bool.and_eq_true, decide_eq_true_eq] at h
      obtain ⟨⟨⟨rfl, h1⟩, h2⟩, h3⟩ := h
      exact both (n_calE (x.ge _ _ f.1) x.room x.gd (x.gl h1) x.tk (sndEs es x h3 f.2).2.2.1 (shpL_of h3) (plain3 h2).1) (fun i e => nomatch e) rfl
    · cases h
  | .bi b es, X, t, W, e, x, h, f => by
    unfold chE at h
    unfold fnE at f
    split at h
    · split at h
      · rename_i T n hb
        simp only [Bool.and_eq_true, decide_eq_true_eq] at h
        obtain ⟨⟨⟨rfl, h1⟩, h2⟩, h3⟩ := h
        obtain ⟨g1, g2, g3, g4⟩ := x.hasB h1
        obtain ⟨q1, q2⟩ := csB (X := X) x.calm x.gd x.hu x.sm hb
        cases T with
        | true => exact both (n_biT q1 g1 g2 q2 (sndEs es x h2 f).1 (shpL_of h2) g3 g4) (fun i e => nomatch e) rfl
        | false => exact both (n_biB q1 g1 g2 q2 (sndEs es x h2 f).1 (shpL_of h2) g3 g4) (fun i e => nomatch e) rfl
      · split at h
        · rename_i n z p hb
          simp only [Bool.and_eq_true, decide_eq_true_eq] at h
          obtain ⟨⟨⟨⟨rfl, h1⟩, rfl⟩, h2⟩, h3⟩ := h
          obtain ⟨g1, g2, g3, g4⟩ := x.hasB h1
          obtain ⟨w1, w2, w3, w4⟩ := x.hasB h2
          obtain ⟨fn, q1, q2, q3⟩ := ciB (K := X.K) hb
          have sl := shpL_of h3
          have ln := esLen_of h3
          cases es with
          | nil => cases ln
          | cons a r =>
            cases r with
            | cons _ _ => unfold esLen esLen at ln; cases ln
            | nil =>
              unfold chEs at h3
              simp only [Bool.and_eq_true] at h3
              unfold fnEs at f
              exact both (n_isi q1 q2 g1 g2 (x.toP h3.1.1 (sndE a x h3.1.1 f.1).1) h3.1.2 (pe_bltn w1 w2 q3 rfl w3 w4)) (fun i e => nomatch e) rfl
        · cases h
    · cases h
  | .mt m a es, X, t, W, e, x, h, f => by
    unfold chE at h
    unfold fnE at f
    split at h
    · simp only [Bool.and_eq_true, decide_eq_true_eq] at h
      obtain ⟨⟨⟨⟨rfl, h0⟩, h1⟩, h2⟩, h4⟩ := h
      have hv := x.toP h1 (sndE a x h1 f.1).1
      have sl := shpL_of h2
      have ln := esLen_of h2
      cases es with
      | nil => cases ln
      | cons c r =>
        cases r with
        | cons _ _ => unfold esLen esLen at ln; cases ln
        | nil =>
          unfold chEs at h2
          simp only [Bool.and_eq_true] at h2
          unfold fnEs at f
          have hc := x.toP h2.1.1 (sndE c x h2.1.1 f.2.1).1
          cases a with
          | var i =>
            cases m
            exact both (n_index hv hc h2.1.2 h4) (fun i e => nomatch e) rfl
          | _ => cases h0
    · cases h
  | .pop _ _, X, t, W, e, x, h, f => by
    unfold chE at h
    cases h
  | .d0, X, t, W, e, x, h, _ => by
    unfold chE at h
    split at h
    · exact both n_d0 (fun i e => nomatch e) rfl
    · cases h
  | .d1 a b, X, t, W, e, x, h, f => by
    unfold chE at h
    unfold fnE at f
    split at h
    · rw [Bool.and_eq_true] at h
      exact both (n_d1 (x.toP h.1 (sndE a x h.1 f.1).1) (sndE b x h.2 f.2).1) (fun i e => nomatch e) rfl
    · cases h
  | .isC i tp ns, X, t, W, e, x, h, f => by
    unfold chE at h
    exact sndIsC x h
  | .isnH pz a, X, t, W, e, x, h, f => by
    unfold chE at h
    unfold fnE at f
    split at h
    · simp only [Bool.and_eq_true, decide_eq_true_eq] at h
      obtain ⟨rfl, h1⟩ := h
      cases pz with
      | true => exact (n_isnH (sndE a x h1 f).1).1
      | false => exact (n_isnH (sndE a x h1 f).1).2
    · cases h
  | .compM _ _ _ _ _, X, t, W, e, x, h, f => by
    unfold chE at h
    cases h
  | .srtS a, X, t, W, e, x, h, f => by
    unfold chE at h
    unfold fnE at f
    split at h
    · simp only [Bool.and_eq_true, decide_eq_true_eq] at h
      obtain ⟨⟨⟨⟨⟨rfl, h1⟩, rfl⟩, h2⟩, h3⟩, h4⟩ := h
      obtain ⟨g1, g2, _, _⟩ := x.hasB h1
      obtain ⟨g3, g4, _, _⟩ := x.hasB h2
      exact both (n_srtS x.calm g1 g2 g3 g4 (x.toP h3 (sndE a x h3 f).1) h4) (fun i e => nomatch e) rfl
    · cases h
  | .srtL a, X, t, W, e, x, h, f => by
    unfold chE at h
    unfold fnE at f
    split at h
    · simp only [Bool.and_eq_true, decide_eq_true_eq] at h
      obtain ⟨⟨⟨⟨⟨⟨rfl, h1⟩, rfl⟩, h2⟩, h3⟩, h4⟩, rfl⟩ := h
      obtain ⟨g1, g2, _, _⟩ := x.hasB h1
      obtain ⟨g3, g4, _, _⟩ := x.hasB h2
      exact both (n_srtL x.hu g1 g2 g3 g4 (x.toP h3 (sndE a x h3 f).1) h4) (fun i e => nomatch e) rfl
    · cases h
  | .lenS a, X, t, W, e, x, h, f => by
    unfold chE at h
    unfold fnE at f
    split at h
    · simp only [Bool.and_eq_true, decide_eq_true_eq] at h
      obtain ⟨⟨⟨⟨⟨rfl, h1⟩, rfl⟩, h2⟩, h3⟩, h4⟩ := h
      obtain ⟨g1, g2, _, _⟩ := x.hasB h1
      obtain ⟨g3, g4, _, _⟩ := x.hasB h2
      exact both (n_lenS x.calm g1 g2 g3 g4 (x.toP h3 (sndE a x h3 f).1) h4) (fun i e => nomatch e) rfl
    · cases h
  | .lr es, X, t, W, e, x, h, f => by
    unfold chE at h
    unfold fnE at f
    split at h
    · simp only [Bool.and_eq_true, decide_eq_true_eq] at h
      obtain ⟨⟨⟨⟨rfl, h1⟩, rfl⟩, h2⟩, h3⟩ := h
      obtain ⟨g1, g2, _, _⟩ := x.hasB h1
      obtain ⟨g3, g4, _, _⟩ := x.hasB h2
      have ln := esLen_of h3
      cases es with
      | nil => cases ln
      | cons c r =>
        cases r with
        | cons _ _ => unfold esLen esLen at ln; cases ln
        | nil =>
          unfold chEs at h3
          simp only [Bool.and_eq_true] at h3
          unfold fnEs at f
          exact both (n_lr x.calm g1 g2 g3 g4 (x.toP h3.1.1 (sndE c x h3.1.1 f.1).1) h3.1.2) (fun i e => nomatch e) rfl
    · cases h
  | .callT y φ i j l, X, t, W, e, x, h, f => by
    unfold chE at h
    unfold fnE at f
    split at h
    · simp only [Bool.and_eq_true, decide_eq_true_eq] at h
      obtain ⟨⟨⟨⟨⟨rfl, h1⟩, h2⟩, h3⟩, h4⟩, h5⟩ := h
      obtain ⟨_, _, e1, v1⟩ := x.nm h3
      obtain ⟨_, _, e2, v2⟩ := x.nm h4
      obtain ⟨_, _, e3, v3⟩ := x.nm h5
      exact both (n_callT (x.gp _ _ f) x.room x.gd (x.gl h1) x.tk v1 v2 v3 (plain3 h2).1) (fun i e => nomatch e) rfl
    · cases h
  | .met m φ o es, X, t, W, e, x, h, f => by
    unfold chE at h
    unfold fnE at f
    split at h
    · rename_i eo y p2 args p
      simp only [Bool.and_eq_true, decide_eq_true_eq] at h
      obtain ⟨⟨⟨⟨⟨⟨⟨rfl, h1⟩, h2⟩, h3⟩, h4⟩, h5⟩, h6⟩, h7⟩ := h
      have hv := (sndEs es x h5 f.2.2).2.2.1
      cases args with
      | nil => exact both (n_met0 (x.gm _ _ f.1) h1 x.room x.gd x.tk (sndE o x h2 f.2.1).1 h4 (nil_of h5) h7) (fun i e => nomatch e) rfl
      | cons a r => exact both (n_met (x.gm _ _ f.1) h1 x.room x.gd x.tk (sndE o x h2 f.2.1).1 h4 hv (shpL_of h5) h6 h7) (fun i e => nomatch e) rfl
    · cases h
  | .mk y φ es, X, t, W, e, x, h, f => by
    unfold chE at h
    unfold fnE at f
    split at h
    · simp only [Bool.and_eq_true, decide_eq_true_eq] at h
      obtain ⟨⟨⟨rfl, h1⟩, h2⟩, h3⟩ := h
      exact both (n_mk (x.gk _ _ f.1) x.room x.gd (x.gl h1) x.tk (sndEs es x h3 f.2).2.2.1 (shpL_of h3) (plain3 h2).1) (fun i e => nomatch e) rfl
    · cases h
  | .calB y φ is, X, t, W, e, x, h, f => by
    unfold chE at h
    unfold fnE at f
    split at h
    · simp only [Bool.and_eq_true, decide_eq_true_eq] at h
      obtain ⟨⟨⟨rfl, h1⟩, h2⟩, h3⟩ := h
      obtain ⟨v, sp⟩ := x.nms h3
      exact both (n_calB (x.ge _ _ f) x.room x.gd (x.gl h1) x.tk v sp (plain3 h2).1) (fun i e => nomatch e) rfl
    · cases h
  | .lend is a, X, t, W, e, x, h, f => by
    unfold chE at h
    unfold fnE at f
    rw [Bool.and_eq_true, Bool.not_eq_true'] at h
    have x0 : XC rm X k t cl W0 G GE GH := { x with tk := tk0 }
    have s := sndE a x0 h.2 f
    exact n_lend (fun i z => by rw [z] at h; cases h.1) s.1 s.2
  | .mv i, X, t, W, e, x, h, f => by
    unfold chE at h
    obtain ⟨y, p, rfl, hv⟩ := x.nm h
    exact both (n_mv hv) (fun i e => nomatch e) rfl
  | .dGet i j k, X, t, W, e, x, h, f => by
    unfold chE at h
    split at h
    · simp only [Bool.and_eq_true, decide_eq_true_eq] at h
      obtain ⟨⟨⟨⟨h1, h2⟩, h3⟩, rfl⟩, h4⟩ := h
      obtain ⟨_, _, e1, hv1⟩ := x.nm h1
      obtain ⟨_, _, e2, hv2⟩ := x.nm h2
      obtain ⟨_, _, e3, hv3⟩ := x.nm h3
      cases e1
      cases e2
      cases e3
      exact both (n_dGet (by have := x.room.un; omega) hv1 hv2 hv3 h4) (fun i e => nomatch e) rfl
    · cases h
  | .isnS pz i, X, t, W, e, x, h, f => by
    unfold chE at h
    split at h
    · rw [Bool.and_eq_true, decide_eq_true_eq] at h
      obtain ⟨rfl, h1⟩ := h
      obtain ⟨y, p, rfl, hv⟩ := x.nm h1
      cases pz with
      | true => exact (n_isnS hv).1
      | false => exact (n_isnS hv).2
    · cases h
  | .mvI i n, X, t, W, e, x, h, f => by
    unfold chE at h
    split at h
    · rw [Bool.and_eq_true, decide_eq_true_eq] at h
      obtain ⟨h1, rfl⟩ := h
      obtain ⟨y, p, rfl, hv⟩ := x.nm h1
      exact both (n_mvI hv) (fun i e => nomatch e) rfl
    · cases h
  | .tT es, X, t, W, e, x, h, f => by
    unfold chE at h
    unfold fnE at f
    split at h
    · exact both (n_tT (sndEs es x h f).2.2.2) (fun i e => nomatch e) rfl
    · cases h
  | .lT es, X, t, W, e, x, h, f => by
    unfold chE at h
    unfold fnE at f
    split at h
    · exact both (n_lT (sndEs es x h f).2.2.2) (fun i e => nomatch e) rfl
    · cases h
  | .hl es, X, t, W, e, x, h, f => by
    unfold chE at h
    unfold fnE at f
    split at h
    · exact both (n_hl (sndEs es x h f).2.2.1) (fun i e => nomatch e) rfl
    · cases h
  | .hix i a, X, t, W, e, x, h, f => by
    unfold chE at h
    unfold fnE at f
    split at h
    · simp only [Bool.and_eq_true] at h
      obtain ⟨y, p, rfl, hv⟩ := x.nm h.1.1
      exact both (n_hix hv (x.toP h.1.2 (sndE a x h.1.2 f).1) (plain1 h.2)) (fun i e => nomatch e) rfl
    · cases h
  | .catT i j, X, t, W, e, x, h, f => by
    unfold chE at h
    split at h
    · rw [Bool.and_eq_true] at h
      obtain ⟨_, _, e1, v1⟩ := x.nm h.1
      obtain ⟨_, _, e2, v2⟩ := x.nm h.2
      exact both (n_catT v1 v2) (fun i e => nomatch e) rfl
    · cases h
  | .compT own tg it ce, X, t, W, e, x, h, f => by
    unfold chE at h
    unfold fnE at f
    split at h
    · simp only [Bool.and_eq_true, decide_eq_true_eq] at h
      obtain ⟨⟨⟨⟨⟨⟨⟨rfl, h1⟩, h2⟩, h3⟩, h4⟩, h6⟩, h7⟩, h8⟩ := h
      exact both (n_compT (ol := ownOf t _) h3 x.calm (by rw [x.hN]; exact x.nd) (sndI it x h1 f.1) (by rw [x.hN, x.hs]; exact own_ix h2) (fun s H C cs fp => (x.blk s H _ cs C fp).tg h4) (fun s H C cs fp => (sndE ce (x.blk s H _ cs C fp) h6 f.2).1) h7 (tgS h8)).1 (fun i e => nomatch e) rfl
    · cases h
theorem sndAn : ∀ (c : E rm.S) {X : Cx} {t : Sx} {W : WN} {es : List Expr}, XC rm X k t cl W G GE GH → chAn c t es = true → fnE G GE GH c → ∀ p, PE X (.BoolOp .And es p) (rdP W c) ∧ PW X (.BoolOp .And es p) (rdT W c)
  | .an a b, X, t, W, e, x, h, f => fun p => by
    unfold chAn at h
    unfold fnE at f
    split at h
    · rename_i ea eb r
      rw [Bool.and_eq_true] at h
      have s := sndE a x h.1 f.1
      split at h
      · have s2 := sndE b x h.2 f.2
        exact ⟨to_opn (n_an (x.toP h.1 s.1) (pe_one (x.toP h.2 s2.1))) (fun i e => nomatch e), n_anT s.2 (pw_and1 s2.2)⟩
      · have s2 := sndAn b x h.2 f.2 p
        exact ⟨to_opn (n_an (x.toP h.1 s.1) s2.1) (fun i e => nomatch e), n_anT s.2 s2.2⟩
    · cases h
  | .var _, _, _, _, _, _, h, _ | .non, _, _, _, _, _, h, _ | .bl _, _, _, _, _, _, h, _ | .int _, _, _, _, _, _, h, _ | .str _, _, _, _, _, _, h, _ | .glb _ _, _, _, _, _, _, h, _ | .glbS _ _, _, _, _, _, _, h, _ | .tx _ _ _, _, _, _, _, _, h, _ | .op _ _ _, _, _, _, _, _, h, _ | .neg _, _, _, _, _, _, h, _
  | .nt _, _, _, _, _, _, h, _ | .or _ _, _, _, _, _, _, h, _ | .cmp _ _ _, _, _, _, _, _, h, _ | .ch _ _ _ _ _, _, _, _, _, _, h, _ | .isn _ _, _, _, _, _, _, h, _ | .isb _ _ _, _, _, _, _, _, h, _ | .ix _ _, _, _, _, _, _, h, _ | .sl _ _ _, _, _, _, _, _, h, _
  | .rv _, _, _, _, _, _, h, _ | .ls _, _, _, _, _, _, h, _ | .tp _, _, _, _, _, _, h, _ | .rep _ _, _, _, _, _, _, h, _ | .comp _ _ _ _ _, _, _, _, _, _, h, _ | .call _ _ _, _, _, _, _, _, h, _ | .cal0 _ _, _, _, _, _, _, h, _ | .calE _ _ _, _, _, _, _, _, h, _
  | .lend _ _, _, _, _, _, _, h, _ | .mv _, _, _, _, _, _, h, _ | .isnS _ _, _, _, _, _, _, h, _ | .dGet _ _ _, _, _, _, _, _, h, _ | .tT _, _, _, _, _, _, h, _ | .lT _, _, _, _, _, _, h, _ | .compT _ _ _ _, _, _, _, _, _, h, _ | .catT _ _, _, _, _, _, _, h, _ | .hl _, _, _, _, _, _, h, _ | .hix _ _, _, _, _, _, _, h, _ | .mvI _ _, _, _, _, _, _, h, _
  | .isC _ _ _, _, _, _, _, _, h, _ | .isnH _ _, _, _, _, _, _, h, _ | .bi _ _, _, _, _, _, _, h, _ | .mt _ _ _, _, _, _, _, _, h, _ | .pop _ _, _, _, _, _, _, h, _ | .d0, _, _, _, _, _, h, _ | .d1 _ _, _, _, _, _, _, h, _ | .compM _ _ _ _ _, _, _, _, _, _, h, _ | .srtS _, _, _, _, _, _, h, _ | .srtL _, _, _, _, _, _, h, _ | .lenS _, _, _, _, _, _, h, _ | .lr _, _, _, _, _, _, h, _ | .callT _ _ _ _ _, _, _, _, _, _, h, _ | .met _ _ _ _, _, _, _, _, _, h, _ | .mk _ _ _, _, _, _, _, _, h, _ | .calB _ _ _, _, _, _, _, _, h, _ => by unfold chAn at h; cases h
theorem sndOr : ∀ (c : E rm.S) {X : Cx} {t : Sx} {W : WN} {es : List Expr}, XC rm X k t cl W G GE GH → chOr c t es = true → fnE G GE GH c → ∀ p, PE X (.BoolOp .Or es p) (rdP W c) ∧ PW X (.BoolOp .Or es p) (rdT W c)
  | .or a b, X, t, W, e, x, h, f => fun p => by
    unfold chOr at h
    unfold fnE at f
    split at h
    · rename_i ea eb r
      rw [Bool.and_eq_true] at h
      have s := sndE a x h.1 f.1
      split at h
      · have s2 := sndE b x h.2 f.2
        exact ⟨to_opn (n_or (x.toP h.1 s.1) (pe_one (x.toP h.2 s2.1))) (fun i e => nomatch e), n_orT s.2 (pw_or1 s2.2)⟩
      · have s2 := sndOr b x h.2 f.2 p
        exact ⟨to_opn (n_or (x.toP h.1 s.1) s2.1) (fun i e => nomatch e), n_orT s.2 s2.2⟩
    · cases h
  | .var _, _, _, _, _, _, h, _ | .non, _, _, _, _, _, h, _ | .bl _, _, _, _, _, _, h, _ | .int _, _, _, _, _, _, h, _ | .str _, _, _, _, _, _, h, _ | .glb _ _, _, _, _, _, _, h, _ | .glbS _ _, _, _, _, _, _, h, _ | .tx _ _ _, _, _, _, _, _, h, _ | .op _ _ _, _, _, _, _, _, h, _ | .neg _, _, _, _, _, _, h, _
  | .nt _, _, _, _, _, _, h, _ | .an _ _, _, _, _, _, _, h, _ | .cmp _ _ _, _, _, _, _, _, h, _ | .ch _ _ _ _ _, _, _, _, _, _, h, _ | .isn _ _, _, _, _, _, _, h, _ | .isb _ _ _, _, _, _, _, _, h, _ | .ix _ _, _, _, _, _, _, h, _ | .sl _ _ _, _, _, _, _, _, h, _
  | .rv _, _, _, _, _, _, h, _ | .ls _, _, _, _, _, _, h, _ | .tp _, _, _, _, _, _, h, _ | .rep _ _, _, _, _, _, _, h, _ | .comp _ _ _ _ _, _, _, _, _, _, h, _ | .call _ _ _, _, _, _, _, _, h, _ | .cal0 _ _, _, _, _, _, _, h, _ | .calE _ _ _, _, _, _, _, _, h, _
  | .lend _ _, _, _, _, _, _, h, _ | .mv _, _, _, _, _, _, h, _ | .isnS _ _, _, _, _, _, _, h, _ | .dGet _ _ _, _, _, _, _, _, h, _ | .tT _, _, _, _, _, _, h, _ | .lT _, _, _, _, _, _, h, _ | .compT _ _ _ _, _, _, _, _, _, h, _ | .catT _ _, _, _, _, _, _, h, _ | .hl _, _, _, _, _, _, h, _ | .hix _ _, _, _, _, _, _, h, _ | .mvI _ _, _, _, _, _, _, h, _
  | .isC _ _ _, _, _, _, _, _, h, _ | .isnH _ _, _, _, _, _, _, h, _ | .bi _ _, _, _, _, _, _, h, _ | .mt _ _ _, _, _, _, _, _, h, _ | .pop _ _, _, _, _, _, _, h, _ | .d0, _, _, _, _, _, h, _ | .d1 _ _, _, _, _, _, _, h, _ | .compM _ _ _ _ _, _, _, _, _, _, h, _ | .srtS _, _, _, _, _, _, h, _ | .srtL _, _, _, _, _, _, h, _ | .lenS _, _, _, _, _, _, h, _ | .lr _, _, _, _, _, _, h, _ | .callT _ _ _ _ _, _, _, _, _, _, h, _ | .met _ _ _ _, _, _, _, _, _, h, _ | .mk _ _ _, _, _, _, _, _, h, _ | .calB _ _ _, _, _, _, _, _, h, _ => by unfold chOr at h; cases h
theorem sndEs : ∀ (c : Es rm.S) {X : Cx} {t : Sx} {W : WN} {es : List Expr}, XC rm X k t cl W G GE GH → chEs c t es = true → fnEs G GE GH c → PA X es (rdA W c) ∧ PA X es (rdX W c) ∧ PA X es (rdV W c) ∧ PA X es (rdY W c)
  | .nil, X, t, W, es, x, h, _ => by
    unfold chEs at h
    split at h
    · exact ⟨n_a0, n_x0, n_v0, n_y0⟩
    · cases h
  | .cons a r, X, t, W, es, x, h, f => by
    unfold chEs at h
    unfold fnEs at f
    split at h
    · rw [Bool.and_eq_true, Bool.and_eq_true] at h
      have s := sndE a x h.1.1 f.1
      have s2 := sndEs r x h.2 f.2
      exact ⟨n_a1 (x.toP h.1.1 s.1) s2.1 h.1.2, n_x1 s.1 s2.2.1 h.1.2, n_v1 s.1 s2.2.2.1 h.1.2, n_y1 s.1 s2.2.2.2 h.1.2⟩
    · cases h
theorem sndPt : ∀ (c : Es rm.S) {X : Cx} {t : Sx} {W : WN} {e : Option Expr}, XC rm X k t cl W G GE GH → chP c t e = true → fnEs G GE GH c → PO X e (rdPart W c)
  | .nil, X, t, W, es, x, h, _ => by
    unfold chP at h
    split at h
    · exact n_part0
    · cases h
  | .cons a r, X, t, W, es, x, h, f => by
    unfold chP at h
    unfold fnEs at f
    split at h
    · exact n_part1 (x.toP h (sndE a x h f.1).1)
    · cases h
theorem sndC : ∀ (c : Es rm.S) {X : Cx} {t : Sx} {W : WN} {es : List Expr}, XC rm X k t cl W G GE GH → chC c t es = true → fnEs G GE GH c → PTs X es (rdC W c)
  | .nil, X, t, W, es, x, h, _ => by
    unfold chC at h
    split at h
    · exact n_c0
    · cases h
  | .cons a .nil, X, t, W, es, x, h, f => by
    unfold chC at h
    unfold fnEs at f
    split at h
    · exact n_c1 (sndE a x h f.1).2
    · cases h
  | .cons _ (.cons _ _), X, t, W, es, x, h, f => by
    unfold chC at h
    cases h
theorem sndI : ∀ (c : It rm.S) {X : Cx} {t : Sx} {W : WN} {tg e : Expr}, XC rm X k t cl W G GE GH → chI c t tg e = true → fnI G GE GH c → PI X tg e (rdI W c)
  | .seq a, X, t, W, tg, e, x, h, f => by
    unfold chI at h
    unfold fnI at f
    exact n_iSeq (x.toP h (sndE a x h f).1)
  | .rng es, X, t, W, tg, e, x, h, f => by
    unfold chI at h
    unfold fnI at f
    split at h
    · simp only [Bool.and_eq_true, decide_eq_true_eq] at h
      obtain ⟨⟨⟨rfl, h1⟩, h2⟩, h3⟩ := h
      obtain ⟨g1, g2, g3, g4⟩ := x.hasB h1
      have s := (sndEs es x h2 f).1
      have sl := shpL_of h2
      exact rngI es h2 s g1 g2 h3
    · cases h
  | .enu a, X, t, W, tg, e, x, h, f => by
    unfold chI at h
    unfold fnI at f
    split at h
    · simp only [Bool.and_eq_true, decide_eq_true_eq] at h
      obtain ⟨⟨⟨rfl, h1⟩, h2⟩, h3⟩ := h
      obtain ⟨g1, g2, g3, g4⟩ := x.hasB h1
      exact n_iEnu g1 g2 (x.toP h2 (sndE a x h2 f).1) h3
    · cases h
  | .zip a b, X, t, W, tg, e, x, h, f => by
    unfold chI at h
    unfold fnI at f
    split at h
    · simp only [Bool.and_eq_true, decide_eq_true_eq] at h
      obtain ⟨⟨⟨⟨⟨rfl, h1⟩, h2⟩, h3⟩, h4⟩, h5⟩ := h
      obtain ⟨g1, g2, g3, g4⟩ := x.hasB h1
      exact n_iZip g1 g2 (x.toP h2 (sndE a x h2 f.1).1) (x.toP h3 (sndE b x h3 f.2).1) h4 h5
    · cases h
end
end
end Ac
namespace Ac
open PySem PySem.Spec PyProof.Rows L2
/-! ### within an except suite: an error is under way, no calls -/
structure XH (rm : RM) (X : Cx) (t : Sx) (cl : Nat → Addr) : Prop where
  hN : X.N = t.N
  nd : t.N.Nodup
  hs : X.env.scope = t.sc
  hf : ∀ x, t.fb x = true → X.fn x = true
  bn : ∀ x ∈ t.bn, X.mg x = none
  hu : X.A.units + 65 < cLine
  xt : t.xt = true → XTop X.K X.mg cl
  rx : t.xt = true → RMX rm cl
mutual
def okH {S : Type} : E S → Bool
  | .var _ | .non | .bl _ | .int _ | .str _ | .isC _ _ _ => true
  | .nt a => okH a
  | .an a b | .cmp _ a b | .ix a b | .op _ a b => okH a && okH b
  | .ls es | .tp es => okHs es
  | .bi .int es => okHs es
  | _ => false
def okHs {S : Type} : Es S → Bool
  | .nil => true
  | .cons a r => okH a && okHs r
end
section
variable {rm : RM} {k : Nat} {cl : Nat → Addr}
theorem XH.vis {X : Cx} {t : Sx} (x : XH rm X t cl) {y : Str} (h : sVis t.sc y = true) : Vis X.env.scope y := by
  unfold sVis at h
  rw [x.hs]
  split at h
  · exact .inl ‹_›
  · exact .inr (.inl ‹_›)
  · exact .inr (.inr ‹_›)
  · cases h
theorem XH.gl {X : Cx} {t : Sx} (x : XH rm X t cl) {y : Str} (h : sGl t.sc y = true) : Gl X y := by
  unfold sGl at h
  show X.env.scope.names.lookup y = _
  rw [x.hs]
  split at h
  · assumption
  · cases h
theorem XH.sto {X : Cx} {t : Sx} (x : XH rm X t cl) {y : Str} (h : sSto t y = true) : Sto X y := by
  unfold sSto at h
  unfold Sto L2.Loc
  rw [x.hs]
  split at h
  · exact ⟨.inl ‹_›, .inr ‹_›⟩
  · exact ⟨.inr ‹_›, .inl (x.hf _ h)⟩
  · cases h
theorem XH.nm {X : Cx} {t : Sx} (x : XH rm X t cl) {i : Nat} {e : Expr} (h : chNm t i e = true) : ∃ y p, e = .Name y p ∧ PE X e (tVar i) := by
  unfold chNm at h
  split at h
  · rename_i y p
    rw [Bool.and_eq_true, Bool.and_eq_true, decide_eq_true_eq] at h
    obtain ⟨⟨h1, h2⟩, h3⟩ := h
    exact ⟨y, p, rfl, pe_var (by rw [x.hN]; exact h1) (x.vis h2) (plain3 h3).1 (plain3 h3).2.1⟩
  · cases h
theorem XH.hasB {X : Cx} {t : Sx} (x : XH rm X t cl) {y : Str} (h : hasB t y = true) : Gl X y ∧ X.mg y = none ∧ y ≠ "__name__" ∧ (y == ("__debug__" : Str)) = false := by
  unfold Ac.hasB at h
  rw [Bool.and_eq_true, Bool.and_eq_true, decide_eq_true_eq] at h
  exact ⟨x.gl h.1.1, x.bn y h.1.2, (plain3 h.2).2.2, (plain3 h.2).1⟩
theorem XH.toP {X : Cx} {t : Sx} {W : WN} (x : XH rm X t cl) {c : E rm.S} {e : Expr} (hc : chE c t e = true) (h : PE X e (rdE W c)) : PE X e (rdP W c) := by
  cases c with
  | var i =>
    unfold chE at hc
    obtain ⟨y, p, rfl, hv⟩ := x.nm hc
    exact n_varP hv
  | _ => exact to_opn h (fun i e => nomatch e)
theorem XH.cls {X : Cx} {t : Sx} (x : XH rm X t cl) : ∀ {ns : List Nat} {es : List Expr}, chCls t ns es = true → ClNs X ns es
  | [], [], _ => trivial
  | [], _ :: _, h => by unfold chCls at h; cases h
  | _ :: _, [], h => by unfold chCls at h; cases h
  | n :: ns, e :: es, h => by
    unfold chCls at h
    split at h
    · rename_i z; cases z
    · rename_i a1 a2 y p es' z1 z2
      cases z1
      cases z2
      rw [Bool.and_eq_true, Bool.and_eq_true, Bool.and_eq_true, decide_eq_true_eq] at h
      exact ⟨h.1.1.1, h.1.1.2, x.gl h.1.2, x.cls h.2⟩
    · cases h
theorem hndIsC {i : Nat} {tp : Bool} {ns : List Nat} {X : Cx} {t : Sx} {W : WN} {e : Expr} (x : XH rm X t cl) (h : chIsC i tp ns t e = true) : PE X e (rdE W (.isC i tp ns : E rm.S)) ∧ PT X e (rdT W (.isC i tp ns : E rm.S)) := by
  unfold chIsC at h
  split at h
  · simp only [Bool.and_eq_true, decide_eq_true_eq, Bool.not_eq_true'] at h
    obtain ⟨⟨⟨⟨⟨rfl, h1⟩, rfl⟩, h2⟩, h3⟩, h4⟩ := h
    obtain ⟨y, p, rfl, hv⟩ := x.nm h3
    obtain ⟨g1, g2, g3, g4⟩ := x.hasB h2
    have hc := x.cls h4
    match ns, hc with
    | [], hc => exact hc.elim
    | _ :: _ :: _, hc => exact hc.2.2.2.elim
    | [n], hc =>
      obtain ⟨rfl, c1, c2, _⟩ := hc
      exact both (n_isC1 (x.xt h1) (x.rx h1) c1 g1 g2 hv c2) (fun i e => nomatch e) rfl
  · simp only [Bool.and_eq_true, decide_eq_true_eq, Bool.not_eq_true'] at h
    obtain ⟨⟨⟨⟨⟨⟨rfl, h1⟩, rfl⟩, h2⟩, h3⟩, h4⟩, h5⟩ := h
    obtain ⟨y, p, rfl, hv⟩ := x.nm h3
    obtain ⟨g1, g2, g3, g4⟩ := x.hasB h2
    exact both (n_isCT (x.xt h1) (x.rx h1) (x.cls h4) h5 g1 g2 hv) (fun i e => nomatch e) rfl
  · cases h
mutual
theorem hndE : ∀ (c : E rm.S) {X : Cx} {t : Sx} {W : WN} {e : Expr}, XH rm X t cl → okH c = true → chE c t e = true → PE X e (rdE W c) ∧ PT X e (rdT W c)
  | .var i, X, t, W, e, x, o, h => by
    unfold chE at h
    obtain ⟨y, p, rfl, hv⟩ := x.nm h
    exact ⟨n_varE hv, to_test (n_varP hv) rfl⟩
  | .non, X, t, W, e, x, o, h => by
    unfold chE at h
    split at h
    · exact both (n_cst pe_non (fun F => .non) (fun xc Γ s Q => by unfold wE; rfl)) (fun i e => nomatch e) rfl
    · cases h
  | .bl b, X, t, W, e, x, o, h => by
    unfold chE at h
    split at h
    · obtain rfl := of_decide_eq_true h
      exact both (n_cst pe_bl (fun F => .bl _) (fun xc Γ s Q => by unfold wE; rfl)) (fun i e => nomatch e) rfl
    · cases h
  | .int b, X, t, W, e, x, o, h => by
    unfold chE at h
    split at h
    · obtain rfl := of_decide_eq_true h
      exact both (n_cst pe_int (fun F => .int _) (fun xc Γ s Q => by unfold wE; rfl)) (fun i e => nomatch e) rfl
    · cases h
  | .str b, X, t, W, e, x, o, h => by
    unfold chE at h
    split at h
    · obtain rfl := of_decide_eq_true h
      exact both (n_cst pe_str (fun F => .str _) (fun xc Γ s Q => by unfold wE; rfl)) (fun i e => nomatch e) rfl
    · cases h
  | .isC i tp ns, X, t, W, e, x, o, h => by
    unfold chE at h
    exact hndIsC x h
  | .nt a, X, t, W, e, x, o, h => by
    unfold chE at h
    unfold okH at o
    split at h
    · have s := hndE a (W := W) x o h
      exact n_nt (x.toP h s.1) s.2
    · cases h
  | .an a b, X, t, W, e, x, o, h => by
    unfold chE at h
    unfold okH at o
    rw [Bool.and_eq_true] at o
    split at h
    · rename_i ea eb r p
      rw [Bool.and_eq_true] at h
      have s := hndE a (W := W) x o.1 h.1
      split at h
      · have s2 := hndE b (W := W) x o.2 h.2
        exact ⟨n_an (x.toP h.1 s.1) (pe_one (x.toP h.2 s2.1)), (n_anT s.2 (pw_and1 s2.2)).pt⟩
      · have s2 := hndAn b (W := W) x o.2 h.2 p
        exact ⟨n_an (x.toP h.1 s.1) s2.1, (n_anT s.2 s2.2).pt⟩
    · cases h
  | .cmp o' a b, X, t, W, e, x, o, h => by
    unfold chE at h
    unfold okH at o
    rw [Bool.and_eq_true] at o
    split at h
    · simp only [Bool.and_eq_true, decide_eq_true_eq] at h
      obtain ⟨⟨⟨rfl, h1⟩, h2⟩, h3⟩ := h
      exact n_cmp x.hu (x.toP h1 (hndE a x o.1 h1).1) (x.toP h2 (hndE b x o.2 h2).1) (mark1 h3)
    · cases h
  | .op o' a b, X, t, W, e, x, o, h => by
    unfold chE at h
    unfold okH at o
    rw [Bool.and_eq_true] at o
    split at h
    · simp only [Bool.and_eq_true, decide_eq_true_eq] at h
      obtain ⟨⟨rfl, h1⟩, h2⟩ := h
      exact both (n_op (x.toP h1 (hndE a x o.1 h1).1) (x.toP h2 (hndE b x o.2 h2).1)) (fun i e => nomatch e) rfl
    · cases h
  | .ix a b, X, t, W, e, x, o, h => by
    unfold chE at h
    unfold okH at o
    rw [Bool.and_eq_true] at o
    split at h
    · simp only [Bool.and_eq_true] at h
      obtain ⟨⟨h1, h2⟩, h3⟩ := h
      exact both (n_ix (x.toP h1 (hndE a x o.1 h1).1) (x.toP h2 (hndE b x o.2 h2).1) (plain1 h3)) (fun i e => nomatch e) rfl
    · cases h
  | .ls es, X, t, W, e, x, o, h => by
    unfold chE at h
    unfold okH at o
    split at h
    · exact both (n_ls (hndEs es x o h).2) (fun i e => nomatch e) rfl
    · cases h
  | .tp es, X, t, W, e, x, o, h => by
    unfold chE at h
    unfold okH at o
    split at h
    · exact both (n_tp (hndEs es x o h).2) (fun i e => nomatch e) rfl
    · cases h
  | .bi b es, X, t, W, e, x, o, h => by
    cases b with
    | int =>
      unfold chE at h
      unfold okH at o
      split at h
      · dsimp only [biN] at h
        simp only [Bool.and_eq_true, decide_eq_true_eq] at h
        obtain ⟨⟨⟨rfl, h1⟩, h2⟩, h3⟩ := h
        obtain ⟨g1, g2, g3, g4⟩ := x.hasB h1
        exact both (n_biT cs_toInt g1 g2 PyProof.Rows.boot_int (hndEs es x o h2).1 (shpL_of h2) g3 g4) (fun i e => nomatch e) rfl
      · cases h
    | _ => unfold okH at o; cases o
  | .glb _ _, _, _, _, _, _, o, _ | .glbS _ _, _, _, _, _, _, o, _ | .tx _ _ _, _, _, _, _, _, o, _ | .neg _, _, _, _, _, _, o, _ | .or _ _, _, _, _, _, _, o, _ | .ch _ _ _ _ _, _, _, _, _, _, o, _ | .isn _ _, _, _, _, _, _, o, _ | .isb _ _ _, _, _, _, _, _, o, _ | .sl _ _ _, _, _, _, _, _, o, _
  | .rv _, _, _, _, _, _, o, _ | .rep _ _, _, _, _, _, _, o, _ | .comp _ _ _ _ _, _, _, _, _, _, o, _ | .call _ _ _, _, _, _, _, _, o, _ | .cal0 _ _, _, _, _, _, _, o, _ | .calE _ _ _, _, _, _, _, _, o, _
  | .lend _ _, _, _, _, _, _, o, _ | .mv _, _, _, _, _, _, o, _ | .isnS _ _, _, _, _, _, _, o, _ | .dGet _ _ _, _, _, _, _, _, o, _ | .tT _, _, _, _, _, _, o, _ | .lT _, _, _, _, _, _, o, _ | .compT _ _ _ _, _, _, _, _, _, o, _ | .catT _ _, _, _, _, _, _, o, _ | .hl _, _, _, _, _, _, o, _ | .hix _ _, _, _, _, _, _, o, _ | .mvI _ _, _, _, _, _, _, o, _
  | .isnH _ _, _, _, _, _, _, o, _ | .mt _ _ _, _, _, _, _, _, o, _ | .pop _ _, _, _, _, _, _, o, _ | .d0, _, _, _, _, _, o, _ | .d1 _ _, _, _, _, _, _, o, _ | .compM _ _ _ _ _, _, _, _, _, _, o, _ | .srtS _, _, _, _, _, _, o, _ | .srtL _, _, _, _, _, _, o, _ | .lenS _, _, _, _, _, _, o, _ | .lr _, _, _, _, _, _, o, _ | .callT _ _ _ _ _, _, _, _, _, _, o, _ | .met _ _ _ _, _, _, _, _, _, o, _ | .mk _ _ _, _, _, _, _, _, o, _ | .calB _ _ _, _, _, _, _, _, o, _ => by unfold okH at o; cases o
theorem hndAn : ∀ (c : E rm.S) {X : Cx} {t : Sx} {W : WN} {es : List Expr}, XH rm X t cl → okH c = true → chAn c t es = true → ∀ p, PE X (.BoolOp .And es p) (rdP W c) ∧ PW X (.BoolOp .And es p) (rdT W c)
  | .an a b, X, t, W, es, x, o, h => fun p => by
    unfold chAn at h
    unfold okH at o
    rw [Bool.and_eq_true] at o
    split at h
    · rename_i ea eb r
      rw [Bool.and_eq_true] at h
      have s := hndE a (W := W) x o.1 h.1
      split at h
      · have s2 := hndE b (W := W) x o.2 h.2
        exact ⟨to_opn (n_an (x.toP h.1 s.1) (pe_one (x.toP h.2 s2.1))) (fun i e => nomatch e), n_anT s.2 (pw_and1 s2.2)⟩
      · have s2 := hndAn b (W := W) x o.2 h.2 p
        exact ⟨to_opn (n_an (x.toP h.1 s.1) s2.1) (fun i e => nomatch e), n_anT s.2 s2.2⟩
    · cases h
  | .var _, _, _, _, _, _, _, h | .non, _, _, _, _, _, _, h | .bl _, _, _, _, _, _, _, h | .int _, _, _, _, _, _, _, h | .str _, _, _, _, _, _, _, h | .glb _ _, _, _, _, _, _, _, h | .glbS _ _, _, _, _, _, _, _, h | .tx _ _ _, _, _, _, _, _, _, h | .op _ _ _, _, _, _, _, _, _, h | .neg _, _, _, _, _, _, _, h
  | .nt _, _, _, _, _, _, _, h | .or _ _, _, _, _, _, _, _, h | .cmp _ _ _, _, _, _, _, _, _, h | .ch _ _ _ _ _, _, _, _, _, _, _, h | .isn _ _, _, _, _, _, _, _, h | .isb _ _ _, _, _, _, _, _, _, h | .ix _ _, _, _, _, _, _, _, h | .sl _ _ _, _, _, _, _, _, _, h
  | .rv _, _, _, _, _, _, _, h | .ls _, _, _, _, _, _, _, h | .tp _, _, _, _, _, _, _, h | .rep _ _, _, _, _, _, _, _, h | .comp _ _ _ _ _, _, _, _, _, _, _, h | .call _ _ _, _, _, _, _, _, _, h | .cal0 _ _, _, _, _, _, _, _, h | .calE _ _ _, _, _, _, _, _, _, h
  | .lend _ _, _, _, _, _, _, _, h | .mv _, _, _, _, _, _, _, h | .isnS _ _, _, _, _, _, _, _, h | .dGet _ _ _, _, _, _, _, _, _, h | .tT _, _, _, _, _, _, _, h | .lT _, _, _, _, _, _, _, h | .compT _ _ _ _, _, _, _, _, _, _, h | .catT _ _, _, _, _, _, _, _, h | .hl _, _, _, _, _, _, _, h | .hix _ _, _, _, _, _, _, _, h | .mvI _ _, _, _, _, _, _, _, h
  | .isC _ _ _, _, _, _, _, _, _, h | .isnH _ _, _, _, _, _, _, _, h | .bi _ _, _, _, _, _, _, _, h | .mt _ _ _, _, _, _, _, _, _, h | .pop _ _, _, _, _, _, _, _, h | .d0, _, _, _, _, _, _, h | .d1 _ _, _, _, _, _, _, _, h | .compM _ _ _ _ _, _, _, _, _, _, _, h | .srtS _, _, _, _, _, _, _, h | .srtL _, _, _, _, _, _, _, h | .lenS _, _, _, _, _, _, _, h | .lr _, _, _, _, _, _, _, h | .callT _ _ _ _ _, _, _, _, _, _, _, h | .met _ _ _ _, _, _, _, _, _, _, h | .mk _ _ _, _, _, _, _, _, _, h | .calB _ _ _, _, _, _, _, _, _, h => by unfold chAn at h; cases h
theorem hndEs : ∀ (c : Es rm.S) {X : Cx} {t : Sx} {W : WN} {es : List Expr}, XH rm X t cl → okHs c = true → chEs c t es = true → PA X es (rdA W c) ∧ PA X es (rdX W c)
  | .nil, X, t, W, es, x, o, h => by
    unfold chEs at h
    split at h
    · exact ⟨n_a0, n_x0⟩
    · cases h
  | .cons a r, X, t, W, es, x, o, h => by
    unfold chEs at h
    unfold okHs at o
    rw [Bool.and_eq_true] at o
    split at h
    · simp only [Bool.and_eq_true] at h
      obtain ⟨⟨h1, h2⟩, h3⟩ := h
      have s := hndE a (W := W) x o.1 h1
      have s2 := hndEs r (W := W) x o.2 h3
      exact ⟨n_a1 (x.toP h1 s.1) s2.1 h2, n_x1 s.1 s2.2 h2⟩
    · cases h
end
end
end Ac
namespace Ac
open PySem PySem.Spec PyProof.Rows L2
/-! ### the checker of statements -/
def swc (sc : Scope) (y : Str) (py p : Pos) (scope : Scope) : Bool := (if sc.kind.isAnnotationScope then ScopeKind.function else sc.kind) == .function && sc.names.lookup y == some .local && py.line == p.line && !(scope.names.any fun (n, k) => n == y && (k == .local || k == .cell))
theorem swc_of {env : Env} {y : Str} {py p : Pos} {scope : Scope} {elt : Expr} {gs : List Comprehension} {l : Nat} : swapsWith (.ListComp elt gs scope p) (some (.Name y py)) l env = pure (swc env.scope y py p scope) := rfl
def swok (sc : Scope) (y : Str) (py : Pos) (e : Expr) : Bool := match e with
  | .ListComp _ _ scope p => !(swc sc y py p scope)
  | e => shp e
/-- a name, or a thing of it -/
def chPa (t : Sx) (i : Nat) : List Px → Expr → Bool
  | [], e => chNm t i e
  | [.c n], .Subscript e (.Constant (.int m) _ _) _ => chNm t i e && decide (n = m)
  | [.v k], .Subscript e ek _ => chNm t i e && chNm t k ek
  | _, _ => false
section
variable {S : Type}
def ch1 : St1 S → Sx → Stmt → Bool
  | .nop, _, st => (match st with | .Pass _ => true | _ => false)
  | .asg i c, t, st => (match st with | .Assign [.Name x py] e _ => decide (t.N[i]? = some x) && sSto t x && chM c t e && swok t.sc x py e | _ => false)
  | .asgL i c, t, st => (match st with
    | .Assign [.Name x py] (.ListComp elt [⟨tge, iter, ifs, z⟩] scope p) _ => (match c with
      | .comp own tg it cc ce => decide (t.N[i]? = some x) && decide (t.sc.names.lookup x = some .local) && swc t.sc x py p scope &&
        decide (z = 0) && chI it t tge iter && blkC t.N t.sc scope (ownOf t own) && decide ((ownOf t own).map (·.2) = own) && chTg (subT t scope) tg tge && chC cc (subT t scope) ifs && chE ce (subT t scope) elt && shp iter && tgSub tg own
      | .compM own tg it ip a => decide (t.N[i]? = some x) && decide (t.sc.names.lookup x = some .local) && swc t.sc x py p scope &&
        decide (z = 0) && ifs.isEmpty && chI it t tge iter && blkC t.N t.sc scope (ownOf t own) && decide ((ownOf t own).map (·.2) = own) && chTg (subT t scope) tg tge && chPop ip a (subT t scope) elt && shp iter && tgSub tg own
      | .compT own tg it ce => decide (t.N[i]? = some x) && decide (t.sc.names.lookup x = some .local) && swc t.sc x py p scope &&
        decide (z = 0) && ifs.isEmpty && chI it t tge iter && blkC t.N t.sc scope (ownOf t own) && decide ((ownOf t own).map (·.2) = own) && chTg (subT t scope) tg tge && chE ce (subT t scope) elt && shp iter && tgSub tg own
      | _ => false)
    | _ => false)
  | .asgH i _ c, t, st => (match st with | .Assign [.Name x _] (.List [e, .Constant (.int 0) _ _] _) _ => decide (t.N[i]? = some x) && sSto t x && chE c t e && shp e | _ => false)
  | .asgT is c, t, st => (match st with | .Assign [.Tuple xs _ _] e _ => chTn t is xs && chE c t e && shp e && !(isComp e) && !(isTupE e) | _ => false)
  | .app i c, t, st => (match st with | .Expr (.Call (.Attribute e1 m p2) [e] [] p4) _ => chNm t i e1 && decide (m = ("append" : Str)) && chE c t e && shp e && (p2.endLine == p4.line) | _ => false)
  | .ins i j c, t, st => (match st with | .Expr (.Call (.Attribute e1 m p2) [e0, e] [] p4) _ => chNm t i e1 && decide (m = ("insert" : Str)) && chE j t e0 && chE c t e && shp e0 && shp e && (p2.endLine == p4.line) | _ => false)
  | .setI i j c, t, st => (match st with | .Assign [.Subscript e1 e0 _] e _ => chNm t i e1 && chE j t e0 && chE c t e && shp e0 && shp e && !(isComp e) && !(isTupE e) | _ => false)
  | .aug i o c, t, st => (match st with | .AugAssign (.Name x _) o' e _ => decide (t.N[i]? = some x) && sSto t x && decide (o = o') && chE c t e && (decide (o = .Add) || decide (o = .Sub)) | _ => false)
  | .expr c, t, st => (match st with | .Expr e _ => chE c t e && shp e && !(isComp e) | _ => false)
  | .ret c, t, st => (match st with | .Return (some e) _ => chM c t e | _ => false)
  | .brk, _, st => (match st with | .Break _ => true | _ => false)
  | .cnt, _, st => (match st with | .Continue _ => true | _ => false)
  | .never, _, _ => true
  | .asgD i, t, st => (match st with | .Assign [.Name x _] (.Dict [] [] _) _ => decide (t.N[i]? = some x) && sSto t x | _ => false)
  | .dSet i j k, t, st => (match st with | .Assign [.Subscript (.Name x p1) (.Name y p3) _] (.Name z p4) _ => chNm t i (.Name x p1) && chNm t j (.Name y p3) && chNm t k (.Name z p4) | _ => false)
  | .asgP i j a b, t, st => (match st with | .Assign [.Tuple [.Name x px, .Name y py] _ _] (.Tuple [ea, eb] _ _) _ => decide (t.N[i]? = some x) && decide (t.N[j]? = some y) && parOk t.sc x y px py ea eb && decide (i ≠ j) && chE a t ea && chE b t eb && shp ea && shp eb | _ => false)
  | .asgTT is c, t, st => (match st with | .Assign [.Tuple xs _ _] e _ => chTn t is xs && chE c t e && shp e && !(isComp e) && !(isTupE e) | _ => false)
  | .appP i ps c, t, st => (match st with | .Expr (.Call (.Attribute e1 m p2) [e] [] p4) _ => chPa t i ps e1 && decide (m = ("append" : Str)) && chE c t e && shp e && (p2.endLine == p4.line) | _ => false)
  | .insP i ps c, t, st => (match st with | .Expr (.Call (.Attribute e1 m p2) [.Constant (.int 0) _ _, e] [] p4) _ => chPa t i ps e1 && decide (m = ("insert" : Str)) && chE c t e && shp e && (p2.endLine == p4.line) | _ => false)
  | .setP i ps j c, t, st => (match st with | .Assign [.Subscript e1 e0 _] e _ => chPa t i ps e1 && chE j t e0 && chE c t e && shp e0 && shp e && !(isComp e) && !(isTupE e) | _ => false)
  | .appS i c, t, st => (match st with | .Expr (.Call (.Attribute e1 m p2) [e] [] p4) _ => chNm t i e1 && decide (m = ("append" : Str)) && chE c t e && shp e && (p2.endLine == p4.line) | _ => false)
  | .raise x _, t, st => (match st with | .Raise (some (.Call (.Name y _) [.Constant (.str _) _ _] [] _)) none _ => decide (x = y) && sGl t.sc x && plainN x | _ => false)
mutual
def okHS : Sm S → Bool
  | .one (.asg _ c) => okH c
  | .ite c a b => okH c && okHSs a && okHSs b
  | _ => false
def okHSs : Sms S → Bool
  | .nil => true
  | .cons a r => okHS a && okHSs r
end
mutual
def chS : Sm S → Sx → Stmt → Bool
  | .one s => fun t st => ch1 s t st
  | .ite c a b => fun t st => match st with | .If e sa sb _ => chE c t e && chSs a t sa && chSs b t sb | _ => false
  | .whl c b => fun t st => match st with | .While e sb [] _ => chE c t e && chSs b t sb | _ => false
  | .for tg it b => fun t st => match st with | .For tge iter sb [] _ => chTg t tg tge && chI it t tge iter && shp iter && chSs b t sb | _ => false
  | .tryC b i j c => fun t st => match st with
    | .Try bd [.ExceptHandler (some (.Name x _)) (some n) [.Assign [.Name y _] e _] _] [] [] _ => t.xt && decide (x = ("PinError" : Str)) && sGl t.sc x && decide (t.N[i]? = some n) && decide (t.sc.names.lookup n = some .local) && decide (t.N[j]? = some y) && sSto t y && chSs b t bd &&
      (match c with | .var m => chNm t m e | _ => false)
    | _ => false
  | .tryS b i su => fun t st => match st with
    | .Try bd [.ExceptHandler (some (.Name x _)) (some n) (s0 :: sr) _] [] [] _ => t.xt && decide (x = ("PinError" : Str)) && sGl t.sc x && decide (t.N[i]? = some n) && decide (t.sc.names.lookup n = some .local) && chSs b t bd && okHSs su && chSs su t (s0 :: sr)
    | _ => false
  | .forA i j c => fun t st => match st with
    | .For (.Name y _) (.Name x px) [.Expr (.Call (.Attribute (.Name z pz) m p3) [.Constant (.int c') _ _] [] p6) _] [] _ => chNm t i (.Name x px) && chNm t j (.Name z pz) && decide (t.N[j]? = some y) && sSto t y && decide (m = ("append" : Str)) && decide (c = c') && (p3.endLine == p6.line)
    | _ => false
  | .ifO x _ i js c b => fun t st => match st with
    | .If (.BoolOp .Or (.UnaryOp .Not (.Call (.Name y _) (e0 :: es) [] _) _ :: eb :: r) _) sa [] _ => decide (x = y) && sGl t.sc x && plainN x && chNms t (i :: js) (e0 :: es) && (match r with | [] => chE c t eb | _ :: _ => chOr c t (eb :: r)) && chSs b t sa
    | _ => false
def chSs : Sms S → Sx → List Stmt → Bool
  | .nil => fun _ ss => match ss with | [] => true | _ => false
  | .cons a r => fun t ss => match ss with | s :: sr => chS a t s && chSs r t sr | _ => false
end
def fn1 (G : Str → Summ → Prop) (GE : Str → ESumm S → Prop) (GH : Gs S) (GX : Str → Nat → Prop) : St1 S → Prop
  | .asg _ c | .asgL _ c | .asgT _ c | .app _ c | .aug _ _ c | .expr c | .ret c => fnE G GE GH c
  | .ins _ j c | .setI _ j c => fnE G GE GH j ∧ fnE G GE GH c
  | .asgH _ φ c => GH.h φ ∧ fnE G GE GH c
  | .asgTT _ c | .appP _ _ c | .insP _ _ c | .appS _ c => fnE G GE GH c
  | .asgP _ _ a b => fnE G GE GH a ∧ fnE G GE GH b
  | .setP _ _ j c => fnE G GE GH j ∧ fnE G GE GH c
  | .raise x n => GX x n
  | _ => True
mutual
def fnS (G : Str → Summ → Prop) (GE : Str → ESumm S → Prop) (GH : Gs S) (GX : Str → Nat → Prop) : Sm S → Prop
  | .one s => fn1 G GE GH GX s
  | .ite c a b => fnE G GE GH c ∧ fnSs G GE GH GX a ∧ fnSs G GE GH GX b
  | .whl c b => fnE G GE GH c ∧ fnSs G GE GH GX b
  | .for _ it b => fnI G GE GH it ∧ fnSs G GE GH GX b
  | .tryC b _ _ _ => fnSs G GE GH GX b
  | .tryS b _ _ => fnSs G GE GH GX b
  | .forA _ _ _ => True
  | .ifO x φ _ _ c b => GH.o x φ ∧ fnE G GE GH c ∧ fnSs G GE GH GX b
def fnSs (G : Str → Summ → Prop) (GE : Str → ESumm S → Prop) (GH : Gs S) (GX : Str → Nat → Prop) : Sms S → Prop
  | .nil => True
  | .cons a r => fnS G GE GH GX a ∧ fnSs G GE GH GX r
end
end
section
variable {rm : RM} {k : Nat} {cl : Nat → Addr} {G : Str → Summ → Prop} {GE : Str → ESumm rm.S → Prop} {GH : Gs rm.S} {GX : Str → Nat → Prop}
theorem swok_of {X : Cx} {t : Sx} {W : WN} {y : Str} {py : Pos} {e : Expr} {l : Nat} (x : XC rm X k t cl W G GE GH) (h : swok t.sc y py e = true) : swapsWith e (some (.Name y py)) l X.env = pure false := by
  cases e with
  | ListComp elt gs scope p =>
    rw [swc_of, x.hs]
    change (!(swc t.sc y py p scope)) = true at h
    rw [Bool.not_eq_true'] at h
    rw [h]
  | _ => exact swap1 h rfl
theorem sndJ (c : It rm.S) {X : Cx} {t : Sx} {W : WN} {tg e : Expr} (x : XC rm X k t cl W G GE GH) (h : chI c t tg e = true) (f : fnI G GE GH c) : PI X tg e (rdJ W c) := by
  cases c with
  | seq a =>
    unfold chI at h
    unfold fnI at f
    exact n_jSeq (sndE a x h f).1
  | rng es =>
    unfold chI at h
    unfold fnI at f
    split at h
    · simp only [Bool.and_eq_true, decide_eq_true_eq] at h
      obtain ⟨⟨⟨rfl, h1⟩, h2⟩, h3⟩ := h
      obtain ⟨g1, g2, g3, g4⟩ := x.hasB h1
      exact rngJ es h2 (sndEs es x h2 f).1 g1 g2 h3
    · cases h
  | enu a =>
    unfold chI at h
    unfold fnI at f
    split at h
    · simp only [Bool.and_eq_true, decide_eq_true_eq] at h
      obtain ⟨⟨⟨rfl, h1⟩, h2⟩, h3⟩ := h
      obtain ⟨g1, g2, g3, g4⟩ := x.hasB h1
      exact n_jEnu g1 g2 (sndE a x h2 f).1 h3
    · cases h
  | zip a b =>
    unfold chI at h
    unfold fnI at f
    split at h
    · simp only [Bool.and_eq_true, decide_eq_true_eq] at h
      obtain ⟨⟨⟨⟨⟨rfl, h1⟩, h2⟩, h3⟩, h4⟩, h5⟩ := h
      obtain ⟨g1, g2, g3, g4⟩ := x.hasB h1
      exact n_jZip g1 g2 (sndE a x h2 f.1).1 (sndE b x h3 f.2).1 h4 h5
    · cases h
theorem sndPop {i : Nat} {a : E rm.S} {X : Cx} {t : Sx} {W : WN} {e : Expr} (x : XC rm X k t cl W G GE GH) (h : chPop i a t e = true) (f : fnE G GE GH a) : PE X e (rdM W (.pop i a)) := by
  unfold chPop at h
  split at h
  · simp only [Bool.and_eq_true, decide_eq_true_eq] at h
    obtain ⟨⟨⟨⟨rfl, h1⟩, h2⟩, h3⟩, h4⟩ := h
    obtain ⟨y, p, e1, hv⟩ := x.nm h1
    cases e1
    exact n_pop hv (x.toP h2 (sndE a x h2 f).1) h3 h4
  · cases h
theorem sndCM {own : List Nat} {tg : Tg} {it : It rm.S} {i : Nat} {a : E rm.S} {X : Cx} {t : Sx} {W : WN} {e : Expr} (x : XC rm X k t cl W G GE GH) (h : chCM own tg it i a t e = true) (f : fnE G GE GH (.compM own tg it i a)) : PE X e (rdM W (.compM own tg it i a)) := by
  unfold chCM at h
  unfold fnE at f
  split at h
  · simp only [Bool.and_eq_true, decide_eq_true_eq] at h
    obtain ⟨⟨⟨⟨⟨⟨⟨rfl, h1⟩, h2⟩, h3⟩, h4⟩, h5⟩, h7⟩, h8⟩ := h
    exact (n_compM (ol := ownOf t own) h3 x.calm (by rw [x.hN]; exact x.nd) (sndJ it x h1 f.1) (by rw [x.hN, x.hs]; exact own_ix h2) (fun s H C cs fp => (x.blk s H _ cs C fp).tg h4) (fun s H C cs fp => sndPop (x.blk s H _ cs C fp) h5 f.2) h7 (tgS h8)).1
  · cases h
theorem sndM (c : E rm.S) {X : Cx} {t : Sx} {W : WN} {e : Expr} (x : XC rm X k t cl W G GE GH) (h : chM c t e = true) (f : fnE G GE GH c) : PE X e (rdM W c) := by
  unfold chM at h
  split at h
  · unfold fnE at f
    exact sndPop x h f
  · exact sndCM x h f
  · split at h
    · simp only [Bool.and_eq_true] at h
      unfold fnE fnEs fnEs at f
      have h2 := sndCM x h.1.2 f.2.1
      refine n_tp2M (sndE _ x h.1.1 f.1).1 h2 h.2 ?_
      have h12 := h.1.2
      unfold chCM at h12
      split at h12
      · rfl
      · cases h12
    · cases h
  · exact to_M (sndE _ x h f).1
theorem sndPa {i : Nat} {ps : List Px} {X : Cx} {t : Sx} {W : WN} {e : Expr} (x : XC rm X k t cl W G GE GH) (h : chPa t i ps e = true) : PE X e (tPx i ps) ∧ ∀ (m : Str) w, attributeBase e m X.env w = w := by
  unfold chPa at h
  split at h
  · obtain ⟨y, p, rfl, hv⟩ := x.nm h
    exact ⟨n_px0 hv, fun m w => base_of rfl⟩
  · rw [Bool.and_eq_true, decide_eq_true_eq] at h
    obtain ⟨h1, rfl⟩ := h
    obtain ⟨y, p, rfl, hv⟩ := x.nm h1
    exact ⟨n_px1 (px := .c _) hv pe_int (plain1 rfl), fun m w => base_of rfl⟩
  · rw [Bool.and_eq_true] at h
    obtain ⟨h1, h2⟩ := h
    obtain ⟨y, p, rfl, hv⟩ := x.nm h1
    obtain ⟨y2, p2, rfl, hv2⟩ := x.nm h2
    exact ⟨n_px1 (px := .v _) hv hv2 (plain1 rfl), fun m w => base_of rfl⟩
  · cases h
theorem snd1 (c : St1 rm.S) {X : Cx} {t : Sx} {W : WN} {st : Stmt} (x : XC rm X k t cl W G GE GH) (gx : ∀ y n, GX y n → ExF X y (cl n)) (h : ch1 c t st = true) (f : fn1 G GE GH GX c) : PS X st (rd1 W c) := by
  have nd : X.N.Nodup := by rw [x.hN]; exact x.nd
  cases c with
  | nop =>
    dsimp only [ch1] at h
    split at h
    · exact n_pass
    · cases h
  | asg i c =>
    dsimp only [ch1] at h
    dsimp only [fn1] at f
    split at h
    · simp only [Bool.and_eq_true, decide_eq_true_eq] at h
      obtain ⟨⟨⟨h1, h2⟩, h3⟩, h4⟩ := h
      exact n_asgM nd (by rw [x.hN]; exact h1) (x.sto h2) (sndM c x h3 f) (swok_of x h4)
    · cases h
  | asgL i c =>
    dsimp only [ch1] at h
    dsimp only [fn1] at f
    split at h
    · split at h
      · unfold fnE at f
        simp only [Bool.and_eq_true, decide_eq_true_eq] at h
        obtain ⟨⟨⟨⟨⟨⟨⟨⟨⟨⟨⟨w1, w2⟩, w3⟩, rfl⟩, h1⟩, h2⟩, h3⟩, h4⟩, h5⟩, h6⟩, h7⟩, h8⟩ := h
        exact n_asgL (ol := ownOf t _) (by rw [x.hN]; exact w1) (by rw [x.hs]; exact w2) (by rw [swc_of, x.hs, w3]) h3 x.calm nd (sndI _ x h1 f.1) (by rw [x.hN, x.hs]; exact own_ix h2) (fun s H C cs fp => (x.blk s H _ cs C fp).tg h4) (fun s H C cs fp => sndC _ (x.blk s H _ cs C fp) h5 f.2.1) (fun s H C cs fp => (sndE _ (x.blk s H _ cs C fp) h6 f.2.2).1) h7 (tgS h8)
      · rename_i ifs _ _ _ _ _ _ _ _ _ _
        unfold fnE at f
        simp only [Bool.and_eq_true, decide_eq_true_eq] at h
        obtain ⟨⟨⟨⟨⟨⟨⟨⟨⟨⟨⟨w1, w2⟩, w3⟩, rfl⟩, w4⟩, h1⟩, h2⟩, h3⟩, h4⟩, h5⟩, h7⟩, h8⟩ := h
        have w5 := List.isEmpty_iff.mp w4
        subst w5
        exact n_asgLM (ol := ownOf t _) (by rw [x.hN]; exact w1) (by rw [x.hs]; exact w2) (by rw [swc_of, x.hs, w3]) h3 x.calm nd (sndJ _ x h1 f.1) (by rw [x.hN, x.hs]; exact own_ix h2) (fun s H C cs fp => (x.blk s H _ cs C fp).tg h4) (fun s H C cs fp => sndPop (x.blk s H _ cs C fp) h5 f.2) h7 (tgS h8)
      · rename_i ifs _ _ _ _ _ _ _ _ _
        unfold fnE at f
        simp only [Bool.and_eq_true, decide_eq_true_eq] at h
        obtain ⟨⟨⟨⟨⟨⟨⟨⟨⟨⟨⟨w1, w2⟩, w3⟩, rfl⟩, w4⟩, h1⟩, h2⟩, h3⟩, h4⟩, h5⟩, h7⟩, h8⟩ := h
        have w5 := List.isEmpty_iff.mp w4
        subst w5
        exact n_asgLT (ol := ownOf t _) (by rw [x.hN]; exact w1) (by rw [x.hs]; exact w2) (by rw [swc_of, x.hs, w3]) h3 x.calm nd (sndI _ x h1 f.1) (by rw [x.hN, x.hs]; exact own_ix h2) (fun s H C cs fp => (x.blk s H _ cs C fp).tg h4) (fun s H C cs fp => (sndE _ (x.blk s H _ cs C fp) h5 f.2).1) h7 (tgS h8)
      · cases h
    · cases h
  | asgH i φ c =>
    dsimp only [ch1] at h
    dsimp only [fn1] at f
    split at h
    · simp only [Bool.and_eq_true, decide_eq_true_eq] at h
      obtain ⟨⟨⟨h1, h2⟩, h3⟩, h4⟩ := h
      exact n_asgH (x.gh _ f.1) nd (by rw [x.hN]; exact h1) (x.sto h2) (sndE c x h3 f.2).1 h4
    · cases h
  | asgT is c =>
    dsimp only [ch1] at h
    dsimp only [fn1] at f
    split at h
    · simp only [Bool.and_eq_true, Bool.not_eq_true'] at h
      obtain ⟨⟨⟨⟨h1, h2⟩, h3⟩, h4⟩, h5⟩ := h
      exact n_asgT x.calm nd (x.tn h1) (sndE c x h2 f).1 h3 h4 h5
    · cases h
  | app i c =>
    dsimp only [ch1] at h
    dsimp only [fn1] at f
    split at h
    · simp only [Bool.and_eq_true, decide_eq_true_eq] at h
      obtain ⟨⟨⟨⟨h1, rfl⟩, h2⟩, h3⟩, h4⟩ := h
      obtain ⟨y, p, rfl, hv⟩ := x.nm h1
      exact n_app hv (sndE c x h2 f).1 h3 h4
    · cases h
  | ins i j c =>
    dsimp only [ch1] at h
    dsimp only [fn1] at f
    split at h
    · simp only [Bool.and_eq_true, decide_eq_true_eq] at h
      obtain ⟨⟨⟨⟨⟨⟨h1, rfl⟩, h2⟩, h3⟩, h4⟩, h5⟩, h6⟩ := h
      obtain ⟨y, p, rfl, hv⟩ := x.nm h1
      exact n_ins hv (x.toP h2 (sndE j x h2 f.1).1) (sndE c x h3 f.2).1 h4 h5 h6
    · cases h
  | setI i j c =>
    dsimp only [ch1] at h
    dsimp only [fn1] at f
    split at h
    · simp only [Bool.and_eq_true, Bool.not_eq_true'] at h
      obtain ⟨⟨⟨⟨⟨⟨h1, h2⟩, h3⟩, h4⟩, h5⟩, h6⟩, h7⟩ := h
      obtain ⟨y, p, rfl, hv⟩ := x.nm h1
      exact n_setI hv (x.toP h2 (sndE j x h2 f.1).1) (sndE c x h3 f.2).1 h4 h5 h6 h7
    · cases h
  | aug i o c =>
    dsimp only [ch1] at h
    dsimp only [fn1] at f
    split at h
    · simp only [Bool.and_eq_true, decide_eq_true_eq, Bool.or_eq_true] at h
      obtain ⟨⟨⟨⟨h1, h2⟩, rfl⟩, h3⟩, h4⟩ := h
      exact n_aug nd (by rw [x.hN]; exact h1) (x.sto h2) (x.toP h3 (sndE c x h3 f).1) h4
    · cases h
  | expr c =>
    dsimp only [ch1] at h
    dsimp only [fn1] at f
    split at h
    · simp only [Bool.and_eq_true, Bool.not_eq_true'] at h
      exact n_expr (sndE c x h.1.1 f).1 h.1.2 h.2
    · cases h
  | ret c =>
    dsimp only [ch1] at h
    dsimp only [fn1] at f
    split at h
    · cases c with
      | var i =>
        unfold chM chE at h
        obtain ⟨y, p, rfl, hv⟩ := x.nm h
        exact n_retV hv
      | _ => exact n_retM (sndM _ x h f) (fun i e => nomatch e)
    · cases h
  | brk =>
    dsimp only [ch1] at h
    split at h
    · exact n_brk
    · cases h
  | cnt =>
    dsimp only [ch1] at h
    split at h
    · exact n_cnt
    · cases h
  | never => exact n_never
  | raise y n =>
    dsimp only [ch1] at h
    dsimp only [fn1] at f
    split at h
    · simp only [Bool.and_eq_true, decide_eq_true_eq] at h
      obtain ⟨⟨rfl, h1⟩, h2⟩ := h
      exact n_raise x.calm x.tk (gx _ _ f) (x.gl h1) (plain3 h2).1
    · cases h
  | asgD i =>
    dsimp only [ch1] at h
    split at h
    · simp only [Bool.and_eq_true, decide_eq_true_eq] at h
      exact n_asgD nd (by rw [x.hN]; exact h.1) (x.sto h.2)
    · cases h
  | dSet i j k =>
    dsimp only [ch1] at h
    split at h
    · simp only [Bool.and_eq_true] at h
      obtain ⟨⟨h1, h2⟩, h3⟩ := h
      obtain ⟨_, _, e1, hv1⟩ := x.nm h1
      obtain ⟨_, _, e2, hv2⟩ := x.nm h2
      obtain ⟨_, _, e3, hv3⟩ := x.nm h3
      cases e1
      cases e2
      cases e3
      exact n_dSet (by have := x.room.un; omega) hv1 hv2 hv3
    · cases h
  | asgP i j a b =>
    dsimp only [ch1] at h
    dsimp only [fn1] at f
    split at h
    · simp only [Bool.and_eq_true, decide_eq_true_eq] at h
      obtain ⟨⟨⟨⟨⟨⟨⟨h1, h2⟩, h3⟩, h4⟩, h5⟩, h6⟩, h7⟩, h8⟩ := h
      exact n_asgP x.calm nd (by rw [x.hN]; exact h1) (by rw [x.hN]; exact h2) (by rw [x.hs]; exact h3) h4 (sndE a x h5 f.1).1 (sndE b x h6 f.2).1 h7 h8
    · cases h
  | asgTT is c =>
    dsimp only [ch1] at h
    dsimp only [fn1] at f
    split at h
    · simp only [Bool.and_eq_true, Bool.not_eq_true'] at h
      obtain ⟨⟨⟨⟨h1, h2⟩, h3⟩, h4⟩, h5⟩ := h
      exact n_asgTT x.calm nd (x.tn h1) (sndE c x h2 f).1 h3 h4 h5
    · cases h
  | appP i ps c =>
    dsimp only [ch1] at h
    dsimp only [fn1] at f
    split at h
    · simp only [Bool.and_eq_true, decide_eq_true_eq] at h
      obtain ⟨⟨⟨⟨h1, rfl⟩, h2⟩, h3⟩, h4⟩ := h
      obtain ⟨hv, hb⟩ := sndPa x h1
      exact n_appP hv (sndE c x h2 f).1 h3 (hb _) h4
    · cases h
  | insP i ps c =>
    dsimp only [ch1] at h
    dsimp only [fn1] at f
    split at h
    · simp only [Bool.and_eq_true, decide_eq_true_eq] at h
      obtain ⟨⟨⟨⟨h1, rfl⟩, h2⟩, h3⟩, h4⟩ := h
      obtain ⟨hv, hb⟩ := sndPa x h1
      exact n_insP hv (sndE c x h2 f).1 h3 (hb _) h4
    · cases h
  | setP i ps j c =>
    dsimp only [ch1] at h
    dsimp only [fn1] at f
    split at h
    · simp only [Bool.and_eq_true, Bool.not_eq_true'] at h
      obtain ⟨⟨⟨⟨⟨⟨h1, h2⟩, h3⟩, h4⟩, h5⟩, h6⟩, h7⟩ := h
      exact n_setP (sndPa x h1).1 (x.toP h2 (sndE j x h2 f.1).1) (sndE c x h3 f.2).1 h4 h5 h6 h7
    · cases h
  | appS i c =>
    dsimp only [ch1] at h
    dsimp only [fn1] at f
    split at h
    · simp only [Bool.and_eq_true, decide_eq_true_eq] at h
      obtain ⟨⟨⟨⟨h1, rfl⟩, h2⟩, h3⟩, h4⟩ := h
      obtain ⟨y, p, rfl, hv⟩ := x.nm h1
      exact n_appS hv (sndE c x h2 f).1 h3 h4
    · cases h
/-- a def's own context -/
theorem chM_H {c : E rm.S} {t : Sx} {e : Expr} (o : okH c = true) (h : chM c t e = true) : chE c t e = true := by
  unfold chM at h
  split at h
  · unfold okH at o; cases o
  · unfold okH at o; cases o
  · unfold okH okHs okHs at o
    rw [Bool.and_eq_true, Bool.and_eq_true] at o
    have := o.2.1
    unfold okH at this
    cases this
  · exact h
theorem swokH_of {X : Cx} {t : Sx} {y : Str} {py : Pos} {e : Expr} {l : Nat} (x : XH rm X t cl) (h : swok t.sc y py e = true) : swapsWith e (some (.Name y py)) l X.env = pure false := by
  cases e with
  | ListComp elt gs scope p =>
    rw [swc_of, x.hs]
    change (!(swc t.sc y py p scope)) = true at h
    rw [Bool.not_eq_true'] at h
    rw [h]
  | _ => exact swap1 h rfl
mutual
theorem hndS : ∀ (c : Sm rm.S) {X : Cx} {t : Sx} {W : WN} {st : Stmt}, XH rm X t cl → okHS c = true → chS c t st = true → PS X st (rdS W c)
  | .one s, X, t, W, st, x, o, h => by
    cases s with
    | asg i c =>
      unfold okHS at o
      unfold chS at h
      dsimp only [ch1] at h
      split at h
      · simp only [Bool.and_eq_true, decide_eq_true_eq] at h
        obtain ⟨⟨⟨h1, h2⟩, h3⟩, h4⟩ := h
        exact n_one (n_asgM (by rw [x.hN]; exact x.nd) (by rw [x.hN]; exact h1) (x.sto h2) (to_M (hndE c x o (chM_H o h3)).1) (swokH_of x h4))
      · cases h
    | _ => unfold okHS at o; cases o
  | .ite c a b, X, t, W, st, x, o, h => by
    unfold okHS at o
    unfold chS at h
    rw [Bool.and_eq_true, Bool.and_eq_true] at o
    split at h
    · simp only [Bool.and_eq_true] at h
      exact n_ite (hndE c x o.1.1 h.1.1).2 (hndSs a x o.1.2 h.1.2) (hndSs b x o.2 h.2)
    · cases h
  | .whl _ _, _, _, _, _, _, o, _ | .for _ _ _, _, _, _, _, _, o, _ | .tryC _ _ _ _, _, _, _, _, _, o, _ | .tryS _ _ _, _, _, _, _, _, o, _ | .forA _ _ _, _, _, _, _, _, o, _ | .ifO _ _ _ _ _ _, _, _, _, _, _, o, _ => by unfold okHS at o; cases o
theorem hndSs : ∀ (c : Sms rm.S) {X : Cx} {t : Sx} {W : WN} {st : List Stmt}, XH rm X t cl → okHSs c = true → chSs c t st = true → PSs X st (rdSs W c)
  | .nil, X, t, W, st, x, o, h => by
    unfold chSs at h
    split at h
    · exact n_nil
    · cases h
  | .cons a r, X, t, W, st, x, o, h => by
    unfold okHSs at o
    unfold chSs at h
    rw [Bool.and_eq_true] at o
    split at h
    · rw [Bool.and_eq_true] at h
      exact n_cons (hndS a x o.1 h.1) (hndSs r x o.2 h.2)
    · cases h
end
structure FCx (X : Cx) : Prop where
  stk : X.stack = X.env :: X.outer
  frm : X.env.frame = some X.env.locals
  ext : X.ex = []
mutual
theorem sndS : ∀ (c : Sm rm.S) {X : Cx} {t : Sx} {W : WN} {st : Stmt}, XC rm X k t cl W G GE GH → (∀ y n, GX y n → ExF X y (cl n)) → (PassesOwn (model X.prog X.w) X.A X.env X.xe ∧ FCx X) → chS c t st = true → fnS G GE GH GX c → PS X st (rdS W c)
  | .one s, X, t, W, st, x, gx, hp, h, f => by
    unfold chS at h
    unfold fnS at f
    exact n_one (snd1 s x gx h f)
  | .ite c a b, X, t, W, st, x, gx, hp, h, f => by
    unfold chS at h
    unfold fnS at f
    split at h
    · simp only [Bool.and_eq_true] at h
      exact n_ite (sndE c x h.1.1 f.1).2 (sndSs a x gx hp h.1.2 f.2.1) (sndSs b x gx hp h.2 f.2.2)
    · cases h
  | .whl c b, X, t, W, st, x, gx, hp, h, f => by
    unfold chS at h
    unfold fnS at f
    split at h
    · simp only [Bool.and_eq_true] at h
      exact n_whl hp.1 (sndE c x h.1 f.1).2 (sndSs b x gx hp h.2 f.2)
    · cases h
  | .for tg it b, X, t, W, st, x, gx, hp, h, f => by
    unfold chS at h
    unfold fnS at f
    split at h
    · simp only [Bool.and_eq_true] at h
      exact n_for hp.1 x.calm (sndJ it x h.1.1.2 f.1) (x.tg h.1.1.1) (sndSs b x gx hp h.2 f.2) h.1.2
    · cases h
  | .tryC b i j c, X, t, W, st, x, gx, hp, h, f => by
    unfold chS at h
    unfold fnS at f
    split at h
    · simp only [Bool.and_eq_true, decide_eq_true_eq] at h
      obtain ⟨⟨⟨⟨⟨⟨⟨⟨h1, rfl⟩, h2⟩, h3⟩, h4⟩, h5⟩, h6⟩, h7⟩, h8⟩ := h
      have nd : X.N.Nodup := by rw [x.hN]; exact x.nd
      refine n_try (x.xt h1) (x.rx h1) hp.2.stk hp.2.frm hp.2.ext nd (by rw [x.hN]; exact h3) (by show X.env.scope.names.lookup _ = _; rw [x.hs]; exact h4) (x.gl h2) x.tk (fun W' pn xe t1 t2 => ?_) (fun a pn => ?_)
      · exact sndSs b (X := X.tr pn xe) { calm := x.calm, hN := x.hN, nd := x.nd, hs := x.hs, hf := x.hf, bn := x.bn, cn := x.cn, cs := x.cs, room := x.room, gd := x.gd, sm := x.sm, tk := t1, gp := x.gp, ge := x.ge, gh := x.gh, gm := x.gm, gk := x.gk, go := x.go, xt := x.xt, rx := x.rx } (fun y n z => let q := gx y n z; ⟨q.mg, q.ex, q.kp, q.sb, q.ty⟩) ⟨t2, hp.2.stk, hp.2.frm, hp.2.ext⟩ h7 f
      · split at h8
        · rename_i m
          unfold chNm at h8
          split at h8
          · rename_i y p
            rw [Bool.and_eq_true, Bool.and_eq_true, decide_eq_true_eq] at h8
            exact pss_one (n_asg (X := X.suite a pn) nd (by show X.N[j]? = _; rw [x.hN]; exact h5) (x.sto h6) (n_varE (X := X.suite a pn) (pe_var (X := X.suite a pn) (by show X.N[m]? = _; rw [x.hN]; exact h8.1.1) (x.vis h8.1.2) (plain3 h8.2).1 (plain3 h8.2).2.1)) (swap1 rfl rfl))
          · cases h8
        · cases h8
    · cases h
  | .tryS b i su, X, t, W, st, x, gx, hp, h, f => by
    unfold chS at h
    unfold fnS at f
    split at h
    · simp only [Bool.and_eq_true, decide_eq_true_eq] at h
      obtain ⟨⟨⟨⟨⟨⟨⟨h1, rfl⟩, h2⟩, h3⟩, h4⟩, h7⟩, h8⟩, h9⟩ := h
      have nd : X.N.Nodup := by rw [x.hN]; exact x.nd
      refine n_tryS (x.xt h1) (x.rx h1) hp.2.stk hp.2.frm hp.2.ext nd (by rw [x.hN]; exact h3) (by show X.env.scope.names.lookup _ = _; rw [x.hs]; exact h4) (x.gl h2) x.tk (fun W' pn xe t1 t2 => ?_) (fun a pn => ?_)
      · exact sndSs b (X := X.tr pn xe) { calm := x.calm, hN := x.hN, nd := x.nd, hs := x.hs, hf := x.hf, bn := x.bn, cn := x.cn, cs := x.cs, room := x.room, gd := x.gd, sm := x.sm, tk := t1, gp := x.gp, ge := x.ge, gh := x.gh, gm := x.gm, gk := x.gk, go := x.go, xt := x.xt, rx := x.rx } (fun y n z => let q := gx y n z; ⟨q.mg, q.ex, q.kp, q.sb, q.ty⟩) ⟨t2, hp.2.stk, hp.2.frm, hp.2.ext⟩ h7 f
      · exact hndSs su (X := X.suite a pn) { hN := x.hN, nd := x.nd, hs := x.hs, hf := x.hf, bn := x.bn, hu := x.hu, xt := x.xt, rx := x.rx } h8 h9
    · cases h
  | .forA i j c, X, t, W, st, x, gx, hp, h, f => by
    unfold chS at h
    split at h
    · simp only [Bool.and_eq_true, decide_eq_true_eq] at h
      obtain ⟨⟨⟨⟨⟨⟨h1, h2⟩, h3⟩, h4⟩, rfl⟩, rfl⟩, h5⟩ := h
      obtain ⟨_, _, e1, v1⟩ := x.nm h1
      obtain ⟨_, _, e2, v2⟩ := x.nm h2
      exact n_forA hp.1 x.calm (by rw [x.hN]; exact x.nd) (by rw [x.hN]; exact h3) (x.sto h4) v1 v2 h5
    · cases h
  | .ifO y φ i js c b, X, t, W, st, x, gx, hp, h, f => by
    unfold chS at h
    unfold fnS at f
    split at h
    · simp only [Bool.and_eq_true, decide_eq_true_eq] at h
      obtain ⟨⟨⟨⟨⟨rfl, h1⟩, h2⟩, h3⟩, h4⟩, h5⟩ := h
      obtain ⟨v, sp⟩ := x.nms h3
      refine n_ifO (x.go _ _ f.1) x.room x.gd (x.gl h1) x.tk v sp (plain3 h2).1 ?_ (sndSs b x gx hp h5 f.2.2)
      split at h4
      · exact pw_or1 (sndE c x h4 f.2.1).2
      · exact (sndOr c x h4 f.2.1 _).2
    · cases h
theorem sndSs : ∀ (c : Sms rm.S) {X : Cx} {t : Sx} {W : WN} {st : List Stmt}, XC rm X k t cl W G GE GH → (∀ y n, GX y n → ExF X y (cl n)) → (PassesOwn (model X.prog X.w) X.A X.env X.xe ∧ FCx X) → chSs c t st = true → fnSs G GE GH GX c → PSs X st (rdSs W c)
  | .nil, X, t, W, st, x, gx, hp, h, f => by
    unfold chSs at h
    split at h
    · exact n_nil
    · cases h
  | .cons a r, X, t, W, st, x, gx, hp, h, f => by
    unfold chSs at h
    unfold fnSs at f
    split at h
    · simp only [Bool.and_eq_true] at h
      exact n_cons (sndS a x gx hp h.1 f.1) (sndSs r x gx hp h.2 f.2)
    · cases h
end
end
end Ac
namespace Ac
open PySem PySem.Spec PyProof.Rows L2
/-! ### a def by its tree -/
/-- the names at the entry -/
def entry (n : Nat) (vs : List Val) : Ctx := vs.map some ++ List.replicate (n - vs.length) none
theorem look_get : ∀ {Γ : Ctx} {i : Nat}, look Γ i = (Γ[i]?).bind id
  | [], _ => rfl
  | v :: r, 0 => by cases v <;> rfl
  | _ :: r, i + 1 => by
    show look r i = _
    rw [look_get (Γ := r)]
    rfl
theorem look_entry {n : Nat} {vs : List Val} {i : Nat} {v : Val} (h : look (entry n vs) i = some v) : vs[i]? = some v := by
  rw [look_get] at h
  unfold entry at h
  by_cases hi : i < vs.length
  · rw [List.getElem?_append_left (by simpa using hi), List.getElem?_map] at h
    cases e : vs[i]? with
    | none => rw [e] at h; cases h
    | some w => rw [e] at h; exact h
  · rw [List.getElem?_append_right (by simpa using hi), List.getElem?_replicate] at h
    split at h <;> cases h
theorem start_get {N : List Str} {vs : List V} {i : Nat} {x : V} (h : vs[i]? = some x) : (L2.start N vs)[i]? = some (some x) := by
  have hi : i < vs.length := (List.getElem?_eq_some_iff.mp h).1
  unfold L2.start
  rw [List.getElem?_append_left (by simpa using hi), List.getElem?_map, h]
  rfl
theorem entry_len {N : List Str} {vs : List V} {ws : List Val} (h : vs.length = ws.length) : (entry N.length ws).length = (L2.start N vs).length := by
  unfold entry L2.start
  rw [List.length_append, List.length_append, List.length_map, List.length_map, List.length_replicate, List.length_replicate, h]
def GoodP0 (cl : Nat → Addr) (P : Program) (w : World) (K : PySem.W.Frag) (mg : Str → Option Value) (base : Heap) (k : Nat) (x : Str) (φ : Summ) : Prop := ∃ f fd ps, FnG P w K mg base k f fd ps (spP cl φ) ∧ mg x = some (.ref f) ∧ PySem.W.keepIn K (.ref f) = true ∧ Binds K fd ps []
def GoodE0 (rm : RM) (cl : Nat → Addr) (P : Program) (w : World) (K : PySem.W.Frag) (mg : Str → Option Value) (base : Heap) (k : Nat) (x : Str) (φ : ESumm rm.S) : Prop := ∃ f fd ps, FnG P w K mg base k f fd ps (spE rm cl φ) ∧ mg x = some (.ref f) ∧ PySem.W.keepIn K (.ref f) = true ∧ Binds K fd ps []
theorem GoodP0.mono {cl : Nat → Addr} {P : Program} {w : World} {K : PySem.W.Frag} {mg : Str → Option Value} {base : Heap} {j k : Nat} {x : Str} {φ : Summ} (h : GoodP0 cl P w K mg base j x φ) (hk : j ≤ k) : GoodP0 cl P w K mg base k x φ :=
  let ⟨f, fd, ps, a, b⟩ := h; ⟨f, fd, ps, a.mono hk, b⟩
theorem GoodE0.mono {rm : RM} {cl : Nat → Addr} {P : Program} {w : World} {K : PySem.W.Frag} {mg : Str → Option Value} {base : Heap} {j k : Nat} {x : Str} {φ : ESumm rm.S} (h : GoodE0 rm cl P w K mg base j x φ) (hk : j ≤ k) : GoodE0 rm cl P w K mg base k x φ :=
  let ⟨f, fd, ps, a, b⟩ := h; ⟨f, fd, ps, a.mono hk, b⟩
def GoodM0 (rm : RM) (cl : Nat → Addr) (P : Program) (w : World) (K : PySem.W.Frag) (mg : Str → Option Value) (base : Heap) (k : Nat) (m : Str) (φ : ESumm rm.S) : Prop := ∃ f fd ps, FnG P w K mg base k f fd ps (spE rm cl φ) ∧ Meth K (cl 7) m f ∧ Cls K (cl 7) ∧ RMK rm cl ∧ Binds K fd ps []
def GoodK0 (rm : RM) (cl : Nat → Addr) (P : Program) (w : World) (K : PySem.W.Frag) (mg : Str → Option Value) (base : Heap) (k : Nat) (x : Str) (φ : ESumm rm.S) : Prop := ∃ j f fd ps, j + 1 ≤ k ∧ FnG P w K mg base j f fd ps (spI rm cl φ) ∧ Mk K (cl 7) f ∧ mg x = some (.ref (cl 7)) ∧ Binds K fd ps []
theorem GoodM0.mono {rm : RM} {cl : Nat → Addr} {P : Program} {w : World} {K : PySem.W.Frag} {mg : Str → Option Value} {base : Heap} {j k : Nat} {x : Str} {φ : ESumm rm.S} (h : GoodM0 rm cl P w K mg base j x φ) (hk : j ≤ k) : GoodM0 rm cl P w K mg base k x φ :=
  let ⟨f, fd, ps, a, b⟩ := h; ⟨f, fd, ps, a.mono hk, b⟩
theorem GoodK0.mono {rm : RM} {cl : Nat → Addr} {P : Program} {w : World} {K : PySem.W.Frag} {mg : Str → Option Value} {base : Heap} {j k : Nat} {x : Str} {φ : ESumm rm.S} (h : GoodK0 rm cl P w K mg base j x φ) (hk : j ≤ k) : GoodK0 rm cl P w K mg base k x φ :=
  let ⟨i, f, fd, ps, l, b⟩ := h; ⟨i, f, fd, ps, Nat.le_trans l hk, b⟩
structure ExF0 (K : PySem.W.Frag) (mg : Str → Option Value) (x : Str) (C : Addr) : Prop where
  mg : mg x = some (.ref C)
  ex : PySem.W.excIn K C [.type "ValueError", .type "Exception", .type "BaseException", .type "object"] "ValueError.__new__" = true
  kp : PySem.W.keepIn K (.ref C) = true
  sb : PySem.W.subIn K (.ref C) (.type "BaseException") = some true
  ty : PySem.W.typeIn K (.ref C) = some (.type "type")
def GoodO0 (P : Program) (w : World) (K : PySem.W.Frag) (mg : Str → Option Value) (base : Heap) (k : Nat) (x : Str) (φ : Summ) : Prop := ∃ f fd ps, FnG P w K mg base k f fd ps (spO φ) ∧ mg x = some (.ref f) ∧ PySem.W.keepIn K (.ref f) = true ∧ Binds K fd ps []
theorem GoodO0.mono {P : Program} {w : World} {K : PySem.W.Frag} {mg : Str → Option Value} {base : Heap} {j k : Nat} {x : Str} {φ : Summ} (h : GoodO0 P w K mg base j x φ) (hk : j ≤ k) : GoodO0 P w K mg base k x φ :=
  let ⟨f, fd, ps, a, b⟩ := h; ⟨f, fd, ps, a.mono hk, b⟩
/-- what a law's top has left: by names -/
structure Top (K : PySem.W.Frag) (mg : Str → Option Value) (base : Heap) (bn : List Str) (cn : List (Str × Int)) (GX : Str → Nat → Prop) (cl : Nat → Addr) (cs : List (Str × Str) := []) : Prop where
  sm : SmB base
  bn : ∀ x ∈ bn, mg x = none
  cn : ∀ x i, cn.lookup x = some i → ∃ u, mg x = some (.int i u)
  cs : ∀ x z, cs.lookup x = some z → ∃ u, mg x = some (.str z u) := by intro x z h; cases h
  gx : ∀ x n, GX x n → ExF0 K mg x (cl n)
section
variable {P : Program} {w : World} {K : PySem.W.Frag} {mg : Str → Option Value} {base : Heap} {cl : Nat → Addr} {bn : List Str} {cn : List (Str × Int)} {GX : Str → Nat → Prop} {cs : List (Str × Str)}
def txt (N : List Str) (sc : Scope) (bn : List Str) (cn : List (Str × Int)) (xb : Bool := false) (cs : List (Str × Str) := []) : Sx := ⟨N, sc, fun _ => true, bn, cn, xb, cs⟩
def fxP (H F : Hp) : Fx rm0 := ⟨fun a => match F a with | none => H a | some _ => none, F, ()⟩
theorem fxP_sub {H F : Hp} {σ : L2.St} {H' F' : Hp} {Γ : Ctx} {s : rm0.S} {A : rm0.A} (fh : Sub F H) (R : SR (fxP H F) σ H' Γ s F' A) : Sub H H' ∧ Sub F F' ∧ Sub F' H' ∧ ∀ a, H a ≠ none → (∀ vs, H a ≠ some (.tup vs)) → F' a = F a := by
  refine ⟨fun a o e => ?_, R.f0, R.fh, fun a ha nt => ?_⟩
  · cases q : F a with
    | some u =>
      have := fh a u q
      rw [e] at this
      cases this
      exact R.fh _ _ (R.f0 a _ q)
    | none => exact (R.lk a o (by show (match F a with | none => H a | some _ => none) = some o; rw [q]; exact e)).1
  · cases q : F a with
    | some u => exact R.f0 a u q
    | none =>
      cases e : H a with
      | none => exact absurd e ha
      | some o => exact (R.lk a o (by show (match F a with | none => H a | some _ => none) = some o; rw [q]; exact e)).2.1 (fun vs z => nt vs (by rw [e, z]))
theorem fn_goodA {x y : Str} {st : Stmt} {f : Addr} {fd : FuncData} {N ps : List Str} {k : Nat} {φ : Summ} {G : Str → Summ → Prop} (F : Fun K y y st f fd) (hm : mg x = some (.ref f)) (S : FnScope N ps (defScope st)) (hb : Binds K fd ps [])
    (T : Top K mg base bn cn GX cl cs) (gp : ∀ y ψ, G y ψ → GoodP0 cl P w K mg base k y ψ) (body : Sms rm0.S) (hc : chSs body (txt N (defScope st) bn cn false cs) (defBody st) = true) (hf : fnSs G (fun _ _ => False) (gs0 Unit) GX body)
    (hw : ∀ ds Q Y, φ.run ds Q Y → ds.length = ps.length ∧ wSs body (entry N.length (ds.map .dat)) () { nx := fun _ _ => Q (.dat .none), rt := fun v _ => Q v, ex := fun n _ _ => Y n }) : GoodP0 cl P w K mg base (k + 1) x φ := by
  refine ⟨f, fd, ps, fnG_of F S (fun vs H Q E h => ?_) (fun cdv A outer s H vs Q E hr hgd h => ?_), hm, F.kp, hb⟩
  · obtain ⟨F0, ds, fh, rl, q⟩ := h
    rw [rl.length]
    exact (hw ds _ _ q).1
  · obtain ⟨F0, ds, fh, rl, q⟩ := h
    obtain ⟨hl, q⟩ := hw ds _ _ q
    have tk : Takes (cxOf (L2.CX P w) P w K mg base N y (defScope st) f cdv A outer s H E) (fun cls d _ H => E cls d H) := takes_of rfl rfl rfl rfl
    have xx : XC rm0 (cxOf (L2.CX P w) P w K mg base N y (defScope st) f cdv A outer s H E) k (txt N (defScope st) bn cn false cs) cl (fun n _ H' => E (.ref (cl n)) none H') G (fun _ _ => False) (gs0 Unit) :=
      { calm := rfl, hN := rfl, nd := S.nd, hs := rfl, hf := fun _ _ => rfl, bn := T.bn, cn := T.cn, cs := T.cs, room := hr, gd := hgd, sm := T.sm, tk := tk.imp fun c d σ H ⟨n, e1, e2, h⟩ => (by rw [e1, e2]; exact h), gp := gp, ge := fun _ _ h => h.elim, gh := fun _ h => h.elim, gm := fun _ _ h => h.elim, gk := fun _ _ h => h.elim, go := fun _ _ h => h.elim, xt := (fun h => nomatch h), rx := (fun h => nomatch h) }
    refine ⟨_, sndSs body xx (fun y n h => let e := T.gx y n h; ⟨e.mg, e.ex, e.kp, e.sb, e.ty⟩) ⟨passes_of rfl, rfl, rfl, rfl⟩ hc hf, ?_⟩
    refine ⟨fxP H F0, entry N.length (ds.map .dat), (), F0, (), ?_, _, ?_, q⟩
    · exact {
        fh := fh
        fz := fun a o e n => n
        f0 := Sub.refl F0
        lk := fun a o e => by
          have e' : (match F0 a with | none => H a | some _ => none) = some o := e
          cases q : F0 a with
          | none => rw [q] at e'; exact ⟨e', fun _ => rfl, fun n => n⟩
          | some u => rw [q] at e'; cases e'
        a0 := trivial
        ok := trivial
        ln := entry_len (by rw [List.length_map]; exact rl.length)
        sl := fun i v e => by
          have e' := look_entry e
          rw [List.getElem?_map] at e'
          cases q : ds[i]? with
          | none => rw [q] at e'; cases e'
          | some d =>
            rw [q] at e'
            cases e'
            obtain ⟨y, h1, h2⟩ := rl.get q
            exact ⟨y, start_get h1, h2⟩
        dj := fun i j a s1 s2 => absurd s1 (ownA_no fun v e x a => by
          have e' := look_entry e
          rw [List.getElem?_map] at e'
          cases q : ds[i]? with
          | none => rw [q] at e'; cases e'
          | some d => rw [q] at e'; cases e'; exact id) }
    · exact {
        nx := fun Γ s σ H' F' A R q => by
          obtain ⟨h1, h2, h3, h4⟩ := fxP_sub fh R
          exact q .non H' F' h1 h2 h3 h4 Rp.non
        rt := fun v y Γ s σ H' F' A R rv q => by
          obtain ⟨h1, h2, h3, h4⟩ := fxP_sub fh R
          refine q y H' F' h1 h2 h3 h4 ?_
          have hn : ∀ p, (fxP H F0).L p = none → F' p = none → H p = none := fun p e5 e3 => by
            have e5' : (match F0 p with | none => H p | some _ => none) = none := e5
            cases q : F0 p with
            | none => rw [q] at e5'; exact e5'
            | some u => rw [h2 p u q] at e3; cases e3
          cases v with
          | dat d => exact rv
          | new ys =>
            obtain ⟨p, vs, e1, e2, e3, e4, e5, e6, _⟩ := rv
            exact ⟨p, vs, e1, e2, e3, hn p e5 e3, e6⟩
          | tre ads d => exact ⟨rv.1, fun a ha => ⟨(rv.2 a ha).1, hn a (rv.2 a ha).2.2.1 (rv.2 a ha).1⟩⟩
          | hdl n => exact rv.elim
          | hds ks => obtain ⟨a, vs, e1, e2, e3⟩ := rv; cases e3 with | nil => exact ⟨rfl, a, e1, e2⟩ | cons h _ => exact h.elim
          | _ => exact rv.elim
        bk := fun Γ s σ H F A R q => q
        ct := fun Γ s σ H F A R q => q
        ex := fun n Γ s σ H' F' A R q => q H' (fxP_sub fh R).1 }
def fxO (H F : Hp) (ads : List Addr) : Fx rm0 := ⟨fun a => if a ∈ ads then none else match F a with | none => H a | some _ => none, F, ()⟩
theorem fn_goodO {y : Str} {st : Stmt} {f : Addr} {fd : FuncData} {N ps : List Str} {k : Nat} {φ : Summ} {G : Str → Summ → Prop} (F : Fun K y y st f fd) (hm : mg y = some (.ref f)) (S : FnScope N ps (defScope st)) (hb : Binds K fd ps [])
    (T : Top K mg base bn cn GX cl cs) (gp : ∀ y ψ, G y ψ → GoodP0 cl P w K mg base k y ψ) (body : Sms rm0.S) (hc : chSs body (txt N (defScope st) bn cn false cs) (defBody st) = true) (hf : fnSs G (fun _ _ => False) (gs0 Unit) GX body)
    (hw : ∀ ads d ds Q, φ.run (d :: ds) Q (fun _ => False) → ds.length + 1 = ps.length ∧ wSs body (entry N.length (.tre ads d :: ds.map .dat)) () { nx := fun _ _ => Q (.dat .none), rt := fun v _ => scalV v = true ∧ Q v, ex := fun _ _ _ => False }) : GoodO0 P w K mg base (k + 1) y φ := by
  refine ⟨f, fd, ps, fnG_of F S (fun vs H Q E h => ?_) (fun cdv A outer s H vs Q E hr hgd h => ?_), hm, F.kp, hb⟩
  · obtain ⟨F0, x, us, ads, d, ds, rfl, fh, ot, nF, rl, q⟩ := h
    rw [List.length_cons, rl.length]
    exact (hw ads d ds _ q).1
  · obtain ⟨F0, x, us, ads, d, ds, rfl, fh, ot, nF, rl, q⟩ := h
    obtain ⟨hl, q⟩ := hw ads d ds _ q
    have tk : Takes (cxOf (L2.CX P w) P w K mg base N y (defScope st) f cdv A outer s H E) (fun cls d _ H => E cls d H) := takes_of rfl rfl rfl rfl
    have xx : XC rm0 (cxOf (L2.CX P w) P w K mg base N y (defScope st) f cdv A outer s H E) k (txt N (defScope st) bn cn false cs) cl (fun n _ H' => E (.ref (cl n)) none H') G (fun _ _ => False) (gs0 Unit) :=
      { calm := rfl, hN := rfl, nd := S.nd, hs := rfl, hf := fun _ _ => rfl, bn := T.bn, cn := T.cn, cs := T.cs, room := hr, gd := hgd, sm := T.sm, tk := tk.imp fun c d σ H ⟨n, e1, e2, h⟩ => (by rw [e1, e2]; exact h), gp := gp, ge := fun _ _ h => h.elim, gh := fun _ h => h.elim, gm := fun _ _ h => h.elim, gk := fun _ _ h => h.elim, go := fun _ _ h => h.elim, xt := (fun h => nomatch h), rx := (fun h => nomatch h) }
    refine ⟨_, sndSs body xx (fun y n h => let e := T.gx y n h; ⟨e.mg, e.ex, e.kp, e.sb, e.ty⟩) ⟨passes_of rfl, rfl, rfl, rfl⟩ hc hf, ?_⟩
    have hn : ∀ a ∈ ads, (fxO H F0 ads).L a = none := fun a ha => by show (if a ∈ ads then none else _) = none; rw [if_pos ha]
    have key : ∀ {Γ : Ctx} {s : rm0.S} {σ : L2.St} {H' F' : Hp} {A : rm0.A}, SR (fxO H F0 ads) σ H' Γ s F' A → ∀ a o, H a = some o → a ∉ ads → H' a = some o := fun {Γ s σ H' F' A} R a o e m => by
      cases z : F0 a with
      | some u =>
        have h1 := fh a u z
        rw [e] at h1
        have h2 := R.fh a u (R.f0 a u z)
        rw [h2]
        exact h1.symm
      | none => exact (R.lk a o (by show (if a ∈ ads then none else match F0 a with | none => H a | some _ => none) = some o; rw [if_neg m, z]; exact e)).1
    refine ⟨fxO H F0 ads, entry N.length (.tre ads d :: ds.map .dat), (), F0, (), ?_, _, ?_, q⟩
    · exact {
        fh := fh
        fz := fun a o e n => n
        f0 := Sub.refl F0
        lk := fun a o e => by
          have e' : (if a ∈ ads then none else match F0 a with | none => H a | some _ => none) = some o := e
          by_cases m : a ∈ ads
          · rw [if_pos m] at e'; cases e'
          · rw [if_neg m] at e'
            cases q : F0 a with
            | none => rw [q] at e'; exact ⟨e', fun _ => rfl, fun n => n⟩
            | some u => rw [q] at e'; cases e'
        a0 := trivial
        ok := trivial
        ln := entry_len (by rw [List.length_cons, List.length_cons, List.length_map]; rw [rl.length])
        sl := fun i v e => by
          have e' := look_entry e
          cases i with
          | zero =>
            cases e'
            exact ⟨x, start_get (vs := x :: us) rfl, ot, fun a ha => ⟨nF a ha, fun n => n, hn a ha⟩⟩
          | succ i =>
            have e' : (ds.map Val.dat)[i]? = some v := e'
            rw [List.getElem?_map] at e'
            cases q : ds[i]? with
            | none => rw [q] at e'; cases e'
            | some d' =>
              rw [q] at e'
              cases e'
              obtain ⟨y, h1, h2⟩ := rl.get q
              exact ⟨y, start_get (vs := x :: us) (by simpa using h1), h2⟩
        dj := fun i j a s1 s2 => by
          have f : ∀ {i : Nat}, i ≠ 0 → ¬ ownA (L2.start N (x :: us)) (entry N.length (.tre ads d :: ds.map .dat)) i a := fun {i} hi => ownA_no fun v e x a => by
            have e' := look_entry e
            cases i with
            | zero => exact absurd rfl hi
            | succ i =>
              have e' : (ds.map Val.dat)[i]? = some v := e'
              rw [List.getElem?_map] at e'
              cases q : ds[i]? with
              | none => rw [q] at e'; cases e'
              | some d => rw [q] at e'; cases e'; exact id
          by_cases n1 : i = 0
          · by_cases n2 : j = 0
            · rw [n1, n2]
            · exact absurd s2 (f n2)
          · exact absurd s1 (f n1) }
    · exact {
        nx := fun Γ s σ H' F' A R q => q .non H' (key R) ⟨rfl, .non⟩
        rt := fun v y Γ s σ H' F' A R rv q => by
          refine q.2 y H' (key R) ?_
          cases v with
          | dat d => exact ⟨q.1, scal_any rv q.1⟩
          | _ => cases q.1
        bk := fun Γ s σ H F A R q => q
        ct := fun Γ s σ H F A R q => q
        ex := fun n Γ s σ H' F' A R q => q.elim }
theorem fn_good {x : Str} {st : Stmt} {f : Addr} {fd : FuncData} {N ps : List Str} {k : Nat} {φ : Summ} {G : Str → Summ → Prop} (F : Fun K x x st f fd) (hm : mg x = some (.ref f)) (S : FnScope N ps (defScope st)) (hb : Binds K fd ps [])
    (T : Top K mg base bn cn GX cl cs) (gp : ∀ y ψ, G y ψ → GoodP0 cl P w K mg base k y ψ) (body : Sms rm0.S) (hc : chSs body (txt N (defScope st) bn cn false cs) (defBody st) = true) (hf : fnSs G (fun _ _ => False) (gs0 Unit) GX body)
    (hw : ∀ ds Q Y, φ.run ds Q Y → ds.length = ps.length ∧ wSs body (entry N.length (ds.map .dat)) () { nx := fun _ _ => Q (.dat .none), rt := fun v _ => Q v, ex := fun n _ _ => Y n }) : GoodP0 cl P w K mg base (k + 1) x φ :=
  fn_goodA F hm S hb T gp body hc hf hw
/-! ### a def with a state -/
noncomputable def fxE (rm : RM) (H F : Hp) (A : rm.A) : Fx rm := ⟨fun a => @ite _ (F a = none ∧ ¬ rm.ft A a) (Classical.propDecidable _) (H a) none, F, A⟩
theorem fxE_L {rm : RM} {H F : Hp} {A : rm.A} {a : Addr} {o : HO} (h : H a = some o) (hf : F a = none) (hn : ¬ rm.ft A a) : (fxE rm H F A).L a = some o := by
  unfold fxE
  show @ite _ (F a = none ∧ ¬ rm.ft A a) (Classical.propDecidable _) (H a) none = some o
  rw [if_pos ⟨hf, hn⟩]
  exact h
theorem fxE_of {rm : RM} {H F : Hp} {A : rm.A} {a : Addr} {o : HO} (h : (fxE rm H F A).L a = some o) : H a = some o ∧ F a = none ∧ ¬ rm.ft A a := by
  have h' : @ite _ (F a = none ∧ ¬ rm.ft A a) (Classical.propDecidable _) (H a) none = some o := h
  by_cases c : F a = none ∧ ¬ rm.ft A a
  · rw [if_pos c] at h'; exact ⟨h', c⟩
  · rw [if_neg c] at h'; cases h'
theorem fxE_sub {rm : RM} {H F : Hp} {A0 : rm.A} {σ : L2.St} {H' F' : Hp} {Γ : Ctx} {s : rm.S} {A : rm.A} (fh : Sub F H) (fz : ∀ a o, F a = some o → ¬ rm.ft A0 a) (R : SR (fxE rm H F A0) σ H' Γ s F' A) :
    HX H A0 H' A ∧ Sub F F' ∧ Sub F' H' ∧ (∀ a o, F' a = some o → ¬ rm.ft A a) ∧ ∀ a, H a ≠ none → ¬ rm.ft A0 a → (∀ vs, H a ≠ some (.tup vs)) → F' a = F a := by
  refine ⟨⟨R.a0, fun a o e n => ?_⟩, R.f0, R.fh, R.fz, fun a ha n nt => ?_⟩
  · cases q : F a with
    | some u =>
      have := fh a u q
      rw [e] at this
      cases this
      exact ⟨R.fh _ _ (R.f0 a _ q), R.fz _ _ (R.f0 a _ q)⟩
    | none =>
      obtain ⟨h1, h2, h3⟩ := R.lk a o (fxE_L e q n)
      exact ⟨h1, h3⟩
  · cases q : F a with
    | some u => exact R.f0 a u q
    | none =>
      cases e : H a with
      | none => exact absurd e ha
      | some o => exact (R.lk a o (fxE_L e q n)).2.1 (fun vs z => nt vs (by rw [e, z]))
theorem RHL.get {rm : RM} {F : Hp} {A : rm.A} : ∀ {vs : List V} {ws : List Val} {i : Nat} {w : Val}, RHL F A vs ws → ws[i]? = some w → ∃ x, vs[i]? = some x ∧ RH F A x w
  | _, _, _, _, .nil, e => by simp at e
  | _, _, 0, _, .cons h _, e => by simp at e; subst e; exact ⟨_, rfl, h⟩
  | _, _, i + 1, y, .cons _ t, e => by
    obtain ⟨u, h1, h2⟩ := RHL.get (i := i) (w := y) t (by simpa using e)
    exact ⟨u, by simpa using h1, h2⟩
theorem RH.sv {rm : RM} {fx : Fx rm} {H F : Hp} {A : rm.A} {x : V} {v : Val} (h : RH F A x v) : SV fx H F A x v := by
  cases v with
  | dat d => exact h
  | hdl n => exact h
  | hds ks => exact h
  | _ => exact h.elim
theorem RH.noOwn {rm : RM} {F : Hp} {A : rm.A} {x : V} {v : Val} (h : RH F A x v) : ∀ x a, ¬ ownV x (some v) a := by
  cases v with
  | dat d => exact fun _ _ => id
  | hdl n => exact fun _ _ => id
  | hds ks => exact fun _ _ => id
  | _ => exact h.elim
/-- what comes back of a def with a state -/
theorem RV.rve {rm : RM} {H F0 H' F' : Hp} {A0 A : rm.A} {σ : L2.St} {Γ : Ctx} {y : V} {v : Val} (a0 : rm.le A0 A) (h2 : Sub F0 F') (rv : RV (fxE rm H F0 A0) σ H' F' A Γ y v) : RVe H H' F' A y v := by
  have hn : ∀ p, (fxE rm H F0 A0).L p = none → F' p = none → ¬ rm.ft A p → H p = none := fun p e5 e3 e4 => by
    cases q : H p with
    | none => rfl
    | some o =>
      have n1 : ¬ rm.ft A0 p := fun n => e4 (rm.le_ft a0 n)
      cases z : F0 p with
      | some u => rw [h2 p u z] at e3; cases e3
      | none => rw [fxE_L q z n1] at e5; cases e5
  cases v with
  | dat d => exact rv
  | hdl n => exact rv
  | hds ks => exact rv
  | new ys =>
    obtain ⟨p, vs, e1, e2, e3, e4, e5, e6, _⟩ := rv
    exact ⟨p, vs, e1, e2, e3, hn p e5 e3 e4, e4, e6⟩
  | tre ads d => exact ⟨rv.1, fun a ha => ⟨(rv.2 a ha).1, hn a (rv.2 a ha).2.2.1 (rv.2 a ha).1 (rv.2 a ha).2.1, (rv.2 a ha).2.1⟩⟩
  | _ => exact rv.elim
theorem fn_okO {rm : RM} {x : Str} {st : Stmt} {f : Addr} {fd : FuncData} {N ps : List Str} {k : Nat} {φ : ESumm rm.S} {G : Str → Summ → Prop} {GE GM GK : Str → ESumm rm.S → Prop} {GO : Str → Summ → Prop} (F : Fun K x x st f fd) (S : FnScope N ps (defScope st))
    (T : Top K mg base bn cn GX cl cs) (gp : ∀ y ψ, G y ψ → GoodP0 cl P w K mg base k y ψ) (ge : ∀ y ψ, GE y ψ → GoodE0 rm cl P w K mg base k y ψ) (gm : ∀ y ψ, GM y ψ → GoodM0 rm cl P w K mg base k y ψ) (gk : ∀ y ψ, GK y ψ → GoodK0 rm cl P w K mg base k y ψ) (go : ∀ y ψ, GO y ψ → GoodO0 P w K mg base k y ψ) {xb : Bool} (hxb : xb = true → XTop K mg cl ∧ RMX rm cl) (body : Sms rm.S) (hc : chSs body (txt N (defScope st) bn cn xb cs) (defBody st) = true) (hf : fnSs G GE ⟨HOk rm, GM, GK, GO⟩ GX body)
    (hw : ∀ ws s Q Y, φ.run ws s Q Y → ws.length = ps.length ∧ wSs body (entry N.length ws) s { nx := fun _ s' => Q (.dat .none) s', rt := fun v s' => Q v s', ex := fun n _ s' => Y n s' }) : FnG P w K mg base (k + 1) f fd ps (spE rm cl φ) := by
  refine fnG_of F S (fun vs H Q E h => ?_) (fun cdv A outer s H vs Q E hr hgd h => ?_)
  · obtain ⟨F0, A0, s0, ws, fh, fz, ok, rl, q⟩ := h
    rw [Paired.length rl]
    exact (hw ws s0 _ _ q).1
  · obtain ⟨F0, A0, s0, ws, fh, fz, ok, rl, q⟩ := h
    obtain ⟨hl, q⟩ := hw ws s0 _ _ q
    have tk : Takes (cxOf (L2.CX P w) P w K mg base N x (defScope st) f cdv A outer s H E) (fun cls d _ H => E cls d H) := takes_of rfl rfl rfl rfl
    have xx : XC rm (cxOf (L2.CX P w) P w K mg base N x (defScope st) f cdv A outer s H E) k (txt N (defScope st) bn cn xb cs) cl (fun n _ H' => E (.ref (cl n)) none H') G GE ⟨HOk rm, GM, GK, GO⟩ :=
      { calm := rfl, hN := rfl, nd := S.nd, hs := rfl, hf := fun _ _ => rfl, bn := T.bn, cn := T.cn, cs := T.cs, room := hr, gd := hgd, sm := T.sm, tk := tk.imp fun c d σ H ⟨n, e1, e2, h⟩ => (by rw [e1, e2]; exact h), gp := gp, ge := ge, gh := fun _ h => h, gm := gm, gk := gk, go := go, xt := fun h => (hxb h).1, rx := fun h => (hxb h).2 }
    refine ⟨_, sndSs body xx (fun y n h => let e := T.gx y n h; ⟨e.mg, e.ex, e.kp, e.sb, e.ty⟩) ⟨passes_of rfl, rfl, rfl, rfl⟩ hc hf, ?_⟩
    refine ⟨fxE rm H F0 A0, entry N.length ws, s0, F0, A0, ?_, _, ?_, q⟩
    · exact {
        fh := fh
        fz := fz
        f0 := Sub.refl F0
        lk := fun a o e => let q := fxE_of e; ⟨q.1, fun _ => q.2.1, q.2.2⟩
        a0 := rm.le_refl A0
        ok := ok
        ln := entry_len (Paired.length rl)
        sl := fun i v e => by
          have e' := look_entry e
          obtain ⟨y, h1, h2⟩ := RHL.get rl e'
          refine ⟨y, start_get h1, ?_⟩
          exact RH.sv h2
        dj := fun i j a s1 s2 => absurd s1 (ownA_no fun v e => by
          obtain ⟨y, h1, h2⟩ := RHL.get rl (look_entry e)
          exact h2.noOwn) }
    · exact {
        nx := fun Γ s σ H' F' A R q => by
          obtain ⟨h1, h2, h3, h4, h5⟩ := fxE_sub fh fz R
          exact q .non H' F' A h1 h2 h3 h4 h5 R.ok Rp.non
        rt := fun v y Γ s σ H' F' A R rv q => by
          obtain ⟨h1, h2, h3, h4, h5⟩ := fxE_sub fh fz R
          refine q y H' F' A h1 h2 h3 h4 h5 R.ok ?_
          exact RV.rve R.a0 h2 rv
        bk := fun Γ s σ H F A R q => q
        ct := fun Γ s σ H F A R q => q
        ex := fun n Γ s σ H' F' A R q => q H' A (fxE_sub fh fz R).1 R.ok }
theorem fn_okK {rm : RM} {x : Str} {st : Stmt} {f : Addr} {fd : FuncData} {N ps : List Str} {k : Nat} {φ : ESumm rm.S} {G : Str → Summ → Prop} {GE GM GK : Str → ESumm rm.S → Prop} (F : Fun K x x st f fd) (S : FnScope N ps (defScope st))
    (T : Top K mg base bn cn GX cl cs) (gp : ∀ y ψ, G y ψ → GoodP0 cl P w K mg base k y ψ) (ge : ∀ y ψ, GE y ψ → GoodE0 rm cl P w K mg base k y ψ) (gm : ∀ y ψ, GM y ψ → GoodM0 rm cl P w K mg base k y ψ) (gk : ∀ y ψ, GK y ψ → GoodK0 rm cl P w K mg base k y ψ) {xb : Bool} (hxb : xb = true → XTop K mg cl ∧ RMX rm cl) (body : Sms rm.S) (hc : chSs body (txt N (defScope st) bn cn xb cs) (defBody st) = true) (hf : fnSs G GE ⟨HOk rm, GM, GK, fun _ _ => False⟩ GX body)
    (hw : ∀ ws s Q Y, φ.run ws s Q Y → ws.length = ps.length ∧ wSs body (entry N.length ws) s { nx := fun _ s' => Q (.dat .none) s', rt := fun v s' => Q v s', ex := fun n _ s' => Y n s' }) : FnG P w K mg base (k + 1) f fd ps (spE rm cl φ) :=
  fn_okO F S T gp ge gm gk (fun _ _ h => h.elim) hxb body hc hf hw
theorem fn_okE {rm : RM} {x : Str} {st : Stmt} {f : Addr} {fd : FuncData} {N ps : List Str} {k : Nat} {φ : ESumm rm.S} {G : Str → Summ → Prop} {GE : Str → ESumm rm.S → Prop} (F : Fun K x x st f fd) (S : FnScope N ps (defScope st))
    (T : Top K mg base bn cn GX cl cs) (gp : ∀ y ψ, G y ψ → GoodP0 cl P w K mg base k y ψ) (ge : ∀ y ψ, GE y ψ → GoodE0 rm cl P w K mg base k y ψ) {xb : Bool} (hxb : xb = true → XTop K mg cl ∧ RMX rm cl) (body : Sms rm.S) (hc : chSs body (txt N (defScope st) bn cn xb cs) (defBody st) = true) (hf : fnSs G GE ⟨HOk rm, fun _ _ => False, fun _ _ => False, fun _ _ => False⟩ GX body)
    (hw : ∀ ws s Q Y, φ.run ws s Q Y → ws.length = ps.length ∧ wSs body (entry N.length ws) s { nx := fun _ s' => Q (.dat .none) s', rt := fun v s' => Q v s', ex := fun n _ s' => Y n s' }) : FnG P w K mg base (k + 1) f fd ps (spE rm cl φ) :=
  fn_okK F S T gp ge (fun _ _ h => h.elim) (fun _ _ h => h.elim) hxb body hc hf hw
theorem fn_goodK {rm : RM} {x : Str} {st : Stmt} {f : Addr} {fd : FuncData} {N ps : List Str} {k : Nat} {φ : ESumm rm.S} {G : Str → Summ → Prop} {GE GM GK : Str → ESumm rm.S → Prop} (F : Fun K x x st f fd) (hm : mg x = some (.ref f)) (S : FnScope N ps (defScope st)) (hb : Binds K fd ps [])
    (T : Top K mg base bn cn GX cl cs) (gp : ∀ y ψ, G y ψ → GoodP0 cl P w K mg base k y ψ) (ge : ∀ y ψ, GE y ψ → GoodE0 rm cl P w K mg base k y ψ) (gm : ∀ y ψ, GM y ψ → GoodM0 rm cl P w K mg base k y ψ) (gk : ∀ y ψ, GK y ψ → GoodK0 rm cl P w K mg base k y ψ) {xb : Bool} (hxb : xb = true → XTop K mg cl ∧ RMX rm cl) (body : Sms rm.S) (hc : chSs body (txt N (defScope st) bn cn xb cs) (defBody st) = true) (hf : fnSs G GE ⟨HOk rm, GM, GK, fun _ _ => False⟩ GX body)
    (hw : ∀ ws s Q Y, φ.run ws s Q Y → ws.length = ps.length ∧ wSs body (entry N.length ws) s { nx := fun _ s' => Q (.dat .none) s', rt := fun v s' => Q v s', ex := fun n _ s' => Y n s' }) : GoodE0 rm cl P w K mg base (k + 1) x φ :=
  ⟨f, fd, ps, fn_okK F S T gp ge gm gk hxb body hc hf hw, hm, F.kp, hb⟩
theorem fn_goodE {rm : RM} {x : Str} {st : Stmt} {f : Addr} {fd : FuncData} {N ps : List Str} {k : Nat} {φ : ESumm rm.S} {G : Str → Summ → Prop} {GE : Str → ESumm rm.S → Prop} (F : Fun K x x st f fd) (hm : mg x = some (.ref f)) (S : FnScope N ps (defScope st)) (hb : Binds K fd ps [])
    (T : Top K mg base bn cn GX cl cs) (gp : ∀ y ψ, G y ψ → GoodP0 cl P w K mg base k y ψ) (ge : ∀ y ψ, GE y ψ → GoodE0 rm cl P w K mg base k y ψ) {xb : Bool} (hxb : xb = true → XTop K mg cl ∧ RMX rm cl) (body : Sms rm.S) (hc : chSs body (txt N (defScope st) bn cn xb cs) (defBody st) = true) (hf : fnSs G GE ⟨HOk rm, fun _ _ => False, fun _ _ => False, fun _ _ => False⟩ GX body)
    (hw : ∀ ws s Q Y, φ.run ws s Q Y → ws.length = ps.length ∧ wSs body (entry N.length ws) s { nx := fun _ s' => Q (.dat .none) s', rt := fun v s' => Q v s', ex := fun n _ s' => Y n s' }) : GoodE0 rm cl P w K mg base (k + 1) x φ :=
  ⟨f, fd, ps, fn_okE F S T gp ge hxb body hc hf hw, hm, F.kp, hb⟩
end
end Ac
namespace Ac
open PySem PySem.Spec PyProof.Rows L2
/-! ### defs that may be called while an error is handled -/
structure RoomA (k : Nat) (A : Around) : Prop where
  dp : A.depth + 3 * k + 5 < recursionLimit
  un : A.units + 16 * k + 200 < cLine
theorem RoomA.mono {j k : Nat} {A : Around} (r : RoomA k A) (h : j ≤ k) : RoomA j A := ⟨by have := r.dp; omega, by have := r.un; omega⟩
theorem RoomA.of {k : Nat} {A : Around} (r : Room k A) : RoomA k A := ⟨r.dp, r.un⟩
theorem RoomA.deeper {k : Nat} {A : Around} (r : RoomA (k + 1) A) (env : Env) : RoomA k (A.deeper env) := ⟨by have := r.dp; show A.depth + 1 + 3 * k + 5 < _; omega, by have := r.un; show A.units + 3 + 16 * k + 200 < _; omega⟩
structure FnA (P : Program) (w : World) (K : PySem.W.Frag) (mg : Str → Option Value) (base : Heap) (k : Nat) (f : Addr) (fd : FuncData) (ps : List Str) (sp : Sp) : Prop where
  len : ∀ vs H Q E, sp vs H Q E → vs.length = ps.length
  run : ∀ (A : Around) (ou : List Env) (s : Shared) (H : Hp) (ar : Args) (us : List Value) (vs : List V) (Q : VK) (E : XK), RoomA k A → A.guards = some [] → Env0 P w K mg base A ou s H → BindsTo s fd ar (ps.zip us) → Vals vs us → sp vs H Q E →
    codeAny (model P w) A (.call (.ref f) ar) (CR (L2.CX P w) ou P w H s Q E) s
theorem FnA.mono {P : Program} {w : World} {K : PySem.W.Frag} {mg : Str → Option Value} {base : Heap} {j k : Nat} {f : Addr} {fd : FuncData} {ps : List Str} {sp : Sp} (F : FnA P w K mg base j f fd ps sp) (h : j ≤ k) : FnA P w K mg base k f fd ps sp :=
  { len := F.len, run := fun A ou s H ar us vs Q E hr => F.run A ou s H ar us vs Q E (hr.mono h) }
theorem FnA.toG {P : Program} {w : World} {K : PySem.W.Frag} {mg : Str → Option Value} {base : Heap} {k : Nat} {f : Addr} {fd : FuncData} {ps : List Str} {sp : Sp} (F : FnA P w K mg base k f fd ps sp) : FnG P w K mg base k f fd ps sp :=
  { len := F.len, run := fun A ou s H ar us vs Q E hr => F.run A ou s H ar us vs Q E (.of hr) }
/-- a def's context, whatever is handled -/
def cxA (P : Program) (w : World) (K : PySem.W.Frag) (mg : Str → Option Value) (base : Heap) (N : List Str) (qual : Str) (scope : Scope) (f : Addr) (cd : Value) (A : Around) (outer : List Env) (s : Shared) (H : Hp) (E : XK) : Cx :=
  { cxOf (L2.CX P w) P w K mg base N qual scope f cd A outer s H E with calm := false }
section
variable {P : Program} {w : World} {K : PySem.W.Frag} {mg : Str → Option Value} {base : Heap} {k : Nat} {f : Addr} {x : Str} {st : Stmt} {fd : FuncData} {N ps : List Str} {sp : Sp}
theorem fnA_of (F : Fun K x x st f fd) (S : FnScope N ps (defScope st)) (hlen : ∀ vs H Q E, sp vs H Q E → vs.length = ps.length)
    (hb : ∀ (cdv : Value) (A : Around) (ou : List Env) (s : Shared) (H : Hp) (vs : List V) (Q : VK) (E : XK), RoomA k (A.deeper (envOfC x (defScope st) s.heap.objs.size f cdv)) → A.guards = some [] → sp vs H Q E →
      ∃ t, PSs (cxA P w K mg base N x (defScope st) f cdv A ou s H E) (defBody st) t ∧ t { nx := fun _ H' => Q .non H', rt := Q } (L2.start N vs) H) : FnA P w K mg base (k + 1) f fd ps sp := by
  obtain ⟨oc, od, kV, doc, pm, an, cdv, ct, osl, rfl, lk, hcd⟩ := F.ex
  refine ⟨hlen, fun A ou s H ar us vs Q E hr hgd e0 hbd rv hsp => ?_⟩
  have hl := hlen vs H Q E hsp
  have hin : ∀ b o, base.get? b = some o → s.heap.get? b = some o := fun b o e => (e0.bs b o e).1
  have KX : K.In s.heap := e0.mod.kin.keeps hin
  have lim : s.heap.NoLimit := e0.mod.nolimit.keeps hin
  have hdp : A.depth < recursionLimit := by have := hr.dp; omega
  refine codeAny_call_function hdp (KX _ _ lk) rfl S.co S.gen rfl (PySem.W.codeRec_of KX hcd) (hbd _ _ _ _ ?_)
  refine wpAny_newFunctionEnv_cells S.kind (fun y hy => ?_) fun env he s1 x1 => ?_
  · rcases S.par y.1 (List.of_mem_zip hy).1 with q | q
    · exact Or.inl q
    · exact Or.inr ⟨q, PySem.W.cellsFrom_some _ _ _ (Or.inl q)⟩
  · subst he
    refine ⟨lim.keeps x1.toInCall.keep, codeAny_func ?_⟩
    obtain ⟨t, ht, hq⟩ := hb cdv A ou s H vs Q E (hr.deeper _) hgd hsp
    have e1 : Env0 P w K mg base { A with handled := none } ou s H := { frames := e0.frames, mod := e0.mod, bs := e0.bs, bsz := e0.bsz, funs := e0.funs, frf := e0.frf, hok := e0.hok, bare := e0.bare }
    have J := inv_start (CX := L2.CX P w) (E := E) (mg := mg) (A := { A with handled := none }) S rfl e1 hl rv x1
    have ok : (cxA P w K mg base N x (defScope st) f cdv A ou s H E).Ok :=
      { mod := J.ok.mod, kind := J.ok.kind, glob := J.ok.glob, blt := J.ok.blt, above := J.ok.above, inj := J.ok.inj, has := J.ok.has, cab := J.ok.cab, hd := (fun z => absurd (show false = true from z) Bool.false_ne_true), frames := J.ok.frames, stk := J.ok.stk, exf := J.ok.exf, bs := J.ok.bs, bsz := J.ok.bsz, noex := J.ok.noex, exfs := J.ok.exfs, funs := J.ok.funs, frf := J.ok.frf }
    have I : Inv (cxA P w K mg base N x (defScope st) f cdv A ou s H E) [] (L2.start N vs) H s1 :=
      { ok := ok, os := J.os, bare := J.bare, base := J.base, loc := J.loc, cell := J.cell, free := J.free, freeC := J.freeC, pin := J.pin, hok := J.hok, len := J.len }
    refine wpAny_mono (ht.run [] s1 (L2.start N vs) H _ I hq) (fun fl s' hs => ?_) fun _ _ z => z
    cases fl with
    | ret u =>
      obtain ⟨v, σ', H', J, rv', q⟩ := hs
      exact ⟨v, H', J.os, J.bare, J.base, J.hok, rv', q⟩
    | next =>
      obtain ⟨σ', H', J, q⟩ := hs
      exact ⟨V.non, H', J.os, J.bare, J.base, J.hok, rfl, q⟩
    | brk => exact hs.elim fun _ z => z.elim fun _ z => z.2.elim
    | cont => exact hs.elim fun _ z => z.elim fun _ z => z.2.elim
end
section
variable {X : Cx} {k : Nat} {f : Addr} {fd : FuncData} {ps : List Str} {sp : Sp} {E : L2.St → XK} {x : Str} {p pos : Pos} {e : Expr} {es : List Expr} {t : TA}
theorem runA {pins : List (Addr × Obj)} {σ : L2.St} {H : Hp} {s : Shared} {Q : VK} {us : List Value} {vs : List V} (F : FnA X.prog X.w X.K X.mg X.base k f fd ps sp) (hr : RoomA k X.A) (hgd : X.A.guards = some []) (hb : Binds X.K fd ps []) (hx : PassesAt (L2.CX X.prog X.w) X σ (E σ))
    (I : Inv X pins σ H s) (r : Vals vs us) (h : sp vs H Q (E σ)) : wpAny (model X.prog X.w) X.A (call (.ref f) us) (EP X pins σ Q) X.xe s := by
  have hl : us.length = ps.length := by rw [← r.length]; exact F.len _ _ _ _ h
  have hb' : BindsTo s fd ⟨us, []⟩ (ps.zip us) := by
    have z := hb s us I.kIn (by rw [List.append_nil]; exact hl)
    rw [List.append_nil] at z
    exact z
  refine wpAny_call (codeAny_mono (F.run X.A X.stack s H ⟨us, []⟩ us vs Q (E σ) hr hgd I.env0 hb' r h) fun r s' hq => ?_)
  match r, hq with
  | .error e, hq => exact hx pins H s e s' I hq
  | .ok (.ret u), hq => exact I.after hq
  | .ok .next, hq => exact hq.elim
  | .ok .brk, hq => exact hq.elim
  | .ok .cont, hq => exact hq.elim
theorem pe_callA (F : FnA X.prog X.w X.K X.mg X.base k f fd ps sp) (hr : RoomA k X.A) (hgd : X.A.guards = some []) (hg : Gl X x) (hm : X.mg x = some (.ref f)) (hk : PySem.W.keepIn X.K (.ref f) = true) (hb : Binds X.K fd ps []) (hx : ∀ σ, PassesAt (L2.CX X.prog X.w) X σ (E σ))
    (ha : PA X (e :: es) t) (hdb : (x == ("__debug__" : Str)) = false) (he : starEach (e :: es) X.env = (false, eval e X.env) :: starEach es X.env) (hpl : (backTo pos (starEach es X.env)).any (·.1) = false) :
    PE X (.Call (.Name x p) (e :: es) [] pos) (fun σ H Q => t σ H fun vs H1 => sp vs H1 Q (E σ)) := by
  constructor
  intro pins s σ H Q I h
  refine wpAny_Call_Name_kw (ld_glob I hg hm ?_ hdb)
  refine PySem.W.callWith_K (h₀ := X.base) I.ok.mod.kin hk (thn (ha.run pos pins s σ H _ I h) fun us s1 z => ?_) he hpl
  obtain ⟨vs, H1, I1, r, q⟩ := z
  exact ⟨I1.kIn, runA F hr hgd hb (hx σ) I1 r q⟩
end
/-! ### by a body's own proof -/
section
variable {P : Program} {w : World} {K : PySem.W.Frag} {mg : Str → Option Value} {base : Heap} {cl : Nat → Addr}
theorem fn_okP {rm : RM} {x : Str} {st : Stmt} {f : Addr} {fd : FuncData} {N ps : List Str} {k : Nat} {φ : ESumm rm.S} (F : Fun K x x st f fd) (S : FnScope N ps (defScope st)) (body : Sms rm.S)
    (hps : ∀ (cdv : Value) (A : Around) (ou : List Env) (s : Shared) (H : Hp) (E : XK), Room k (A.deeper (envOfC x (defScope st) s.heap.objs.size f cdv)) → A.guards = some [] → PSs (cxOf (L2.CX P w) P w K mg base N x (defScope st) f cdv A ou s H E) (defBody st) (rdSs (fun n _ H' => E (.ref (cl n)) none H') body))
    (hw : ∀ ws s Q Y, φ.run ws s Q Y → ws.length = ps.length ∧ wSs body (entry N.length ws) s { nx := fun _ s' => Q (.dat .none) s', rt := fun v s' => Q v s', ex := fun n _ s' => Y n s' }) : FnG P w K mg base (k + 1) f fd ps (spE rm cl φ) := by
  refine fnG_of F S (fun vs H Q E h => ?_) (fun cdv A outer s H vs Q E hr hgd h => ?_)
  · obtain ⟨F0, A0, s0, ws, fh, fz, ok, rl, q⟩ := h
    rw [Paired.length rl]
    exact (hw ws s0 _ _ q).1
  · obtain ⟨F0, A0, s0, ws, fh, fz, ok, rl, q⟩ := h
    obtain ⟨hl, q⟩ := hw ws s0 _ _ q
    refine ⟨_, hps cdv A outer s H E hr hgd, ?_⟩
    refine ⟨fxE rm H F0 A0, entry N.length ws, s0, F0, A0, ?_, _, ?_, q⟩
    · exact {
        fh := fh
        fz := fz
        f0 := Sub.refl F0
        lk := fun a o e => let q := fxE_of e; ⟨q.1, fun _ => q.2.1, q.2.2⟩
        a0 := rm.le_refl A0
        ok := ok
        ln := entry_len (Paired.length rl)
        sl := fun i v e => by
          have e' := look_entry e
          obtain ⟨y, h1, h2⟩ := RHL.get rl e'
          refine ⟨y, start_get h1, ?_⟩
          exact RH.sv h2
        dj := fun i j a s1 s2 => absurd s1 (ownA_no fun v e => by
          obtain ⟨y, h1, h2⟩ := RHL.get rl (look_entry e)
          exact h2.noOwn) }
    · exact {
        nx := fun Γ s σ H' F' A R q => by
          obtain ⟨h1, h2, h3, h4, h5⟩ := fxE_sub fh fz R
          exact q .non H' F' A h1 h2 h3 h4 h5 R.ok Rp.non
        rt := fun v y Γ s σ H' F' A R rv q => by
          obtain ⟨h1, h2, h3, h4, h5⟩ := fxE_sub fh fz R
          refine q y H' F' A h1 h2 h3 h4 h5 R.ok ?_
          exact RV.rve R.a0 h2 rv
        bk := fun Γ s σ H F A R q => q
        ct := fun Γ s σ H F A R q => q
        ex := fun n Γ s σ H' F' A R q => q H' A (fxE_sub fh fz R).1 R.ok }
theorem fn_okA {rm : RM} {x : Str} {st : Stmt} {f : Addr} {fd : FuncData} {N ps : List Str} {k : Nat} {φ : ESumm rm.S} (F : Fun K x x st f fd) (S : FnScope N ps (defScope st)) (body : Sms rm.S)
    (hps : ∀ (cdv : Value) (A : Around) (ou : List Env) (s : Shared) (H : Hp) (E : XK), RoomA k (A.deeper (envOfC x (defScope st) s.heap.objs.size f cdv)) → A.guards = some [] → PSs (cxA P w K mg base N x (defScope st) f cdv A ou s H E) (defBody st) (rdSs (fun n _ H' => E (.ref (cl n)) none H') body))
    (hw : ∀ ws s Q Y, φ.run ws s Q Y → ws.length = ps.length ∧ wSs body (entry N.length ws) s { nx := fun _ s' => Q (.dat .none) s', rt := fun v s' => Q v s', ex := fun n _ s' => Y n s' }) : FnA P w K mg base (k + 1) f fd ps (spE rm cl φ) := by
  refine fnA_of F S (fun vs H Q E h => ?_) (fun cdv A outer s H vs Q E hr hgd h => ?_)
  · obtain ⟨F0, A0, s0, ws, fh, fz, ok, rl, q⟩ := h
    rw [Paired.length rl]
    exact (hw ws s0 _ _ q).1
  · obtain ⟨F0, A0, s0, ws, fh, fz, ok, rl, q⟩ := h
    obtain ⟨hl, q⟩ := hw ws s0 _ _ q
    refine ⟨_, hps cdv A outer s H E hr hgd, ?_⟩
    refine ⟨fxE rm H F0 A0, entry N.length ws, s0, F0, A0, ?_, _, ?_, q⟩
    · exact {
        fh := fh
        fz := fz
        f0 := Sub.refl F0
        lk := fun a o e => let q := fxE_of e; ⟨q.1, fun _ => q.2.1, q.2.2⟩
        a0 := rm.le_refl A0
        ok := ok
        ln := entry_len (Paired.length rl)
        sl := fun i v e => by
          have e' := look_entry e
          obtain ⟨y, h1, h2⟩ := RHL.get rl e'
          refine ⟨y, start_get h1, ?_⟩
          exact RH.sv h2
        dj := fun i j a s1 s2 => absurd s1 (ownA_no fun v e => by
          obtain ⟨y, h1, h2⟩ := RHL.get rl (look_entry e)
          exact h2.noOwn) }
    · exact {
        nx := fun Γ s σ H' F' A R q => by
          obtain ⟨h1, h2, h3, h4, h5⟩ := fxE_sub fh fz R
          exact q .non H' F' A h1 h2 h3 h4 h5 R.ok Rp.non
        rt := fun v y Γ s σ H' F' A R rv q => by
          obtain ⟨h1, h2, h3, h4, h5⟩ := fxE_sub fh fz R
          refine q y H' F' A h1 h2 h3 h4 h5 R.ok ?_
          exact RV.rve R.a0 h2 rv
        bk := fun Γ s σ H F A R q => q
        ct := fun Γ s σ H F A R q => q
        ex := fun n Γ s σ H' F' A R q => q H' A (fxE_sub fh fz R).1 R.ok }
end
def GoodA (rm : RM) (cl : Nat → Addr) (X : Cx) (k : Nat) (x : Str) (φ : ESumm rm.S) : Prop := ∃ f fd ps, FnA X.prog X.w X.K X.mg X.base k f fd ps (spE rm cl φ) ∧ X.mg x = some (.ref f) ∧ PySem.W.keepIn X.K (.ref f) = true ∧ Binds X.K fd ps []
section
variable {rm : RM} {X : Cx} {k : Nat} {W : WN}
theorem n_calA {cl : Nat → Addr} {φ : ESumm rm.S} {x : Str} {cs : Es rm.S} {e0 : Expr} {es : List Expr} {p p2 : Pos} (g : GoodA rm cl X k x φ) (hr : RoomA k X.A) (hgd : X.A.guards = some []) (hg : Gl X x) (tk : Takes X (WXof cl W)) (ha : PA X (e0 :: es) (rdV W cs)) (hs : shpL (e0 :: es) = true) (hdb : (x == ("__debug__" : Str)) = false) : PE X (.Call (.Name x p2) (e0 :: es) [] p) (rdE W (.calE x φ cs)) := by
  obtain ⟨f, fd, ps, G, h1, h2, h3⟩ := g
  unfold shpL at hs
  rw [List.all_cons, Bool.and_eq_true] at hs
  refine PE_imp (pe_callA (E := fun σ => WE (WXof cl W) σ) G hr hgd hg h1 h2 h3 (fun σ => passAt tk σ) ha hdb (star1 hs.1) (stars hs.2)) fun σ H Q q => ?_
  obtain ⟨fx, Γ, s, F, A, R, xc, xk, q⟩ := q
  unfold wE at q
  refine ⟨fx, Γ, s, F, A, R, xc, xk, wV_mono cs (fun vs Γ1 s1 q => ?_) q⟩
  intro xs H1 F1 A1 R1 hx1 sb1 ar
  refine ⟨F1, A1, s1, vs, R1.fh, R1.fz, R1.ok, ar, φ.mono (fun v s2 q => ?_) (fun n s2 q => ?_) q⟩
  · intro y H' F' A' hxx ff fh' fz' nf okk rv
    refine q y H' F' A' (R1.after hxx ff fh' fz' nf okk) (hx1.trans hxx) (sb1.trans ff) ?_
    exact RVe.rv R1 rv
  · intro H' A' hxx okk
    exact ⟨n, rfl, rfl, xk n _ _ _ _ _ _ (R1.afterX hxx okk) q⟩
end
end Ac
namespace Ac
open PySem PySem.Spec PyProof.Rows L2
/-! ### data of bounded depth; data whose == is = -/
def scalB : D → Bool
  | .none | .bool _ | .int _ => true
  | .str x => PyData.strOk x
  | _ => false
def okD : Nat → D → Bool
  | 0, d => scalB d
  | k + 1, d => (match d with
    | .list xs => xs.all (okD k)
    | .tuple xs => xs.all (okD k)
    | d => scalB d)
theorem okD_lay : ∀ (k : Nat) (d : D), okD k d = true → d.canLay0 = true ∧ d.depth ≤ k + 1
  | 0, d, h => by cases d <;> simp_all [okD, scalB, PyData.canLay0, PyData.depth]
  | k + 1, .list xs, h => by
    have h' : xs.all (okD k) = true := h
    have : ∀ ys : List D, ys.all (okD k) = true → PyData.canLayAll0 ys = true ∧ PyData.depthAll ys ≤ k + 1 := by
      intro ys
      induction ys with
      | nil => intro _; exact ⟨rfl, Nat.zero_le _⟩
      | cons y r ih =>
        intro h
        rw [List.all_cons, Bool.and_eq_true] at h
        have a := okD_lay k y h.1
        have b := ih h.2
        refine ⟨?_, ?_⟩
        · simp only [PyData.canLayAll0, Bool.and_eq_true]; exact ⟨a.1, b.1⟩
        · simp only [PyData.depthAll]; omega
    have t := this xs h'
    refine ⟨?_, ?_⟩
    · simp only [PyData.canLay0]; exact t.1
    · simp only [PyData.depth]; omega
  | k + 1, .tuple xs, h => by
    have h' : xs.all (okD k) = true := h
    have : ∀ ys : List D, ys.all (okD k) = true → PyData.canLayAll0 ys = true ∧ PyData.depthAll ys ≤ k + 1 := by
      intro ys
      induction ys with
      | nil => intro _; exact ⟨rfl, Nat.zero_le _⟩
      | cons y r ih =>
        intro h
        rw [List.all_cons, Bool.and_eq_true] at h
        have a := okD_lay k y h.1
        have b := ih h.2
        refine ⟨?_, ?_⟩
        · simp only [PyData.canLayAll0, Bool.and_eq_true]; exact ⟨a.1, b.1⟩
        · simp only [PyData.depthAll]; omega
    have t := this xs h'
    refine ⟨?_, ?_⟩
    · simp only [PyData.canLay0]; exact t.1
    · simp only [PyData.depth]; omega
  | k + 1, .none, h => by simp [PyData.canLay0, PyData.depth]
  | k + 1, .bool _, h => by simp [PyData.canLay0, PyData.depth]
  | k + 1, .int _, h => by simp [PyData.canLay0, PyData.depth]
  | k + 1, .str _, h => by
    have h' : PyData.strOk _ = true := h
    simp [PyData.canLay0, PyData.depth, h']
  | k + 1, .dict _, h => by cases h
theorem okD_shaped {k : Nat} {d : D} (h : okD k d = true) (hk : k ≤ 60) : SeqAt.shaped d = true := by
  obtain ⟨a, b⟩ := okD_lay k d h
  unfold SeqAt.shaped
  rw [a, Bool.true_and, decide_eq_true_eq]
  omega
mutual
def clean : D → Bool
  | .none | .int _ | .str _ => true
  | .list xs => cleanL xs
  | .tuple xs => cleanL xs
  | _ => false
def cleanL : List D → Bool
  | [] => true
  | x :: r => clean x && cleanL r
end
mutual
theorem eqv_clean : ∀ (x y : D), clean x = true → clean y = true → (PyData.eqv x y = true ↔ x = y)
  | .none, y, _, hy => by cases y <;> simp_all [PyData.eqv, clean]
  | .bool _, _, hx, _ => by simp [clean] at hx
  | .int i, y, _, hy => by cases y <;> simp_all [PyData.eqv, clean]
  | .str i, y, _, hy => by cases y <;> simp_all [PyData.eqv, clean]
  | .dict _, _, hx, _ => by simp [clean] at hx
  | .list xs, y, hx, hy => by
    cases y with
    | list ys =>
      simp only [clean] at hx hy
      simp only [PyData.eqv, PyData.list.injEq]
      exact eqvAll_clean xs ys hx hy
    | _ => simp_all [PyData.eqv, clean]
  | .tuple xs, y, hx, hy => by
    cases y with
    | tuple ys =>
      simp only [clean] at hx hy
      simp only [PyData.eqv, PyData.tuple.injEq]
      exact eqvAll_clean xs ys hx hy
    | _ => simp_all [PyData.eqv, clean]
theorem eqvAll_clean : ∀ (x y : List D), cleanL x = true → cleanL y = true → (PyData.eqvAll x y = true ↔ x = y)
  | [], [], _, _ => by simp [PyData.eqvAll]
  | [], _ :: _, _, _ => by simp [PyData.eqvAll]
  | _ :: _, [], _, _ => by simp [PyData.eqvAll]
  | x :: xs, y :: ys, hx, hy => by
    simp only [cleanL, Bool.and_eq_true] at hx hy
    simp only [PyData.eqvAll, Bool.and_eq_true, List.cons.injEq]
    rw [eqv_clean x y hx.1 hy.1, eqvAll_clean xs ys hx.2 hy.2]
end
theorem cleanL_all {xs : List D} (h : ∀ x ∈ xs, clean x = true) : cleanL xs = true := by
  induction xs with
  | nil => rfl
  | cons x r ih =>
    simp only [cleanL, Bool.and_eq_true]
    exact ⟨h x List.mem_cons_self, ih fun y hy => h y (List.mem_cons_of_mem _ hy)⟩
@[simp] theorem eqD_nil {xs : List D} {k : Bool → Prop} : eqD (.list xs) (.list []) k = k xs.isEmpty := by
  cases xs <;> rfl
/-- what is of bounded depth and clean -/
def okc (d : D) : Bool := okD 8 d && clean d
theorem eqD_okc {x y : D} {k : Bool → Prop} (hx : okc x = true) (hy : okc y = true) (h1 : x = y → k true) (h2 : x ≠ y → k false) : eqD x y k := by
  unfold okc at hx hy
  rw [Bool.and_eq_true] at hx hy
  have key : ∀ b, (b = true ↔ x = y) → k b := fun b hb => by
    cases b with
    | true => exact h1 (hb.mp rfl)
    | false => exact h2 fun e => Bool.noConfusion (hb.mpr e)
  have sx := okD_shaped hx.1 (by decide)
  have sy := okD_shaped hy.1 (by decide)
  have ev := eqv_clean x y hx.2 hy.2
  unfold eqD
  split
  · exact key _ (by rw [decide_eq_true_eq]; simp)
  · exact key _ (by rw [decide_eq_true_eq]; simp)
  · exact key _ (by rw [decide_eq_true_eq]; simp)
  · exact key _ (by simp)
  · exact key _ (by simp)
  · exact key _ (by simp)
  · exact ⟨sx, sy, key _ ev⟩
theorem okc_int (i : Int) : okc (.int i) = true := rfl
theorem okD_mono : ∀ {j k : Nat} {d : D}, okD j d = true → j ≤ k → okD k d = true
  | 0, 0, _, h, _ => h
  | 0, k + 1, d, h, _ => by cases d <;> first | rfl | exact h | cases h
  | j + 1, 0, _, _, hk => absurd hk (Nat.not_succ_le_zero j)
  | j + 1, k + 1, d, h, hk => by
    have hk' := Nat.le_of_succ_le_succ hk
    cases d with
    | list xs =>
      have h' : xs.all (okD j) = true := h
      exact List.all_eq_true.mpr fun x hx => okD_mono (List.all_eq_true.mp h' x hx) hk'
    | tuple xs =>
      have h' : xs.all (okD j) = true := h
      exact List.all_eq_true.mpr fun x hx => okD_mono (List.all_eq_true.mp h' x hx) hk'
    | dict _ => cases h
    | str _ => exact h
    | _ => rfl
/-! ### single steps, by rfl -/
theorem sv_i {i : Int} : scalV (.dat (.int i)) = true := rfl
theorem sv_b {i : Bool} : scalV (.dat (.bool i)) = true := rfl
theorem sv_s {i : Str} : scalV (.dat (.str i)) = true := rfl
theorem sv_0 : scalV (.dat .none) = true := rfl
theorem sv_l {xs : List D} : scalV (.dat (.list xs)) = false := rfl
theorem sv_t {xs : List D} : scalV (.dat (.tuple xs)) = false := rfl
theorem sv_d {xs : List (D × D)} : scalV (.dat (.dict xs)) = false := rfl
theorem sv_n {xs : List D} : scalV (.new xs) = false := rfl
section
variable {S : Type}
@[simp] theorem asD_d {d : D} {k : D → Prop} : asD (.dat d) k = k d := rfl
@[simp] theorem asD_n {xs : List D} {k : D → Prop} : asD (.new xs) k = k (.list xs) := rfl
@[simp] theorem rdO_d {d : D} {k : D → Prop} : rdO (some (.dat d)) k = k d := rfl
@[simp] theorem rdO_o {xs : List D} {k : D → Prop} : rdO (some (.own xs)) k = k (.list xs) := rfl
@[simp] theorem boolD_b {b : Bool} {k : Bool → Prop} : boolD (.bool b) k = k b := rfl
@[simp] theorem relD_i {f : Int → Int → Bool} {i j : Int} {k : Val → Prop} : relD f (.int i) (.int j) k = k (.dat (.bool (f i j))) := rfl
@[simp] theorem addD_i {i j : Int} {k : Val → Prop} : addD (.int i) (.int j) k = k (.dat (.int (i + j))) := rfl
@[simp] theorem addD_l {i j : List D} {k : Val → Prop} : addD (.list i) (.list j) k = (i.length + j.length ≤ big ∧ k (.new (i ++ j))) := rfl
@[simp] theorem subD_i {i j : Int} {k : Val → Prop} : subD (.int i) (.int j) k = k (.dat (.int (i - j))) := rfl
@[simp] theorem intD_i {C : Int → Int → Prop} {f : Int → Int → Int} {i j : Int} {k : Val → Prop} : intD C f (.int i) (.int j) k = (C i j ∧ k (.dat (.int (f i j)))) := rfl
@[simp] theorem lenD_l {xs : List D} {k : Val → Prop} : lenD [.list xs] k = k (.dat (.int xs.length)) := rfl
@[simp] theorem lenD_t {xs : List D} {k : Val → Prop} : lenD [.tuple xs] k = k (.dat (.int xs.length)) := rfl
@[simp] theorem isD_1 {f : D → Bool} {d : D} {k : Val → Prop} : isD f [d] k = k (.dat (.bool (f d))) := rfl
@[simp] theorem listD_l {xs : List D} {k : Val → Prop} : listD [.list xs] k = k (.new xs) := rfl
@[simp] theorem listD_t {xs : List D} {k : Val → Prop} : listD [.tuple xs] k = k (.new xs) := rfl
@[simp] theorem tupleD_l {xs : List D} {k : Val → Prop} : tupleD [.list xs] k = k (.dat (.tuple xs)) := rfl
@[simp] theorem int2D_i {f : Int → Int → Int} {i j : Int} {k : Val → Prop} : int2D f [.int i, .int j] k = k (.dat (.int (f i j))) := rfl
@[simp] theorem absD_i {i : Int} {k : Val → Prop} : absD [.int i] k = k (.dat (.int (if i < 0 then -i else i))) := rfl
@[simp] theorem toIntD_i {i : Int} {k : Val → Prop} : toIntD [.int i] k = k (.dat (.int i)) := rfl
@[simp] theorem toIntD_b {b : Bool} {k : Val → Prop} : toIntD [.bool b] k = k (.dat (.int (if b then 1 else 0))) := rfl
@[simp] theorem eqD_i {i j : Int} {k : Bool → Prop} : eqD (.int i) (.int j) k = k (decide (i = j)) := rfl
@[simp] theorem eqD_b {i j : Bool} {k : Bool → Prop} : eqD (.bool i) (.bool j) k = k (decide (i = j)) := rfl
@[simp] theorem eqD_s {i j : Str} {k : Bool → Prop} : eqD (.str i) (.str j) k = k (decide (i = j)) := rfl
@[simp] theorem rngD_1 {n : Int} {k : List D → Prop} : rngD [.int n] k = ((-(2 ^ 62) ≤ n ∧ n < 2 ^ 62) ∧ k ((List.range n.toNat).map fun i => .int (i : Nat))) := rfl
@[simp] theorem rngD_2 {a b : Int} {k : List D → Prop} : rngD [.int a, .int b] k = ((-(2 ^ 62) ≤ a ∧ a < 2 ^ 62 ∧ -(2 ^ 62) ≤ b ∧ b < 2 ^ 62) ∧ k ((List.range (b - a).toNat).map fun i => .int (a + (i : Nat)))) := rfl
@[simp] theorem seqD_l {xs : List D} {k : List D → Prop} : seqD (.list xs) k = k xs := rfl
@[simp] theorem seqD_t {xs : List D} {k : List D → Prop} : seqD (.tuple xs) k = k xs := rfl
@[simp] theorem lstD_l {xs : List D} {k : List D → Prop} : lstD (.list xs) k = k xs := rfl
@[simp] theorem ixX_l {xs : List D} {i : Int} {k : D → Prop} : ixX (.list xs) (.int i) k = ixD xs i k := rfl
@[simp] theorem ixX_t {xs : List D} {i : Int} {k : D → Prop} : ixX (.tuple xs) (.int i) k = ixD xs i k := rfl
@[simp] theorem negX_i {i : Int} {k : Val → Prop} : negX (.int i) k = k (.dat (.int (-i))) := rfl
@[simp] theorem slX_l {xs : List D} {l h : Option Int} {k : Val → Prop} : slX (.list xs) l h k = k (.new (cutD xs l h)) := rfl
@[simp] theorem rvX_l {xs : List D} {k : Val → Prop} : rvX (.list xs) k = k (.new xs.reverse) := rfl
@[simp] theorem repX_i {ds : List D} {j : Int} {k : Val → Prop} : repX ds (.int j) k = ((-100000 ≤ j ∧ j ≤ 100000 ∧ ds.length * j.toNat ≤ big) ∧ k (.new (List.replicate j.toNat ds).flatten)) := rfl
@[simp] theorem intX_i {i : Int} {k : Int → Prop} : intX (.int i) k = k i := rfl
@[simp] theorem look_0 {v : Option Val} {r : Ctx} : look (v :: r) 0 = v := rfl
@[simp] theorem look_s {v : Option Val} {r : Ctx} {i : Nat} : look (v :: r) (i + 1) = look r i := rfl
@[simp] theorem put_0 {v w : Option Val} {r : Ctx} : put (v :: r) 0 w = w :: r := rfl
@[simp] theorem put_s {v w : Option Val} {r : Ctx} {i : Nat} : put (v :: r) (i + 1) w = v :: put r i w := rfl
end
/-! ### summaries by functions -/
def Summ.pure (f : List D → Option (Val ⊕ Nat)) : Summ where
  run ds Q Y := match f ds with
    | some (.inl v) => Q v
    | some (.inr n) => Y n
    | none => False
  mono := fun {ds Q Q' Y Y'} h1 h2 q => by
    cases e : f ds with
    | none => rw [e] at q; exact q
    | some r =>
      rw [e] at q
      cases r with
      | inl v => exact h1 v q
      | inr n => exact h2 n q
def KQY (Q : Val → Prop) (Y : Nat → Prop) : Kn Unit := { nx := fun _ _ => Q (.dat .none), rt := fun v _ => Q v, ex := fun n _ _ => Y n }
/-- the tree keeps the summary: np parameters, nN names -/
def WOk (φ : Summ) (np nN : Nat) (body : Sms Unit) : Prop := ∀ ds Q Y, φ.run ds Q Y → ds.length = np ∧ wSs body (entry nN (ds.map .dat)) () (KQY Q Y)
theorem WOk.of {f : List D → Option (Val ⊕ Nat)} {np nN : Nat} {body : Sms Unit} (h : ∀ ds r, f ds = some r → ds.length = np ∧ ∀ Q Y, (match r with | .inl v => Q v | .inr n => Y n) → wSs body (entry nN (ds.map .dat)) () (KQY Q Y)) : WOk (Summ.pure f) np nN body := fun ds Q Y q => by
  have q' : (match f ds with
    | some (.inl v) => Q v
    | some (.inr n) => Y n
    | none => False) := q
  cases e : f ds with
  | none => rw [e] at q'; exact q'.elim
  | some r =>
    rw [e] at q'
    obtain ⟨h1, h2⟩ := h ds r e
    refine ⟨h1, h2 Q Y ?_⟩
    cases r <;> exact q'
/-! ### turns -/
theorem cLoop_pure {S : Type} {f : D → Ctx → S → (Option D → Ctx → S → Prop) → Prop} {g : D → Option D} {Γ : Ctx} {s : S} {k : List D → Ctx → S → Prop} : ∀ (xs acc : List D), (∀ x ∈ xs, ∀ k' : Option D → Ctx → S → Prop, k' (g x) Γ s → f x Γ s k') → k (acc ++ xs.filterMap g) Γ s → cLoop f xs Γ s acc k
  | [], acc, _, h => by
    rw [List.filterMap_nil, List.append_nil] at h
    exact h
  | x :: r, acc, hf, h => by
    refine hf x List.mem_cons_self _ (cLoop_pure r _ (fun y hy => hf y (List.mem_cons_of_mem _ hy)) ?_)
    rw [List.append_assoc]
    have e : (g x).toList ++ r.filterMap g = (x :: r).filterMap g := by
      cases e : g x with
      | none => rw [List.filterMap_cons_none e]; rfl
      | some y => rw [List.filterMap_cons_some e]; rfl
    rw [e]
    exact h
/-- an invariant over a list, by what is done and what is left -/
theorem fLoop_inv {S : Type} {f : D → Ctx → S → Kn S → Prop} {K : Kn S} (I : List D → List D → Ctx → S → Prop) (hnx : ∀ done Γ s, I done [] Γ s → K.nx Γ s)
    (hstep : ∀ done x r Γ s (K' : Kn S), I done (x :: r) Γ s → (∀ Γ' s', I (done ++ [x]) r Γ' s' → K'.nx Γ' s') → (∀ Γ' s', I (done ++ [x]) r Γ' s' → K'.ct Γ' s') → K'.bk = K.nx → K'.rt = K.rt → K'.ex = K.ex → f x Γ s K') :
    ∀ (xs done : List D) (Γ : Ctx) (s : S), I done xs Γ s → fLoop f K xs Γ s
  | [], done, Γ, s, h => hnx done Γ s h
  | x :: r, done, Γ, s, h => hstep done x r Γ s _ h (fun Γ' s' h' => fLoop_inv I hnx hstep r (done ++ [x]) Γ' s' h') (fun Γ' s' h' => fLoop_inv I hnx hstep r (done ++ [x]) Γ' s' h') rfl rfl rfl
/-! ### items -/
theorem ixD_nat {xs : List D} {i : Int} {j : Nat} {d : D} {k : D → Prop} (hi : i = (j : Int)) (h : xs[j]? = some d) : ixD xs i k = k d := by
  have hl : j < xs.length := (List.getElem?_eq_some_iff.mp h).1
  unfold ixD ixN
  rw [if_pos (show (0 : Int) ≤ i by omega), if_pos (show i < (xs.length : Nat) by omega)]
  have : i.toNat = j := by omega
  rw [this]
  show (match xs[j]? with | some d => k d | none => False) = k d
  rw [h]
@[simp] theorem ixD_0 {x : D} {r : List D} {k : D → Prop} : ixD (x :: r) 0 k = k x := ixD_nat (j := 0) rfl rfl
@[simp] theorem ixD_1 {x y : D} {r : List D} {k : D → Prop} : ixD (x :: y :: r) 1 k = k y := ixD_nat (j := 1) rfl rfl
@[simp] theorem ixD_2 {x y z : D} {r : List D} {k : D → Prop} : ixD (x :: y :: z :: r) 2 k = k z := ixD_nat (j := 2) rfl rfl
theorem ixD_map {α : Type} {f : α → D} {xs : List α} {i : Int} {k : D → Prop} (h0 : 0 ≤ i) (h1 : i < xs.length) : ixD (xs.map f) i k = k (f (xs[i.toNat]'(by omega))) :=
  ixD_nat (j := i.toNat) (by omega) (by rw [List.getElem?_map, List.getElem?_eq_getElem (by omega)]; rfl)
theorem ixD_last {xs : List D} {x : D} {k : D → Prop} : ixD (xs ++ [x]) (-1) k = k x := by
  unfold ixD ixN
  rw [if_neg (by decide), if_pos (by rw [List.length_append, List.length_singleton]; omega)]
  show (match (xs ++ [x])[(-1 + ((xs ++ [x]).length : Int)).toNat]? with | some d => k d | none => False) = k x
  have e : (-1 + ((xs ++ [x]).length : Int)).toNat = xs.length := by rw [List.length_append, List.length_singleton]; omega
  rw [e, List.getElem?_concat_length]
theorem qb {Q : Val → Prop} {x y : Bool} (h : Q (.dat (.bool x))) (e : x = true ↔ y = true) : Q (.dat (.bool y)) := by
  have : x = y := Bool.eq_iff_iff.mpr e
  rw [← this]
  exact h
/-! ### is_number, is_arc, is_ring -/
def isNumD (d : D) (b : Int) : Bool := match d with
  | .int i => decide (0 ≤ i) && decide (i < b)
  | _ => false
def Sis_number : Summ := Summ.pure fun ds => match ds with
  | [d, .int b] => some (.inl (.dat (.bool (isNumD d b))))
  | _ => none
def tris_number : Sms Unit :=
  (.cons (.one (.ret (.an (.bi .isint (.cons (.var 0) .nil)) (.an (.nt (.bi .isbool (.cons (.var 0) .nil))) (.ch .LtE .Lt (.int 0) (.var 0) (.var 1))))))
    .nil)

@[simp] theorem run_is_number {d : D} {b : Int} {Q : Val → Prop} {Y : Nat → Prop} : Sis_number.run [d, .int b] Q Y = Q (.dat (.bool (isNumD d b))) := rfl
theorem w_is_number : WOk Sis_number 2 2 tris_number := WOk.of fun ds r e => by
  split at e
  · rename_i d b
    cases e
    refine ⟨rfl, fun Q Y h => ?_⟩
    unfold tris_number
    simp only [backV, wSs, wS, w1, wT, wE, wA, wX, wV, wP, wC, opn, rdO_d, rdO_o, asD_d, asD_n, KQY, entry, look, put, slotV, argsOk, frzA, frzV, sv_i, sv_b, sv_s, sv_0, sv_l, sv_t, sv_d, sv_n, List.map, List.length, List.replicate, List.cons_append, List.nil_append, Nat.sub_self, biD, isD_1, boolD_b, cmpD, relD_i, opD, addD_i, addD_l, subD_i, intD_i, lenD_l, lenD_t, listD_l, listD_t, tupleD_l, int2D_i, absD_i, toIntD_i, toIntD_b, eqD_i, eqD_b, eqD_s, rngD_1, rngD_2, seqD_l, seqD_t, lstD_l, ixX_l, ixX_t, negX_i, slX_l, rvX_l, repX_i, intX_i, ixD_0, ixD_1, ixD_2, true_and, and_true, ite_self]
    cases d with
    | int i =>
      simp only [isIntD, isBoolD, Bool.not_false, if_true, relD_i, asD_d, boolD_b]
      by_cases hc : 0 ≤ i
      · rw [if_pos (decide_eq_true hc)]
        exact qb h (by simp [isNumD, hc])
      · rw [if_neg (by simp [hc])]
        exact qb h (by simp [isNumD, hc])
    | _ => simpa [isIntD, isBoolD, isNumD] using h
  · cases e
def isArcD (d : D) (n : Int) : Bool := match d with
  | .tuple [s, .int m] => isNumD s n && decide (0 < m) && decide (m < n + 1)
  | _ => false
def Sis_arc : Summ := Summ.pure fun ds => match ds with
  | [d, .int n] => some (.inl (.dat (.bool (isArcD d n))))
  | _ => none
def tris_arc : Sms Unit :=
  (.cons (.ite (.or (.nt (.bi .istuple (.cons (.var 0) .nil))) (.cmp .NotEq (.bi .len (.cons (.var 0) .nil)) (.int 2)))
    (.cons (.one (.ret (.bl false)))
    .nil)
    .nil)
    (.cons (.one (.ret (.an (.call "is_number" Sis_number (.cons (.ix (.var 0) (.int 0)) (.cons (.var 1) .nil))) (.an (.call "is_number" Sis_number (.cons (.ix (.var 0) (.int 1)) (.cons (.op .Add (.var 1) (.int 1)) .nil))) (.cmp .Gt (.ix (.var 0) (.int 1)) (.int 0))))))
    .nil))

@[simp] theorem run_is_arc {d : D} {b : Int} {Q : Val → Prop} {Y : Nat → Prop} : Sis_arc.run [d, .int b] Q Y = Q (.dat (.bool (isArcD d b))) := rfl
theorem w_is_arc : WOk Sis_arc 2 2 tris_arc := WOk.of fun ds r e => by
  split at e
  · rename_i d b
    cases e
    refine ⟨rfl, fun Q Y h => ?_⟩
    unfold tris_arc
    simp only [backV, wSs, wS, w1, wT, wE, wA, wX, wV, wP, wC, opn, rdO_d, rdO_o, asD_d, asD_n, KQY, entry, look, put, slotV, argsOk, frzA, frzV, sv_i, sv_b, sv_s, sv_0, sv_l, sv_t, sv_d, sv_n, List.map, List.length, List.replicate, List.cons_append, List.nil_append, Nat.sub_self, biD, isD_1, boolD_b, cmpD, relD_i, opD, addD_i, addD_l, subD_i, intD_i, lenD_l, lenD_t, listD_l, listD_t, tupleD_l, int2D_i, absD_i, toIntD_i, toIntD_b, eqD_i, eqD_b, eqD_s, rngD_1, rngD_2, seqD_l, seqD_t, lstD_l, ixX_l, ixX_t, negX_i, slX_l, rvX_l, repX_i, intX_i, ixD_0, ixD_1, ixD_2, true_and, and_true, ite_self, run_is_number]
    cases d with
    | tuple xs =>
      match xs with
      | [] => simpa [isTupD, isArcD] using h
      | [_] => simpa [isTupD, isArcD] using h
      | _ :: _ :: _ :: r =>
        have e : ¬ ((r.length : Int) + 1 + 1 + 1 = 2) := by omega
        simpa [isTupD, isArcD, e] using h
      | [s, m] =>
        simp only [isTupD, lenD_t, asD_d, boolD_b, eqD_i, ixD_0, ixD_1, List.length]
        cases m with
        | int i =>
          by_cases hs : isNumD s b = true
          · by_cases hi : isNumD (.int i) (b + 1) = true
            · simp [hs, hi]
              refine qb h ?_
              simp only [isNumD, Bool.and_eq_true, decide_eq_true_eq] at hi
              simp [isArcD, hs]
              omega
            · simp [hs, hi]
              refine qb h ?_
              simp [isNumD] at hi
              simp [isArcD, hs]
              omega
          · simp [hs]
            exact qb h (by simp [isArcD, hs])
        | _ => simpa [isArcD, isNumD] using h
    | _ => simpa [isTupD, isArcD] using h
  · cases e
end Ac
namespace Ac
open PySem PySem.Spec PyProof.Rows L2
def isRingD (d : D) : Bool := match d with
  | .tuple [.int n, .list xs] => decide (1 ≤ n) && decide (n ≤ 40) && decide (xs.length ≤ 20) && xs.all (isArcD · n)
  | _ => false
def Sis_ring : Summ := Summ.pure fun ds => match ds with
  | [d] => some (.inl (.dat (.bool (isRingD d))))
  | _ => none
def tris_ring_c1 : Es Unit :=
  (.cons (.nt (.call "is_arc" Sis_arc (.cons (.var 1) (.cons (.ix (.var 0) (.int 0)) .nil)))) .nil)
def tris_ring : Sms Unit :=
  (.cons (.ite (.or (.nt (.bi .istuple (.cons (.var 0) .nil))) (.cmp .NotEq (.bi .len (.cons (.var 0) .nil)) (.int 2)))
    (.cons (.one (.ret (.bl false)))
    .nil)
    .nil)
    (.cons (.ite (.or (.nt (.call "is_number" Sis_number (.cons (.ix (.var 0) (.int 0)) (.cons (.op .Add (.glb "MOST_PLACES" 40) (.int 1)) .nil)))) (.cmp .Eq (.ix (.var 0) (.int 0)) (.int 0)))
    (.cons (.one (.ret (.bl false)))
    .nil)
    .nil)
    (.cons (.ite (.or (.nt (.bi .islist (.cons (.ix (.var 0) (.int 1)) .nil))) (.cmp .Gt (.bi .len (.cons (.ix (.var 0) (.int 1)) .nil)) (.glb "MOST_ARCS" 20)))
    (.cons (.one (.ret (.bl false)))
    .nil)
    .nil)
    (.cons (.one (.ret (.cmp .Eq (.comp [1] (.nm 1) (.seq (.ix (.var 0) (.int 1))) tris_ring_c1 (.var 1)) (.ls .nil))))
    .nil))))

@[simp] theorem run_is_ring {d : D} {Q : Val → Prop} {Y : Nat → Prop} : Sis_ring.run [d] Q Y = Q (.dat (.bool (isRingD d))) := rfl
theorem filterMap_empty {α β : Type} {g : α → Option β} {xs : List α} : (xs.filterMap g).isEmpty = true ↔ ∀ x ∈ xs, g x = none := by
  rw [List.isEmpty_iff, List.filterMap_eq_nil_iff]
theorem big20 {n : Nat} (h : n ≤ 20) : n ≤ big := Nat.le_trans h (by decide)
theorem big40 {n : Nat} (h : n ≤ 40) : n ≤ big := Nat.le_trans h (by decide)
theorem w_is_ring : WOk Sis_ring 1 2 tris_ring := WOk.of fun ds r e => by
  split at e
  · rename_i d
    cases e
    refine ⟨rfl, fun Q Y h => ?_⟩
    unfold tris_ring
    simp only [backV, wSs, wS, w1, wT, wE, wA, wX, wV, wP, wC, opn, rdO_d, rdO_o, asD_d, asD_n, KQY, entry, look, put, slotV, argsOk, frzA, frzV, sv_i, sv_b, sv_s, sv_0, sv_l, sv_t, sv_d, sv_n, List.map, List.length, List.replicate, List.cons_append, List.nil_append, Nat.sub_self, biD, isD_1, boolD_b, cmpD, relD_i, opD, addD_i, addD_l, subD_i, intD_i, lenD_l, lenD_t, listD_l, listD_t, tupleD_l, int2D_i, absD_i, toIntD_i, toIntD_b, eqD_i, eqD_b, eqD_s, rngD_1, rngD_2, seqD_l, seqD_t, lstD_l, ixX_l, ixX_t, negX_i, slX_l, rvX_l, repX_i, intX_i, ixD_0, ixD_1, ixD_2, true_and, and_true, ite_self, wI, run_is_number, wipeG, backG]
    cases d with
    | tuple xs =>
      match xs with
      | [] => simpa [isTupD, isRingD] using h
      | [_] => simpa [isTupD, isRingD] using h
      | _ :: _ :: _ :: r =>
        have e : ¬ ((r.length : Int) + 1 + 1 + 1 = 2) := by omega
        simpa [isTupD, isRingD, e] using h
      | [a, b] =>
        cases a with
        | int n =>
          by_cases hn : isNumD (.int n) 41 = true
          · simp only [isNumD, Bool.and_eq_true, decide_eq_true_eq] at hn
            by_cases h0 : n = 0
            · subst h0
              simp [isTupD, isNumD]
              exact qb h (by cases b <;> simp [isRingD])
            · have hn1 : n < 41 := hn.2
              cases b with
              | list xs =>
                by_cases hl : xs.length ≤ 20
                · have hl' : ¬ (20 < (xs.length : Int)) := by omega
                  simp [isTupD, isNumD, isListD, h0, hn.1, hn1, hl']
                  refine ⟨big20 hl, ?_⟩
                  refine cLoop_pure (g := fun x => if isArcD x n = true then none else some x) _ _ (fun x hx k' hk => ?_) ?_
                  · simp [bindT, tris_ring_c1, wipeG, backV, wSs, wS, w1, wT, wE, wA, wX, wV, wP, wC, opn, rdO_d, rdO_o, asD_d, asD_n, KQY, entry, look, put, slotV, argsOk, frzA, frzV, sv_i, sv_b, sv_s, sv_0, sv_l, sv_t, sv_d, sv_n, List.map, List.length, List.replicate, List.cons_append, List.nil_append, Nat.sub_self, biD, isD_1, boolD_b, cmpD, relD_i, opD, addD_i, addD_l, subD_i, intD_i, lenD_l, lenD_t, listD_l, listD_t, tupleD_l, int2D_i, absD_i, toIntD_i, toIntD_b, eqD_i, eqD_b, eqD_s, rngD_1, rngD_2, seqD_l, seqD_t, lstD_l, ixX_l, ixX_t, negX_i, slX_l, rvX_l, repX_i, intX_i, ixD_0, ixD_1, ixD_2, true_and, and_true, ite_self]
                    by_cases ha : isArcD x n = true <;> simp_all
                  · simp only [List.nil_append, eqD_nil]
                    refine qb h ?_
                    rw [filterMap_empty]
                    simp [isRingD, hl]
                    intro _
                    omega
                · have hl' : 20 < (xs.length : Int) := by omega
                  simp [isTupD, isNumD, isListD, h0, hn.1, hn1, hl']
                  exact qb h (by simp [isRingD, hl])
              | _ =>
                simp [isTupD, isNumD, isListD, h0, hn.1, hn1]
                simpa [isRingD] using h
          · simp [isTupD, hn]
            refine qb h ?_
            simp only [isNumD, Bool.and_eq_true, decide_eq_true_eq] at hn
            cases b <;> simp [isRingD]
            omega
        | _ => simpa [isTupD, isRingD, isNumD] using h
    | _ => simpa [isTupD, isRingD] using h
  · cases e
/-! ### rings, plainly -/
def arcD (a : Int × Int) : D := .tuple [.int a.1, .int a.2]
def ringD (n : Int) (as : List (Int × Int)) : D := .tuple [.int n, .list (as.map arcD)]
def arcOk (n : Int) (a : Int × Int) : Prop := 0 ≤ a.1 ∧ a.1 < n ∧ 1 ≤ a.2 ∧ a.2 ≤ n
structure RingOk (n : Int) (as : List (Int × Int)) : Prop where
  n1 : 1 ≤ n
  n40 : n ≤ 40
  len : as.length ≤ 20
  arcs : ∀ a ∈ as, arcOk n a
theorem isArcD_iff {d : D} {n : Int} : isArcD d n = true ↔ ∃ a, d = arcD a ∧ arcOk n a := by
  constructor
  · intro h
    unfold isArcD at h
    split at h
    · rename_i s m
      rw [Bool.and_eq_true, Bool.and_eq_true, decide_eq_true_eq, decide_eq_true_eq] at h
      obtain ⟨⟨h1, h2⟩, h3⟩ := h
      unfold isNumD at h1
      split at h1
      · rename_i i
        rw [Bool.and_eq_true, decide_eq_true_eq, decide_eq_true_eq] at h1
        exact ⟨(i, m), rfl, h1.1, h1.2, h2, by show m ≤ n; omega⟩
      · cases h1
    · cases h
  · rintro ⟨⟨s, m⟩, rfl, h1, h2, h3, h4⟩
    have h1 : 0 ≤ s := h1
    have h2 : s < n := h2
    have h3 : 1 ≤ m := h3
    have h4 : m ≤ n := h4
    simp [isArcD, arcD, isNumD]
    omega
theorem arcs_of {xs : List D} {n : Int} (h : ∀ x ∈ xs, isArcD x n = true) : ∃ as : List (Int × Int), xs = as.map arcD ∧ ∀ a ∈ as, arcOk n a := by
  induction xs with
  | nil => exact ⟨[], rfl, fun a h => nomatch h⟩
  | cons x r ih =>
    obtain ⟨a, rfl, ha⟩ := isArcD_iff.mp (h x List.mem_cons_self)
    obtain ⟨as, rfl, has⟩ := ih fun y hy => h y (List.mem_cons_of_mem _ hy)
    exact ⟨a :: as, rfl, fun b hb => by cases hb with | head => exact ha | tail _ hb => exact has b hb⟩
theorem isRingD_iff {d : D} : isRingD d = true ↔ ∃ n as, d = ringD n as ∧ RingOk n as := by
  constructor
  · intro h
    unfold isRingD at h
    split at h
    · rename_i n xs
      simp only [Bool.and_eq_true, decide_eq_true_eq, List.all_eq_true] at h
      obtain ⟨⟨⟨h1, h2⟩, h3⟩, h4⟩ := h
      obtain ⟨as, rfl, has⟩ := arcs_of h4
      rw [List.length_map] at h3
      exact ⟨n, as, rfl, h1, h2, h3, has⟩
    · cases h
  · rintro ⟨n, as, rfl, h1, h2, h3, h4⟩
    simp only [isRingD, ringD, Bool.and_eq_true, decide_eq_true_eq, List.all_eq_true, List.length_map]
    refine ⟨⟨⟨h1, h2⟩, h3⟩, fun x hx => ?_⟩
    obtain ⟨a, ha, rfl⟩ := List.mem_map.mp hx
    exact isArcD_iff.mpr ⟨a, rfl, h4 a ha⟩
@[simp] theorem isRing_ringD {n : Int} {as : List (Int × Int)} (h : RingOk n as) : isRingD (ringD n as) = true := isRingD_iff.mpr ⟨n, as, rfl, h⟩
/-! ### summaries with a condition -/
def Summ.cond (f : List D → Option (Prop × (Val ⊕ Nat))) : Summ where
  run ds Q Y := match f ds with
    | some (p, .inl v) => p ∧ Q v
    | some (p, .inr n) => p ∧ Y n
    | none => False
  mono := fun {ds Q Q' Y Y'} h1 h2 q => by
    cases e : f ds with
    | none => rw [e] at q; exact q
    | some r =>
      rw [e] at q
      obtain ⟨p, r⟩ := r
      cases r with
      | inl v => exact ⟨q.1, h1 v q.2⟩
      | inr n => exact ⟨q.1, h2 n q.2⟩
theorem WOk.cond {f : List D → Option (Prop × (Val ⊕ Nat))} {np nN : Nat} {body : Sms Unit} (h : ∀ ds p r, f ds = some (p, r) → ds.length = np ∧ (p → ∀ Q Y, (match r with | .inl v => Q v | .inr n => Y n) → wSs body (entry nN (ds.map .dat)) () (KQY Q Y))) : WOk (Summ.cond f) np nN body := fun ds Q Y q => by
  have q' : (match f ds with
    | some (p, .inl v) => p ∧ Q v
    | some (p, .inr n) => p ∧ Y n
    | none => False) := q
  cases e : f ds with
  | none => rw [e] at q'; exact q'.elim
  | some r =>
    rw [e] at q'
    obtain ⟨p, r⟩ := r
    obtain ⟨h1, h2⟩ := h ds p r e
    refine ⟨h1, ?_⟩
    cases r with
    | inl v => exact h2 q'.1 Q Y q'.2
    | inr n => exact h2 q'.1 Q Y q'.2
/-! ### need_ring, need_number, need_place -/
def Sneed_ring : Summ := Summ.pure fun ds => match ds with
  | [d] => some (if isRingD d = true then .inl (.dat .none) else .inr 0)
  | _ => none
def trneed_ring : Sms Unit :=
  (.cons (.ite (.nt (.call "is_ring" Sis_ring (.cons (.var 0) .nil)))
    (.cons (.one (.raise "NoRing" 0))
    .nil)
    .nil)
    .nil)

@[simp] theorem run_need_ring {d : D} {Q : Val → Prop} {Y : Nat → Prop} : Sneed_ring.run [d] Q Y = (if isRingD d = true then Q (.dat .none) else Y 0) := by
  show (match some (if isRingD d = true then .inl (.dat .none) else .inr 0) with
    | some (Sum.inl v) => Q v
    | some (Sum.inr n) => Y n
    | none => False) = _
  split <;> split at * <;> simp_all
theorem w_need_ring : WOk Sneed_ring 1 1 trneed_ring := WOk.of fun ds r e => by
  split at e
  · rename_i d
    cases e
    refine ⟨rfl, fun Q Y h => ?_⟩
    unfold trneed_ring
    simp only [backV, wSs, wS, w1, wT, wE, wA, wX, wV, wP, wC, opn, rdO_d, rdO_o, asD_d, asD_n, KQY, entry, look, put, slotV, argsOk, frzA, frzV, sv_i, sv_b, sv_s, sv_0, sv_l, sv_t, sv_d, sv_n, List.map, List.length, List.replicate, List.cons_append, List.nil_append, Nat.sub_self, biD, isD_1, boolD_b, cmpD, relD_i, opD, addD_i, addD_l, subD_i, intD_i, lenD_l, lenD_t, listD_l, listD_t, tupleD_l, int2D_i, absD_i, toIntD_i, toIntD_b, eqD_i, eqD_b, eqD_s, rngD_1, rngD_2, seqD_l, seqD_t, lstD_l, ixX_l, ixX_t, negX_i, slX_l, rvX_l, repX_i, intX_i, ixD_0, ixD_1, ixD_2, true_and, and_true, ite_self, run_is_ring]
    by_cases hd : isRingD d = true <;> simp_all
  · cases e
def Sneed_number : Summ := Summ.pure fun ds => match ds with
  | [.tuple [_, .list xs], d] => some (if isNumD d xs.length = true then .inl (.dat .none) else .inr 1)
  | _ => none
def trneed_number : Sms Unit :=
  (.cons (.ite (.nt (.call "is_number" Sis_number (.cons (.var 1) (.cons (.bi .len (.cons (.ix (.var 0) (.int 1)) .nil)) .nil))))
    (.cons (.one (.raise "NoArc" 1))
    .nil)
    .nil)
    .nil)

@[simp] theorem run_need_number {a d : D} {xs : List D} {Q : Val → Prop} {Y : Nat → Prop} : Sneed_number.run [.tuple [a, .list xs], d] Q Y = (if isNumD d xs.length = true then Q (.dat .none) else Y 1) := by
  show (match some (if isNumD d xs.length = true then .inl (.dat .none) else .inr 1) with
    | some (Sum.inl v) => Q v
    | some (Sum.inr n) => Y n
    | none => False) = _
  split <;> split at * <;> simp_all
theorem w_need_number : WOk Sneed_number 2 2 trneed_number := WOk.of fun ds r e => by
  split at e
  · rename_i a xs d
    cases e
    refine ⟨rfl, fun Q Y h => ?_⟩
    unfold trneed_number
    simp only [backV, wSs, wS, w1, wT, wE, wA, wX, wV, wP, wC, opn, rdO_d, rdO_o, asD_d, asD_n, KQY, entry, look, put, slotV, argsOk, frzA, frzV, sv_i, sv_b, sv_s, sv_0, sv_l, sv_t, sv_d, sv_n, List.map, List.length, List.replicate, List.cons_append, List.nil_append, Nat.sub_self, biD, isD_1, boolD_b, cmpD, relD_i, opD, addD_i, addD_l, subD_i, intD_i, lenD_l, lenD_t, listD_l, listD_t, tupleD_l, int2D_i, absD_i, toIntD_i, toIntD_b, eqD_i, eqD_b, eqD_s, rngD_1, rngD_2, seqD_l, seqD_t, lstD_l, ixX_l, ixX_t, negX_i, slX_l, rvX_l, repX_i, intX_i, ixD_0, ixD_1, ixD_2, true_and, and_true, ite_self, run_is_number]
    by_cases hd : isNumD d xs.length = true <;> simp_all
  · cases e
def Sneed_place : Summ := Summ.pure fun ds => match ds with
  | [.tuple [.int n, _], d] => some (if isNumD d n = true then .inl (.dat .none) else .inr 2)
  | _ => none
def trneed_place : Sms Unit :=
  (.cons (.ite (.nt (.call "is_number" Sis_number (.cons (.var 1) (.cons (.ix (.var 0) (.int 0)) .nil))))
    (.cons (.one (.raise "NoPlace" 2))
    .nil)
    .nil)
    .nil)

@[simp] theorem run_need_place {a d : D} {n : Int} {Q : Val → Prop} {Y : Nat → Prop} : Sneed_place.run [.tuple [.int n, a], d] Q Y = (if isNumD d n = true then Q (.dat .none) else Y 2) := by
  show (match some (if isNumD d n = true then .inl (.dat .none) else .inr 2) with
    | some (Sum.inl v) => Q v
    | some (Sum.inr n) => Y n
    | none => False) = _
  split <;> split at * <;> simp_all
theorem w_need_place : WOk Sneed_place 2 2 trneed_place := WOk.of fun ds r e => by
  split at e
  · rename_i n a d
    cases e
    refine ⟨rfl, fun Q Y h => ?_⟩
    unfold trneed_place
    simp only [backV, wSs, wS, w1, wT, wE, wA, wX, wV, wP, wC, opn, rdO_d, rdO_o, asD_d, asD_n, KQY, entry, look, put, slotV, argsOk, frzA, frzV, sv_i, sv_b, sv_s, sv_0, sv_l, sv_t, sv_d, sv_n, List.map, List.length, List.replicate, List.cons_append, List.nil_append, Nat.sub_self, biD, isD_1, boolD_b, cmpD, relD_i, opD, addD_i, addD_l, subD_i, intD_i, lenD_l, lenD_t, listD_l, listD_t, tupleD_l, int2D_i, absD_i, toIntD_i, toIntD_b, eqD_i, eqD_b, eqD_s, rngD_1, rngD_2, seqD_l, seqD_t, lstD_l, ixX_l, ixX_t, negX_i, slX_l, rvX_l, repX_i, intX_i, ixD_0, ixD_1, ixD_2, true_and, and_true, ite_self, run_is_number]
    by_cases hd : isNumD d n = true <;> simp_all
  · cases e
/-! ### places_in, holds, meet -/
/-- the places that an arc holds -/
def plc (n : Int) (a : Int × Int) : List Int := (List.range a.2.toNat).map fun k => (a.1 + (k : Nat)) % n
def Splaces_in : Summ := Summ.cond fun ds => match ds with
  | [.int n, .tuple [.int s, .int m]] => some (0 < n ∧ m ≤ 1000 ∧ -1000 ≤ m, .inl (.new ((plc n (s, m)).map .int)))
  | _ => none
def trplaces_in_e1 : E Unit :=
  (.op .Mod (.op .Add (.ix (.var 1) (.int 0)) (.var 2)) (.var 0))
def trplaces_in : Sms Unit :=
  (.cons (.one (.ret (.comp [2] (.nm 2) (.rng (.cons (.ix (.var 1) (.int 1)) .nil)) .nil trplaces_in_e1)))
    .nil)

@[simp] theorem run_places_in {n s m : Int} {Q : Val → Prop} {Y : Nat → Prop} : Splaces_in.run [.int n, .tuple [.int s, .int m]] Q Y = ((0 < n ∧ m ≤ 1000 ∧ -1000 ≤ m) ∧ Q (.new ((plc n (s, m)).map .int))) := rfl
theorem filterMap_some {α β : Type} {f : α → β} {xs : List α} : xs.filterMap (fun x => some (f x)) = xs.map f := by
  induction xs with
  | nil => rfl
  | cons x r ih => simp [List.filterMap_cons, ih]
theorem w_places_in : WOk Splaces_in 2 3 trplaces_in := WOk.cond fun ds p r e => by
  split at e
  · rename_i n s m
    cases e
    refine ⟨rfl, fun hp Q Y h => ?_⟩
    unfold trplaces_in
    simp only [backV, wSs, wS, w1, wT, wE, wA, wX, wV, wP, wC, opn, rdO_d, rdO_o, asD_d, asD_n, KQY, entry, look, put, slotV, argsOk, frzA, frzV, sv_i, sv_b, sv_s, sv_0, sv_l, sv_t, sv_d, sv_n, List.map, List.length, List.replicate, List.cons_append, List.nil_append, Nat.sub_self, biD, isD_1, boolD_b, cmpD, relD_i, opD, addD_i, addD_l, subD_i, intD_i, lenD_l, lenD_t, listD_l, listD_t, tupleD_l, int2D_i, absD_i, toIntD_i, toIntD_b, eqD_i, eqD_b, eqD_s, rngD_1, rngD_2, seqD_l, seqD_t, lstD_l, ixX_l, ixX_t, negX_i, slX_l, rvX_l, repX_i, intX_i, ixD_0, ixD_1, ixD_2, true_and, and_true, ite_self, wI, wipeG, backG]
    refine ⟨by omega, ?_, ?_⟩
    · rw [List.length_map, List.length_range]
      unfold big
      omega
    · refine cLoop_pure (g := fun x => match x with | .int k => some (.int ((s + k) % n)) | _ => none) _ _ (fun x hx k' hk => ?_) ?_
      · obtain ⟨i, _, rfl⟩ := List.mem_map.mp hx
        simp [bindT, trplaces_in_e1, wipeG, backV, wSs, wS, w1, wT, wE, wA, wX, wV, wP, wC, opn, rdO_d, rdO_o, asD_d, asD_n, KQY, entry, look, put, slotV, argsOk, frzA, frzV, sv_i, sv_b, sv_s, sv_0, sv_l, sv_t, sv_d, sv_n, List.map, List.length, List.replicate, List.cons_append, List.nil_append, Nat.sub_self, biD, isD_1, boolD_b, cmpD, relD_i, opD, addD_i, addD_l, subD_i, intD_i, lenD_l, lenD_t, listD_l, listD_t, tupleD_l, int2D_i, absD_i, toIntD_i, toIntD_b, eqD_i, eqD_b, eqD_s, rngD_1, rngD_2, seqD_l, seqD_t, lstD_l, ixX_l, ixX_t, negX_i, slX_l, rvX_l, repX_i, intX_i, ixD_0, ixD_1, ixD_2, true_and, and_true, ite_self]
        exact ⟨hp.1, hk⟩
      · rw [List.filterMap_map]
        simp only [List.nil_append, Function.comp_def, filterMap_some]
        simpa [plc, Function.comp_def] using h
  · cases e
def hld (n : Int) (a : Int × Int) (p : Int) : Bool := decide ((p - a.1) % n < a.2)
def Sholds : Summ := Summ.cond fun ds => match ds with
  | [.int n, .tuple [.int s, .int m], .int p] => some (0 < n, .inl (.dat (.bool (hld n (s, m) p))))
  | _ => none
def trholds : Sms Unit :=
  (.cons (.one (.ret (.cmp .Lt (.op .Mod (.op .Sub (.var 2) (.ix (.var 1) (.int 0))) (.var 0)) (.ix (.var 1) (.int 1)))))
    .nil)

@[simp] theorem run_holds {n s m p : Int} {Q : Val → Prop} {Y : Nat → Prop} : Sholds.run [.int n, .tuple [.int s, .int m], .int p] Q Y = (0 < n ∧ Q (.dat (.bool (hld n (s, m) p)))) := rfl
theorem w_holds : WOk Sholds 3 3 trholds := WOk.cond fun ds p r e => by
  split at e
  · cases e
    refine ⟨rfl, fun hp Q Y h => ?_⟩
    unfold trholds
    simp only [backV, wSs, wS, w1, wT, wE, wA, wX, wV, wP, wC, opn, rdO_d, rdO_o, asD_d, asD_n, KQY, entry, look, put, slotV, argsOk, frzA, frzV, sv_i, sv_b, sv_s, sv_0, sv_l, sv_t, sv_d, sv_n, List.map, List.length, List.replicate, List.cons_append, List.nil_append, Nat.sub_self, biD, isD_1, boolD_b, cmpD, relD_i, opD, addD_i, addD_l, subD_i, intD_i, lenD_l, lenD_t, listD_l, listD_t, tupleD_l, int2D_i, absD_i, toIntD_i, toIntD_b, eqD_i, eqD_b, eqD_s, rngD_1, rngD_2, seqD_l, seqD_t, lstD_l, ixX_l, ixX_t, negX_i, slX_l, rvX_l, repX_i, intX_i, ixD_0, ixD_1, ixD_2, true_and, and_true, ite_self]
    exact ⟨hp, h⟩
  · cases e
def mtB (n : Int) (a b : Int × Int) : Bool := hld n a b.1 || hld n b a.1
def Smeet : Summ := Summ.cond fun ds => match ds with
  | [.int n, .tuple [.int s, .int m], .tuple [.int s', .int m']] => some (0 < n, .inl (.dat (.bool (mtB n (s, m) (s', m')))))
  | _ => none
def trmeet : Sms Unit :=
  (.cons (.one (.ret (.or (.call "holds" Sholds (.cons (.var 0) (.cons (.var 1) (.cons (.ix (.var 2) (.int 0)) .nil)))) (.call "holds" Sholds (.cons (.var 0) (.cons (.var 2) (.cons (.ix (.var 1) (.int 0)) .nil)))))))
    .nil)

@[simp] theorem run_meet {n s m s' m' : Int} {Q : Val → Prop} {Y : Nat → Prop} : Smeet.run [.int n, .tuple [.int s, .int m], .tuple [.int s', .int m']] Q Y = (0 < n ∧ Q (.dat (.bool (mtB n (s, m) (s', m'))))) := rfl
theorem w_meet : WOk Smeet 3 3 trmeet := WOk.cond fun ds p r e => by
  split at e
  · rename_i n s m s' m'
    cases e
    refine ⟨rfl, fun hp Q Y h => ?_⟩
    unfold trmeet
    simp only [backV, wSs, wS, w1, wT, wE, wA, wX, wV, wP, wC, opn, rdO_d, rdO_o, asD_d, asD_n, KQY, entry, look, put, slotV, argsOk, frzA, frzV, sv_i, sv_b, sv_s, sv_0, sv_l, sv_t, sv_d, sv_n, List.map, List.length, List.replicate, List.cons_append, List.nil_append, Nat.sub_self, biD, isD_1, boolD_b, cmpD, relD_i, opD, addD_i, addD_l, subD_i, intD_i, lenD_l, lenD_t, listD_l, listD_t, tupleD_l, int2D_i, absD_i, toIntD_i, toIntD_b, eqD_i, eqD_b, eqD_s, rngD_1, rngD_2, seqD_l, seqD_t, lstD_l, ixX_l, ixX_t, negX_i, slX_l, rvX_l, repX_i, intX_i, ixD_0, ixD_1, ixD_2, true_and, and_true, ite_self, run_holds]
    refine ⟨hp, ?_⟩
    by_cases h1 : hld n (s, m) s' = true
    · simp [h1]
      exact qb h (by simp [mtB, h1])
    · simp [h1, hp]
      exact qb h (by simp [mtB, h1])
  · cases e
end Ac
namespace Ac
open PySem PySem.Spec PyProof.Rows L2
/-! ### drawn numbers: stores that change, of which nothing is told but what they are -/
inductive Kd where
  | deck (p : Addr) | pools (qs : List Addr) | pool | stB (p : Addr) | nums | err (n : Nat)
def Kd.tag : Kd → Nat
  | .deck _ => 0 | .stB _ => 1 | .pool => 2 | .pools _ => 9 | .nums => 9 | .err n => 100 + n
abbrev KA := Addr → Option Kd
def okK (cl : Nat → Addr) (A : KA) (H : Hp) (a : Addr) : Kd → Prop
  | .deck p => ∃ i : Int, H a = some (.lst [.ref p, .int i]) ∧ ∃ qs, A p = some (.pools qs)
  | .pools qs => H a = some (.lst (qs.map V.ref)) ∧ qs ≠ [] ∧ ∀ q ∈ qs, A q = some .pool
  | .pool => ∃ x y z : Int, H a = some (.lst [.int x, .int y, .int z])
  | .stB p => ∃ i : Int, H a = some (.lst [.ref p, .int i]) ∧ A p = some .nums
  | .nums => ∃ ns : List Int, ns ≠ [] ∧ H a = some (.lst (ns.map V.int))
  | .err n => H a = some (ErrO (.ref (cl n)) a)
theorem okK_some {cl : Nat → Addr} {A : KA} {H : Hp} {a : Addr} {k : Kd} (h : okK cl A H a k) : H a ≠ none := by
  cases k with
  | deck p => obtain ⟨_, h, _⟩ := h; rw [h]; exact nofun
  | pools qs => rw [h.1]; exact nofun
  | pool => obtain ⟨_, _, _, h⟩ := h; rw [h]; exact nofun
  | stB p => obtain ⟨_, h, _⟩ := h; rw [h]; exact nofun
  | nums => obtain ⟨_, _, h⟩ := h; rw [h]; exact nofun
  | err n => have h' : H a = some (ErrO (.ref (cl n)) a) := h; rw [h']; exact nofun
theorem okK_nt {cl : Nat → Addr} {A : KA} {H : Hp} {a : Addr} {k : Kd} {vs : List V} (h : okK cl A H a k) (z : H a = some (.tup vs)) : False := by
  cases k with
  | deck p => obtain ⟨_, h, _⟩ := h; rw [h] at z; cases z
  | pools qs => rw [h.1] at z; cases z
  | pool => obtain ⟨_, _, _, h⟩ := h; rw [h] at z; cases z
  | stB p => obtain ⟨_, h, _⟩ := h; rw [h] at z; cases z
  | nums => obtain ⟨_, _, h⟩ := h; rw [h] at z; cases z
  | err n => have h' : H a = some (ErrO (.ref (cl n)) a) := h; rw [h'] at z; cases z
theorem okK_same {cl : Nat → Addr} {A : KA} {H H' : Hp} {a : Addr} {k : Kd} (h : okK cl A H a k) (e : H' a = H a) : okK cl A H' a k := by
  cases k with
  | deck p => obtain ⟨i, h1, h2⟩ := h; exact ⟨i, by rw [e]; exact h1, h2⟩
  | pools qs => exact ⟨by rw [e]; exact h.1, h.2⟩
  | pool => obtain ⟨x, y, z, h⟩ := h; exact ⟨x, y, z, by rw [e]; exact h⟩
  | stB p => obtain ⟨i, h1, h2⟩ := h; exact ⟨i, by rw [e]; exact h1, h2⟩
  | nums => obtain ⟨ns, h1, h2⟩ := h; exact ⟨ns, h1, by rw [e]; exact h2⟩
  | err n => have h' : H a = some (ErrO (.ref (cl n)) a) := h; exact e.trans h'
theorem okK_le {cl : Nat → Addr} {A B : KA} {H : Hp} {a : Addr} {k : Kd} (le : ∀ a k, A a = some k → B a = some k) (h : okK cl A H a k) : okK cl B H a k := by
  cases k with
  | deck p => obtain ⟨i, h1, qs, h2⟩ := h; exact ⟨i, h1, qs, le _ _ h2⟩
  | pools qs => exact ⟨h.1, h.2.1, fun q hq => le _ _ (h.2.2 q hq)⟩
  | pool => exact h
  | stB p => obtain ⟨i, h1, h2⟩ := h; exact ⟨i, h1, le _ _ h2⟩
  | nums => exact h
  | err n => exact h
def rmD (cl : Nat → Addr) : RM where
  S := Unit
  A := KA
  ok := fun A _ H => ∀ a k, A a = some k → okK cl A H a k
  ft := fun A a => A a ≠ none
  hd := fun A n v => ∃ a k, v = .ref a ∧ A a = some k ∧ k.tag = n
  le := fun A B => ∀ a k, A a = some k → B a = some k
  le_refl := fun _ _ _ h => h
  le_trans := fun h1 h2 a k h => h2 a k (h1 a k h)
  le_ft := fun {A B p} h e => by
    cases q : A p with
    | none => exact absurd q e
    | some k => rw [h p k q]; exact nofun
  le_hd := fun h ⟨a, k, h1, h2, h3⟩ => ⟨a, k, h1, h a k h2, h3⟩
  hd_ref := fun ⟨a, _, h, _⟩ => ⟨a, h⟩
  ex := fun {A s H p} h e => by
    cases q : A p with
    | none => exact absurd q e
    | some k => exact okK_some (h p k q)
  nt := fun {A s H p} h e vs z => by
    cases q : A p with
    | none => exact absurd q e
    | some k => exact okK_nt (h p k q) z
  frame := fun {A s H H'} h e _ a k hk => okK_same (h a k hk) (e a (by rw [hk]; exact nofun))
/-- a list of the store is written -/
theorem okK_upd {cl : Nat → Addr} {A : KA} {H : Hp} {a : Addr} {o : HO} {k : Kd} (h : ∀ b j, A b = some j → okK cl A H b j) (hk : A a = some k) (hn : okK cl A (upd H a o) a k) : ∀ b j, A b = some j → okK cl A (upd H a o) b j := fun b j hb => by
  by_cases e : b = a
  · subst e
    rw [hk] at hb
    cases hb
    exact hn
  · exact okK_same (h b j hb) (upd_ne e)
/-- a new error -/
def newErr (A : KA) (a : Addr) (n : Nat) : KA := fun b => if b = a then some (.err n) else A b
theorem rmD_err (cl : Nat → Addr) : RMX (rmD cl) cl where
  new := fun {fx σ H Γ s F A a n} R ha => by
    have ok : ∀ a k, A a = some k → okK cl A H a k := R.ok
    have hA : A a = none := by
      cases z : A a with
      | none => rfl
      | some k => exact absurd ha (okK_some (ok a k z))
    have le : ∀ b k, A b = some k → newErr A a n b = some k := fun b k e => by
      have h1 : b ≠ a := fun z => by rw [z, hA] at e; cases e
      unfold newErr
      rw [if_neg h1]
      exact e
    have nft : ∀ b, b ≠ a → ¬ (rmD cl).ft A b → ¬ (rmD cl).ft (newErr A a n) b := fun b h1 h => by
      show ¬ (newErr A a n b ≠ none)
      unfold newErr
      rw [if_neg h1]
      exact h
    have R1 := R.alloc (o := ErrO (.ref (cl n)) a) ha
    refine ⟨newErr A a n, ?_, a, .err n, rfl, by unfold newErr; rw [if_pos rfl], rfl⟩
    exact {
      fh := R1.fh
      fz := fun b o e => nft b (fun z => by rw [z, R.nF ha] at e; cases e) (R.fz b o e)
      f0 := R.f0
      lk := fun b o e => ⟨(R1.lk b o e).1, (R1.lk b o e).2.1, nft b (fun z => by rw [z, R.nL ha] at e; cases e) (R1.lk b o e).2.2⟩
      a0 := (rmD cl).le_trans R.a0 le
      ok := fun b k e => by
        by_cases h1 : b = a
        · subst h1
          unfold newErr at e
          rw [if_pos rfl] at e
          cases e
          exact upd_same
        · unfold newErr at e
          rw [if_neg h1] at e
          exact okK_le le (okK_same (ok b k e) (upd_ne h1))
      ln := R.ln
      sl := fun i v e => by
        obtain ⟨y, h1, h2⟩ := R1.sl i v e
        refine ⟨y, h1, ?_⟩
        cases v with
        | dat d => exact h2
        | new ys => exact h2
        | hdl k => exact (rmD cl).le_hd le h2
        | own ys =>
          obtain ⟨b, us, w1, w2, w3, w4, w5, w6⟩ := h2
          refine ⟨b, us, w1, w2, w3, nft b (fun z => ?_) w4, w5, w6⟩
          rw [w1, z] at h1
          exact R.noOwn ha i ((ownA_own e).mpr h1)
        | hds ks => exact HdsV.mono h2 (Sub.refl _) le
        | tre ads d => exact ⟨h2.1, fun b hb => ⟨(h2.2 b hb).1, nft b (fun z => R.noOwn ha i ((ownA_tre e).mpr (by rw [← z]; exact hb))) (h2.2 b hb).2.1, (h2.2 b hb).2.2⟩⟩
        | shl b => obtain ⟨w1, w2, w3, w4, w5⟩ := h2; exact ⟨w1, w2, nft b (fun z => R.noOwn ha i ((ownA_shl e).mpr z.symm)) w3, w4, w5⟩
        | odi b n f => obtain ⟨w1, w2, w3, w4, w5⟩ := h2; exact ⟨w1, w2, nft b (fun z => R.noOwn ha i ((ownA_odi e).mpr z.symm)) w3, w4, w5⟩
      dj := R.dj }
  get := fun {A s H n x} ok hn h => by
    obtain ⟨a, k, rfl, h1, h2⟩ := h
    have ok' : ∀ a k, A a = some k → okK cl A H a k := ok
    cases k with
    | err m =>
      have e : m = n := by
        have h3 : 100 + m = 100 + n := h2
        omega
      subst e
      exact ⟨a, rfl, ok' a _ h1⟩
    | deck p => exact absurd (show 0 = 100 + n from h2) (by omega)
    | stB p => exact absurd (show 1 = 100 + n from h2) (by omega)
    | pool => exact absurd (show 2 = 100 + n from h2) (by omega)
    | pools qs => exact absurd (show 9 = 100 + n from h2) (by omega)
    | nums => exact absurd (show 9 = 100 + n from h2) (by omega)
/-- a new deck -/
def newDeck (A : KA) (d o : Addr) (qs : List Addr) : KA := fun b => if b = d then some (.deck o) else if b = o then some (.pools qs) else if b ∈ qs then some .pool else A b
theorem newDeck_none {cl : Nat → Addr} {A : KA} {H : Hp} {d o b : Addr} {qs : List Addr} {u : HO} (e : H b = some u) (n : ¬ (rmD cl).ft A b) (hd : H d = none) (ho : H o = none) (hq : ∀ q ∈ qs, H q = none) : ¬ (rmD cl).ft (newDeck A d o qs) b := by
  have h1 : b ≠ d := ne_of_none e hd
  have h2 : b ≠ o := ne_of_none e ho
  have h3 : b ∉ qs := fun z => by rw [hq b z] at e; cases e
  show ¬ (newDeck A d o qs b ≠ none)
  unfold newDeck
  rw [if_neg h1, if_neg h2, if_neg h3]
  exact n
/-- a number is drawn -/
def Etake (tag : Nat) : ESumm Unit where
  run vs s Q Y := match vs with
    | [.hdl t, .dat (.int m)] => t = tag ∧ (0 < m ∧ m < 1073741824) ∧ ∀ r, 0 ≤ r → r < m → Q (.dat (.int r)) ()
    | _ => False
  mono := fun {vs s Q Q' Y Y'} h1 h2 q => by
    split at q
    · exact ⟨q.1, q.2.1, fun r a b => h1 _ _ (q.2.2 r a b)⟩
    · exact q.elim
@[simp] theorem run_take {tag t : Nat} {m : Int} {Q : Val → Unit → Prop} {Y : Nat → Unit → Prop} : (Etake tag).run [.hdl t, .dat (.int m)] () Q Y = (t = tag ∧ (0 < m ∧ m < 1073741824) ∧ ∀ r, 0 ≤ r → r < m → Q (.dat (.int r)) ()) := rfl
def E_law_draw : ESumm Unit := Etake 0
def E_law_deck : ESumm Unit where
  run vs s Q Y := match vs with
    | [.dat (.list xs)] => ∃ ns : List Int, xs = ns.map PyData.int ∧ ns.length ≤ 63 ∧ Q (.hdl 0) ()
    | _ => False
  mono := fun {vs s Q Q' Y Y'} h1 h2 q => by
    split at q
    · obtain ⟨ns, e, h, q⟩ := q; exact ⟨ns, e, h, h1 _ _ q⟩
    · exact q.elim
end Ac
namespace Ac
open PySem PySem.Spec PyProof.Rows L2
/-! ### defs of a ring: what is none is refused -/
structure RF where
  run : Int → List (Int × Int) → List D → (Val → Prop) → (Nat → Prop) → Prop
  mono : ∀ {n as ds} {Q Q' : Val → Prop} {Y Y' : Nat → Prop}, (∀ v, Q v → Q' v) → (∀ k, Y k → Y' k) → run n as ds Q Y → run n as ds Q' Y'
def Summ.ring (np : Nat) (f : RF) : Summ where
  run ds Q Y := ds.length = np + 1 ∧ ∀ d r, ds = d :: r → (isRingD d = false → Y 0) ∧ ∀ n as, d = ringD n as → RingOk n as → f.run n as r Q Y
  mono := fun {ds Q Q' Y Y'} h1 h2 q => ⟨q.1, fun d r e => ⟨fun z => h2 0 ((q.2 d r e).1 z), fun n as z ok => f.mono h1 h2 ((q.2 d r e).2 n as z ok)⟩⟩
theorem ringD_inj {n m : Int} {as bs : List (Int × Int)} (h : ringD n as = ringD m bs) : n = m ∧ as = bs := by
  unfold ringD at h
  simp only [PyData.tuple.injEq, List.cons.injEq, PyData.int.injEq, PyData.list.injEq, and_true] at h
  refine ⟨h.1, ?_⟩
  have inj : ∀ (xs ys : List (Int × Int)), xs.map arcD = ys.map arcD → xs = ys := by
    intro xs
    induction xs with
    | nil => intro ys h; cases ys with | nil => rfl | cons y r => cases h
    | cons x r ih =>
      intro ys h
      cases ys with
      | nil => cases h
      | cons y s =>
        rw [List.map_cons, List.map_cons, List.cons.injEq] at h
        have e1 : x = y := by
          have := h.1
          unfold arcD at this
          simp only [PyData.tuple.injEq, List.cons.injEq, PyData.int.injEq, and_true] at this
          exact Prod.ext this.1 this.2
        rw [e1, ih s h.2]
  exact inj _ _ h.2
/-- a call with a ring -/
theorem ring_ok {np : Nat} {f : RF} {n : Int} {as : List (Int × Int)} {r : List D} {Q : Val → Prop} {Y : Nat → Prop} (hl : r.length = np) (ok : RingOk n as) (h : f.run n as r Q Y) : (Summ.ring np f).run (ringD n as :: r) Q Y := by
  refine ⟨by rw [List.length_cons, hl], fun d r' e => ?_⟩
  cases e
  refine ⟨fun e => ?_, fun m bs e _ => ?_⟩
  · rw [isRing_ringD ok] at e; cases e
  · obtain ⟨rfl, rfl⟩ := ringD_inj e
    exact h
theorem ring_bad {np : Nat} {f : RF} {d : D} {r : List D} {Q : Val → Prop} {Y : Nat → Prop} (hl : r.length = np) (bad : isRingD d = false) (h : Y 0) : (Summ.ring np f).run (d :: r) Q Y := by
  refine ⟨by rw [List.length_cons, hl], fun d r' e => ?_⟩
  cases e
  refine ⟨fun _ => h, fun m bs e ok => ?_⟩
  rw [e, isRing_ringD ok] at bad
  cases bad
/-- a def of a ring keeps its summary: the two cases -/
theorem WOk.ring {np nN : Nat} {f : RF} {body : Sms Unit} (hbad : ∀ d r (Q : Val → Prop) (Y : Nat → Prop), r.length = np → isRingD d = false → Y 0 → wSs body (entry nN ((d :: r).map .dat)) () (KQY Q Y))
    (hok : ∀ n as r (Q : Val → Prop) (Y : Nat → Prop), r.length = np → RingOk n as → f.run n as r Q Y → wSs body (entry nN ((ringD n as :: r).map .dat)) () (KQY Q Y)) : WOk (Summ.ring np f) (np + 1) nN body := fun ds Q Y h => by
  cases ds with
  | nil => cases h.1
  | cons d r =>
    have hl : r.length = np := Nat.succ.inj h.1
    refine ⟨h.1, ?_⟩
    obtain ⟨h0, h1⟩ := h.2 d r rfl
    cases hr : isRingD d with
    | false => exact hbad d r Q Y hl hr (h0 hr)
    | true =>
      obtain ⟨n, as, rfl, ok⟩ := isRingD_iff.mp hr
      exact hok n as r Q Y hl ok (h1 n as rfl ok)
theorem len1 {α : Type} {l : List α} (h : l.length = 1) : ∃ a, l = [a] := by
  match l, h with
  | [a], _ => exact ⟨a, rfl⟩
theorem len2 {α : Type} {l : List α} (h : l.length = 2) : ∃ a b, l = [a, b] := by
  match l, h with
  | [a, b], _ => exact ⟨a, b, rfl⟩
theorem arc_item {as : List (Int × Int)} {i : Nat} (hi : i < as.length) : (as.map arcD)[i]? = some (arcD as[i]) := by rw [List.getElem?_map, List.getElem?_eq_getElem hi]; rfl
/-- its tree: need_ring(ring) first -/
theorem isNum_iff {d : D} {b : Nat} : isNumD d b = true ↔ ∃ i : Nat, i < b ∧ d = .int i := by
  constructor
  · intro h
    unfold isNumD at h
    split at h
    · rename_i i
      rw [Bool.and_eq_true, decide_eq_true_eq, decide_eq_true_eq] at h
      exact ⟨i.toNat, by omega, by rw [Int.toNat_of_nonneg h.1]⟩
    · cases h
  · rintro ⟨i, hi, rfl⟩
    simp [isNumD]
    omega
theorem isNum_int {d : D} {b : Int} : isNumD d b = true ↔ ∃ i : Int, 0 ≤ i ∧ i < b ∧ d = .int i := by
  constructor
  · intro h
    unfold isNumD at h
    split at h
    · rename_i i
      rw [Bool.and_eq_true, decide_eq_true_eq, decide_eq_true_eq] at h
      exact ⟨i, h.1, h.2, rfl⟩
    · cases h
  · rintro ⟨i, h0, hi, rfl⟩
    simp [isNumD]
    omega
/-! ### places_of -/
def Fplaces_of : RF where
  run n as ds Q Y := match ds with
    | [a] => (isNumD a as.length = false → Y 1) ∧ ∀ (i : Nat) (h : i < as.length), a = .int i → Q (.new ((plc n as[i]).map .int))
    | _ => False
  mono := fun h1 h2 q => by
    split at q
    · exact ⟨fun e => h2 _ (q.1 e), fun i h e => h1 _ (q.2 i h e)⟩
    · exact q
def Splaces_of : Summ := Summ.ring 1 Fplaces_of
theorem call_places_of {n : Int} {as : List (Int × Int)} {i : Nat} {Q : Val → Prop} {Y : Nat → Prop} (ok : RingOk n as) (hi : i < as.length) (h : Q (.new ((plc n as[i]).map .int))) : Splaces_of.run [ringD n as, .int (i : Nat)] Q Y := by
  refine ring_ok rfl ok ⟨fun e => ?_, fun j hj e => ?_⟩
  · rw [isNum_iff.mpr ⟨i, hi, rfl⟩] at e; cases e
  · have : j = i := by cases e; rfl
    subst this
    exact h
def trplaces_of : Sms Unit :=
  (.cons (.one (.expr (.call "need_ring" Sneed_ring (.cons (.var 0) .nil))))
    (.cons (.one (.expr (.call "need_number" Sneed_number (.cons (.var 0) (.cons (.var 1) .nil)))))
    (.cons (.one (.ret (.call "places_in" Splaces_in (.cons (.ix (.var 0) (.int 0)) (.cons (.ix (.ix (.var 0) (.int 1)) (.var 1)) .nil)))))
    .nil)))

theorem w_places_of : WOk Splaces_of 2 2 trplaces_of := WOk.ring (fun d r Q Y hl hr h0 => by
    obtain ⟨a, rfl⟩ := len1 hl
    unfold trplaces_of
    simp only [backV, wSs, wS, w1, wT, wE, wA, wX, wV, wP, wC, opn, rdO_d, rdO_o, asD_d, asD_n, KQY, entry, look, put, slotV, argsOk, frzA, frzV, sv_i, sv_b, sv_s, sv_0, sv_l, sv_t, sv_d, sv_n, List.map, List.length, List.replicate, List.cons_append, List.nil_append, Nat.sub_self, biD, isD_1, boolD_b, cmpD, relD_i, opD, addD_i, addD_l, subD_i, intD_i, lenD_l, lenD_t, listD_l, listD_t, tupleD_l, int2D_i, absD_i, toIntD_i, toIntD_b, eqD_i, eqD_b, eqD_s, rngD_1, rngD_2, seqD_l, seqD_t, lstD_l, ixX_l, ixX_t, negX_i, slX_l, rvX_l, repX_i, intX_i, ixD_0, ixD_1, ixD_2, true_and, and_true, ite_self, run_need_ring]
    simpa [hr] using h0) (fun n as r Q Y hl ok h => by
    obtain ⟨a, rfl⟩ := len1 hl
    obtain ⟨h2, h3⟩ := h
    unfold trplaces_of
    simp only [backV, wSs, wS, w1, wT, wE, wA, wX, wV, wP, wC, opn, rdO_d, rdO_o, asD_d, asD_n, KQY, entry, look, put, slotV, argsOk, frzA, frzV, sv_i, sv_b, sv_s, sv_0, sv_l, sv_t, sv_d, sv_n, List.map, List.length, List.replicate, List.cons_append, List.nil_append, Nat.sub_self, biD, isD_1, boolD_b, cmpD, relD_i, opD, addD_i, addD_l, subD_i, intD_i, lenD_l, lenD_t, listD_l, listD_t, tupleD_l, int2D_i, absD_i, toIntD_i, toIntD_b, eqD_i, eqD_b, eqD_s, rngD_1, rngD_2, seqD_l, seqD_t, lstD_l, ixX_l, ixX_t, negX_i, slX_l, rvX_l, repX_i, intX_i, ixD_0, ixD_1, ixD_2, true_and, and_true, ite_self, run_need_ring, isRing_ringD ok]
    simp only [if_true, ringD, ixX_t, ixX_l, ixD_0, ixD_1, run_need_number, List.length_map]
    cases ha : isNumD a as.length with
    | false => simpa [ha] using h2 ha
    | true =>
      obtain ⟨i, hi, rfl⟩ := isNum_iff.mp ha
      have oki := ok.arcs _ (List.getElem_mem hi)
      have n1 := ok.n1
      have n40 := ok.n40
      simp only [if_true, ixX_l, ixX_t, ixD_nat (j := i) rfl (arc_item hi), arcD, run_places_in, argsOk, true_and, and_true, scalV, Bool.false_eq_true, if_false]
      refine ⟨⟨by omega, ?_, ?_⟩, h3 i hi rfl⟩
      · have := oki.2.2.2; omega
      · have := oki.2.2.1; omega)
/-! ### arcs_at, do_meet -/
def atB (n : Int) (as : List (Int × Int)) (p : Int) : List Nat := (List.range as.length).filter fun k => match as[k]? with | some a => hld n a p | none => false
def natD (k : Nat) : D := .int (k : Nat)
def Farcs_at : RF where
  run n as ds Q Y := match ds with
    | [a] => (isNumD a n = false → Y 2) ∧ ∀ p : Int, 0 ≤ p → p < n → a = .int p → Q (.new ((atB n as p).map natD))
    | _ => False
  mono := fun h1 h2 q => by
    split at q
    · exact ⟨fun e => h2 _ (q.1 e), fun p a b e => h1 _ (q.2 p a b e)⟩
    · exact q
def Sarcs_at : Summ := Summ.ring 1 Farcs_at
theorem call_arcs_at {n : Int} {as : List (Int × Int)} {p : Int} {Q : Val → Prop} {Y : Nat → Prop} (ok : RingOk n as) (h0 : 0 ≤ p) (h1 : p < n) (h : Q (.new ((atB n as p).map natD))) : Sarcs_at.run [ringD n as, .int p] Q Y := by
  refine ring_ok rfl ok ⟨fun e => ?_, fun j _ _ e => ?_⟩
  · rw [isNum_int.mpr ⟨p, h0, h1, rfl⟩] at e; cases e
  · cases e
    exact h
def trarcs_at_c1 : Es Unit :=
  (.cons (.call "holds" Sholds (.cons (.ix (.var 0) (.int 0)) (.cons (.var 3) (.cons (.var 1) .nil)))) .nil)
def trarcs_at : Sms Unit :=
  (.cons (.one (.expr (.call "need_ring" Sneed_ring (.cons (.var 0) .nil))))
    (.cons (.one (.expr (.call "need_place" Sneed_place (.cons (.var 0) (.cons (.var 1) .nil)))))
    (.cons (.one (.ret (.comp [2, 3] (.tp [2, 3]) (.enu (.ix (.var 0) (.int 1))) trarcs_at_c1 (.var 2))))
    .nil)))

/-- an enumerated list, filtered -/
theorem enum_filter {α β : Type} {f : α → D} {g : D → Option β} {p : Nat → α → Option β} (hg : ∀ k a, g (.tuple [.int (k : Nat), f a]) = p k a) : ∀ (as : List α) (i : Nat), ((as.zipIdx i).map fun q => PyData.tuple [.int (q.2 : Nat), f q.1]).filterMap g = (as.zipIdx i).filterMap fun q => p q.2 q.1
  | [], _ => rfl
  | a :: r, i => by
    rw [List.zipIdx_cons, List.map_cons, List.filterMap_cons, List.filterMap_cons, enum_filter hg r (i + 1), hg]
theorem enumD_map {α : Type} {f : α → D} (as : List α) : enumD (as.map f) = (as.zipIdx).map fun q => PyData.tuple [.int (q.2 : Nat), f q.1] := by
  unfold enumD
  rw [List.zipIdx_map, List.map_map]
  rfl
theorem zip_filter (n p : Int) : ∀ (as pre : List (Int × Int)), (as.zipIdx pre.length).filterMap (fun q => if hld n q.1 p = true then some (natD q.2) else none) = ((List.range' pre.length as.length).filter fun k => match (pre ++ as)[k]? with | some a => hld n a p | none => false).map natD
  | [], pre => rfl
  | a :: r, pre => by
    have ih := zip_filter n p r (pre ++ [a])
    rw [List.length_append, List.length_singleton] at ih
    rw [List.zipIdx_cons, List.filterMap_cons, ih, List.length_cons, List.range'_succ, List.filter_cons]
    have e : (pre ++ a :: r)[pre.length]? = some a := by rw [List.getElem?_append_right (Nat.le_refl _), Nat.sub_self]; rfl
    rw [e, List.append_assoc, List.singleton_append]
    by_cases h : hld n a p = true
    · simp [h]
    · simp [h]
theorem atB_zip (n p : Int) (as : List (Int × Int)) : (as.zipIdx).filterMap (fun q => if hld n q.1 p = true then some (natD q.2) else none) = (atB n as p).map natD := by
  have := zip_filter n p as []
  rw [List.nil_append] at this
  unfold atB
  rw [List.range_eq_range']
  exact this
theorem w_arcs_at : WOk Sarcs_at 2 4 trarcs_at := WOk.ring (fun d r Q Y hl hr h0 => by
    obtain ⟨a, rfl⟩ := len1 hl
    unfold trarcs_at
    simp only [backV, wSs, wS, w1, wT, wE, wA, wX, wV, wP, wC, opn, rdO_d, rdO_o, asD_d, asD_n, KQY, entry, look, put, slotV, argsOk, frzA, frzV, sv_i, sv_b, sv_s, sv_0, sv_l, sv_t, sv_d, sv_n, List.map, List.length, List.replicate, List.cons_append, List.nil_append, Nat.sub_self, biD, isD_1, boolD_b, cmpD, relD_i, opD, addD_i, addD_l, subD_i, intD_i, lenD_l, lenD_t, listD_l, listD_t, tupleD_l, int2D_i, absD_i, toIntD_i, toIntD_b, eqD_i, eqD_b, eqD_s, rngD_1, rngD_2, seqD_l, seqD_t, lstD_l, ixX_l, ixX_t, negX_i, slX_l, rvX_l, repX_i, intX_i, ixD_0, ixD_1, ixD_2, true_and, and_true, ite_self, run_need_ring]
    simpa [hr] using h0) (fun n as r Q Y hl ok h => by
    obtain ⟨a, rfl⟩ := len1 hl
    obtain ⟨h2, h3⟩ := h
    unfold trarcs_at
    simp only [backV, wSs, wS, w1, wT, wE, wA, wX, wV, wP, wC, opn, rdO_d, rdO_o, asD_d, asD_n, KQY, entry, look, put, slotV, argsOk, frzA, frzV, sv_i, sv_b, sv_s, sv_0, sv_l, sv_t, sv_d, sv_n, List.map, List.length, List.replicate, List.cons_append, List.nil_append, Nat.sub_self, biD, isD_1, boolD_b, cmpD, relD_i, opD, addD_i, addD_l, subD_i, intD_i, lenD_l, lenD_t, listD_l, listD_t, tupleD_l, int2D_i, absD_i, toIntD_i, toIntD_b, eqD_i, eqD_b, eqD_s, rngD_1, rngD_2, seqD_l, seqD_t, lstD_l, ixX_l, ixX_t, negX_i, slX_l, rvX_l, repX_i, intX_i, ixD_0, ixD_1, ixD_2, true_and, and_true, ite_self, run_need_ring, isRing_ringD ok]
    simp only [if_true, ringD, ixX_t, ixX_l, ixD_0, ixD_1, run_need_place]
    cases ha : isNumD a n with
    | false => simpa [ha] using h2 ha
    | true =>
      obtain ⟨p, h0, h1, rfl⟩ := isNum_int.mp ha
      have n1 := ok.n1
      simp only [if_true, ixX_l, ixX_t, wI, backV, wSs, wS, w1, wT, wE, wA, wX, wV, wP, wC, opn, rdO_d, rdO_o, asD_d, asD_n, KQY, entry, look, put, slotV, argsOk, frzA, frzV, sv_i, sv_b, sv_s, sv_0, sv_l, sv_t, sv_d, sv_n, List.map, List.length, List.replicate, List.cons_append, List.nil_append, Nat.sub_self, biD, isD_1, boolD_b, cmpD, relD_i, opD, addD_i, addD_l, subD_i, intD_i, lenD_l, lenD_t, listD_l, listD_t, tupleD_l, int2D_i, absD_i, toIntD_i, toIntD_b, eqD_i, eqD_b, eqD_s, rngD_1, rngD_2, seqD_l, seqD_t, lstD_l, ixX_l, ixX_t, negX_i, slX_l, rvX_l, repX_i, intX_i, ixD_0, ixD_1, ixD_2, true_and, and_true, ite_self, wipeG, backG]
      refine ⟨?_, ?_⟩
      · rw [enumD_len, List.length_map]; exact big20 ok.len
      · refine cLoop_pure (g := fun x => match x with | .tuple [.int k, .tuple [.int s, .int m]] => if hld n (s, m) p = true then some (.int k) else none | _ => none) _ _ (fun x hx k' hk => ?_) ?_
        · rw [enumD_map] at hx
          obtain ⟨⟨b, i⟩, _, rfl⟩ := List.mem_map.mp hx
          have hk' : k' (if hld n b p = true then some (.int (i : Nat)) else none) _ _ := hk
          simp [bindT, putAll, trarcs_at_c1, wipeG, arcD, backV, wSs, wS, w1, wT, wE, wA, wX, wV, wP, wC, opn, rdO_d, rdO_o, asD_d, asD_n, KQY, entry, look, put, slotV, argsOk, frzA, frzV, sv_i, sv_b, sv_s, sv_0, sv_l, sv_t, sv_d, sv_n, List.map, List.length, List.replicate, List.cons_append, List.nil_append, Nat.sub_self, biD, isD_1, boolD_b, cmpD, relD_i, opD, addD_i, addD_l, subD_i, intD_i, lenD_l, lenD_t, listD_l, listD_t, tupleD_l, int2D_i, absD_i, toIntD_i, toIntD_b, eqD_i, eqD_b, eqD_s, rngD_1, rngD_2, seqD_l, seqD_t, lstD_l, ixX_l, ixX_t, negX_i, slX_l, rvX_l, repX_i, intX_i, ixD_0, ixD_1, ixD_2, true_and, and_true, ite_self]
          refine ⟨by omega, ?_⟩
          by_cases hb : hld n b p = true
          · rw [if_pos hb] at hk'
            simpa [hb] using hk'
          · rw [if_neg hb] at hk'
            simpa [hb] using hk'
        · rw [List.nil_append, enumD_map, enum_filter (p := fun k a => if hld n a p = true then some (natD k) else none) (fun k a => rfl), atB_zip]
          exact h3 p h0 h1 rfl)
def Fdo_meet : RF where
  run n as ds Q Y := match ds with
    | [a, b] => (isNumD a as.length = false → Y 1) ∧ (isNumD a as.length = true → isNumD b as.length = false → Y 1) ∧ ∀ (i j : Nat) (hi : i < as.length) (hj : j < as.length), a = .int i → b = .int j → Q (.dat (.bool (mtB n as[i] as[j])))
    | _ => False
  mono := fun h1 h2 q => by
    split at q
    · exact ⟨fun e => h2 _ (q.1 e), fun e e' => h2 _ (q.2.1 e e'), fun i j h h' e e' => h1 _ (q.2.2 i j h h' e e')⟩
    · exact q
def Sdo_meet : Summ := Summ.ring 2 Fdo_meet
theorem call_do_meet {n : Int} {as : List (Int × Int)} {i j : Nat} {Q : Val → Prop} {Y : Nat → Prop} (ok : RingOk n as) (hi : i < as.length) (hj : j < as.length) (h : Q (.dat (.bool (mtB n as[i] as[j])))) : Sdo_meet.run [ringD n as, .int (i : Nat), .int (j : Nat)] Q Y := by
  refine ring_ok rfl ok ⟨fun e => ?_, fun _ e => ?_, fun i' j' _ _ e e' => ?_⟩
  · rw [isNum_iff.mpr ⟨i, hi, rfl⟩] at e; cases e
  · rw [isNum_iff.mpr ⟨j, hj, rfl⟩] at e; cases e
  · have e1 : i' = i := by cases e; rfl
    have e2 : j' = j := by cases e'; rfl
    subst e1 e2
    exact h
def trdo_meet : Sms Unit :=
  (.cons (.one (.expr (.call "need_ring" Sneed_ring (.cons (.var 0) .nil))))
    (.cons (.one (.expr (.call "need_number" Sneed_number (.cons (.var 0) (.cons (.var 1) .nil)))))
    (.cons (.one (.expr (.call "need_number" Sneed_number (.cons (.var 0) (.cons (.var 2) .nil)))))
    (.cons (.one (.ret (.call "meet" Smeet (.cons (.ix (.var 0) (.int 0)) (.cons (.ix (.ix (.var 0) (.int 1)) (.var 1)) (.cons (.ix (.ix (.var 0) (.int 1)) (.var 2)) .nil))))))
    .nil))))

theorem w_do_meet : WOk Sdo_meet 3 3 trdo_meet := WOk.ring (fun d r Q Y hl hr h0 => by
    obtain ⟨a, b, rfl⟩ := len2 hl
    unfold trdo_meet
    simp only [backV, wSs, wS, w1, wT, wE, wA, wX, wV, wP, wC, opn, rdO_d, rdO_o, asD_d, asD_n, KQY, entry, look, put, slotV, argsOk, frzA, frzV, sv_i, sv_b, sv_s, sv_0, sv_l, sv_t, sv_d, sv_n, List.map, List.length, List.replicate, List.cons_append, List.nil_append, Nat.sub_self, biD, isD_1, boolD_b, cmpD, relD_i, opD, addD_i, addD_l, subD_i, intD_i, lenD_l, lenD_t, listD_l, listD_t, tupleD_l, int2D_i, absD_i, toIntD_i, toIntD_b, eqD_i, eqD_b, eqD_s, rngD_1, rngD_2, seqD_l, seqD_t, lstD_l, ixX_l, ixX_t, negX_i, slX_l, rvX_l, repX_i, intX_i, ixD_0, ixD_1, ixD_2, true_and, and_true, ite_self, run_need_ring]
    simpa [hr] using h0) (fun n as r Q Y hl ok h => by
    obtain ⟨a, b, rfl⟩ := len2 hl
    obtain ⟨h1, h2, h3⟩ := h
    unfold trdo_meet
    simp only [backV, wSs, wS, w1, wT, wE, wA, wX, wV, wP, wC, opn, rdO_d, rdO_o, asD_d, asD_n, KQY, entry, look, put, slotV, argsOk, frzA, frzV, sv_i, sv_b, sv_s, sv_0, sv_l, sv_t, sv_d, sv_n, List.map, List.length, List.replicate, List.cons_append, List.nil_append, Nat.sub_self, biD, isD_1, boolD_b, cmpD, relD_i, opD, addD_i, addD_l, subD_i, intD_i, lenD_l, lenD_t, listD_l, listD_t, tupleD_l, int2D_i, absD_i, toIntD_i, toIntD_b, eqD_i, eqD_b, eqD_s, rngD_1, rngD_2, seqD_l, seqD_t, lstD_l, ixX_l, ixX_t, negX_i, slX_l, rvX_l, repX_i, intX_i, ixD_0, ixD_1, ixD_2, true_and, and_true, ite_self, run_need_ring, isRing_ringD ok]
    simp only [if_true, ringD, ixX_t, ixX_l, ixD_0, ixD_1, run_need_number, List.length_map]
    cases ha : isNumD a as.length with
    | false => simpa [ha] using h1 ha
    | true =>
      cases hb : isNumD b as.length with
      | false => simpa [ha, hb] using h2 ha hb
      | true =>
        obtain ⟨i, hi, rfl⟩ := isNum_iff.mp ha
        obtain ⟨j, hj, rfl⟩ := isNum_iff.mp hb
        have n1 := ok.n1
        simp only [if_true, ixX_l, ixX_t, ixD_nat (j := i) rfl (arc_item hi), ixD_nat (j := j) rfl (arc_item hj), arcD, run_meet, argsOk, true_and, and_true, scalV, scal]
        exact ⟨by omega, h3 i j hi hj rfl rfl⟩)
end Ac
namespace Ac
open PySem PySem.Spec PyProof.Rows L2
section
variable {S : Type}
structure KLe (K K' : Kn S) : Prop where
  nx : ∀ Γ s, K.nx Γ s → K'.nx Γ s
  rt : ∀ v s, K.rt v s → K'.rt v s
  bk : ∀ Γ s, K.bk Γ s → K'.bk Γ s
  ct : ∀ Γ s, K.ct Γ s → K'.ct Γ s
  ex : K'.ex = K.ex
theorem w1_mono {K K' : Kn S} (h : KLe K K') (c : St1 S) {Γ : Ctx} {s : S} (q : w1 c Γ s K) : w1 c Γ s K' := by
  cases c <;> dsimp only [w1] at q ⊢
  case nop => exact h.nx _ _ q
  case asg i e => rw [h.ex]; exact wE_mono e (fun v Γ' s' => h.nx _ _) q
  case asgL i e => rw [h.ex]; exact wE_mono e (fun v Γ' s' => h.nx _ _) q
  case asgH i φ e => rw [h.ex]; exact wE_mono e (fun v Γ' s' => φ.mono (fun w s2 => h.nx _ _) (fun _ _ z => z)) q
  case asgT is e =>
    rw [h.ex]
    refine wE_mono e (fun v Γ' s' => asD_mono fun d q => ?_) q
    split at q
    · exact putAll_mono (fun Γ2 => h.nx _ _) q
    · exact q.elim
  case app i e =>
    rw [h.ex]
    split at q
    · refine wE_mono e (fun v Γ' s' => asD_mono fun d q => ?_) q
      split at q
      · exact ⟨q.1, h.nx _ _ q.2⟩
      · exact q.elim
    · exact q.elim
  case ins i j e =>
    rw [h.ex]
    split at q
    · refine opnE_mono j (fun y Γ1 s1 => wE_mono e (fun v Γ' s' => asD_mono fun d q => ?_)) q
      split at q
      · exact ⟨q.1, q.2.1, q.2.2.1, h.nx _ _ q.2.2.2⟩
      · exact q.elim
    · exact q.elim
  case setI i j e =>
    rw [h.ex]
    refine wE_mono e (fun v Γ' s' => asD_mono fun d q => ?_) q
    split at q
    · refine opnE_mono j (fun y Γ2 s2 q => ?_) q
      split at q
      · split at q
        · exact h.nx _ _ q
        · exact q.elim
      · exact q.elim
    · exact q.elim
  case aug i o e =>
    rw [h.ex]
    split at q
    · refine opnE_mono e (fun y Γ' s' q => ?_) q
      split at q
      · split at q
        · exact h.nx _ _ q
        · exact h.nx _ _ q
        · exact q.elim
      · exact q.elim
    · exact q.elim
  case expr e => rw [h.ex]; exact wE_mono e (fun v Γ' s' => h.nx _ _) q
  case ret e =>
    cases e with
    | var i =>
      dsimp only at q ⊢
      split at q <;> first | exact h.rt _ _ q | exact q.elim
    | _ =>
      dsimp only at q ⊢
      rw [h.ex]
      exact wE_mono _ (fun v Γ' s' => h.rt _ _) q
  case brk => exact h.bk _ _ q
  case cnt => exact h.ct _ _ q
  case raise x n => rw [h.ex]; exact q
  case asgD i => exact fun b => h.nx _ _ (q b)
  case dSet i j k => exact odiO_mono (fun b n f => strO_mono fun z => datO_mono fun d z => ⟨z.1, h.nx _ _ z.2⟩) q
  case asgP i j a b => rw [h.ex]; exact wX_mono _ (fun ds Γ' s' => putAll_mono fun Γ2 => h.nx _ _) q
  case asgTT is e => rw [h.ex]; exact wE_mono e (fun v Γ' s' => asgTX_mono fun Γ2 => h.nx _ _) q
  case appP i ps e => rw [h.ex]; exact ⟨q.1, wE_mono e (fun v Γ' s' z => ⟨z.1, owV_mono (fun a d => updX_mono fun Γ2 => h.nx _ _) z.2⟩) q.2⟩
  case insP i ps e => rw [h.ex]; exact ⟨q.1, wE_mono e (fun v Γ' s' z => ⟨z.1, owV_mono (fun a d => updX_mono fun Γ2 => h.nx _ _) z.2⟩) q.2⟩
  case setP i ps j e =>
    rw [h.ex]
    refine wE_mono e (fun v Γ' s' => owV_mono fun a d z => ⟨z.1, opnE_mono j (fun y Γ2 s2 w => ⟨w.1, ?_⟩) z.2⟩) q
    have w2 := w.2
    split at w2
    · exact updX_mono (fun Γ2 => h.nx _ _) w2
    · exact w2.elim
  case appS i e =>
    rw [h.ex]
    refine ⟨q.1, wE_mono e (fun v Γ' s' => asD_mono fun d z => ?_) q.2⟩
    split at z
    · exact h.nx _ _ z
    · exact z.elim
theorem fLoop_mono {f : D → Ctx → S → Kn S → Prop} (hf : ∀ (x : D) (Γ : Ctx) (s : S) (K K' : Kn S), KLe K K' → f x Γ s K → f x Γ s K') {K K' : Kn S} (h : KLe K K') : ∀ {xs : List D} {Γ : Ctx} {s : S}, fLoop f K xs Γ s → fLoop f K' xs Γ s
  | [], _, _, q => h.nx _ _ q
  | x :: r, _, _, q => by
    refine hf _ _ _ { K with nx := fun Γ' s' => fLoop f K r Γ' s', ct := fun Γ' s' => fLoop f K r Γ' s', bk := K.nx } _ ?_ q
    exact { nx := fun Γ s q => fLoop_mono hf h (xs := r) q, rt := h.rt, bk := h.nx, ct := fun Γ s q => fLoop_mono hf h (xs := r) q, ex := h.ex }
theorem wT_mono {xc : Nat → Ctx → S → Prop} {c : E S} {Γ : Ctx} {s : S} {Q Q' : Bool → Ctx → S → Prop} (h : ∀ b Γ s, Q b Γ s → Q' b Γ s) (q : wT xc c Γ s Q) : wT xc c Γ s Q' := opnE_mono c (fun d Γ1 s1 => boolD_mono fun b => h b Γ1 s1) q
theorem wJ_mono' {xc : Nat → Ctx → S → Prop} (it : It S) {Γ : Ctx} {s : S} {Q Q' : List D → Ctx → S → Prop} (h : ∀ v Γ' s', Q v Γ' s' → Q' v Γ' s') (q : wJ xc it Γ s Q) : wJ xc it Γ s Q' := by
  cases it with
  | seq e =>
    unfold wJ at q ⊢
    exact wE_mono e (fun v Γ1 s1 => asD_mono fun d => seqD_mono fun xs => h _ _ _) q
  | rng es =>
    unfold wJ at q ⊢
    exact wA_mono es (fun ds Γ1 s1 => rngD_mono fun xs => h _ _ _) q
  | enu e =>
    unfold wJ at q ⊢
    exact wE_mono e (fun v Γ1 s1 => asD_mono fun d => lstD_mono fun xs => h _ _ _) q
  | zip a b =>
    unfold wJ at q ⊢
    exact wE_mono a (fun v Γ1 s1 => asD_mono fun d q => wE_mono b (fun v Γ2 s2 => asD_mono fun d2 => lstD_mono fun xs => lstD_mono fun ys => h _ _ _) q) q
mutual
theorem wS_mono : ∀ (c : Sm S) {K K' : Kn S}, KLe K K' → ∀ {Γ : Ctx} {s : S}, wS c Γ s K → wS c Γ s K'
  | .one c, K, K', h, Γ, s, q => by
    unfold wS at q ⊢
    exact w1_mono h c q
  | .ite c a b, K, K', h, Γ, s, q => by
    unfold wS at q ⊢
    rw [h.ex]
    exact wT_mono (fun v Γ1 s1 => ite_mono (wSs_mono a h) (wSs_mono b h)) q
  | .whl c b, K, K', h, Γ, s, q => by
    unfold wS at q ⊢
    obtain ⟨V, h0, turn⟩ := q
    refine ⟨V, h0, fun m Γ s v => ?_⟩
    rw [h.ex]
    refine wT_mono (fun v Γ1 s1 q => ite_mono (fun q => ?_) (h.nx _ _) q) (turn m Γ s v)
    refine wSs_mono b (K := { K with nx := fun Γ' s' => ∃ m', m' < m ∧ V m' Γ' s', ct := fun Γ' s' => ∃ m', m' < m ∧ V m' Γ' s', bk := K.nx }) ?_ q
    exact { nx := fun _ _ z => z, rt := h.rt, bk := h.nx, ct := fun _ _ z => z, ex := rfl }
  | .for tg it b, K, K', h, Γ, s, q => by
    unfold wS at q ⊢
    rw [h.ex]
    exact wJ_mono' it (fun xs Γ1 s1 q => ⟨q.1, fLoop_mono (f := fun x Γ s K' => bindT tg x Γ fun Γ' => wSs b Γ' s K') (fun x Γ s K K' h q => bindT_mono (fun Γ' => wSs_mono b h) q) h q.2⟩) q
  | .tryC b i j c, K, K', h, Γ, s, q => by
    unfold wS at q ⊢
    obtain ⟨K0, le, q⟩ := q
    exact ⟨K0, ⟨fun _ _ z => h.nx _ _ (le.nx _ _ z), fun _ _ z => h.rt _ _ (le.rt _ _ z), fun _ _ z => h.bk _ _ (le.bk _ _ z), fun _ _ z => h.ct _ _ (le.ct _ _ z)⟩, q⟩
  | .tryS b i c, K, K', h, Γ, s, q => by
    unfold wS at q ⊢
    obtain ⟨K0, le, q⟩ := q
    exact ⟨K0, ⟨fun _ _ z => h.nx _ _ (le.nx _ _ z), fun _ _ z => h.rt _ _ (le.rt _ _ z), fun _ _ z => h.bk _ _ (le.bk _ _ z), fun _ _ z => h.ct _ _ (le.ct _ _ z)⟩, q⟩
  | .forA i j c, K, K', h, Γ, s, q => by
    unfold wS at q ⊢
    exact forAX_mono (fun Γ2 => h.nx _ _) q
  | .ifO x φ i js c b, K, K', h, Γ, s, q => by
    unfold wS at q ⊢
    rw [h.ex]
    exact treO_mono (fun a d z => ⟨z.1, z.2.imp fun ds w => ⟨w.1, φ.mono (fun v y => boolO_mono (fun bb => ite_mono (wT_mono fun v Γ1 s1 => ite_mono (wSs_mono b h) (h.nx _ _)) (wSs_mono b h)) y) (fun _ z => z) w.2⟩⟩) q
theorem wSs_mono : ∀ (c : Sms S) {K K' : Kn S}, KLe K K' → ∀ {Γ : Ctx} {s : S}, wSs c Γ s K → wSs c Γ s K'
  | .nil, K, K', h, Γ, s, q => by
    unfold wSs at q ⊢
    exact h.nx _ _ q
  | .cons a r, K, K', h, Γ, s, q => by
    unfold wSs at q ⊢
    refine wS_mono a (K := { K with nx := fun Γ' s' => wSs r Γ' s' K }) ?_ q
    exact { nx := fun Γ s => wSs_mono r h, rt := h.rt, bk := h.bk, ct := h.ct, ex := h.ex }
end
/-- one statement, what it reaches, the rest -/
theorem wSs_cut {a : Sm S} {r : Sms S} {Γ : Ctx} {s : S} {K : Kn S} (P : Ctx → S → Prop) (h1 : wS a Γ s { K with nx := P }) (h2 : ∀ Γ' s', P Γ' s' → wSs r Γ' s' K) : wSs (.cons a r) Γ s K := by
  unfold wSs
  refine wS_mono a (K := { K with nx := P }) ?_ h1
  exact { nx := fun Γ s => h2 Γ s, rt := fun _ _ z => z, bk := fun _ _ z => z, ct := fun _ _ z => z, ex := rfl }
end
end Ac
namespace Ac
open PySem PySem.Spec PyProof.Rows L2
/-! ### defs with a state -/
def KE2 (Q : Val → Unit → Prop) (Y : Nat → Unit → Prop) : Kn Unit := { nx := fun _ s' => Q (.dat .none) s', rt := fun v s' => Q v s', ex := fun n _ s' => Y n s' }
def WOkE (φ : ESumm Unit) (np nN : Nat) (body : Sms Unit) : Prop := ∀ ws s Q Y, φ.run ws s Q Y → ws.length = np ∧ wSs body (entry nN ws) s (KE2 Q Y)
theorem ixD_any {xs : List D} {i : Int} {k : D → Prop} (h0 : 0 ≤ i) (h1 : i < xs.length) (h : ∀ x ∈ xs, k x) : ixD xs i k := by
  have hl : i.toNat < xs.length := by omega
  rw [ixD_nat (j := i.toNat) (by omega) (List.getElem?_eq_getElem hl)]
  exact h _ (List.getElem_mem hl)
theorem arcOk_mod {n x m : Int} (hn : 0 < n) (h1 : 1 ≤ m) (h2 : m ≤ n) : arcOk n (x % n, m) := ⟨Int.emod_nonneg _ (by omega), Int.emod_lt_of_pos _ hn, h1, h2⟩
theorem notEmpty_iff {α : Type} {l : List α} : (!l.isEmpty) = true ↔ l ≠ [] := by cases l <;> simp
/-! ### the law itself -/
def Elaw : ESumm Unit where
  run vs s Q Y := match vs with
    | [.dat (.list xs)] => ∃ ns : List Int, xs = ns.map PyData.int ∧ ns.length ≤ 63 ∧ Q (.dat (.bool true)) ()
    | _ => False
  mono := fun {vs s Q Q' Y Y'} h1 h2 q => by
    split at q
    · obtain ⟨ns, e, h, q⟩ := q; exact ⟨ns, e, h, h1 _ _ q⟩
    · exact q.elim
theorem Elaw_run {vs : List Val} {s : Unit} {Q : Val → Unit → Prop} {Y : Nat → Unit → Prop} (h : Elaw.run vs s Q Y) : ∃ ns : List Int, vs = [.dat (.list (ns.map PyData.int))] ∧ ns.length ≤ 63 ∧ Q (.dat (.bool true)) () := by
  unfold Elaw at h
  dsimp only at h
  split at h
  · obtain ⟨ns, rfl, h1, h2⟩ := h; exact ⟨ns, rfl, h1, h2⟩
  · exact h.elim
/-! ### clean things -/
theorem okc_list {xs : List D} (h : ∀ x ∈ xs, okD 7 x = true ∧ clean x = true) : okc (.list xs) = true := by
  unfold okc
  rw [Bool.and_eq_true]
  refine ⟨List.all_eq_true.mpr fun x hx => (h x hx).1, ?_⟩
  simp only [clean]
  exact cleanL_all fun x hx => (h x hx).2
theorem okc_ints (ns : List Int) : okc (.list (ns.map .int)) = true := okc_list fun x hx => by
  obtain ⟨i, _, rfl⟩ := List.mem_map.mp hx
  exact ⟨rfl, rfl⟩
theorem okc_ring (n : Int) (as : List (Int × Int)) : okc (ringD n as) = true := by
  unfold okc ringD
  rw [Bool.and_eq_true]
  constructor
  · show ([PyData.int n, .list (as.map arcD)]).all (okD 7) = true
    rw [List.all_cons, List.all_cons]
    have : okD 7 (.list (as.map arcD)) = true := List.all_eq_true.mpr fun x hx => by
      obtain ⟨a, _, rfl⟩ := List.mem_map.mp hx
      rfl
    rw [this]
    rfl
  · simp only [clean, cleanL, Bool.and_true, Bool.true_and]
    exact cleanL_all fun x hx => by
      obtain ⟨a, _, rfl⟩ := List.mem_map.mp hx
      rfl
theorem eqD_self {x : D} {k : Bool → Prop} (hx : okc x = true) (h : k true) : eqD x x k := eqD_okc hx hx (fun _ => h) fun e => absurd rfl e
end Ac
namespace Ac
open PySem PySem.Spec PyProof.Rows L2
/-! ### a law's end -/
structure DefAt (K : PySem.W.Frag) (mg : Str → Option Value) (x : Str) (st : Stmt) (ps : List Str) : Prop where
  ex : ∃ f fd, Fun K x x st f fd ∧ mg x = some (.ref f) ∧ Binds K fd ps [] ∧ ∀ (s : Shared) (us : List Value), us.length = ps.length → BindsTo s fd ⟨us, []⟩ (ps.zip us)
theorem defAt_mk {K : PySem.W.Frag} {h : Heap} {mg : Str → Option Value} {x : Str} {st : Stmt} {ps : List Str} {f : Addr} {oc : Value} {od an : Option Addr} {osl : Array (Option Value)} {kV doc pm cdv ct : Value} (X : K.In h) (G : h.Ns mainGlobals mg)
    (a : PySem.W.nsIn K mainGlobals x = some (some (.ref f))) (l : K.lookup f = some ⟨oc, od, .func (PySem.W.fnOf x x (defArgs st) (defBody st) (defScope st) .none kV doc pm an cdv ct), osl⟩) (c : PySem.W.codeIn K cdv x = true) (k : PySem.W.keepIn K (.ref f) = true)
    (b : ∀ (kV doc pm : Value) (an : Option Addr) (cdv ct : Value) (us : List Value), us.length = ps.length → bindArgs (PySem.W.fnOf x x (defArgs st) (defBody st) (defScope st) .none kV doc pm an cdv ct) ⟨us, []⟩ = pure (ps.zip us)) : DefAt K mg x st ps :=
  let F := fun_mk (st := st) l c k
  ⟨⟨_, _, F, PySem.W.mg_of X G a, F.binds b, fun s us hl => .of_eq (b _ _ _ _ _ _ us hl)⟩⟩
/-- a def under another name -/
structure AliasAt (K : PySem.W.Frag) (mg : Str → Option Value) (x y : Str) (st : Stmt) (ps : List Str) : Prop where
  ex : ∃ f fd, Fun K y y st f fd ∧ mg x = some (.ref f) ∧ Binds K fd ps []
theorem aliasAt_mk {K : PySem.W.Frag} {h : Heap} {mg : Str → Option Value} {x y : Str} {st : Stmt} {ps : List Str} {f : Addr} {oc : Value} {od an : Option Addr} {osl : Array (Option Value)} {kV doc pm cdv ct : Value} (X : K.In h) (G : h.Ns mainGlobals mg)
    (a : PySem.W.nsIn K mainGlobals x = some (some (.ref f))) (l : K.lookup f = some ⟨oc, od, .func (PySem.W.fnOf y y (defArgs st) (defBody st) (defScope st) .none kV doc pm an cdv ct), osl⟩) (c : PySem.W.codeIn K cdv y = true) (k : PySem.W.keepIn K (.ref f) = true)
    (b : ∀ (kV doc pm : Value) (an : Option Addr) (cdv ct : Value) (us : List Value), us.length = ps.length → bindArgs (PySem.W.fnOf y y (defArgs st) (defBody st) (defScope st) .none kV doc pm an cdv ct) ⟨us, []⟩ = pure (ps.zip us)) : AliasAt K mg x y st ps :=
  let F := fun_mk (st := st) l c k
  ⟨⟨_, _, F, PySem.W.mg_of X G a, F.binds b⟩⟩
/-- no list stands in the module itself -/
def noLst (K : PySem.W.Frag) : Bool := K.all fun p => !(p.2.cls == .type "list")
theorem lookup_mem {K : PySem.W.Frag} {a : Addr} {o : Obj} : K.lookup a = some o → ∃ p ∈ K, p.2 = o := by
  induction K with
  | nil => intro h; cases h
  | cons q r ih =>
    intro h
    obtain ⟨b, u⟩ := q
    rw [List.lookup_cons] at h
    split at h
    · cases h
      exact ⟨_, List.mem_cons_self, rfl⟩
    · obtain ⟨p, h1, h2⟩ := ih h
      exact ⟨p, List.mem_cons_of_mem _ h1, h2⟩
def emptyA : KA := fun _ => none
theorem law_sp {cl : Nat → Addr} {H : Hp} {a : Addr} {ns : List Int} (hl : ns.length ≤ 63) (h : Rd H a (.lst (ns.map V.int))) : spE (rmD cl) cl Elaw [.ref a] H (fun v _ => v = .bl true) fun _ _ _ => False := by
  refine ⟨H, emptyA, (), [.dat (.list (ns.map .int))], Sub.refl H, fun a o _ n => n rfl, fun a k h => (nomatch (show (none : Option Kd) = some k from h)), Paired.cons (Rp.lst h (RpL.ints ns)) .nil, ?_⟩
  refine ⟨ns, rfl, hl, fun x H' F' A' _ _ _ _ _ _ rv => ?_⟩
  cases rv
  rfl
theorem noLst_at {K : PySem.W.Frag} {h : Heap} {a : Addr} {vs : List Value} (hn : noLst K = true) (X : K.In h) (e : h.get? a = some { cls := .type "list", data := .seq vs.toArray }) : K.lookup a = none := by
  cases q : K.lookup a with
  | none => rfl
  | some o =>
    have e2 := X a o q
    rw [e] at e2
    cases e2
    obtain ⟨p, hp, e3⟩ := lookup_mem q
    have := List.all_eq_true.mp hn p hp
    rw [e3] at this
    simp at this
theorem all_nil {α : Type} {p : α → Prop} : ∀ x ∈ ([] : List α), p x := fun _ h => nomatch h
theorem all_cons {α : Type} {p : α → Prop} {a : α} {l : List α} (h : p a) (r : ∀ x ∈ l, p x) : ∀ x ∈ a :: l, p x := fun x hx => by
  cases hx with
  | head => exact h
  | tail _ hx => exact r x hx
theorem cn_nil {mg : Str → Option Value} : ∀ (x : Str) (i : Int), ([] : List (Str × Int)).lookup x = some i → ∃ u, mg x = some (.int i u) := fun _ _ h => nomatch h
theorem cn_cons {mg : Str → Option Value} {a : Str} {v : Int} {u : Tok} {l : List (Str × Int)} (h : mg a = some (.int v u)) (r : ∀ (x : Str) (i : Int), l.lookup x = some i → ∃ u, mg x = some (.int i u)) : ∀ (x : Str) (i : Int), ((a, v) :: l).lookup x = some i → ∃ u, mg x = some (.int i u) := fun x i e => by
  rw [List.lookup_cons] at e
  split at e
  · rename_i hx
    cases e
    have : x = a := by simpa using hx
    subst this
    exact ⟨u, h⟩
  · exact r x i e
theorem ex_nil {K : PySem.W.Frag} {mg : Str → Option Value} {cl : Nat → Addr} : ∀ (x : Str) (n : Nat), (x, n) ∈ ([] : List (Str × Nat)) → ExF0 K mg x (cl n) := fun _ _ h => nomatch h
theorem ex_cons {K : PySem.W.Frag} {mg : Str → Option Value} {cl : Nat → Addr} {a : Str} {v : Nat} {l : List (Str × Nat)} (h : ExF0 K mg a (cl v)) (r : ∀ (x : Str) (n : Nat), (x, n) ∈ l → ExF0 K mg x (cl n)) : ∀ (x : Str) (n : Nat), (x, n) ∈ (a, v) :: l → ExF0 K mg x (cl n) := fun x n hx => by
  cases hx with
  | head => exact h
  | tail _ hx => exact r x n hx
theorem exF_mk {K : PySem.W.Frag} {h : Heap} {mg : Str → Option Value} {x : Str} {C : Addr} (X : K.In h) (G : h.Ns mainGlobals mg) (a : PySem.W.nsIn K mainGlobals x = some (some (.ref C)))
    (e : PySem.W.excIn K C [.type "ValueError", .type "Exception", .type "BaseException", .type "object"] "ValueError.__new__" = true) (k : PySem.W.keepIn K (.ref C) = true) (b : PySem.W.subIn K (.ref C) (.type "BaseException") = some true) (t : PySem.W.typeIn K (.ref C) = some (.type "type")) : ExF0 K mg x C :=
  ⟨PySem.W.mg_of X G a, e, k, b, t⟩
theorem walk_ofC {l : PySem.W.OpenLaw} {n k : Nat} {q : Program} {loose : List Str} {XP : (Str → Option Value) → Heap → Prop} {YP : World → Heap → Prop} {d : DefRec} {K : Params → PySem.W.Frag} {x : Str}
    (hn : l.most = some n) (hn2 : n ≤ 63) (hdf : d.params.defaults = []) (hr : Room k callerA)
    (hi : importsNone q = true) (hY : ∀ (w : World) (h : Heap), YP w h → (K w.params).In h)
    (F : ∀ (w : World) (mg : Str → Option Value) (fa : Addr) (h : Heap), (K w.params).In h → h.Ns mainGlobals mg → mg d.name = some (.ref fa) →
      ∃ (cl : Nat → Addr) (fd : FuncData), noLst (K w.params) = true ∧ (∀ (s : Shared) (u : Value), BindsTo s fd ⟨[u], []⟩ [(x, u)]) ∧
        ∀ base : Heap, (K w.params).In base → base.Ns mainGlobals mg → SmB base → FnG l.prog w (K w.params) mg base k fa fd [x] (spE (rmD cl) cl Elaw)) :
    PySem.W.WalkO q loose XP YP l.row.toRowW d [] (fun f vs => PySem.call f vs) := by
  refine Att.attach_call hn hdf fun w s₀ s₁ mg mb fa o pm cd doc a vs ns G Y ho hd hcd hmg hobj hints hlen hg => ?_
  have KX := hY w _ Y
  obtain ⟨cl, fd, hno, hb, hF⟩ := F w mg fa _ KX G.T.g hmg
  obtain ⟨mm, hmm, _⟩ := (G.T.seer hi).mods
  exact lawG (hsm := hmm) KX G.T.g G.T.b G.T.builtins G.T.nolimit hg hobj hints (Nat.le_trans (Nat.le_trans hlen hn2) (by decide)) hr (noLst_at hno KX hobj) hF hb fun H hS => law_sp (Nat.le_trans hlen hn2) hS
end Ac
namespace Ac
open PySem PySem.Spec PyProof.Rows L2
/-! ### arcs and places, plainly -/
theorem mem_plc {n : Int} {a : Int × Int} (ok : arcOk n a) {x : Int} : x ∈ plc n a ↔ 0 ≤ x ∧ x < n ∧ hld n a x = true := by
  obtain ⟨h0, h1, h2, h3⟩ := ok
  have hn : 0 < n := by omega
  unfold plc hld
  rw [List.mem_map]
  constructor
  · rintro ⟨k, hk, rfl⟩
    rw [List.mem_range] at hk
    refine ⟨Int.emod_nonneg _ (by omega), Int.emod_lt_of_pos _ hn, ?_⟩
    rw [decide_eq_true_eq]
    have e : ((a.1 + (k : Int)) % n - a.1) % n = (k : Int) := by
      rw [Int.emod_sub_emod]
      have : a.1 + (k : Int) - a.1 = k := by omega
      rw [this]
      exact Int.emod_eq_of_lt (by omega) (by omega)
    rw [e]
    omega
  · rintro ⟨g0, g1, g2⟩
    rw [decide_eq_true_eq] at g2
    have k0 := Int.emod_nonneg (x - a.1) (show n ≠ 0 by omega)
    refine ⟨((x - a.1) % n).toNat, by rw [List.mem_range]; omega, ?_⟩
    rw [Int.toNat_of_nonneg k0, Int.add_emod_emod]
    have : a.1 + (x - a.1) = x := by omega
    rw [this]
    exact Int.emod_eq_of_lt g0 g1
theorem plc_len {n : Int} {a : Int × Int} : (plc n a).length = a.2.toNat := by
  unfold plc
  rw [List.length_map, List.length_range]
theorem hld_start {n : Int} {a : Int × Int} (ok : arcOk n a) : hld n a a.1 = true := by
  unfold hld
  rw [decide_eq_true_eq, Int.sub_self, Int.zero_emod]
  have := ok.2.2.1
  omega
theorem mtB_iff {n : Int} {a b : Int × Int} (oa : arcOk n a) (ob : arcOk n b) : mtB n a b = true ↔ ∃ x, 0 ≤ x ∧ x < n ∧ hld n a x = true ∧ hld n b x = true := by
  have hn : 0 < n := by have := oa.1; have := oa.2.1; omega
  unfold mtB
  rw [Bool.or_eq_true]
  constructor
  · rintro (h | h)
    · exact ⟨b.1, ob.1, ob.2.1, h, hld_start ob⟩
    · exact ⟨a.1, oa.1, oa.2.1, hld_start oa, h⟩
  · rintro ⟨x, _, _, h1, h2⟩
    unfold hld at h1 h2 ⊢
    rw [decide_eq_true_eq] at h1 h2
    rw [decide_eq_true_eq, decide_eq_true_eq]
    have u0 := Int.emod_nonneg (x - a.1) (show n ≠ 0 by omega)
    have v0 := Int.emod_nonneg (x - b.1) (show n ≠ 0 by omega)
    have u1 := Int.emod_lt_of_pos (x - a.1) hn
    have v1 := Int.emod_lt_of_pos (x - b.1) hn
    by_cases hc : (x - a.1) % n ≤ (x - b.1) % n
    · right
      have e : (a.1 - b.1) % n = (x - b.1) % n - (x - a.1) % n := by
        have e1 : a.1 - b.1 = (x - b.1) - (x - a.1) := by omega
        rw [e1, Int.sub_emod]
        exact Int.emod_eq_of_lt (by omega) (by omega)
      rw [e]
      omega
    · left
      have e : (b.1 - a.1) % n = (x - a.1) % n - (x - b.1) % n := by
        have e1 : b.1 - a.1 = (x - a.1) - (x - b.1) := by omega
        rw [e1, Int.sub_emod]
        exact Int.emod_eq_of_lt (by omega) (by omega)
      rw [e]
      omega
theorem mtB_comm {n : Int} {a b : Int × Int} : mtB n a b = mtB n b a := by
  unfold mtB
  exact Bool.or_comm _ _
theorem mem_atB {n : Int} {as : List (Int × Int)} {p : Int} {k : Nat} : k ∈ atB n as p ↔ ∃ h : k < as.length, hld n as[k] p = true := by
  unfold atB
  rw [List.mem_filter, List.mem_range]
  constructor
  · rintro ⟨h, h2⟩
    rw [List.getElem?_eq_getElem h] at h2
    exact ⟨h, h2⟩
  · rintro ⟨h, h2⟩
    rw [List.getElem?_eq_getElem h]
    exact ⟨h, h2⟩
/-! ### more on meaning -/
theorem inD_ints {x : Int} : ∀ {ns : List Int}, inD (.int x) (ns.map .int) = decide (x ∈ ns)
  | [] => by simp [inD]
  | n :: r => by
    have ih := inD_ints (x := x) (ns := r)
    unfold inD at ih ⊢
    rw [List.map_cons, List.any_cons, ih, eqv_int]
    by_cases h : n = x
    · subst h; simp
    · simp [h, Ne.symm h]
theorem flat_ints {ns : List Int} : (ns.map PyData.int).all flatD = true := List.all_eq_true.mpr fun x hx => by
  obtain ⟨i, _, rfl⟩ := List.mem_map.mp hx
  rfl
theorem memD_ints {neg : Bool} {x : Int} {ns : List Int} {k : Val → Prop} : memD neg (.int x) (.list (ns.map .int)) k = k (.dat (.bool (if neg then !decide (x ∈ ns) else decide (x ∈ ns)))) := by
  show ((flatD (.int x) = true ∧ (ns.map PyData.int).all flatD = true ∧ _) ∨ _) = _
  rw [inD_ints, flat_ints]
  simp only [flatD, true_and]
  exact propext ⟨fun z => z.elim id (fun z => z.2.2), fun z => .inl z⟩
theorem fLoop_all {S : Type} {f : D → Ctx → S → Kn S → Prop} {K : Kn S} (I : Ctx → S → Prop) : ∀ {xs : List D}, (∀ Γ s, I Γ s → K.nx Γ s) →
    (∀ x ∈ xs, ∀ Γ s (K' : Kn S), I Γ s → (∀ Γ' s', I Γ' s' → K'.nx Γ' s') → K'.rt = K.rt → K'.ex = K.ex → f x Γ s K') → ∀ {Γ : Ctx} {s : S}, I Γ s → fLoop f K xs Γ s
  | [], hnx, _, Γ, s, h => hnx Γ s h
  | x :: r, hnx, hst, Γ, s, h => hst x List.mem_cons_self Γ s _ h (fun Γ' s' h' => fLoop_all I (xs := r) hnx (fun y hy => hst y (List.mem_cons_of_mem _ hy)) h') rfl rfl
/-- a summary by cases -/
def Summ.ex {α : Type} (args : α → List D) (pre : α → Prop) (res : α → Val) : Summ where
  run ds Q _ := ∃ a, ds = args a ∧ pre a ∧ Q (res a)
  mono := fun h1 _ ⟨a, e, p, q⟩ => ⟨a, e, p, h1 _ q⟩
theorem WOk.ex {α : Type} {args : α → List D} {pre : α → Prop} {res : α → Val} {np nN : Nat} {body : Sms Unit} (h : ∀ a, pre a → (args a).length = np ∧ ∀ (Q : Val → Prop) (Y : Nat → Prop), Q (res a) → wSs body (entry nN ((args a).map .dat)) () (KQY Q Y)) : WOk (Summ.ex args pre res) np nN body := fun ds Q Y ⟨a, e, p, q⟩ => by
  subst e
  exact ⟨(h a p).1, (h a p).2 Q Y q⟩
theorem plc_big {n : Int} {as : List (Int × Int)} {a : Int × Int} (ok : RingOk n as) (h : a ∈ as) : (plc n a).length ≤ 40 := by
  rw [plc_len]
  have := (ok.arcs a h).2.2.2
  have := ok.n40
  omega
theorem filterMap_no {α β : Type} {xs : List α} : xs.filterMap (fun _ => (none : Option β)) = [] := by
  induction xs with
  | nil => rfl
  | cons x r ih => rw [List.filterMap_cons]; exact ih
/-- numbers picked -/
def pickN (q : Nat → Bool) : D → Option D
  | .int k => if q k.toNat = true then some (.int k) else none
  | _ => none
theorem filter_range {q : Nat → Bool} {m : Nat} : ((List.range m).map fun i => PyData.int (i : Nat)).filterMap (pickN q) = ((List.range m).filter q).map natD := by
  induction m with
  | zero => rfl
  | succ m ih =>
    rw [List.range_succ, List.map_append, List.filterMap_append, List.filter_append, List.map_append, ih]
    congr 1
    by_cases h : q m = true <;> simp [h, natD, pickN]
def pickI (q : Int → Bool) : D → Option D
  | .int k => if q k = true then some (.int k) else none
  | _ => none
theorem filter_ints {q : Int → Bool} {ns : List Int} : (ns.map PyData.int).filterMap (pickI q) = (ns.filter q).map PyData.int := by
  induction ns with
  | nil => rfl
  | cons n r ih =>
    rw [List.map_cons, List.filterMap_cons, List.filter_cons, ih]
    by_cases h : q n = true <;> simp [h, pickI]
def holdsAt (n : Int) (as : List (Int × Int)) (p : Int) (k : Nat) : Bool := match as[k]? with
  | some a => hld n a p
  | none => false
theorem atB_eq {n : Int} {as : List (Int × Int)} {p : Int} : atB n as p = (List.range as.length).filter (holdsAt n as p) := rfl
theorem natD_ints {ks : List Nat} : ks.map natD = (ks.map fun k : Nat => (k : Int)).map PyData.int := by
  rw [List.map_map]
  rfl
theorem atB_len {n : Int} {as : List (Int × Int)} {p : Int} : (atB n as p).length ≤ as.length := by
  unfold atB
  exact Nat.le_trans (List.length_filter_le _ _) (by rw [List.length_range]; exact Nat.le_refl _)
end Ac
namespace Ac
open PySem PySem.Spec PyProof.Rows L2
/-! ### rising lists -/
def inR (b : Int) : D → Bool
  | .int i => decide (0 ≤ i) && decide (i < b)
  | _ => false
def risN : List Int → Bool
  | [] => true
  | [_] => true
  | a :: b :: r => decide (a < b) && risN (b :: r)
theorem risN_iff : ∀ {ns : List Int}, risN ns = true ↔ ns.Pairwise (· < ·)
  | [] => by simp [risN]
  | [a] => by simp [risN]
  | a :: b :: r => by
    rw [risN, Bool.and_eq_true, decide_eq_true_eq, risN_iff (ns := b :: r), List.pairwise_cons (a := a)]
    constructor
    · rintro ⟨h1, h2⟩
      refine ⟨fun c hc => ?_, h2⟩
      rcases List.mem_cons.mp hc with rfl | hc
      · exact h1
      · exact Int.lt_trans h1 ((List.pairwise_cons.mp h2).1 c hc)
    · rintro ⟨h1, h2⟩
      exact ⟨h1 b List.mem_cons_self, h2⟩
def risD (d : D) (b : Int) : Bool := match d with
  | .list xs => xs.all (inR b) && (match intsD xs with | some ns => risN ns | none => false)
  | _ => false
theorem inR_ints {b : Int} : ∀ {xs : List D}, xs.all (inR b) = true → ∃ ns : List Int, xs = ns.map .int ∧ ∀ m ∈ ns, 0 ≤ m ∧ m < b
  | [], _ => ⟨[], rfl, fun m hm => nomatch hm⟩
  | x :: xs, h => by
    rw [List.all_cons, Bool.and_eq_true] at h
    obtain ⟨ns, rfl, hb⟩ := inR_ints h.2
    cases x with
    | int i =>
      have h1 : (decide (0 ≤ i) && decide (i < b)) = true := h.1
      rw [Bool.and_eq_true, decide_eq_true_eq, decide_eq_true_eq] at h1
      refine ⟨i :: ns, rfl, fun m hm => ?_⟩
      rcases List.mem_cons.mp hm with rfl | hm
      · exact h1
      · exact hb m hm
    | _ => cases h.1
theorem risD_ints {ns : List Int} {b : Int} : risD (.list (ns.map .int)) b = true ↔ (∀ m ∈ ns, 0 ≤ m ∧ m < b) ∧ ns.Pairwise (· < ·) := by
  unfold risD
  dsimp only
  rw [intsD_map, Bool.and_eq_true, risN_iff, List.all_map, List.all_eq_true]
  refine and_congr ⟨fun h m hm => ?_, fun h m hm => ?_⟩ Iff.rfl
  · have : (decide (0 ≤ m) && decide (m < b)) = true := h m hm
    rw [Bool.and_eq_true, decide_eq_true_eq, decide_eq_true_eq] at this
    exact this
  · show (decide (0 ≤ m) && decide (m < b)) = true
    rw [Bool.and_eq_true, decide_eq_true_eq, decide_eq_true_eq]
    exact h m hm
def bigL : D → Prop
  | .list xs => xs.length ≤ 90000
  | _ => True
def S_law_rising : Summ where
  run ds Q _ := ∃ d b, ds = [d, .int b] ∧ bigL d ∧ Q (.dat (.bool (risD d b)))
  mono := fun h1 _ ⟨d, b, e, hl, q⟩ => ⟨d, b, e, hl, h1 _ q⟩
theorem call_rising {d : D} {b : Int} {Q : Val → Prop} {Y : Nat → Prop} (hl : bigL d) (h : Q (.dat (.bool (risD d b)))) : S_law_rising.run [d, .int b] Q Y := ⟨d, b, rfl, hl, h⟩
def outR (b : Int) (d : D) : Option D := if inR b d = true then none else some d
def fallG (ns : List Int) : D → Option D
  | .int k => if ns.getD k.toNat 0 ≤ ns.getD (k - 1).toNat 0 then some (.int k) else none
  | _ => none
theorem fall_iff {ns : List Int} : (((List.range ((ns.length : Int) - 1).toNat).map fun i : Nat => PyData.int (1 + (i : Nat))).filterMap (fallG ns)).isEmpty = true ↔ ns.Pairwise (· < ·) := by
  rw [filterMap_empty]
  constructor
  · intro h
    rw [List.pairwise_iff_getElem]
    have step : ∀ i (hi : i + 1 < ns.length), ns[i] < ns[i + 1] := fun i hi => by
      have := h (.int (1 + (i : Nat))) (List.mem_map.mpr ⟨i, List.mem_range.mpr (by omega), rfl⟩)
      unfold fallG at this
      dsimp only at this
      have e1 : (1 + (i : Int)).toNat = i + 1 := by omega
      have e2 : (1 + (i : Int) - 1).toNat = i := by omega
      rw [e1, e2, List.getD_eq_getElem?_getD, List.getD_eq_getElem?_getD, List.getElem?_eq_getElem hi, List.getElem?_eq_getElem (by omega)] at this
      dsimp only [Option.getD] at this
      by_cases hc : ns[i + 1] ≤ ns[i]
      · rw [if_pos hc] at this; cases this
      · omega
    have all : ∀ d i (hi : i + d + 1 < ns.length), ns[i] < ns[i + d + 1] := by
      intro d
      induction d with
      | zero => intro i hi; exact step i hi
      | succ d ih =>
        intro i hi
        have h1 := ih i (by omega)
        have h2 := step (i + d + 1) (by omega)
        have e : i + (d + 1) + 1 = i + d + 1 + 1 := by omega
        simp only [e]
        omega
    intro i j hi hj hij
    have := all (j - i - 1) i (by omega)
    have e : i + (j - i - 1) + 1 = j := by omega
    simp only [e] at this
    exact this
  · intro h x hx
    obtain ⟨i, hi, rfl⟩ := List.mem_map.mp hx
    rw [List.mem_range] at hi
    unfold fallG
    dsimp only
    have e1 : (1 + (i : Int)).toNat = i + 1 := by omega
    have e2 : (1 + (i : Int) - 1).toNat = i := by omega
    rw [e1, e2, List.getD_eq_getElem?_getD, List.getD_eq_getElem?_getD, List.getElem?_eq_getElem (by omega), List.getElem?_eq_getElem (by omega)]
    dsimp only [Option.getD]
    have := List.pairwise_iff_getElem.mp h i (i + 1) (by omega) (by omega) (by omega)
    rw [if_neg (by omega)]
theorem sv_r {n : Int} {as : List (Int × Int)} : scalV (.dat (ringD n as)) = false := rfl
theorem ixR0 {n : Int} {as : List (Int × Int)} {k : D → Prop} : ixX (ringD n as) (.int 0) k = k (.int n) := by
  unfold ringD
  rw [ixX_t, ixD_0]
theorem ixR1 {n : Int} {as : List (Int × Int)} {k : D → Prop} : ixX (ringD n as) (.int 1) k = k (.list (as.map arcD)) := by
  unfold ringD
  rw [ixX_t, ixD_1]
/-! ### turns that may end a def -/
theorem fLoop_find {S α : Type} {f : D → Ctx → S → Kn S → Prop} {K : Kn S} {g : α → D} {p : α → Bool} {xs0 : List α} (I : Ctx → S → Prop) (hnx : xs0.all p = true → ∀ Γ s, I Γ s → K.nx Γ s)
    (hst : ∀ a ∈ xs0, ∀ Γ s (K' : Kn S), I Γ s → K'.rt = K.rt → K'.ex = K.ex → (p a = true → ∀ Γ' s', I Γ' s' → K'.nx Γ' s') → f (g a) Γ s K') :
    ∀ (xs done : List α), xs0 = done ++ xs → done.all p = true → ∀ (Γ : Ctx) (s : S), I Γ s → fLoop f K (xs.map g) Γ s
  | [], done, e, hd, Γ, s, h => hnx (by rw [e, List.append_nil]; exact hd) Γ s h
  | x :: r, done, e, hd, Γ, s, h => hst x (by rw [e]; simp) Γ s _ h rfl rfl fun hp Γ' s' h' => fLoop_find I hnx hst r (done ++ [x]) (by rw [e]; simp) (by rw [List.all_append, hd]; simp [hp]) Γ' s' h'
theorem fLoop_findA {S α : Type} {f : D → Ctx → S → Kn S → Prop} {K : Kn S} {g : α → D} {p : α → Bool} {xs : List α} (I : Ctx → S → Prop) (hnx : xs.all p = true → ∀ Γ s, I Γ s → K.nx Γ s)
    (hst : ∀ a ∈ xs, ∀ Γ s (K' : Kn S), I Γ s → K'.rt = K.rt → K'.ex = K.ex → (p a = true → ∀ Γ' s', I Γ' s' → K'.nx Γ' s') → f (g a) Γ s K') {Γ : Ctx} {s : S} (h : I Γ s) : fLoop f K (xs.map g) Γ s :=
  fLoop_find I hnx hst xs [] rfl rfl Γ s h
theorem all_false {α : Type} {p : α → Bool} {xs : List α} {a : α} (h : a ∈ xs) (hp : p a = false) : xs.all p = false := List.all_eq_false.mpr ⟨a, h, by rw [hp]; exact Bool.noConfusion⟩
/-- an invariant over things, by what is done and what is left -/
theorem fLoop_mp {S α : Type} {f : D → Ctx → S → Kn S → Prop} {K : Kn S} {g : α → D} (I : List α → List α → Ctx → S → Prop) (hnx : ∀ done Γ s, I done [] Γ s → K.nx Γ s)
    (hstep : ∀ done x r Γ s (K' : Kn S), I done (x :: r) Γ s → (∀ Γ' s', I (done ++ [x]) r Γ' s' → K'.nx Γ' s') → (∀ Γ' s', I (done ++ [x]) r Γ' s' → K'.ct Γ' s') → K'.bk = K.nx → K'.rt = K.rt → K'.ex = K.ex → f (g x) Γ s K') :
    ∀ (xs done : List α) (Γ : Ctx) (s : S), I done xs Γ s → fLoop f K (xs.map g) Γ s
  | [], done, Γ, s, h => hnx done Γ s h
  | x :: r, done, Γ, s, h => hstep done x r Γ s _ h (fun Γ' s' h' => fLoop_mp I hnx hstep r (done ++ [x]) Γ' s' h') (fun Γ' s' h' => fLoop_mp I hnx hstep r (done ++ [x]) Γ' s' h') rfl rfl rfl
/-- a comprehension over things -/
theorem cLoop_mp {S α : Type} {f : D → Ctx → S → (Option D → Ctx → S → Prop) → Prop} {g : α → D} {q : α → Option D} {Γ : Ctx} {s : S} {k : List D → Ctx → S → Prop} : ∀ (xs : List α) (acc : List D), (∀ x ∈ xs, ∀ k' : Option D → Ctx → S → Prop, k' (q x) Γ s → f (g x) Γ s k') → k (acc ++ xs.filterMap q) Γ s → cLoop f (xs.map g) Γ s acc k
  | [], acc, _, h => by
    rw [List.filterMap_nil, List.append_nil] at h
    exact h
  | x :: r, acc, hf, h => by
    refine hf x List.mem_cons_self _ (cLoop_mp r _ (fun y hy => hf y (List.mem_cons_of_mem _ hy)) ?_)
    rw [List.append_assoc]
    have e : (q x).toList ++ r.filterMap q = (x :: r).filterMap q := by
      cases e : q x with
      | none => rw [List.filterMap_cons_none e]; rfl
      | some y => rw [List.filterMap_cons_some e]; rfl
    rw [e]
    exact h
theorem fm_pick {α β : Type} {p : α → Bool} {f : α → β} : ∀ L : List α, (L.filterMap fun k => if p k = true then some (f k) else none) = (L.filter p).map f
  | [] => rfl
  | k :: L => by
    rw [List.filterMap_cons, fm_pick L, List.filter_cons]
    by_cases h : p k = true <;> simp [h]
theorem fm_drop {α β : Type} {p : α → Bool} {f : α → β} : ∀ L : List α, (L.filterMap fun k => if p k = true then none else some (f k)) = (L.filter fun k => !p k).map f
  | [] => rfl
  | k :: L => by
    rw [List.filterMap_cons, fm_drop L, List.filter_cons]
    by_cases h : p k = true <;> simp [h]
theorem fm_all {α β : Type} {f : α → β} : ∀ L : List α, (L.filterMap fun k => some (f k)) = L.map f
  | [] => rfl
  | k :: L => by rw [List.filterMap_cons, fm_all L]; rfl
theorem pairsD_map : ∀ ps : List (Int × Int), pairsD (ps.map pairD) = some ps
  | [] => rfl
  | p :: r => by
    show (pairsD (r.map pairD)).map ((p.1, p.2) :: ·) = _
    rw [pairsD_map r]
    rfl
theorem minL_mp {α : Type} {e : α → Int} {L : List α} {k : Val → Prop} (hne : L ≠ []) (h : ∀ j ∈ L, (∀ i ∈ L, e j ≤ e i) → k (.dat (.int (e j)))) : minLD [.list (L.map fun k => .int (e k))] k := by
  have el : (L.map fun k => PyData.int (e k)) = (L.map e).map .int := by rw [List.map_map]; rfl
  show ∃ ns, intsD (L.map fun k => PyData.int (e k)) = some ns ∧ 0 < ns.length ∧ ∀ m, m ∈ ns → (∀ y, y ∈ ns → m ≤ y) → k (.dat (.int m))
  refine ⟨L.map e, by rw [el]; exact intsD_map _, by rw [List.length_map]; exact List.length_pos_iff.mpr hne, fun m hm hy => ?_⟩
  obtain ⟨j, hj, rfl⟩ := List.mem_map.mp hm
  exact h j hj fun i hi => hy _ (List.mem_map.mpr ⟨i, hi, rfl⟩)
theorem idx_mp {α : Type} {e : α → Int} {L : List α} {y : Int} {k : Val → Prop} (hj : ∃ j ∈ L, e j = y) (h : ∀ (i : Nat) (hi : i < L.length), e L[i] = y → (∀ (j : Nat) (hj : j < i), e L[j] ≠ y) → k (.dat (.int (i : Nat)))) : mtD .index (.list (L.map fun k => .int (e k))) [.int y] k := by
  have el : (L.map fun k => PyData.int (e k)) = (L.map e).map .int := by rw [List.map_map]; rfl
  show ∃ ns, intsD (L.map fun k => PyData.int (e k)) = some ns ∧ (match idxD ns y with | some j => k (.dat (.int (j : Nat))) | none => False)
  refine ⟨L.map e, by rw [el]; exact intsD_map _, ?_⟩
  cases q : idxD (L.map e) y with
  | none =>
    unfold idxD at q
    rw [List.findIdx?_eq_none_iff] at q
    obtain ⟨j, hj, hy⟩ := hj
    have := q _ (List.mem_map.mpr ⟨j, hj, rfl⟩)
    rw [hy] at this
    simp at this
  | some i =>
    unfold idxD at q
    rw [List.findIdx?_eq_some_iff_getElem] at q
    obtain ⟨hi, h1, h2⟩ := q
    have hi' : i < L.length := by rw [List.length_map] at hi; exact hi
    refine h i hi' ?_ fun j hj => ?_
    · simpa using h1
    · have := h2 j hj
      simpa using this
theorem nodup_len {α : Type} [DecidableEq α] : ∀ {l P : List α}, l.Nodup → (∀ x ∈ l, x ∈ P) → l.length ≤ P.length
  | [], _, _, _ => Nat.zero_le _
  | x :: l, P, hn, h => by
    rw [List.nodup_cons] at hn
    have hx := h x List.mem_cons_self
    have := nodup_len (l := l) (P := P.erase x) hn.2 fun y hy => (List.mem_erase_of_ne (fun e : y = x => hn.1 (e ▸ hy))).mpr (h y (List.mem_cons_of_mem _ hy))
    rw [List.length_erase_of_mem hx] at this
    have := List.length_pos_of_mem hx
    rw [List.length_cons]
    omega
end Ac
namespace Ac
open PySem PySem.Spec PyProof.Rows L2
/-! ### what may be shown, how deep, how long -/
def Rk (k w : Nat) (d : D) : Prop := d.showable = true ∧ d.depth ≤ k ∧ d.shown.length ≤ w
theorem Rk.mono {k k' w w' : Nat} {d : D} (h : Rk k w d) (hk : k ≤ k') (hw : w ≤ w') : Rk k' w' d := ⟨h.1, Nat.le_trans h.2.1 hk, Nat.le_trans h.2.2 hw⟩
theorem Rk.ok {k w : Nat} {d : D} (h : Rk k w d) (hk : k ≤ 60) (hw : w ≤ 16777216) : okR d := ⟨h.1, Nat.le_trans h.2.1 hk, Nat.le_trans h.2.2 hw⟩
theorem Rk.none : Rk 0 31 .none := ⟨by simp [PyData.showable], by simp [PyData.depth], by simp only [PyData.shown]; decide⟩
theorem Rk.bool {b : Bool} : Rk 0 31 (.bool b) := ⟨by simp [PyData.showable], by simp [PyData.depth], by simp only [PyData.shown]; cases b <;> decide⟩
theorem log2_lt10 {i : Int} (h : i.natAbs < 10 ^ 30) : i.natAbs.log2 < 1920 := by
  by_cases h0 : i.natAbs = 0
  · rw [h0]; decide
  · have : i.natAbs.log2 < 100 := (Nat.log2_lt h0).mpr (Nat.lt_of_lt_of_le h (by decide))
    omega
theorem Rk.int {i : Int} (h : i.natAbs < 10 ^ 30) : Rk 0 31 (.int i) := by
  refine ⟨?_, by simp [PyData.depth], ?_⟩
  · simp only [PyData.showable]
    exact decide_eq_true (log2_lt10 h)
  · simp only [PyData.shown]
    have e := int_text_length_le10 (k := 30) (by decide) h
    rw [PySem.ofString_length]
    exact e
theorem Rk.str {x : Str} (h : (reprText x).length ≤ 31) : Rk 0 31 (.str x) := ⟨by simp [PyData.showable], by simp [PyData.depth], by simp only [PyData.shown]; exact h⟩
theorem depthAll_le {k : Nat} : ∀ {xs : List D}, (∀ x ∈ xs, x.depth ≤ k) → PyData.depthAll xs ≤ k
  | [], _ => Nat.zero_le _
  | x :: r, h => by
    simp only [PyData.depthAll]
    have h1 := h x List.mem_cons_self
    have h2 := depthAll_le fun y hy => h y (List.mem_cons_of_mem _ hy)
    omega
theorem showAll_ok : ∀ {xs : List D}, (∀ x ∈ xs, x.showable = true) → PyData.showableAll xs = true
  | [], _ => by simp [PyData.showableAll]
  | x :: r, h => by
    simp only [PyData.showableAll, Bool.and_eq_true]
    exact ⟨h x List.mem_cons_self, showAll_ok fun y hy => h y (List.mem_cons_of_mem _ hy)⟩
theorem piled_le {w : Nat} : ∀ {xs : List D}, (∀ x ∈ xs, x.shown.length ≤ w) → piled (PyData.shownAll xs) ≤ xs.length * (w + 2)
  | [], _ => by simp [PyData.shownAll, piled]
  | x :: r, h => by
    simp only [PyData.shownAll]
    rw [piled_cons, List.length_cons, Nat.add_mul]
    have h1 := h x List.mem_cons_self
    have h2 := piled_le fun y hy => h y (List.mem_cons_of_mem _ hy)
    omega
theorem textFrom_le : ∀ (ts : List Str) (k : Nat) (acc : Str), (textFrom k acc ts).length ≤ acc.length + piled ts
  | [], _, _ => Nat.le_add_right _ _
  | t :: ts, k, acc => by
    unfold textFrom
    have h := textFrom_le ts (k + 1) (acc ++ (if k > 0 then ", " else "" : String) ++ t)
    rw [strLen_append, strLen_append] at h
    rw [piled_cons]
    have : (Str.ofString (if k > 0 then ", " else "" : String)).length ≤ 2 := by split <;> decide
    omega
theorem join_le (ts : List Str) : (Str.join ", " ts).length ≤ piled ts := by
  by_cases h : ts = []
  · subst h; exact Nat.le_refl _
  · have := join_length_add ts h
    omega
theorem Rk.list {k w : Nat} {xs : List D} (h : ∀ x ∈ xs, Rk k w x) : Rk (k + 1) (2 + xs.length * (w + 2)) (.list xs) := by
  refine ⟨by simp only [PyData.showable]; exact showAll_ok fun x hx => (h x hx).1, by simp only [PyData.depth]; exact Nat.succ_le_succ (depthAll_le fun x hx => (h x hx).2.1), ?_⟩
  simp only [PyData.shown]
  unfold listText
  rw [strLen_append]
  have h1 := textFrom_le (PyData.shownAll xs) 0 "["
  have h2 := piled_le fun x hx => (h x hx).2.2
  have e1 : (Str.ofString "[").length = 1 := by decide
  have e2 : (Str.ofString "]").length = 1 := by decide
  have e1' : ("[" : Str).length = 1 := e1
  have e2' : ("]" : Str).length = 1 := e2
  omega
theorem Rk.tuple {k w : Nat} {xs : List D} (h : ∀ x ∈ xs, Rk k w x) : Rk (k + 1) (3 + xs.length * (w + 2)) (.tuple xs) := by
  refine ⟨by simp only [PyData.showable]; exact showAll_ok fun x hx => (h x hx).1, by simp only [PyData.depth]; exact Nat.succ_le_succ (depthAll_le fun x hx => (h x hx).2.1), ?_⟩
  simp only [PyData.shown]
  unfold tupleText
  rw [strLen_append, strLen_append]
  have h1 := join_le (PyData.shownAll xs)
  have h2 := piled_le fun x hx => (h x hx).2.2
  have e1 : ("(" : Str).length = 1 := by decide
  have e2 : (Str.ofString (if (PyData.shownAll xs).length == 1 then ",)" else ")" : String)).length ≤ 2 := by split <;> decide
  omega
theorem depthKv_le {k : Nat} : ∀ {xs : List (D × D)}, (∀ x ∈ xs, x.1.depth ≤ k ∧ x.2.depth ≤ k) → PyData.depthKv xs ≤ k
  | [], _ => Nat.zero_le _
  | (a, b) :: r, h => by
    simp only [PyData.depthKv]
    have h1 := h (a, b) List.mem_cons_self
    have h2 := depthKv_le fun y hy => h y (List.mem_cons_of_mem _ hy)
    dsimp only at h1
    omega
theorem showKv_ok : ∀ {xs : List (D × D)}, (∀ x ∈ xs, x.1.showable = true ∧ x.2.showable = true) → PyData.showableKv xs = true
  | [], _ => by simp [PyData.showableKv]
  | (a, b) :: r, h => by
    simp only [PyData.showableKv, Bool.and_eq_true]
    have h1 := h (a, b) List.mem_cons_self
    exact ⟨h1, showKv_ok fun y hy => h y (List.mem_cons_of_mem _ hy)⟩
theorem piledKv_le {w : Nat} : ∀ {xs : List (D × D)}, (∀ x ∈ xs, x.1.shown.length ≤ w ∧ x.2.shown.length ≤ w) → piled (PyData.shownKv xs) ≤ xs.length * (2 * w + 4)
  | [], _ => by simp [PyData.shownKv, piled]
  | (a, b) :: r, h => by
    simp only [PyData.shownKv]
    rw [piled_cons, List.length_cons, Nat.add_mul, strLen_append, strLen_append]
    have h1 := h (a, b) List.mem_cons_self
    have h2 := piledKv_le fun y hy => h y (List.mem_cons_of_mem _ hy)
    have e : (Str.ofString ": ").length = 2 := by decide
    have e' : (": " : Str).length = 2 := e
    dsimp only at h1
    omega
theorem Rk.dict {k w : Nat} {xs : List (D × D)} (h : ∀ x ∈ xs, Rk k w x.1 ∧ Rk k w x.2) : Rk (k + 1) (2 + xs.length * (2 * w + 4)) (.dict xs) := by
  refine ⟨by simp only [PyData.showable]; exact showKv_ok fun x hx => ⟨(h x hx).1.1, (h x hx).2.1⟩, by simp only [PyData.depth]; exact Nat.succ_le_succ (depthKv_le fun x hx => ⟨(h x hx).1.2.1, (h x hx).2.2.1⟩), ?_⟩
  simp only [PyData.shown]
  unfold dictText
  rw [strLen_append, strLen_append]
  have h1 := join_le (PyData.shownKv xs)
  have h2 := piledKv_le fun x hx => ⟨(h x hx).1.2.2, (h x hx).2.2.2⟩
  have e1 : ("{" : Str).length = 1 := by decide
  have e2 : ("}" : Str).length = 1 := by decide
  omega
theorem Rk.list' {k w m w' : Nat} {xs : List D} (h : ∀ x ∈ xs, Rk k w x) (hl : xs.length ≤ m) (hw : 2 + m * (w + 2) ≤ w') : Rk (k + 1) w' (.list xs) :=
  (Rk.list h).mono (Nat.le_refl _) (Nat.le_trans (Nat.add_le_add_left (Nat.mul_le_mul_right _ hl) 2) hw)
theorem Rk.tuple' {k w m w' : Nat} {xs : List D} (h : ∀ x ∈ xs, Rk k w x) (hl : xs.length ≤ m) (hw : 3 + m * (w + 2) ≤ w') : Rk (k + 1) w' (.tuple xs) :=
  (Rk.tuple h).mono (Nat.le_refl _) (Nat.le_trans (Nat.add_le_add_left (Nat.mul_le_mul_right _ hl) 3) hw)
theorem Rk.dict' {k w m w' : Nat} {xs : List (D × D)} (h : ∀ x ∈ xs, Rk k w x.1 ∧ Rk k w x.2) (hl : xs.length ≤ m) (hw : 2 + m * (2 * w + 4) ≤ w') : Rk (k + 1) w' (.dict xs) :=
  (Rk.dict h).mono (Nat.le_refl _) (Nat.le_trans (Nat.add_le_add_left (Nat.mul_le_mul_right _ hl) 2) hw)
theorem Rk.up {k k' w w' : Nat} {d : D} (h : Rk k w d) (hk : k ≤ k' := by decide) (hw : w ≤ w' := by decide) : Rk k' w' d := h.mono hk hw
@[simp] theorem reprD_1 {d : D} {k : Val → Prop} : reprD [d] k = (okR d ∧ k (.dat (.str d.shown))) := rfl
end Ac
namespace Ac
open PySem PySem.Spec PyProof.Rows L2
/-! ### what the top's classes of errors say -/
theorem kit_own {K : PySem.W.Frag} {t : Value} {C : Addr} {b : Bool} (hd : PySem.W.hasDictIn K C = true) (ht : PySem.W.typeIn K (.ref C) = some (.type "type")) (hs : PySem.W.subIn K t (.ref C) = some b) (hb : t = .ref C → b = true) : PySem.W.kitOne K t (.ref C) = some b := by
  obtain ⟨cd, hc, _⟩ := PySem.W.any_some hd
  unfold PySem.W.kitOne
  by_cases e : (t == .ref C) = true
  · rw [if_pos e, hb (beq_iff_eq.mp e)]
  · rw [if_neg e]
    show (if ((PySem.W.clsIn K C).isSome && PySem.W.typeIn K (.ref C) == some (.type "type")) = true then PySem.W.subIn K t (.ref C) else none) = some b
    have e2 : ((PySem.W.clsIn K C).isSome && PySem.W.typeIn K (.ref C) == some (.type "type")) = true := by rw [hc, ht]; rfl
    rw [if_pos e2]
    exact hs
theorem kit_two {K : PySem.W.Frag} {C D : Addr} (hd : PySem.W.hasDictIn K D = true) (ht : PySem.W.typeIn K (.ref D) = some (.type "type")) (hs : PySem.W.subIn K (.ref C) (.ref D) = some false) (hc : PySem.W.subIn K (.ref C) (.ref C) = some true) : PySem.W.kitOne K (.ref C) (.ref D) = some false :=
  kit_own hd ht hs fun e => by
    rw [← e, hc] at hs
    cases hs
theorem kit_same {K : PySem.W.Frag} {C : Addr} : PySem.W.kitOne K (.ref C) (.ref C) = some true := by
  unfold PySem.W.kitOne
  rw [if_pos (beq_self_eq_true _)]
theorem kit_val {K : PySem.W.Frag} {C : Addr} (hs : PySem.W.subIn K (.ref C) (.type "ValueError") = some true) : PySem.W.kitOne K (.ref C) (.type "ValueError") = some true := by
  unfold PySem.W.kitOne
  rw [if_neg (by simp)]
  show (if PySem.W.kitMeta "ValueError" = true then PySem.W.subIn K (.ref C) (.type "ValueError") else none) = some true
  rw [if_pos (by decide +kernel)]
  exact hs
end Ac
namespace Ac
open PySem PySem.Spec PyProof.Rows L2
/-! ### errors told: what all families share -/
def errV : Option Nat → Val
  | none => .dat .none
  | some n => .hdl (100 + n)
def isCB (m : Nat) (ns : List Nat) : Bool := ns.any fun n => decide (n = 99) || decide (m = 100 + n)
theorem isCW_h {m : Nat} {ns : List Nat} {k : Bool → Prop} : isCW ns (some (.hdl m)) k = ((100 ≤ m ∧ m < 107) ∧ k (isCB m ns)) := rfl
theorem isCW_0 {ns : List Nat} {k : Bool → Prop} : isCW ns (some (.dat .none)) k = k false := by
  show (noneD .none = true ∧ k false) = k false
  rw [show (noneD .none = true) = True from eq_true rfl, true_and]
theorem eqvAll_bools : ∀ bs cs : List Bool, PyData.eqvAll (bs.map .bool) (cs.map .bool) = decide (bs = cs)
  | [], [] => by simp [PyData.eqvAll]
  | [], _ :: _ => by simp [PyData.eqvAll]
  | _ :: _, [] => by simp [PyData.eqvAll]
  | b :: bs, c :: cs => by
    simp only [List.map_cons, PyData.eqvAll, PyData.eqv, eqvAll_bools bs cs, List.cons.injEq]
    cases b <;> cases c <;> simp
theorem shaped_bools (bs : List Bool) : SeqAt.shaped (.list (bs.map .bool)) = true := okD_shaped (k := 8) (by
  show (bs.map PyData.bool).all (okD 7) = true
  rw [List.all_eq_true]
  intro x hx
  obtain ⟨b, _, rfl⟩ := List.mem_map.mp hx
  rfl) (by decide)
theorem eqD_bools {bs cs : List Bool} {k : Bool → Prop} (hb : bs ≠ []) (hc : cs ≠ []) (h : k (decide (bs = cs))) : eqD (.list (bs.map .bool)) (.list (cs.map .bool)) k := by
  have h1 := shaped_bools bs
  have h2 := shaped_bools cs
  have h3 : PyData.eqv (.list (bs.map .bool)) (.list (cs.map .bool)) = decide (bs = cs) := by
    simp only [PyData.eqv]
    exact eqvAll_bools bs cs
  match bs, cs, hb, hc with
  | [], _, hb, _ => exact absurd rfl hb
  | _, [], _, hc => exact absurd rfl hc
  | b :: bs, c :: cs, _, _ =>
    show SeqAt.shaped _ = true ∧ SeqAt.shaped _ = true ∧ k _
    have e : k (PyData.eqv (.list ((b :: bs).map .bool)) (.list ((c :: cs).map .bool))) := by rw [h3]; exact h
    exact ⟨h1, h2, e⟩
theorem ten30' : (10 : Nat) ^ 30 = 1000000000000000000000000000000 := by decide
theorem rkI {i : Int} (h : -1000000000000000000000000000 < i ∧ i < 1000000000000000000000000000) : Rk 0 31 (.int i) := Rk.int (by rw [ten30']; omega)
theorem rk_ring {n : Int} {as : List (Int × Int)} (ok : RingOk n as) : Rk 3 3100 (ringD n as) := by
  have n1 := ok.n1
  have n40 := ok.n40
  have ha : ∀ x ∈ as.map arcD, Rk 1 69 x := fun x hx => by
    obtain ⟨a, ha, rfl⟩ := List.mem_map.mp hx
    obtain ⟨h1, h2, h3, h4⟩ := ok.arcs a ha
    refine Rk.tuple' (k := 0) (w := 31) (m := 2) (fun y hy => ?_) (by simp) (by decide)
    simp only [List.mem_cons, List.not_mem_nil, or_false] at hy
    rcases hy with rfl | rfl
    · exact rkI (by omega)
    · exact rkI (by omega)
  have hl : Rk 2 1500 (.list (as.map arcD)) := Rk.list' ha (m := 20) (by rw [List.length_map]; exact ok.len) (by decide)
  refine Rk.tuple' (k := 2) (w := 1500) (m := 2) (fun y hy => ?_) (by simp) (by decide)
  simp only [List.mem_cons, List.not_mem_nil, or_false] at hy
  rcases hy with rfl | rfl
  · exact (rkI (by omega)).up
  · exact hl
/-- no number below another -/
structure NoNum (b : Int) (d : D) : Prop where
  no : isNumD d b = false
  rk : Rk 2 300 d
theorem no_int {b i : Int} (h : i < 0 ∨ b ≤ i) : isNumD (.int i) b = false := by
  rw [Bool.eq_false_iff]
  intro z
  obtain ⟨j, j0, j1, e⟩ := isNum_int.mp z
  cases e
  omega
theorem p25 : (10 : Int) ^ (25 : Int).toNat = 10000000000000000000000000 := by decide +kernel
theorem b200 {m : Nat} (h : m ≤ 200) : m ≤ big := by unfold big; omega
end Ac
namespace Ac
open PySem PySem.Spec PyProof.Rows L2 TL
/-! ### texts of rings: plain facts -/
def numS (i : Int) : Str := Str.ofString (toString i)
def sB : Str := " "
def sP : Str := "+"
def sF : Str := "0123456789"
theorem tl_sB : tl sB = 32 :: [] := by decide +kernel
theorem tl_sP : tl sP = 43 :: [] := by decide +kernel
theorem tl_sF : tl sF = [48, 49, 50, 51, 52, 53, 54, 55, 56, 57] := by decide +kernel
theorem sB_eq : sB = ⟨#[32]⟩ := by decide +kernel
theorem sP_eq : sP = ⟨#[43]⟩ := by decide +kernel
theorem mem_sF {c : Nat} : c ∈ sF.cps.toList ↔ 48 ≤ c ∧ c ≤ 57 := by
  show c ∈ tl sF ↔ _
  rw [tl_sF]
  simp only [List.mem_cons, List.not_mem_nil, or_false]
  omega
theorem toStrD_i {i : Int} {k : Val → Prop} : toStrD [.int i] k = (i.natAbs.log2 < 1920 ∧ k (.dat (.str (numS i)))) := rfl
theorem addD_s {x y : Str} {k : Val → Prop} : addD (.str x) (.str y) k = (x.length + y.length ≤ big ∧ k (.dat (.str (x ++ y)))) := rfl
theorem strX_s {z : Str} {P : Prop} : strX (.str z) P = P := rfl
theorem tl_numS {i : Int} (h : 0 ≤ i) : tl (numS i) = numL i.toNat := by
  obtain ⟨n, rfl⟩ := Int.eq_ofNat_of_zero_le h
  exact tl_num n
theorem log2_sm {i : Int} (h : i.natAbs < 1000000) : i.natAbs.log2 < 1920 := by
  by_cases e : i.natAbs = 0
  · rw [e]; decide
  · have : i.natAbs.log2 < 20 := (Nat.log2_lt e).mpr (by omega)
    omega
theorem numS_len {i : Int} (h0 : 0 ≤ i) (h1 : i < 100) : (numS i).length ≤ 2 ∧ 1 ≤ (numS i).length := by
  rw [len_tl, tl_numS h0]
  have h := numL_len (n := i.toNat) (k := 2) (by decide) (by omega)
  have h2 := List.length_pos_iff.mpr (numL_ne i.toNat)
  omega
theorem numS_inj {i j : Int} (hi : 0 ≤ i) (hj : 0 ≤ j) (h : numS i = numS j) : i = j := by
  have e := congrArg tl h
  rw [tl_numS hi, tl_numS hj] at e
  have := numL_inj e
  omega
def arcS (a : Int × Int) : Str := numS a.1 ++ sP ++ numS a.2
def showS (n : Int) (as : List (Int × Int)) : Str := Txt.join sB (numS n :: as.map arcS)
theorem tl_arcS {a : Int × Int} (h1 : 0 ≤ a.1) (h2 : 0 ≤ a.2) : tl (arcS a) = numL a.1.toNat ++ 43 :: numL a.2.toNat := by
  unfold arcS
  rw [tl_append, tl_append, tl_numS h1, tl_numS h2, tl_sP, List.append_assoc]
  rfl
theorem arcS_free {a : Int × Int} (h1 : 0 ≤ a.1) (h2 : 0 ≤ a.2) : 32 ∉ tl (arcS a) := by
  rw [tl_arcS h1 h2]
  intro h
  rcases List.mem_append.mp h with h | h
  · exact numL_free (.inl (by decide)) h
  · rcases List.mem_cons.mp h with h | h
    · cases h
    · exact numL_free (.inl (by decide)) h
theorem arcS_len {a : Int × Int} (h1 : 0 ≤ a.1 ∧ a.1 < 100) (h2 : 0 ≤ a.2 ∧ a.2 < 100) : (arcS a).length ≤ 5 := by
  have e1 := numS_len h1.1 h1.2
  have e2 := numS_len h2.1 h2.2
  rw [len_tl, tl_numS h1.1] at e1
  rw [len_tl, tl_numS h2.1] at e2
  rw [len_tl, tl_arcS h1.1 h2.1, List.length_append, List.length_cons]
  omega
def Pos0 (as : List (Int × Int)) : Prop := ∀ a ∈ as, 0 ≤ a.1 ∧ 0 ≤ a.2
theorem split_showS {n : Int} {as : List (Int × Int)} (hn : 0 ≤ n) (ha : Pos0 as) : Txt.split (showS n as) sB = numS n :: as.map arcS :=
  split_join tl_sB (by decide +kernel) (List.cons_ne_nil _ _) fun p hp => by
    rcases List.mem_cons.mp hp with rfl | hp
    · rw [tl_numS hn]
      exact numL_free (.inl (by decide))
    · obtain ⟨a, ha', rfl⟩ := List.mem_map.mp hp
      exact arcS_free (ha a ha').1 (ha a ha').2
theorem part_arcS {a : Int × Int} (h1 : 0 ≤ a.1) : Txt.partition (arcS a) sP = (numS a.1, sP, numS a.2) :=
  partition_app tl_sP (by rw [tl_numS h1]; exact numL_free (.inl (by decide)))
theorem int_numS {i : Int} (h0 : 0 ≤ i) (h1 : i < 100) : PySem.intText? (numS i) = some i := by
  obtain ⟨n, rfl⟩ := Int.eq_ofNat_of_zero_le h0
  exact int_num (Nat.le_trans (numL_len (n := n) (k := 2) (by decide) (by omega)) (by decide))
theorem arcS_inj {a b : Int × Int} (ha : 0 ≤ a.1 ∧ 0 ≤ a.2) (hb : 0 ≤ b.1 ∧ 0 ≤ b.2) (h : arcS a = arcS b) : a = b := by
  have e := congrArg (fun z => Txt.partition z sP) h
  simp only [part_arcS ha.1, part_arcS hb.1] at e
  have e1 := numS_inj ha.1 hb.1 (congrArg (·.1) e)
  have e2 := numS_inj ha.2 hb.2 (congrArg (·.2.2) e)
  exact Prod.ext e1 e2
theorem map_arcS_inj : ∀ {as bs : List (Int × Int)}, Pos0 as → Pos0 bs → as.map arcS = bs.map arcS → as = bs
  | [], [], _, _, _ => rfl
  | [], _ :: _, _, _, h => by cases h
  | _ :: _, [], _, _, h => by cases h
  | a :: as, b :: bs, ha, hb, h => by
    rw [List.map_cons, List.map_cons] at h
    obtain ⟨h1, h2⟩ := List.cons.inj h
    rw [arcS_inj (ha a List.mem_cons_self) (hb b List.mem_cons_self) h1, map_arcS_inj (fun x hx => ha x (List.mem_cons_of_mem _ hx)) (fun x hx => hb x (List.mem_cons_of_mem _ hx)) h2]
theorem showS_inj {n m : Int} {as bs : List (Int × Int)} (hn : 0 ≤ n) (hm : 0 ≤ m) (ha : Pos0 as) (hb : Pos0 bs) (h : showS n as = showS m bs) : n = m ∧ as = bs := by
  have e := congrArg (fun z => Txt.split z sB) h
  simp only [split_showS hn ha, split_showS hm hb] at e
  obtain ⟨h1, h2⟩ := List.cons.inj e
  exact ⟨numS_inj hn hm h1, map_arcS_inj ha hb h2⟩
theorem RingOk.pos {n : Int} {as : List (Int × Int)} (ok : RingOk n as) : 0 ≤ n ∧ Pos0 as := ⟨by have := ok.n1; omega, fun a ha => by
  obtain ⟨h1, h2, h3, h4⟩ := ok.arcs a ha
  omega⟩
theorem showS_ring {n m : Int} {as bs : List (Int × Int)} (h1 : RingOk n as) (h2 : RingOk m bs) (h : showS n as = showS m bs) : n = m ∧ as = bs := showS_inj h1.pos.1 h2.pos.1 h1.pos.2 h2.pos.2 h
theorem joinL_len {S : List Nat} {m : Nat} : ∀ {ps : List (List Nat)}, (∀ p ∈ ps, p.length ≤ m) → (joinL S ps).length ≤ ps.length * (m + S.length)
  | [], _ => by simp [joinL]
  | [p], h => by
    have := h p List.mem_cons_self
    simp only [joinL, List.length_singleton, Nat.one_mul]
    omega
  | p :: q :: r, h => by
    have h1 := h p List.mem_cons_self
    have h2 := joinL_len (S := S) (ps := q :: r) fun x hx => h x (List.mem_cons_of_mem _ hx)
    simp only [joinL, List.length_append, List.length_cons] at h2 ⊢
    have : (r.length + 1 + 1) * (m + S.length) = (r.length + 1) * (m + S.length) + (m + S.length) := Nat.succ_mul _ _
    omega
theorem tl_showS (n : Int) (as : List (Int × Int)) : tl (showS n as) = joinL [32] (tl (numS n) :: as.map fun a => tl (arcS a)) := by
  unfold showS
  rw [join_eq, tl_join, tl_sB, List.map_cons, List.map_map]
  rfl
theorem showS_len {n : Int} {as : List (Int × Int)} (ok : RingOk n as) : (showS n as).length ≤ 126 := by
  have n1 := ok.n1
  have n40 := ok.n40
  rw [len_tl, tl_showS]
  refine Nat.le_trans (joinL_len (m := 5) fun p hp => ?_) ?_
  · rcases List.mem_cons.mp hp with rfl | hp
    · rw [← len_tl]
      have := numS_len (i := n) (by omega) (by omega)
      omega
    · obtain ⟨a, ha, rfl⟩ := List.mem_map.mp hp
      obtain ⟨h1, h2, h3, h4⟩ := ok.arcs a ha
      rw [← len_tl]
      exact arcS_len (by omega) (by omega)
  · rw [List.length_cons, List.length_map]
    have := ok.len
    simp only [List.length_singleton]
    omega
/-- what join asks for -/
theorem join_room {n : Int} {as : List (Int × Int)} (ok : RingOk n as) : ((numS n :: as.map arcS).map (·.length)).sum + (numS n :: as.map arcS).length * sB.length ≤ big := by
  have n1 := ok.n1
  have n40 := ok.n40
  have hl := ok.len
  have hs : ∀ l : List Nat, (∀ x ∈ l, x ≤ 5) → l.sum ≤ l.length * 5 := fun l => by
    induction l with
    | nil => simp
    | cons a l ih =>
      intro h
      have h1 := h a List.mem_cons_self
      have h2 := ih fun x hx => h x (List.mem_cons_of_mem _ hx)
      rw [List.sum_cons, List.length_cons]
      omega
  have h1 : ((numS n :: as.map arcS).map (·.length)).sum ≤ ((numS n :: as.map arcS).map (·.length)).length * 5 := hs _ fun x hx => by
    obtain ⟨p, hp, rfl⟩ := List.mem_map.mp hx
    rcases List.mem_cons.mp hp with rfl | hp
    · have := numS_len (i := n) (by omega) (by omega)
      omega
    · obtain ⟨a, ha, rfl⟩ := List.mem_map.mp hp
      obtain ⟨h1, h2, h3, h4⟩ := ok.arcs a ha
      exact arcS_len (by omega) (by omega)
  have h2 : sB.length = 1 := by decide +kernel
  rw [List.length_map, List.length_cons, List.length_map] at h1
  rw [h2, List.length_cons, List.length_map]
  unfold big
  omega
/-- one or two figures -/
def figB (w : Str) : Bool := decide (1 ≤ w.length) && decide (w.length ≤ 2) && (signsD w).all fun d => match d with
  | .str c => decide (∀ x ∈ tl c, 48 ≤ x ∧ x ≤ 57)
  | _ => true
theorem figB_iff {w : Str} : figB w = true ↔ (1 ≤ w.length ∧ w.length ≤ 2) ∧ ∀ c ∈ tl w, 48 ≤ c ∧ c ≤ 57 := by
  unfold figB signsD
  rw [Bool.and_eq_true, Bool.and_eq_true, decide_eq_true_eq, decide_eq_true_eq, List.all_eq_true]
  refine and_congr Iff.rfl ⟨fun h c hc => ?_, fun h d hd => ?_⟩
  · have := h (signD c) (List.mem_map.mpr ⟨c, hc, rfl⟩)
    have := of_decide_eq_true this
    exact this c (by show c ∈ [c]; exact List.mem_cons_self)
  · obtain ⟨c, hc, rfl⟩ := List.mem_map.mp hd
    refine decide_eq_true fun x hx => ?_
    have : x ∈ [c] := hx
    rw [List.mem_singleton.mp this]
    exact h c hc
theorem figB_int {w : Str} (h : figB w = true) : ∃ i : Int, 0 ≤ i ∧ i < 100 ∧ PySem.intText? w = some i := by
  obtain ⟨⟨h1, h2⟩, h3⟩ := figB_iff.mp h
  refine ⟨((NumText.digitsVal (tl w) : Nat) : Int), by omega, ?_, intText_digits h3 (fun e => ?_) (by omega)⟩
  · rw [len_tl] at h1 h2
    generalize tl w = l at h1 h2 h3
    match l, h1, h2, h3 with
    | [a], _, _, h3 =>
      have := h3 a List.mem_cons_self
      unfold NumText.digitsVal
      simp only [List.foldl_cons, List.foldl_nil]
      omega
    | [a, b], _, _, h3 =>
      have := h3 a List.mem_cons_self
      have := h3 b (List.mem_cons_of_mem _ List.mem_cons_self)
      unfold NumText.digitsVal
      simp only [List.foldl_cons, List.foldl_nil]
      omega
    | [], h1, _, _ => exact absurd h1 (by simp)
    | _ :: _ :: _ :: _, _, h2, _ => exact absurd h2 (by simp)
  · rw [len_tl] at h1
    have e : tl w = [] := e
    rw [e] at h1
    exact absurd h1 (by simp)
theorem figB_num {i : Int} (h0 : 0 ≤ i) (h1 : i < 100) : figB (numS i) = true := by
  rw [figB_iff, and_comm]
  refine ⟨fun c hc => ?_, ?_⟩
  · rw [tl_numS h0] at hc
    exact numL_digits _ c hc
  · have := numS_len h0 h1
    omega
/-- one or two figures, no 0 ahead: a number's own writing -/
def figN (w : Str) : Prop := figB w = true ∧ (w.length = 2 → ∀ c r, tl w = c :: r → c ≠ 48)
theorem figN_num {i : Int} (h0 : 0 ≤ i) (h1 : i < 100) : figN (numS i) := by
  refine ⟨figB_num h0 h1, fun hl c r e => ?_⟩
  rw [tl_numS h0] at e
  rw [len_tl, tl_numS h0] at hl
  by_cases h : i.toNat < 10
  · rw [numL_lt h] at hl
    cases hl
  · rw [numL_step (by omega), numL_lt (n := i.toNat / 10) (by omega)] at e
    have := (List.cons.inj e).1
    omega
theorem figN_eq {w : Str} (h : figN w) {i : Int} (hi : PySem.intText? w = some i) : 0 ≤ i ∧ i < 100 ∧ w = numS i := by
  obtain ⟨hf, h0⟩ := h
  obtain ⟨j, j0, j1, hj⟩ := figB_int hf
  rw [hi] at hj
  cases hj
  obtain ⟨⟨h1, h2⟩, h3⟩ := figB_iff.mp hf
  have hv : PySem.intText? w = some ((NumText.digitsVal (tl w) : Nat) : Int) := intText_digits h3 (fun e => by
    rw [len_tl] at h1
    have e : tl w = [] := e
    rw [e] at h1
    exact absurd h1 (by simp)) (by omega)
  rw [hi] at hv
  have hv := Option.some.inj hv
  refine ⟨j0, j1, ext_tl ?_⟩
  rw [tl_numS j0]
  have hn : i.toNat = NumText.digitsVal (tl w) := by omega
  rw [hn]
  rw [len_tl] at h1 h2 h0
  generalize tl w = l at h1 h2 h3 h0
  match l, h1, h2, h3, h0 with
  | [a], _, _, h3, _ =>
    have := h3 a List.mem_cons_self
    unfold NumText.digitsVal
    simp only [List.foldl_cons, List.foldl_nil]
    rw [numL_lt (by omega)]
    congr 1
    omega
  | [a, b], _, _, h3, h0 =>
    have ha := h3 a List.mem_cons_self
    have hb := h3 b (List.mem_cons_of_mem _ List.mem_cons_self)
    have hz := h0 rfl a [b] rfl
    unfold NumText.digitsVal
    simp only [List.foldl_cons, List.foldl_nil]
    rw [numL_step (by omega), numL_lt (by omega)]
    simp only [List.cons_append, List.nil_append, List.cons.injEq, and_true]
    omega
  | [], h1, _, _, _ => exact absurd h1 (by simp)
  | _ :: _ :: _ :: _, _, h2, _, _ => exact absurd h2 (by simp)
/-- a text that writes a ring -/
def Writes (z : Str) (n : Int) (as : List (Int × Int)) : Prop := RingOk n as ∧ z = showS n as
theorem Writes.uniq {z : Str} {n m : Int} {as bs : List (Int × Int)} (h1 : Writes z n as) (h2 : Writes z m bs) : n = m ∧ as = bs := showS_ring h1.1 h2.1 (h1.2.symm.trans h2.2)
/-- the parts of a text, put together again -/
theorem split_back {z : Str} {ps : List Str} (h : Txt.split z sB = ps) : z = Txt.join sB ps := by
  rw [← h, join_eq]
  exact (StrLaws.join_split z sB).symm
theorem split_plus {w a b : Str} (h : Txt.split w sP = [a, b]) : w = a ++ sP ++ b := by
  have e := StrLaws.join_split w sP
  rw [h] at e
  rw [← e]
  apply ext_tl
  rw [tl_join, tl_append, tl_append]
  simp only [List.map_cons, List.map_nil, joinL, List.append_assoc]
theorem split_arcS {a : Int × Int} (h : 0 ≤ a.1 ∧ 0 ≤ a.2) : Txt.split (arcS a) sP = [numS a.1, numS a.2] := by
  have e : arcS a = Txt.join sP [numS a.1, numS a.2] := by
    apply ext_tl
    rw [join_eq, tl_join, tl_sP, tl_arcS h.1 h.2]
    simp only [List.map_cons, List.map_nil, joinL, tl_numS h.1, tl_numS h.2, List.append_assoc]
    rfl
  rw [e]
  refine split_join tl_sP (by decide +kernel) (List.cons_ne_nil _ _) fun p hp => ?_
  simp only [List.mem_cons, List.not_mem_nil, or_false] at hp
  rcases hp with rfl | rfl
  · rw [tl_numS h.1]; exact numL_free (.inl (by decide))
  · rw [tl_numS h.2]; exact numL_free (.inl (by decide))
end Ac
namespace Ac
open PySem PySem.Spec PyProof.Rows L2
theorem modR {a m : Int} (h : 0 < m) : 0 ≤ a % m ∧ a % m < m := ⟨Int.emod_nonneg _ (by omega), Int.emod_lt_of_pos _ h⟩
theorem ixD_anyR {xs : List D} {i : Int} {k : D → Prop} (h0 : -(xs.length : Int) ≤ i) (h1 : i < xs.length) (h : ∀ x ∈ xs, k x) : ixD xs i k := by
  by_cases hi : 0 ≤ i
  · exact ixD_any hi h1 h
  · unfold ixD ixN
    rw [if_neg hi, if_pos h0]
    have hl : (i + (xs.length : Int)).toNat < xs.length := by omega
    show (match xs[(i + (xs.length : Int)).toNat]? with | some d => k d | none => False)
    rw [List.getElem?_eq_getElem hl]
    exact h _ (List.getElem_mem hl)
theorem cmulR {i j : Int} (h0 : -18446744073709551616 < i) (h1 : i < 18446744073709551616) : CMul i j := .inl ⟨by simpa using h0, by simpa using h1⟩
/-! ### cells and rings: any ring of so many places and arcs may come -/
def S_law_cell : Summ where
  run ds Q _ := ∃ (ns : List Int) (k : Int), ds = [.list (ns.map .int), .int k] ∧ (0 ≤ k ∧ k < 100) ∧ ∀ c : Int, Q (.dat (.int c))
  mono := fun h1 _ ⟨ns, k, e, hk, q⟩ => ⟨ns, k, e, hk, fun c => h1 _ (q c)⟩
theorem call_cellT {ns : List Int} {k : Int} {Q : Val → Prop} {Y : Nat → Prop} (h0 : 0 ≤ k) (h1 : k < 100) (h : ∀ c : Int, Q (.dat (.int c))) : S_law_cell.run [.list (ns.map .int), .int k] Q Y := ⟨ns, k, rfl, ⟨h0, h1⟩, h⟩
def tr_law_cell : Sms Unit :=
  (.cons (.ite (.cmp .Lt (.var 1) (.bi .len (.cons (.var 0) .nil)))
    (.cons (.one (.ret (.ix (.var 0) (.var 1))))
    .nil)
    .nil)
    (.cons (.one (.ret (.op .Add (.op .Add (.op .Mult (.op .Mult (.int 83) (.var 1)) (.var 1)) (.op .Mult (.int 67) (.var 1))) (.int 17))))
    .nil))

theorem w_law_cell : WOk S_law_cell 2 2 tr_law_cell := fun ds Q Y h => by
  obtain ⟨ns, k, rfl, ⟨h0, h1⟩, h⟩ := h
  refine ⟨rfl, ?_⟩
  unfold tr_law_cell
  simp only [backV, wSs, wS, w1, wT, wE, wA, wX, wV, wP, wC, opn, rdO_d, rdO_o, asD_d, asD_n, KQY, entry, look, put, slotV, argsOk, frzA, frzV, sv_i, sv_b, sv_s, sv_0, sv_l, sv_t, sv_d, sv_n, List.map, List.length, List.replicate, List.cons_append, List.nil_append, Nat.sub_self, biD, isD_1, boolD_b, cmpD, relD_i, opD, addD_i, addD_l, subD_i, intD_i, lenD_l, lenD_t, listD_l, listD_t, tupleD_l, int2D_i, absD_i, toIntD_i, toIntD_b, eqD_i, eqD_b, eqD_s, rngD_1, rngD_2, seqD_l, seqD_t, lstD_l, ixX_l, ixX_t, negX_i, slX_l, rvX_l, repX_i, intX_i, ixD_0, ixD_1, ixD_2, true_and, and_true, ite_self, List.length_map]
  by_cases hc : k < ns.length
  · simp only [hc, decide_true, if_true]
    rw [ixD_nat (j := k.toNat) (by omega) (by rw [List.getElem?_map, List.getElem?_eq_getElem (by omega)]; rfl)]
    exact h _
  · simp only [hc, decide_false, Bool.false_eq_true, if_false]
    exact ⟨cmulR (by decide) (by decide), cmulR (by omega) (by omega), cmulR (by decide) (by decide), h _⟩
theorem cmulR2 {i j : Int} (h0 : -18446744073709551616 < j) (h1 : j < 18446744073709551616) : CMul i j := .inr ⟨by simpa using h0, by simpa using h1⟩
def S_law_mixed : Summ where
  run ds Q _ := ∃ c k : Int, ds = [.int c, .int k] ∧ (0 ≤ k ∧ k < 1000) ∧ ∀ c : Int, Q (.dat (.int c))
  mono := fun h1 _ ⟨ns, k, e, hk, q⟩ => ⟨ns, k, e, hk, fun c => h1 _ (q c)⟩
theorem call_mixed {c k : Int} {Q : Val → Prop} {Y : Nat → Prop} (h0 : 0 ≤ k) (h1 : k < 1000) (h : ∀ c : Int, Q (.dat (.int c))) : S_law_mixed.run [.int c, .int k] Q Y := ⟨c, k, rfl, ⟨h0, h1⟩, h⟩
def tr_law_mixed : Sms Unit :=
  (.cons (.one (.asg 2 (.op .Mod (.op .Add (.op .Add (.op .Add (.op .Mult (.var 0) (.int 48271)) (.op .Mult (.op .Mult (.int 7919) (.var 1)) (.var 1))) (.op .Mult (.int 104729) (.var 1))) (.int 11)) (.int 2147483647))))
    (.cons (.one (.asg 2 (.op .Mod (.op .Mult (.var 2) (.var 2)) (.int 2147483629))))
    (.cons (.one (.ret (.op .Add (.op .Mult (.var 2) (.int 16807)) (.op .Mod (.var 0) (.int 5)))))
    .nil)))

theorem w_law_mixed : WOk S_law_mixed 2 3 tr_law_mixed := fun ds Q Y h => by
  obtain ⟨c, k, rfl, ⟨h0, h1⟩, h⟩ := h
  refine ⟨rfl, ?_⟩
  unfold tr_law_mixed
  simp only [backV, wSs, wS, w1, wT, wE, wA, wX, wV, wP, wC, opn, rdO_d, rdO_o, asD_d, asD_n, KQY, entry, look, put, slotV, argsOk, frzA, frzV, sv_i, sv_b, sv_s, sv_0, sv_l, sv_t, sv_d, sv_n, List.map, List.length, List.replicate, List.cons_append, List.nil_append, Nat.sub_self, biD, isD_1, boolD_b, cmpD, relD_i, opD, addD_i, addD_l, subD_i, intD_i, lenD_l, lenD_t, listD_l, listD_t, tupleD_l, int2D_i, absD_i, toIntD_i, toIntD_b, eqD_i, eqD_b, eqD_s, rngD_1, rngD_2, seqD_l, seqD_t, lstD_l, ixX_l, ixX_t, negX_i, slX_l, rvX_l, repX_i, intX_i, ixD_0, ixD_1, ixD_2, true_and, and_true, ite_self]
  have m1 := modR (a := c * 48271 + 7919 * k * k + 104729 * k + 11) (m := 2147483647) (by decide)
  exact ⟨cmulR2 (by decide) (by decide), cmulR (by decide) (by decide), cmulR (by omega) (by omega), cmulR (by decide) (by decide), by decide, cmulR (by omega) (by omega), by decide, cmulR2 (by decide) (by decide), by decide, h _⟩
def S_law_ring : Summ where
  run ds Q _ := ∃ c p m : Int, ds = [.int c, .int p, .int m] ∧ (1 ≤ p ∧ p ≤ 40 ∧ 0 ≤ m ∧ m ≤ 20) ∧ ∀ n as, RingOk n as → n ≤ p → (as.length : Int) ≤ m → Q (.dat (ringD n as))
  mono := fun h1 _ ⟨c, p, m, e, hb, q⟩ => ⟨c, p, m, e, hb, fun n as a b c => h1 _ (q n as a b c)⟩
theorem call_ringT {c p m : Int} {Q : Val → Prop} {Y : Nat → Prop} (hb : 1 ≤ p ∧ p ≤ 40 ∧ 0 ≤ m ∧ m ≤ 20) (h : ∀ n as, RingOk n as → n ≤ p → (as.length : Int) ≤ m → Q (.dat (ringD n as))) : S_law_ring.run [.int c, .int p, .int m] Q Y := ⟨c, p, m, rfl, hb, h⟩
def tr_law_ring_r1 : Sms Unit :=
  (.cons (.one (.app 5 (.tp (.cons (.var 8) (.cons (.var 9) .nil)))))
    .nil)
def tr_law_ring_r2 : Sms Unit :=
  (.cons (.ite (.an (.cmp .Eq (.var 4) (.int 4)) (.cmp .NotEq (.var 5) (.ls .nil)))
    (.cons (.one (.asg 8 (.op .Mod (.op .Add (.ix (.ix (.var 5) (.neg (.int 1))) (.int 0)) (.op .Mod (.op .FloorDiv (.var 7) (.int 40000)) (.int 2))) (.var 3))))
    (.cons (.one (.asg 9 (.bi .max2 (.cons (.int 1) (.cons (.op .Sub (.ix (.ix (.var 5) (.neg (.int 1))) (.int 1)) (.op .Mod (.op .FloorDiv (.var 7) (.int 90000)) (.int 3))) .nil)))))
    .nil))
    .nil)
    tr_law_ring_r1)
def tr_law_ring_r3 : Sms Unit :=
  (.cons (.ite (.an (.cmp .Eq (.var 4) (.int 3)) (.cmp .NotEq (.var 5) (.ls .nil)))
    (.cons (.one (.asg 8 (.op .Mod (.op .Add (.ix (.ix (.var 5) (.neg (.int 1))) (.int 0)) (.ix (.ix (.var 5) (.neg (.int 1))) (.int 1))) (.var 3))))
    (.cons (.one (.asg 9 (.op .Add (.int 1) (.op .Mod (.op .FloorDiv (.var 7) (.int 500)) (.bi .max2 (.cons (.int 1) (.cons (.op .FloorDiv (.var 3) (.int 4)) .nil)))))))
    .nil))
    .nil)
    tr_law_ring_r2)
def tr_law_ring_r4 : Sms Unit :=
  (.cons (.ite (.cmp .Eq (.var 4) (.int 2))
    (.cons (.one (.asg 9 (.op .Sub (.var 3) (.op .Mod (.op .FloorDiv (.var 7) (.int 500)) (.bi .max2 (.cons (.int 1) (.cons (.op .FloorDiv (.var 3) (.int 4)) .nil)))))))
    .nil)
    .nil)
    tr_law_ring_r3)
def tr_law_ring_b1 : Sms Unit :=
  (.cons (.one (.asg 7 (.call "_law_mixed" S_law_mixed (.cons (.var 0) (.cons (.var 6) .nil)))))
    (.cons (.one (.asgP 8 9 (.op .Mod (.op .FloorDiv (.var 7) (.int 11)) (.var 3)) (.op .Add (.int 1) (.op .Mod (.op .FloorDiv (.var 7) (.int 500)) (.var 3)))))
    (.cons (.ite (.cmp .Eq (.var 4) (.int 1))
    (.cons (.one (.asg 9 (.op .Add (.int 1) (.op .Mod (.op .FloorDiv (.var 7) (.int 500)) (.bi .max2 (.cons (.int 1) (.cons (.op .FloorDiv (.var 3) (.int 3)) .nil)))))))
    .nil)
    .nil)
    tr_law_ring_r4)))
def tr_law_ring : Sms Unit :=
  (.cons (.one (.asg 3 (.op .Add (.int 1) (.op .Mod (.var 0) (.var 1)))))
    (.cons (.one (.asg 4 (.op .Mod (.op .FloorDiv (.var 0) (.var 1)) (.int 5))))
    (.cons (.one (.asg 5 (.ls .nil)))
    (.cons (.for (.nm 6) (.rng (.cons (.op .Mod (.op .FloorDiv (.var 0) (.op .Mult (.int 5) (.var 1))) (.op .Add (.var 2) (.int 1))) .nil))
    tr_law_ring_b1)
    (.cons (.one (.ret (.tp (.cons (.var 3) (.cons (.var 5) .nil)))))
    .nil)))))

section
variable {K : Kn Unit} {s : Unit} {n c kind one pm pq : Int} {as : List (Int × Int)} {k : Option Val}
abbrev rctx (c pm pq n kind : Int) (as : List (Int × Int)) (k x7 x8 x9 : Option Val) : Ctx := [some (.dat (.int c)), some (.dat (.int pm)), some (.dat (.int pq)), some (.dat (.int n)), some (.dat (.int kind)), some (.own (as.map arcD)), k, x7, x8, x9]
theorem ringT_r1 {st m : Int} {x7 : Option Val} (ha : arcOk n (st, m)) (hl : as.length ≤ 20) (hK : ∀ (a : Int × Int) (x7 x8 x9 : Option Val), arcOk n a → K.nx (rctx c pm pq n kind (as ++ [a]) k x7 x8 x9) ()) :
    wSs tr_law_ring_r1 (rctx c pm pq n kind as k x7 (some (.dat (.int st))) (some (.dat (.int m)))) s K := by
  unfold tr_law_ring_r1 rctx
  simp only [backV, wSs, wS, w1, wT, wE, wA, wX, wV, wP, wC, opn, rdO_d, rdO_o, asD_d, asD_n, KQY, entry, look, put, slotV, argsOk, frzA, frzV, sv_i, sv_b, sv_s, sv_0, sv_l, sv_t, sv_d, sv_n, List.map, List.length, List.replicate, List.cons_append, List.nil_append, Nat.sub_self, biD, isD_1, boolD_b, cmpD, relD_i, opD, addD_i, addD_l, subD_i, intD_i, lenD_l, lenD_t, listD_l, listD_t, tupleD_l, int2D_i, absD_i, toIntD_i, toIntD_b, eqD_i, eqD_b, eqD_s, rngD_1, rngD_2, seqD_l, seqD_t, lstD_l, ixX_l, ixX_t, negX_i, slX_l, rvX_l, repX_i, intX_i, ixD_0, ixD_1, ixD_2, true_and, and_true, ite_self]
  refine ⟨by unfold big; decide, by rw [List.length_map]; unfold big; omega, ?_⟩
  have := hK (st, m) x7 (some (.dat (.int st))) (some (.dat (.int m))) ha
  unfold rctx at this
  simp only [List.map_append] at this
  exact this
theorem last_arc {as : List (Int × Int)} (hne : as ≠ []) (has : ∀ a ∈ as, arcOk n a) {k : D → Prop} (h : ∀ a, arcOk n a → k (arcD a)) : ixD (as.map arcD) (-1) k := by
  have hp := List.length_pos_iff.mpr hne
  refine ixD_anyR (by rw [List.length_map]; omega) (by rw [List.length_map]; omega) fun y hy => ?_
  obtain ⟨a, ha, rfl⟩ := List.mem_map.mp hy
  exact h a (has a ha)
theorem ringT_r2 {st m : Int} (n1 : 1 ≤ n) (n9 : n ≤ 40) (has : ∀ a ∈ as, arcOk n a) (ha : arcOk n (st, m)) (hl : as.length ≤ 20) (hK : ∀ (a : Int × Int) (x7 x8 x9 : Option Val), arcOk n a → K.nx (rctx c pm pq n kind (as ++ [a]) k x7 x8 x9) ()) :
    wSs tr_law_ring_r2 (rctx c pm pq n kind as k (some (.dat (.int one))) (some (.dat (.int st))) (some (.dat (.int m)))) s K := by
  have go := fun st m ha => ringT_r1 (K := K) (s := ()) (n := n) (c := c) (pm := pm) (pq := pq) (kind := kind) (as := as) (k := k) (st := st) (m := m) (x7 := some (.dat (.int one))) ha hl hK
  unfold tr_law_ring_r2
  generalize tr_law_ring_r1 = r1 at go
  unfold rctx at go ⊢
  simp only [backV, wSs, wS, w1, wT, wE, wA, wX, wV, wP, wC, opn, rdO_d, rdO_o, asD_d, asD_n, KQY, entry, look, put, slotV, argsOk, frzA, frzV, sv_i, sv_b, sv_s, sv_0, sv_l, sv_t, sv_d, sv_n, List.map, List.length, List.replicate, List.cons_append, List.nil_append, Nat.sub_self, biD, isD_1, boolD_b, cmpD, relD_i, opD, addD_i, addD_l, subD_i, intD_i, lenD_l, lenD_t, listD_l, listD_t, tupleD_l, int2D_i, absD_i, toIntD_i, toIntD_b, eqD_i, eqD_b, eqD_s, rngD_1, rngD_2, seqD_l, seqD_t, lstD_l, ixX_l, ixX_t, negX_i, slX_l, rvX_l, repX_i, intX_i, ixD_0, ixD_1, ixD_2, true_and, and_true, ite_self, eqD_nil]
  by_cases hk : kind = 4 ∧ as ≠ []
  · have e1 : (!(as.map arcD).isEmpty) = true := by rw [notEmpty_iff]; simpa using hk.2
    simp only [hk.1, decide_true, if_true, e1]
    refine ⟨Nat.zero_le _, ?_⟩
    refine last_arc hk.2 has fun a ok => ?_
    obtain ⟨b, h⟩ := a
    obtain ⟨b0, b1, h1, h2⟩ := ok
    dsimp only at b0 b1 h1 h2
    simp only [arcD, backV, wSs, wS, w1, wT, wE, wA, wX, wV, wP, wC, opn, rdO_d, rdO_o, asD_d, asD_n, KQY, entry, look, put, slotV, argsOk, frzA, frzV, sv_i, sv_b, sv_s, sv_0, sv_l, sv_t, sv_d, sv_n, List.map, List.length, List.replicate, List.cons_append, List.nil_append, Nat.sub_self, biD, isD_1, boolD_b, cmpD, relD_i, opD, addD_i, addD_l, subD_i, intD_i, lenD_l, lenD_t, listD_l, listD_t, tupleD_l, int2D_i, absD_i, toIntD_i, toIntD_b, eqD_i, eqD_b, eqD_s, rngD_1, rngD_2, seqD_l, seqD_t, lstD_l, ixX_l, ixX_t, negX_i, slX_l, rvX_l, repX_i, intX_i, ixD_0, ixD_1, ixD_2, true_and, and_true, ite_self]
    refine ⟨by decide, by decide, by omega, ?_⟩
    refine last_arc hk.2 has fun a ok => ?_
    obtain ⟨b2, g⟩ := a
    obtain ⟨c0, c1, g1, g2⟩ := ok
    dsimp only at c0 c1 g1 g2
    simp only [arcD, backV, wSs, wS, w1, wT, wE, wA, wX, wV, wP, wC, opn, rdO_d, rdO_o, asD_d, asD_n, KQY, entry, look, put, slotV, argsOk, frzA, frzV, sv_i, sv_b, sv_s, sv_0, sv_l, sv_t, sv_d, sv_n, List.map, List.length, List.replicate, List.cons_append, List.nil_append, Nat.sub_self, biD, isD_1, boolD_b, cmpD, relD_i, opD, addD_i, addD_l, subD_i, intD_i, lenD_l, lenD_t, listD_l, listD_t, tupleD_l, int2D_i, absD_i, toIntD_i, toIntD_b, eqD_i, eqD_b, eqD_s, rngD_1, rngD_2, seqD_l, seqD_t, lstD_l, ixX_l, ixX_t, negX_i, slX_l, rvX_l, repX_i, intX_i, ixD_0, ixD_1, ixD_2, true_and, and_true, ite_self]
    have m1 := modR (a := b + one / 40000 % 2) (m := n) (by omega)
    have m2 := modR (a := one / 90000) (m := 3) (by omega)
    refine ⟨by decide, by decide, ?_⟩
    exact hk.1 ▸ go _ _ ⟨m1.1, m1.2, by dsimp only; split <;> omega, by dsimp only; split <;> omega⟩
  · by_cases h4 : kind = 4
    · have hn : as = [] := by
        by_cases h : as = []
        · exact h
        · exact absurd ⟨h4, h⟩ hk
      subst hn h4
      simp only [decide_true, if_true, List.map_nil, List.isEmpty_nil, Bool.not_true, Bool.false_eq_true, if_false]
      exact ⟨Nat.zero_le _, go st m ha⟩
    · simp only [h4, decide_false, Bool.false_eq_true, if_false]
      exact go st m ha
theorem ringT_r3 {st m : Int} (n1 : 1 ≤ n) (n9 : n ≤ 40) (has : ∀ a ∈ as, arcOk n a) (ha : arcOk n (st, m)) (hl : as.length ≤ 20) (hK : ∀ (a : Int × Int) (x7 x8 x9 : Option Val), arcOk n a → K.nx (rctx c pm pq n kind (as ++ [a]) k x7 x8 x9) ()) :
    wSs tr_law_ring_r3 (rctx c pm pq n kind as k (some (.dat (.int one))) (some (.dat (.int st))) (some (.dat (.int m)))) s K := by
  have go := fun st m ha => ringT_r2 (K := K) (s := ()) (n := n) (c := c) (pm := pm) (pq := pq) (kind := kind) (one := one) (as := as) (k := k) (st := st) (m := m) n1 n9 has ha hl hK
  unfold tr_law_ring_r3
  generalize tr_law_ring_r2 = r1 at go
  unfold rctx at go ⊢
  simp only [backV, wSs, wS, w1, wT, wE, wA, wX, wV, wP, wC, opn, rdO_d, rdO_o, asD_d, asD_n, KQY, entry, look, put, slotV, argsOk, frzA, frzV, sv_i, sv_b, sv_s, sv_0, sv_l, sv_t, sv_d, sv_n, List.map, List.length, List.replicate, List.cons_append, List.nil_append, Nat.sub_self, biD, isD_1, boolD_b, cmpD, relD_i, opD, addD_i, addD_l, subD_i, intD_i, lenD_l, lenD_t, listD_l, listD_t, tupleD_l, int2D_i, absD_i, toIntD_i, toIntD_b, eqD_i, eqD_b, eqD_s, rngD_1, rngD_2, seqD_l, seqD_t, lstD_l, ixX_l, ixX_t, negX_i, slX_l, rvX_l, repX_i, intX_i, ixD_0, ixD_1, ixD_2, true_and, and_true, ite_self, eqD_nil]
  by_cases hk : kind = 3 ∧ as ≠ []
  · have e1 : (!(as.map arcD).isEmpty) = true := by rw [notEmpty_iff]; simpa using hk.2
    simp only [hk.1, decide_true, if_true, e1]
    refine ⟨Nat.zero_le _, ?_⟩
    refine last_arc hk.2 has fun a ok => ?_
    obtain ⟨b, h⟩ := a
    simp only [arcD, backV, wSs, wS, w1, wT, wE, wA, wX, wV, wP, wC, opn, rdO_d, rdO_o, asD_d, asD_n, KQY, entry, look, put, slotV, argsOk, frzA, frzV, sv_i, sv_b, sv_s, sv_0, sv_l, sv_t, sv_d, sv_n, List.map, List.length, List.replicate, List.cons_append, List.nil_append, Nat.sub_self, biD, isD_1, boolD_b, cmpD, relD_i, opD, addD_i, addD_l, subD_i, intD_i, lenD_l, lenD_t, listD_l, listD_t, tupleD_l, int2D_i, absD_i, toIntD_i, toIntD_b, eqD_i, eqD_b, eqD_s, rngD_1, rngD_2, seqD_l, seqD_t, lstD_l, ixX_l, ixX_t, negX_i, slX_l, rvX_l, repX_i, intX_i, ixD_0, ixD_1, ixD_2, true_and, and_true, ite_self]
    refine last_arc hk.2 has fun a ok => ?_
    obtain ⟨b2, g⟩ := a
    simp only [arcD, backV, wSs, wS, w1, wT, wE, wA, wX, wV, wP, wC, opn, rdO_d, rdO_o, asD_d, asD_n, KQY, entry, look, put, slotV, argsOk, frzA, frzV, sv_i, sv_b, sv_s, sv_0, sv_l, sv_t, sv_d, sv_n, List.map, List.length, List.replicate, List.cons_append, List.nil_append, Nat.sub_self, biD, isD_1, boolD_b, cmpD, relD_i, opD, addD_i, addD_l, subD_i, intD_i, lenD_l, lenD_t, listD_l, listD_t, tupleD_l, int2D_i, absD_i, toIntD_i, toIntD_b, eqD_i, eqD_b, eqD_s, rngD_1, rngD_2, seqD_l, seqD_t, lstD_l, ixX_l, ixX_t, negX_i, slX_l, rvX_l, repX_i, intX_i, ixD_0, ixD_1, ixD_2, true_and, and_true, ite_self]
    have m1 := modR (a := b + g) (m := n) (by omega)
    have hmx : 0 < (if n / 4 > 1 then n / 4 else 1) ∧ (if n / 4 > 1 then n / 4 else 1) ≤ n := by split <;> omega
    generalize (if n / 4 > 1 then n / 4 else 1) = mx at hmx ⊢
    have m2 := modR (a := one / 500) (m := mx) hmx.1
    refine ⟨by omega, ⟨by decide, by decide⟩, ⟨by decide, by decide⟩, hmx.1, ?_⟩
    exact hk.1 ▸ go _ _ ⟨m1.1, m1.2, by dsimp only; omega, by dsimp only; omega⟩
  · by_cases h4 : kind = 3
    · have hn : as = [] := by
        by_cases h : as = []
        · exact h
        · exact absurd ⟨h4, h⟩ hk
      subst hn h4
      simp only [decide_true, if_true, List.map_nil, List.isEmpty_nil, Bool.not_true, Bool.false_eq_true, if_false]
      exact ⟨Nat.zero_le _, go st m ha⟩
    · simp only [h4, decide_false, Bool.false_eq_true, if_false]
      exact go st m ha
theorem ringT_r4 {st m : Int} (n1 : 1 ≤ n) (n9 : n ≤ 40) (has : ∀ a ∈ as, arcOk n a) (ha : arcOk n (st, m)) (hl : as.length ≤ 20) (hK : ∀ (a : Int × Int) (x7 x8 x9 : Option Val), arcOk n a → K.nx (rctx c pm pq n kind (as ++ [a]) k x7 x8 x9) ()) :
    wSs tr_law_ring_r4 (rctx c pm pq n kind as k (some (.dat (.int one))) (some (.dat (.int st))) (some (.dat (.int m)))) s K := by
  have go := fun st m ha => ringT_r3 (K := K) (s := ()) (n := n) (c := c) (pm := pm) (pq := pq) (kind := kind) (one := one) (as := as) (k := k) (st := st) (m := m) n1 n9 has ha hl hK
  unfold tr_law_ring_r4
  generalize tr_law_ring_r3 = r1 at go
  unfold rctx at go ⊢
  simp only [backV, wSs, wS, w1, wT, wE, wA, wX, wV, wP, wC, opn, rdO_d, rdO_o, asD_d, asD_n, KQY, entry, look, put, slotV, argsOk, frzA, frzV, sv_i, sv_b, sv_s, sv_0, sv_l, sv_t, sv_d, sv_n, List.map, List.length, List.replicate, List.cons_append, List.nil_append, Nat.sub_self, biD, isD_1, boolD_b, cmpD, relD_i, opD, addD_i, addD_l, subD_i, intD_i, lenD_l, lenD_t, listD_l, listD_t, tupleD_l, int2D_i, absD_i, toIntD_i, toIntD_b, eqD_i, eqD_b, eqD_s, rngD_1, rngD_2, seqD_l, seqD_t, lstD_l, ixX_l, ixX_t, negX_i, slX_l, rvX_l, repX_i, intX_i, ixD_0, ixD_1, ixD_2, true_and, and_true, ite_self]
  obtain ⟨a0, a1, a2, a3⟩ := ha
  dsimp only at a0 a1 a2 a3
  by_cases hk : kind = 2
  · have hmx : 0 < (if n / 4 > 1 then n / 4 else 1) ∧ (if n / 4 > 1 then n / 4 else 1) ≤ n := by split <;> omega
    simp only [hk, decide_true, if_true]
    generalize (if n / 4 > 1 then n / 4 else 1) = mx at hmx ⊢
    have m2 := modR (a := one / 500) (m := mx) hmx.1
    refine ⟨⟨by decide, by decide⟩, ⟨by decide, by decide⟩, hmx.1, ?_⟩
    exact hk ▸ go _ _ ⟨a0, a1, by dsimp only; omega, by dsimp only; omega⟩
  · simp only [hk, decide_false, Bool.false_eq_true, if_false]
    exact go st m ⟨a0, a1, a2, a3⟩
theorem ringT_b1 {x7 x8 x9 : Option Val} {j : Int} (j0 : 0 ≤ j) (j1 : j < 20) (n1 : 1 ≤ n) (n9 : n ≤ 40) (has : ∀ a ∈ as, arcOk n a) (hl : as.length ≤ 20) (hK : ∀ (a : Int × Int) (x7 x8 x9 : Option Val), arcOk n a → K.nx (rctx c pm pq n kind (as ++ [a]) (some (.dat (.int j))) x7 x8 x9) ()) :
    wSs tr_law_ring_b1 (rctx c pm pq n kind as (some (.dat (.int j))) x7 x8 x9) s K := by
  have go := fun one st m ha => ringT_r4 (K := K) (s := ()) (n := n) (c := c) (pm := pm) (pq := pq) (kind := kind) (one := one) (as := as) (k := some (.dat (.int j))) (st := st) (m := m) n1 n9 has ha hl hK
  unfold tr_law_ring_b1
  generalize tr_law_ring_r4 = r1 at go
  unfold rctx at go ⊢
  simp only [backV, wSs, wS, w1, wT, wE, wA, wX, wV, wP, wC, opn, rdO_d, rdO_o, asD_d, asD_n, KQY, entry, look, put, slotV, argsOk, frzA, frzV, sv_i, sv_b, sv_s, sv_0, sv_l, sv_t, sv_d, sv_n, List.map, List.length, List.replicate, List.cons_append, List.nil_append, Nat.sub_self, biD, isD_1, boolD_b, cmpD, relD_i, opD, addD_i, addD_l, subD_i, intD_i, lenD_l, lenD_t, listD_l, listD_t, tupleD_l, int2D_i, absD_i, toIntD_i, toIntD_b, eqD_i, eqD_b, eqD_s, rngD_1, rngD_2, seqD_l, seqD_t, lstD_l, ixX_l, ixX_t, negX_i, slX_l, rvX_l, repX_i, intX_i, ixD_0, ixD_1, ixD_2, true_and, and_true, ite_self]
  refine call_mixed j0 (by omega) fun one => ?_
  have m1 := modR (a := one / 11) (m := n) (by omega)
  have m2 := modR (a := one / 500) (m := n) (by omega)
  try simp only [backV, wSs, wS, w1, wT, wE, wA, wX, wV, wP, wC, opn, rdO_d, rdO_o, asD_d, asD_n, KQY, entry, look, put, slotV, argsOk, frzA, frzV, sv_i, sv_b, sv_s, sv_0, sv_l, sv_t, sv_d, sv_n, List.map, List.length, List.replicate, List.cons_append, List.nil_append, Nat.sub_self, biD, isD_1, boolD_b, cmpD, relD_i, opD, addD_i, addD_l, subD_i, intD_i, lenD_l, lenD_t, listD_l, listD_t, tupleD_l, int2D_i, absD_i, toIntD_i, toIntD_b, eqD_i, eqD_b, eqD_s, rngD_1, rngD_2, seqD_l, seqD_t, lstD_l, ixX_l, ixX_t, negX_i, slX_l, rvX_l, repX_i, intX_i, ixD_0, ixD_1, ixD_2, true_and, and_true, ite_self, Bool.false_eq_true, if_false, if_true, Bool.not_true, Bool.not_false, ixR0, ixR1, sv_r]
  refine ⟨⟨by decide, by decide⟩, by omega, ⟨by decide, by decide⟩, by omega, ?_⟩
  simp only [putAll, backV, wSs, wS, w1, wT, wE, wA, wX, wV, wP, wC, opn, rdO_d, rdO_o, asD_d, asD_n, KQY, entry, look, put, slotV, argsOk, frzA, frzV, sv_i, sv_b, sv_s, sv_0, sv_l, sv_t, sv_d, sv_n, List.map, List.length, List.replicate, List.cons_append, List.nil_append, Nat.sub_self, biD, isD_1, boolD_b, cmpD, relD_i, opD, addD_i, addD_l, subD_i, intD_i, lenD_l, lenD_t, listD_l, listD_t, tupleD_l, int2D_i, absD_i, toIntD_i, toIntD_b, eqD_i, eqD_b, eqD_s, rngD_1, rngD_2, seqD_l, seqD_t, lstD_l, ixX_l, ixX_t, negX_i, slX_l, rvX_l, repX_i, intX_i, ixD_0, ixD_1, ixD_2, true_and, and_true, ite_self]
  by_cases hk : kind = 1
  · have hmx : 0 < (if n / 3 > 1 then n / 3 else 1) ∧ (if n / 3 > 1 then n / 3 else 1) ≤ n := by split <;> omega
    simp only [hk, decide_true, if_true]
    generalize (if n / 3 > 1 then n / 3 else 1) = mx at hmx ⊢
    have m2 := modR (a := one / 500) (m := mx) hmx.1
    refine ⟨⟨by decide, by decide⟩, ⟨by decide, by decide⟩, hmx.1, ?_⟩
    exact hk ▸ go _ _ _ ⟨m1.1, m1.2, by dsimp only; omega, by dsimp only; omega⟩
  · simp only [hk, decide_false, Bool.false_eq_true, if_false]
    exact go _ _ _ ⟨m1.1, m1.2, by dsimp only; omega, by dsimp only; omega⟩
end
theorem w_law_ring : WOk S_law_ring 3 10 tr_law_ring := fun ds Q Y h => by
  obtain ⟨c, p, m, rfl, ⟨p1, p40, m0, m20⟩, h⟩ := h
  refine ⟨rfl, ?_⟩
  unfold tr_law_ring
  simp only [backV, wSs, wS, w1, wT, wE, wA, wX, wV, wP, wC, opn, rdO_d, rdO_o, asD_d, asD_n, KQY, entry, look, put, slotV, argsOk, frzA, frzV, sv_i, sv_b, sv_s, sv_0, sv_l, sv_t, sv_d, sv_n, List.map, List.length, List.replicate, List.cons_append, List.nil_append, Nat.sub_self, biD, isD_1, boolD_b, cmpD, relD_i, opD, addD_i, addD_l, subD_i, intD_i, lenD_l, lenD_t, listD_l, listD_t, tupleD_l, int2D_i, absD_i, toIntD_i, toIntD_b, eqD_i, eqD_b, eqD_s, rngD_1, rngD_2, seqD_l, seqD_t, lstD_l, ixX_l, ixX_t, negX_i, slX_l, rvX_l, repX_i, intX_i, ixD_0, ixD_1, ixD_2, true_and, and_true, ite_self, wJ]
  have m1 := modR (a := c) (m := p) (by omega)
  have m2 := modR (a := c / (5 * p)) (m := m + 1) (by omega)
  refine ⟨by omega, ⟨by omega, by omega⟩, by decide, Nat.zero_le _, cmulR (by decide) (by decide), ⟨by omega, by omega⟩, by omega, ?_⟩
  refine ⟨by omega, by rw [List.length_map, List.length_range]; unfold big; omega, ?_⟩
  generalize c / (5 * p) % (m + 1) = mm at m2 ⊢
  refine fLoop_mp (g := fun i : Nat => PyData.int (i : Nat)) (fun done rest Γ _ => ∃ (as : List (Int × Int)) (k x7 x8 x9 : Option Val), Γ = rctx c p m (1 + c % p) (c / p % 5) as k x7 x8 x9 ∧ as.length = done.length ∧ (∀ a ∈ as, arcOk (1 + c % p) a) ∧ ((done.length + rest.length : Nat) : Int) ≤ m ∧ ∀ i ∈ rest, i < 20) ?_ ?_ _ [] _ _ ⟨[], _, _, _, _, rfl, rfl, (fun a ha => nomatch ha), by rw [List.length_range]; simp; omega, fun i hi => by have := List.mem_range.mp hi; omega⟩
  · rintro done Γ s ⟨as, k, x7, x8, x9, rfl, hl, has, hr, hi⟩
    unfold rctx
    simp only [backV, wSs, wS, w1, wT, wE, wA, wX, wV, wP, wC, opn, rdO_d, rdO_o, asD_d, asD_n, KQY, entry, look, put, slotV, argsOk, frzA, frzV, sv_i, sv_b, sv_s, sv_0, sv_l, sv_t, sv_d, sv_n, List.map, List.length, List.replicate, List.cons_append, List.nil_append, Nat.sub_self, biD, isD_1, boolD_b, cmpD, relD_i, opD, addD_i, addD_l, subD_i, intD_i, lenD_l, lenD_t, listD_l, listD_t, tupleD_l, int2D_i, absD_i, toIntD_i, toIntD_b, eqD_i, eqD_b, eqD_s, rngD_1, rngD_2, seqD_l, seqD_t, lstD_l, ixX_l, ixX_t, negX_i, slX_l, rvX_l, repX_i, intX_i, ixD_0, ixD_1, ixD_2, true_and, and_true, ite_self]
    rw [List.length_nil] at hr
    exact ⟨by unfold big; decide, h _ _ ⟨by omega, by omega, by omega, has⟩ (by omega) (by omega)⟩
  · rintro done i r Γ s K' ⟨as, k, x7, x8, x9, rfl, hl, has, hr, hi⟩ hnx hct hbk hrt hex
    rw [List.length_cons] at hr
    unfold rctx
    simp only [bindT, put]
    refine ringT_b1 (by omega) (by have := hi i List.mem_cons_self; omega) (by omega) (by omega) has (by omega) fun a y7 y8 y9 ha => hnx _ _ ⟨as ++ [a], _, y7, y8, y9, rfl, ?_, fun b hb => ?_, ?_, fun j hj => hi j (List.mem_cons_of_mem _ hj)⟩
    · rw [List.length_append, List.length_append, List.length_singleton, List.length_singleton, hl]
    · rcases List.mem_append.mp hb with hb | hb
      · exact has b hb
      · have e : b = a := by simpa using hb
        rw [e]; exact ha
    · rw [List.length_append, List.length_singleton]; omega
end Ac
namespace Ac
open PySem PySem.Spec PyProof.Rows L2 TL
/-! ### arcs and rings written, numbers and rings read -/
theorem sB_lit : (" " : Str) = sB := rfl
theorem sP_lit : ("+" : Str) = sP := rfl
theorem sF_lit : ("0123456789" : Str) = sF := rfl
theorem sP_len : sP.length = 1 := by decide +kernel
theorem str_len (x y : Str) : (x ++ y).length = x.length + y.length := by
  rw [len_tl, len_tl, len_tl, tl_append, List.length_append]
def S_arc_text : Summ where
  run ds Q _ := ∃ a : Int × Int, ds = [arcD a] ∧ (0 ≤ a.1 ∧ a.1 < 100) ∧ (0 ≤ a.2 ∧ a.2 < 100) ∧ Q (.dat (.str (arcS a)))
  mono := fun h1 _ ⟨a, e, h, h', q⟩ => ⟨a, e, h, h', h1 _ q⟩
abbrev Sarc_text := S_arc_text
theorem call_arc_text {a : Int × Int} {Q : Val → Prop} {Y : Nat → Prop} (h1 : 0 ≤ a.1 ∧ a.1 < 100) (h2 : 0 ≤ a.2 ∧ a.2 < 100) (h : Q (.dat (.str (arcS a)))) : Sarc_text.run [arcD a] Q Y := ⟨a, rfl, h1, h2, h⟩
def trarc_text : Sms Unit :=
  (.cons (.one (.ret (.op .Add (.op .Add (.bi .str (.cons (.ix (.var 0) (.int 0)) .nil)) (.str "+")) (.bi .str (.cons (.ix (.var 0) (.int 1)) .nil)))))
    .nil)

theorem w_arc_text : WOk Sarc_text 1 1 trarc_text := fun ds Q Y h => by
  obtain ⟨⟨a, b⟩, rfl, h1, h2, h⟩ := h
  refine ⟨rfl, ?_⟩
  unfold trarc_text arcD
  dsimp only at h1 h2
  have l1 := numS_len h1.1 h1.2
  have l2 := numS_len h2.1 h2.2
  simp only [backV, wSs, wS, w1, wT, wE, wA, wX, wV, wP, wC, opn, rdO_d, rdO_o, asD_d, asD_n, KQY, entry, look, put, slotV, argsOk, frzA, frzV, sv_i, sv_b, sv_s, sv_0, sv_l, sv_t, sv_d, sv_n, List.map, List.length, List.replicate, List.cons_append, List.nil_append, Nat.sub_self, biD, isD_1, boolD_b, cmpD, relD_i, opD, addD_i, addD_l, subD_i, intD_i, lenD_l, lenD_t, listD_l, listD_t, tupleD_l, int2D_i, absD_i, toIntD_i, toIntD_b, eqD_i, eqD_b, eqD_s, rngD_1, rngD_2, seqD_l, seqD_t, lstD_l, ixX_l, ixX_t, negX_i, slX_l, rvX_l, repX_i, intX_i, ixD_0, ixD_1, ixD_2, true_and, and_true, ite_self, toStrD_i, addD_s, sP_lit]
  refine ⟨log2_sm (by omega), ?_, log2_sm (by omega), ?_, h⟩
  · rw [sP_len]; unfold big; omega
  · rw [str_len, sP_len]; unfold big; omega
def Sshow_ring : Summ where
  run ds Q Y := (∃ n as, ds = [ringD n as] ∧ RingOk n as ∧ Q (.dat (.str (showS n as)))) ∨ ∃ d, ds = [d] ∧ isRingD d = false ∧ Y 0
  mono := fun h1 h2 h => h.imp (fun ⟨n, as, e, ok, q⟩ => ⟨n, as, e, ok, h1 _ q⟩) fun ⟨d, e, f, q⟩ => ⟨d, e, f, h2 _ q⟩
theorem call_show {n : Int} {as : List (Int × Int)} {Q : Val → Prop} {Y : Nat → Prop} (ok : RingOk n as) (h : Q (.dat (.str (showS n as)))) : Sshow_ring.run [ringD n as] Q Y := .inl ⟨n, as, rfl, ok, h⟩
theorem call_showN {d : D} {Q : Val → Prop} {Y : Nat → Prop} (bad : isRingD d = false) (h : Y 0) : Sshow_ring.run [d] Q Y := .inr ⟨d, rfl, bad, h⟩
def trshow_ring_e1 : E Unit :=
  (.call "arc_text" Sarc_text (.cons (.var 1) .nil))
def trshow_ring : Sms Unit :=
  (.cons (.ite (.nt (.call "is_ring" Sis_ring (.cons (.var 0) .nil)))
    (.cons (.one (.raise "NoRing" 0))
    .nil)
    .nil)
    (.cons (.one (.ret (.tx .join (.str " ") (.op .Add (.ls (.cons (.bi .str (.cons (.ix (.var 0) (.int 0)) .nil)) .nil)) (.comp [1] (.nm 1) (.seq (.ix (.var 0) (.int 1))) .nil trshow_ring_e1)))))
    .nil))

theorem strsD_cons {x : Str} {xs : List D} : strsD (.str x :: xs) = (strsD xs).map (x :: ·) := rfl
theorem strsD_arcs (as : List (Int × Int)) : strsD (as.map fun a => PyData.str (arcS a)) = some (as.map arcS) := by
  induction as with
  | nil => rfl
  | cons a as ih =>
    rw [List.map_cons, strsD_cons, ih]
    rfl
theorem w_show_ring : WOk Sshow_ring 1 2 trshow_ring := fun ds Q Y h => by
  rcases h with ⟨n, as, rfl, ok, h⟩ | ⟨d, rfl, bad, h⟩
  · refine ⟨rfl, ?_⟩
    have hr : isRingD (ringD n as) = true := isRingD_iff.mpr ⟨n, as, rfl, ok⟩
    have n1 := ok.n1
    have n40 := ok.n40
    have hl := ok.len
    unfold trshow_ring
    simp only [backV, wSs, wS, w1, wT, wE, wA, wX, wV, wP, wC, opn, rdO_d, rdO_o, asD_d, asD_n, KQY, entry, look, put, slotV, argsOk, frzA, frzV, sv_i, sv_b, sv_s, sv_0, sv_l, sv_t, sv_d, sv_n, List.map, List.length, List.replicate, List.cons_append, List.nil_append, Nat.sub_self, biD, isD_1, boolD_b, cmpD, relD_i, opD, addD_i, addD_l, subD_i, intD_i, lenD_l, lenD_t, listD_l, listD_t, tupleD_l, int2D_i, absD_i, toIntD_i, toIntD_b, eqD_i, eqD_b, eqD_s, rngD_1, rngD_2, seqD_l, seqD_t, lstD_l, ixX_l, ixX_t, negX_i, slX_l, rvX_l, repX_i, intX_i, ixD_0, ixD_1, ixD_2, true_and, and_true, ite_self, run_is_ring, hr, Bool.not_true, Bool.false_eq_true, if_false, if_true, strX_s, ixR0, ixR1, toStrD_i, wI, wipeG, backG, sB_lit, txD]
    refine ⟨log2_sm (by omega), by unfold big; decide, by rw [List.length_map]; exact big20 hl, ?_⟩
    refine cLoop_mp (g := arcD) (q := fun a => some (.str (arcS a))) _ [] ?_ ?_
    · intro a ha k' hk
      obtain ⟨h1, h2, h3, h4⟩ := ok.arcs a ha
      unfold trshow_ring_e1
      simp only [bindT, backV, wSs, wS, w1, wT, wE, wA, wX, wV, wP, wC, opn, rdO_d, rdO_o, asD_d, asD_n, KQY, entry, look, put, slotV, argsOk, frzA, frzV, sv_i, sv_b, sv_s, sv_0, sv_l, sv_t, sv_d, sv_n, List.map, List.length, List.replicate, List.cons_append, List.nil_append, Nat.sub_self, biD, isD_1, boolD_b, cmpD, relD_i, opD, addD_i, addD_l, subD_i, intD_i, lenD_l, lenD_t, listD_l, listD_t, tupleD_l, int2D_i, absD_i, toIntD_i, toIntD_b, eqD_i, eqD_b, eqD_s, rngD_1, rngD_2, seqD_l, seqD_t, lstD_l, ixX_l, ixX_t, negX_i, slX_l, rvX_l, repX_i, intX_i, ixD_0, ixD_1, ixD_2, true_and, and_true, ite_self]
      refine call_arc_text (a := a) (by omega) (by omega) ?_
      exact hk
    rw [List.nil_append, fm_all]
    refine ⟨by rw [List.length_map]; unfold big; omega, ?_⟩
    refine ⟨numS n :: as.map arcS, ?_, join_room ok, h⟩
    show strsD (.str (numS n) :: as.map fun a => PyData.str (arcS a)) = _
    rw [strsD_cons, strsD_arcs]
    rfl
  · refine ⟨rfl, ?_⟩
    unfold trshow_ring
    simp only [backV, wSs, wS, w1, wT, wE, wA, wX, wV, wP, wC, opn, rdO_d, rdO_o, asD_d, asD_n, KQY, entry, look, put, slotV, argsOk, frzA, frzV, sv_i, sv_b, sv_s, sv_0, sv_l, sv_t, sv_d, sv_n, List.map, List.length, List.replicate, List.cons_append, List.nil_append, Nat.sub_self, biD, isD_1, boolD_b, cmpD, relD_i, opD, addD_i, addD_l, subD_i, intD_i, lenD_l, lenD_t, listD_l, listD_t, tupleD_l, int2D_i, absD_i, toIntD_i, toIntD_b, eqD_i, eqD_b, eqD_s, rngD_1, rngD_2, seqD_l, seqD_t, lstD_l, ixX_l, ixX_t, negX_i, slX_l, rvX_l, repX_i, intX_i, ixD_0, ixD_1, ixD_2, true_and, and_true, ite_self, run_is_ring, bad, Bool.not_false, if_true]
    exact h
def Sread_figures : Summ where
  run ds Q Y := ∃ w : Str, ds = [.str w] ∧ w.length ≤ big ∧ if figB w = true then ∀ i : Int, 0 ≤ i → i < 100 → PySem.intText? w = some i → Q (.dat (.int i)) else Y 4
  mono := fun h1 h2 ⟨w, e, hl, q⟩ => ⟨w, e, hl, by
    split at q
    · rename_i h; rw [if_pos h]; exact fun i a b c => h1 _ (q i a b c)
    · rename_i h; rw [if_neg h]; exact h2 _ q⟩
theorem call_figs {w : Str} {Q : Val → Prop} {Y : Nat → Prop} (hl : w.length ≤ big) (h : ∀ i : Int, 0 ≤ i → i < 100 → PySem.intText? w = some i → figB w = true → Q (.dat (.int i))) (hy : figB w = false → Y 4) : Sread_figures.run [.str w] Q Y := ⟨w, rfl, hl, by
  cases e : figB w with
  | true => rw [if_pos rfl]; exact fun i a b c => h i a b c e
  | false => rw [if_neg (by simp)]; exact hy e⟩
def trread_figures_c1 : Es Unit :=
  (.cons (.cmp .NotIn (.var 1) (.glbS "FIGURES" "0123456789")) .nil)
def trread_figures_r1 : Sms Unit :=
  (.cons (.one (.ret (.bi .int (.cons (.var 0) .nil))))
    .nil)
def trread_figures : Sms Unit :=
  (.cons (.ite (.or (.nt (.ch .LtE .LtE (.int 1) (.bi .len (.cons (.var 0) .nil)) (.int 2))) (.cmp .NotEq (.comp [1] (.nm 1) (.seq (.var 0)) trread_figures_c1 (.var 1)) (.ls .nil)))
    (.cons (.one (.raise "NoText" 4))
    .nil)
    .nil)
    trread_figures_r1)

theorem w_read_figures : WOk Sread_figures 1 2 trread_figures := fun ds Q Y h => by
  obtain ⟨w, rfl, hl, h⟩ := h
  refine ⟨rfl, ?_⟩
  have fin : wSs trread_figures_r1 [some (.dat (.str w)), none] () (KQY Q Y) ∨ figB w = false := by
    cases e : figB w with
    | false => exact .inr rfl
    | true =>
      rw [e, if_pos rfl] at h
      obtain ⟨i, i0, i1, hi⟩ := figB_int e
      obtain ⟨⟨h1, h2⟩, h3⟩ := figB_iff.mp e
      refine .inl ?_
      unfold trread_figures_r1
      simp only [backV, wSs, wS, w1, wT, wE, wA, wX, wV, wP, wC, opn, rdO_d, rdO_o, asD_d, asD_n, KQY, entry, look, put, slotV, argsOk, frzA, frzV, sv_i, sv_b, sv_s, sv_0, sv_l, sv_t, sv_d, sv_n, List.map, List.length, List.replicate, List.cons_append, List.nil_append, Nat.sub_self, biD, isD_1, boolD_b, cmpD, relD_i, opD, addD_i, addD_l, subD_i, intD_i, lenD_l, lenD_t, listD_l, listD_t, tupleD_l, int2D_i, absD_i, toIntD_i, toIntD_b, eqD_i, eqD_b, eqD_s, rngD_1, rngD_2, seqD_l, seqD_t, lstD_l, ixX_l, ixX_t, negX_i, slX_l, rvX_l, repX_i, intX_i, ixD_0, ixD_1, ixD_2, true_and, and_true, ite_self, toIntD]
      exact ⟨i, hi, by omega, h i i0 i1 hi⟩
  unfold trread_figures
  generalize trread_figures_r1 = r1 at fin
  simp only [backV, wSs, wS, w1, wT, wE, wA, wX, wV, wP, wC, opn, rdO_d, rdO_o, asD_d, asD_n, KQY, entry, look, put, slotV, argsOk, frzA, frzV, sv_i, sv_b, sv_s, sv_0, sv_l, sv_t, sv_d, sv_n, List.map, List.length, List.replicate, List.cons_append, List.nil_append, Nat.sub_self, biD, isD_1, boolD_b, cmpD, relD_i, opD, addD_i, addD_l, subD_i, intD_i, lenD_l, lenD_t, listD_l, listD_t, tupleD_l, int2D_i, absD_i, toIntD_i, toIntD_b, eqD_i, eqD_b, eqD_s, rngD_1, rngD_2, seqD_l, seqD_t, lstD_l, ixX_l, ixX_t, negX_i, slX_l, rvX_l, repX_i, intX_i, ixD_0, ixD_1, ixD_2, true_and, and_true, ite_self, wI, wipeG, backG, lenD, cmpD, relD]
  by_cases h1 : 1 ≤ w.length ∧ w.length ≤ 2
  · have e1 : decide ((1 : Int) ≤ (w.length : Nat)) = true := decide_eq_true (by omega)
    have e2 : decide (((w.length : Nat) : Int) ≤ 2) = true := decide_eq_true (by omega)
    simp only [e1, e2, Bool.not_true, Bool.false_eq_true, if_false, if_true, backV, wSs, wS, w1, wT, wE, wA, wX, wV, wP, wC, opn, rdO_d, rdO_o, asD_d, asD_n, KQY, entry, look, put, slotV, argsOk, frzA, frzV, sv_i, sv_b, sv_s, sv_0, sv_l, sv_t, sv_d, sv_n, List.map, List.length, List.replicate, List.cons_append, List.nil_append, Nat.sub_self, biD, isD_1, boolD_b, cmpD, relD_i, opD, addD_i, addD_l, subD_i, intD_i, lenD_l, lenD_t, listD_l, listD_t, tupleD_l, int2D_i, absD_i, toIntD_i, toIntD_b, eqD_i, eqD_b, eqD_s, rngD_1, rngD_2, seqD_l, seqD_t, lstD_l, ixX_l, ixX_t, negX_i, slX_l, rvX_l, repX_i, intX_i, ixD_0, ixD_1, ixD_2, true_and, and_true, ite_self, seqD]
    refine ⟨hl, by unfold signsD; rw [List.length_map, ← len_tl]; exact hl, ?_⟩
    unfold signsD
    refine cLoop_mp (g := signD) (q := fun c => if decide (48 ≤ c ∧ c ≤ 57) = true then none else some (signD c)) _ [] ?_ ?_
    · intro c hc k' hk
      unfold trread_figures_c1
      simp only [bindT, backV, wSs, wS, w1, wT, wE, wA, wX, wV, wP, wC, opn, rdO_d, rdO_o, asD_d, asD_n, KQY, entry, look, put, slotV, argsOk, frzA, frzV, sv_i, sv_b, sv_s, sv_0, sv_l, sv_t, sv_d, sv_n, List.map, List.length, List.replicate, List.cons_append, List.nil_append, Nat.sub_self, biD, isD_1, boolD_b, cmpD, relD_i, opD, addD_i, addD_l, subD_i, intD_i, lenD_l, lenD_t, listD_l, listD_t, tupleD_l, int2D_i, absD_i, toIntD_i, toIntD_b, eqD_i, eqD_b, eqD_s, rngD_1, rngD_2, seqD_l, seqD_t, lstD_l, ixX_l, ixX_t, negX_i, slX_l, rvX_l, repX_i, intX_i, ixD_0, ixD_1, ixD_2, true_and, and_true, ite_self, signD, sF_lit, memD]
      refine ⟨c, rfl, ?_⟩
      have e : decide (c ∈ sF.cps.toList) = decide (48 ≤ c ∧ c ≤ 57) := by rw [decide_eq_decide]; exact mem_sF
      simp only [if_true, e]
      cases e3 : decide (48 ≤ c ∧ c ≤ 57) with
      | true =>
        rw [e3] at hk
        simp only [Bool.not_true, Bool.false_eq_true, if_false]
        exact hk
      | false =>
        rw [e3] at hk
        simp only [Bool.not_false, if_true, backV, wSs, wS, w1, wT, wE, wA, wX, wV, wP, wC, opn, rdO_d, rdO_o, asD_d, asD_n, KQY, entry, look, put, slotV, argsOk, frzA, frzV, sv_i, sv_b, sv_s, sv_0, sv_l, sv_t, sv_d, sv_n, List.map, List.length, List.replicate, List.cons_append, List.nil_append, Nat.sub_self, biD, isD_1, boolD_b, cmpD, relD_i, opD, addD_i, addD_l, subD_i, intD_i, lenD_l, lenD_t, listD_l, listD_t, tupleD_l, int2D_i, absD_i, toIntD_i, toIntD_b, eqD_i, eqD_b, eqD_s, rngD_1, rngD_2, seqD_l, seqD_t, lstD_l, ixX_l, ixX_t, negX_i, slX_l, rvX_l, repX_i, intX_i, ixD_0, ixD_1, ixD_2, true_and, and_true, ite_self]
        exact hk
    rw [List.nil_append]
    simp only [backV, wSs, wS, w1, wT, wE, wA, wX, wV, wP, wC, opn, rdO_d, rdO_o, asD_d, asD_n, KQY, entry, look, put, slotV, argsOk, frzA, frzV, sv_i, sv_b, sv_s, sv_0, sv_l, sv_t, sv_d, sv_n, List.map, List.length, List.replicate, List.cons_append, List.nil_append, Nat.sub_self, biD, isD_1, boolD_b, cmpD, relD_i, opD, addD_i, addD_l, subD_i, intD_i, lenD_l, lenD_t, listD_l, listD_t, tupleD_l, int2D_i, absD_i, toIntD_i, toIntD_b, eqD_i, eqD_b, eqD_s, rngD_1, rngD_2, seqD_l, seqD_t, lstD_l, ixX_l, ixX_t, negX_i, slX_l, rvX_l, repX_i, intX_i, ixD_0, ixD_1, ixD_2, true_and, and_true, ite_self, eqD_nil, List.length_nil]
    refine ⟨Nat.zero_le _, ?_⟩
    cases e : figB w with
    | true =>
      obtain ⟨_, h3⟩ := figB_iff.mp e
      have e4 : (((tl w).filterMap fun c => if decide (48 ≤ c ∧ c ≤ 57) = true then none else some (signD c)).isEmpty) = true := by
        rw [filterMap_empty]
        intro c hc
        rw [decide_eq_true (h3 c hc)]
        rfl
      have e5 : (w.cps.toList.filterMap fun c => if decide (48 ≤ c ∧ c ≤ 57) = true then none else some (signD c)).isEmpty = true := e4
      simp only [e5, Bool.not_true, Bool.false_eq_true, if_false]
      rcases fin with f | f
      · exact f
      · rw [e] at f; cases f
    | false =>
      rw [e, if_neg (by simp)] at h
      have e5 : (w.cps.toList.filterMap fun c => if decide (48 ≤ c ∧ c ≤ 57) = true then none else some (signD c)).isEmpty = false := by
        rw [Bool.eq_false_iff]
        intro z
        rw [filterMap_empty] at z
        have : figB w = true := figB_iff.mpr ⟨h1, fun c hc => by
          have := z c hc
          by_cases q : 48 ≤ c ∧ c ≤ 57
          · exact q
          · rw [decide_eq_false q] at this
            cases this⟩
        rw [e] at this
        cases this
      simp only [e5, Bool.not_false, if_true]
      exact h
  · have e : figB w = false := by
      rw [Bool.eq_false_iff]
      intro z
      exact h1 (figB_iff.mp z).1
    rw [e, if_neg (by simp)] at h
    by_cases h2 : (1 : Int) ≤ (w.length : Nat)
    · have e2 : decide (((w.length : Nat) : Int) ≤ 2) = false := decide_eq_false (by omega)
      simp only [h2, decide_true, e2, Bool.not_false, if_true, backV, wSs, wS, w1, wT, wE, wA, wX, wV, wP, wC, opn, rdO_d, rdO_o, asD_d, asD_n, KQY, entry, look, put, slotV, argsOk, frzA, frzV, sv_i, sv_b, sv_s, sv_0, sv_l, sv_t, sv_d, sv_n, List.map, List.length, List.replicate, List.cons_append, List.nil_append, Nat.sub_self, biD, isD_1, boolD_b, cmpD, relD_i, opD, addD_i, addD_l, subD_i, intD_i, lenD_l, lenD_t, listD_l, listD_t, tupleD_l, int2D_i, absD_i, toIntD_i, toIntD_b, eqD_i, eqD_b, eqD_s, rngD_1, rngD_2, seqD_l, seqD_t, lstD_l, ixX_l, ixX_t, negX_i, slX_l, rvX_l, repX_i, intX_i, ixD_0, ixD_1, ixD_2, true_and, and_true, ite_self]
      exact ⟨hl, h⟩
    · simp only [h2, decide_false, Bool.not_false, Bool.false_eq_true, if_false, if_true, backV, wSs, wS, w1, wT, wE, wA, wX, wV, wP, wC, opn, rdO_d, rdO_o, asD_d, asD_n, KQY, entry, look, put, slotV, argsOk, frzA, frzV, sv_i, sv_b, sv_s, sv_0, sv_l, sv_t, sv_d, sv_n, List.map, List.length, List.replicate, List.cons_append, List.nil_append, Nat.sub_self, biD, isD_1, boolD_b, cmpD, relD_i, opD, addD_i, addD_l, subD_i, intD_i, lenD_l, lenD_t, listD_l, listD_t, tupleD_l, int2D_i, absD_i, toIntD_i, toIntD_b, eqD_i, eqD_b, eqD_s, rngD_1, rngD_2, seqD_l, seqD_t, lstD_l, ixX_l, ixX_t, negX_i, slX_l, rvX_l, repX_i, intX_i, ixD_0, ixD_1, ixD_2, true_and, and_true, ite_self]
      exact ⟨hl, h⟩
/-! ### a ring read -/
def Sread_ring : Summ where
  run ds Q Y := (∃ z : Str, ds = [.str z] ∧ z.length ≤ 1000 ∧ (∀ n as, Writes z n as → Q (.dat (ringD n as))) ∧ ((∀ n as, ¬ Writes z n as) → Y 4)) ∨ ∃ d, ds = [d] ∧ isStrD d = false ∧ Y 4
  mono := fun h1 h2 h => h.imp (fun ⟨z, e, hl, q, y⟩ => ⟨z, e, hl, fun n as w => h1 _ (q n as w), fun w => h2 _ (y w)⟩) fun ⟨d, e, f, q⟩ => ⟨d, e, f, h2 _ q⟩
def trread_ring_b1 : Sms Unit :=
  (.cons (.one (.asgT [4, 5, 6] (.tx .part (.var 3) (.str "+"))))
    (.cons (.one (.app 2 (.tp (.cons (.call "read_figures" Sread_figures (.cons (.var 4) .nil)) (.cons (.call "read_figures" Sread_figures (.cons (.var 6) .nil)) .nil)))))
    .nil))
def trread_ring_r1 : Sms Unit :=
  (.cons (.one (.ret (.var 7)))
    .nil)
def trread_ring_r2 : Sms Unit :=
  (.cons (.ite (.or (.nt (.call "is_ring" Sis_ring (.cons (.var 7) .nil))) (.cmp .NotEq (.call "show_ring" Sshow_ring (.cons (.var 7) .nil)) (.var 0)))
    (.cons (.one (.raise "NoText" 4))
    .nil)
    .nil)
    trread_ring_r1)
def trread_ring_r3 : Sms Unit :=
  (.cons (.one (.asg 7 (.tp (.cons (.call "read_figures" Sread_figures (.cons (.ix (.var 1) (.int 0)) .nil)) (.cons (.var 2) .nil)))))
    trread_ring_r2)
def trread_ring : Sms Unit :=
  (.cons (.ite (.nt (.bi .isstr (.cons (.var 0) .nil)))
    (.cons (.one (.raise "NoText" 4))
    .nil)
    .nil)
    (.cons (.one (.asg 1 (.tx .split (.var 0) (.str " "))))
    (.cons (.one (.asg 2 (.ls .nil)))
    (.cons (.for (.nm 3) (.seq (.sl (.var 1) (.cons (.int 1) .nil) .nil))
    trread_ring_b1)
    trread_ring_r3))))

theorem joinL_mem {S : List Nat} : ∀ {ps : List (List Nat)} {p : List Nat}, p ∈ ps → p.length ≤ (joinL S ps).length
  | [q], p, h => by rw [List.mem_singleton.mp h]; simp [joinL]
  | q :: r :: t, p, h => by
    simp only [joinL, List.length_append]
    rcases List.mem_cons.mp h with rfl | h
    · omega
    · have := joinL_mem (S := S) h
      omega
theorem split_mem_len {z p : Str} (h : p ∈ Txt.split z sB) : p.length ≤ z.length := by
  have e := StrLaws.join_split z sB
  rw [len_tl, len_tl, ← e, tl_join]
  exact joinL_mem (List.mem_map.mpr ⟨p, h, rfl⟩)
theorem split_cons (z : Str) : ∃ w ws, Txt.split z sB = w :: ws := by
  have := split_pos z sB
  cases e : Txt.split z sB with
  | nil => rw [e] at this; exact absurd this (by simp)
  | cons w ws => exact ⟨w, ws, rfl⟩
theorem split_len {z : Str} : (Txt.split z sB).length ≤ z.length + 2 := split_le z sB
section
variable {z w0 : Str} {ws : List Str} {Q : Val → Prop} {Y : Nat → Prop} {as : List (Int × Int)} {x3 x4 x5 x6 : Option Val}
abbrev rrc (z w0 : Str) (ws : List Str) (x2 x3 x4 x5 x6 x7 : Option Val) : Ctx := [some (.dat (.str z)), some (.own (.str w0 :: ws.map .str)), x2, x3, x4, x5, x6, x7]
/-- what is known of the parts, where a ring is written -/
theorem parts_of (hz : Txt.split z sB = w0 :: ws) {n : Int} {bs : List (Int × Int)} (h : Writes z n bs) : w0 = numS n ∧ ws = bs.map arcS := by
  obtain ⟨ok, rfl⟩ := h
  rw [split_showS ok.pos.1 ok.pos.2] at hz
  obtain ⟨h1, h2⟩ := List.cons.inj hz
  exact ⟨h1.symm, h2.symm⟩
end
theorem w_read_ring : WOk Sread_ring 1 8 trread_ring := fun ds Q Y h => by
  rcases h with ⟨z, rfl, hl, hq, hy⟩ | ⟨d, rfl, hd, h⟩
  · refine ⟨rfl, ?_⟩
    obtain ⟨w0, ws, hz⟩ := split_cons z
    have hlen : (w0 :: ws).length ≤ 1002 := by rw [← hz]; exact Nat.le_trans split_len (by omega)
    have hmem : ∀ p ∈ w0 :: ws, p.length ≤ 1000 := fun p hp => Nat.le_trans (split_mem_len (by rw [hz]; exact hp)) hl
    unfold trread_ring
    simp only [backV, wSs, wS, w1, wT, wE, wA, wX, wV, wP, wC, opn, rdO_d, rdO_o, asD_d, asD_n, KQY, entry, look, put, slotV, argsOk, frzA, frzV, sv_i, sv_b, sv_s, sv_0, sv_l, sv_t, sv_d, sv_n, List.map, List.length, List.replicate, List.cons_append, List.nil_append, Nat.sub_self, biD, isD_1, boolD_b, cmpD, relD_i, opD, addD_i, addD_l, subD_i, intD_i, lenD_l, lenD_t, listD_l, listD_t, tupleD_l, int2D_i, absD_i, toIntD_i, toIntD_b, eqD_i, eqD_b, eqD_s, rngD_1, rngD_2, seqD_l, seqD_t, lstD_l, ixX_l, ixX_t, negX_i, slX_l, rvX_l, repX_i, intX_i, ixD_0, ixD_1, ixD_2, true_and, and_true, ite_self, isStrD, Bool.not_true, Bool.false_eq_true, if_false, strX_s, sB_lit, txD, txSplit, hz, wJ, seqD, List.map_cons]
    refine ⟨⟨by decide +kernel, by unfold big; omega⟩, Nat.zero_le _, ?_⟩
    have ec : cutD (PyData.str w0 :: ws.map PyData.str) (some 1) none = ws.map .str := by
      unfold cutD HT.sIx
      simp [List.take_of_length_le]
    rw [ec]
    refine ⟨by rw [List.length_map]; unfold big; rw [List.length_cons] at hlen; omega, ?_⟩
    have notW : ∀ {p : Str}, figB p = false → (∀ n bs, Writes z n bs → figB p = true) → Y 4 := fun e hw => hy fun n bs w => by
      have := hw n bs w
      rw [e] at this
      cases this
    refine fLoop_mp (g := PyData.str) (fun done rest Γ _ => ∃ (as : List (Int × Int)) (x3 x4 x5 x6 : Option Val), Γ = [some (.dat (.str z)), some (.own (.str w0 :: ws.map .str)), some (.own (as.map arcD)), x3, x4, x5, x6, none] ∧ as.length = done.length ∧ done ++ rest = ws ∧ Pos0 as ∧ ∀ n bs, Writes z n bs → as.map arcS = done) ?_ ?_ _ [] _ _ ⟨[], _, _, _, _, rfl, rfl, rfl, (fun a ha => nomatch ha), fun n bs w => rfl⟩
    · rintro done Γ s ⟨as, x3, x4, x5, x6, rfl, hal, hd, hpos, hW⟩
      rw [List.append_nil] at hd
      subst hd
      rw [List.length_cons] at hlen
      unfold trread_ring_r3
      simp only [backV, wSs, wS, w1, wT, wE, wA, wX, wV, wP, wC, opn, rdO_d, rdO_o, asD_d, asD_n, KQY, entry, look, put, slotV, argsOk, frzA, frzV, sv_i, sv_b, sv_s, sv_0, sv_l, sv_t, sv_d, sv_n, List.map, List.length, List.replicate, List.cons_append, List.nil_append, Nat.sub_self, biD, isD_1, boolD_b, cmpD, relD_i, opD, addD_i, addD_l, subD_i, intD_i, lenD_l, lenD_t, listD_l, listD_t, tupleD_l, int2D_i, absD_i, toIntD_i, toIntD_b, eqD_i, eqD_b, eqD_s, rngD_1, rngD_2, seqD_l, seqD_t, lstD_l, ixX_l, ixX_t, negX_i, slX_l, rvX_l, repX_i, intX_i, ixD_0, ixD_1, ixD_2, true_and, and_true, ite_self, List.map_cons]
      refine call_figs (by have := hmem w0 List.mem_cons_self; unfold big; omega) (fun n0 n00 n01 hn hf => ?_) fun e => notW e fun n bs w => ?_
      · simp only [backV, wSs, wS, w1, wT, wE, wA, wX, wV, wP, wC, opn, rdO_d, rdO_o, asD_d, asD_n, KQY, entry, look, put, slotV, argsOk, frzA, frzV, sv_i, sv_b, sv_s, sv_0, sv_l, sv_t, sv_d, sv_n, List.map, List.length, List.replicate, List.cons_append, List.nil_append, Nat.sub_self, biD, isD_1, boolD_b, cmpD, relD_i, opD, addD_i, addD_l, subD_i, intD_i, lenD_l, lenD_t, listD_l, listD_t, tupleD_l, int2D_i, absD_i, toIntD_i, toIntD_b, eqD_i, eqD_b, eqD_s, rngD_1, rngD_2, seqD_l, seqD_t, lstD_l, ixX_l, ixX_t, negX_i, slX_l, rvX_l, repX_i, intX_i, ixD_0, ixD_1, ixD_2, true_and, and_true, ite_self]
        refine ⟨by unfold big; decide, ?_⟩
        unfold trread_ring_r2
        simp only [backV, wSs, wS, w1, wT, wE, wA, wX, wV, wP, wC, opn, rdO_d, rdO_o, asD_d, asD_n, KQY, entry, look, put, slotV, argsOk, frzA, frzV, sv_i, sv_b, sv_s, sv_0, sv_l, sv_t, sv_d, sv_n, List.map, List.length, List.replicate, List.cons_append, List.nil_append, Nat.sub_self, biD, isD_1, boolD_b, cmpD, relD_i, opD, addD_i, addD_l, subD_i, intD_i, lenD_l, lenD_t, listD_l, listD_t, tupleD_l, int2D_i, absD_i, toIntD_i, toIntD_b, eqD_i, eqD_b, eqD_s, rngD_1, rngD_2, seqD_l, seqD_t, lstD_l, ixX_l, ixX_t, negX_i, slX_l, rvX_l, repX_i, intX_i, ixD_0, ixD_1, ixD_2, true_and, and_true, ite_self, run_is_ring]
        have hWn : ∀ n bs, Writes z n bs → n0 = n ∧ as = bs := fun n bs w => by
          obtain ⟨e1, e2⟩ := parts_of hz w
          have p := w.1.pos
          refine ⟨?_, map_arcS_inj hpos p.2 ((hW n bs w).trans e2)⟩
          have n40 := w.1.n40
          rw [e1, int_numS p.1 (by omega)] at hn
          exact (Option.some.inj hn).symm
        have er : PyData.tuple [.int n0, .list (as.map arcD)] = ringD n0 as := rfl
        rw [er]
        cases hr : isRingD (ringD n0 as) with
        | false =>
          simp only [backV, wSs, wS, w1, wT, wE, wA, wX, wV, wP, wC, opn, rdO_d, rdO_o, asD_d, asD_n, KQY, entry, look, put, slotV, argsOk, frzA, frzV, sv_i, sv_b, sv_s, sv_0, sv_l, sv_t, sv_d, sv_n, List.map, List.length, List.replicate, List.cons_append, List.nil_append, Nat.sub_self, biD, isD_1, boolD_b, cmpD, relD_i, opD, addD_i, addD_l, subD_i, intD_i, lenD_l, lenD_t, listD_l, listD_t, tupleD_l, int2D_i, absD_i, toIntD_i, toIntD_b, eqD_i, eqD_b, eqD_s, rngD_1, rngD_2, seqD_l, seqD_t, lstD_l, ixX_l, ixX_t, negX_i, slX_l, rvX_l, repX_i, intX_i, ixD_0, ixD_1, ixD_2, true_and, and_true, ite_self, Bool.not_false, if_true]
          refine hy fun n bs w => ?_
          obtain ⟨rfl, rfl⟩ := hWn n bs w
          rw [isRingD_iff.mpr ⟨_, _, rfl, w.1⟩] at hr
          cases hr
        | true =>
          obtain ⟨m, cs, e, ok⟩ := isRingD_iff.mp hr
          obtain ⟨rfl, rfl⟩ := ringD_inj e
          simp only [backV, wSs, wS, w1, wT, wE, wA, wX, wV, wP, wC, opn, rdO_d, rdO_o, asD_d, asD_n, KQY, entry, look, put, slotV, argsOk, frzA, frzV, sv_i, sv_b, sv_s, sv_0, sv_l, sv_t, sv_d, sv_n, List.map, List.length, List.replicate, List.cons_append, List.nil_append, Nat.sub_self, biD, isD_1, boolD_b, cmpD, relD_i, opD, addD_i, addD_l, subD_i, intD_i, lenD_l, lenD_t, listD_l, listD_t, tupleD_l, int2D_i, absD_i, toIntD_i, toIntD_b, eqD_i, eqD_b, eqD_s, rngD_1, rngD_2, seqD_l, seqD_t, lstD_l, ixX_l, ixX_t, negX_i, slX_l, rvX_l, repX_i, intX_i, ixD_0, ixD_1, ixD_2, true_and, and_true, ite_self, Bool.not_true, Bool.false_eq_true, if_false]
          refine call_show ok ?_
          simp only [backV, wSs, wS, w1, wT, wE, wA, wX, wV, wP, wC, opn, rdO_d, rdO_o, asD_d, asD_n, KQY, entry, look, put, slotV, argsOk, frzA, frzV, sv_i, sv_b, sv_s, sv_0, sv_l, sv_t, sv_d, sv_n, List.map, List.length, List.replicate, List.cons_append, List.nil_append, Nat.sub_self, biD, isD_1, boolD_b, cmpD, relD_i, opD, addD_i, addD_l, subD_i, intD_i, lenD_l, lenD_t, listD_l, listD_t, tupleD_l, int2D_i, absD_i, toIntD_i, toIntD_b, eqD_i, eqD_b, eqD_s, rngD_1, rngD_2, seqD_l, seqD_t, lstD_l, ixX_l, ixX_t, negX_i, slX_l, rvX_l, repX_i, intX_i, ixD_0, ixD_1, ixD_2, true_and, and_true, ite_self]
          by_cases hs : showS n0 as = z
          · simp only [hs, decide_true, Bool.not_true, Bool.false_eq_true, if_false]
            unfold trread_ring_r1
            simp only [backV, wSs, wS, w1, wT, wE, wA, wX, wV, wP, wC, opn, rdO_d, rdO_o, asD_d, asD_n, KQY, entry, look, put, slotV, argsOk, frzA, frzV, sv_i, sv_b, sv_s, sv_0, sv_l, sv_t, sv_d, sv_n, List.map, List.length, List.replicate, List.cons_append, List.nil_append, Nat.sub_self, biD, isD_1, boolD_b, cmpD, relD_i, opD, addD_i, addD_l, subD_i, intD_i, lenD_l, lenD_t, listD_l, listD_t, tupleD_l, int2D_i, absD_i, toIntD_i, toIntD_b, eqD_i, eqD_b, eqD_s, rngD_1, rngD_2, seqD_l, seqD_t, lstD_l, ixX_l, ixX_t, negX_i, slX_l, rvX_l, repX_i, intX_i, ixD_0, ixD_1, ixD_2, true_and, and_true, ite_self]
            exact hq n0 as ⟨ok, hs.symm⟩
          · simp only [hs, decide_false, Bool.not_false, if_true, backV, wSs, wS, w1, wT, wE, wA, wX, wV, wP, wC, opn, rdO_d, rdO_o, asD_d, asD_n, KQY, entry, look, put, slotV, argsOk, frzA, frzV, sv_i, sv_b, sv_s, sv_0, sv_l, sv_t, sv_d, sv_n, List.map, List.length, List.replicate, List.cons_append, List.nil_append, Nat.sub_self, biD, isD_1, boolD_b, cmpD, relD_i, opD, addD_i, addD_l, subD_i, intD_i, lenD_l, lenD_t, listD_l, listD_t, tupleD_l, int2D_i, absD_i, toIntD_i, toIntD_b, eqD_i, eqD_b, eqD_s, rngD_1, rngD_2, seqD_l, seqD_t, lstD_l, ixX_l, ixX_t, negX_i, slX_l, rvX_l, repX_i, intX_i, ixD_0, ixD_1, ixD_2, true_and, and_true, ite_self]
            refine hy fun n bs w => ?_
            obtain ⟨rfl, rfl⟩ := hWn n bs w
            exact hs w.2.symm
      · obtain ⟨e1, e2⟩ := parts_of hz w
        have p := w.1.pos
        have n40 := w.1.n40
        rw [e1]
        exact figB_num p.1 (by omega)
    · rintro done w r Γ s K' ⟨as, x3, x4, x5, x6, rfl, hal, hd, hpos, hW⟩ hnx hct hbk hrt hex
      have hwm : w ∈ w0 :: ws := by rw [← hd]; simp
      have hwl := hmem w hwm
      obtain ⟨f1, f2, f3⟩ := fact_partition w sP
      have hP : ∀ n bs, Writes z n bs → ∃ b : Int × Int, w = arcS b ∧ arcOk n b ∧ n ≤ 40 := fun n bs q => by
        obtain ⟨e1, e2⟩ := parts_of hz q
        have : w ∈ bs.map arcS := by rw [← e2, ← hd]; simp
        obtain ⟨b, hb, rfl⟩ := List.mem_map.mp this
        exact ⟨b, rfl, q.1.arcs b hb, q.1.n40⟩
      simp only [bindT, put]
      unfold trread_ring_b1
      simp only [backV, wSs, wS, w1, wT, wE, wA, wX, wV, wP, wC, opn, rdO_d, rdO_o, asD_d, asD_n, KQY, entry, look, put, slotV, argsOk, frzA, frzV, sv_i, sv_b, sv_s, sv_0, sv_l, sv_t, sv_d, sv_n, List.map, List.length, List.replicate, List.cons_append, List.nil_append, Nat.sub_self, biD, isD_1, boolD_b, cmpD, relD_i, opD, addD_i, addD_l, subD_i, intD_i, lenD_l, lenD_t, listD_l, listD_t, tupleD_l, int2D_i, absD_i, toIntD_i, toIntD_b, eqD_i, eqD_b, eqD_s, rngD_1, rngD_2, seqD_l, seqD_t, lstD_l, ixX_l, ixX_t, negX_i, slX_l, rvX_l, repX_i, intX_i, ixD_0, ixD_1, ixD_2, true_and, and_true, ite_self, strX_s, sP_lit, txD, txPart, putAll]
      refine ⟨⟨by decide +kernel, by unfold big; omega⟩, ?_⟩
      refine call_figs (by unfold big; omega) (fun i i0 i1 hi hf => ?_) fun e => ?_
      · simp only [backV, wSs, wS, w1, wT, wE, wA, wX, wV, wP, wC, opn, rdO_d, rdO_o, asD_d, asD_n, KQY, entry, look, put, slotV, argsOk, frzA, frzV, sv_i, sv_b, sv_s, sv_0, sv_l, sv_t, sv_d, sv_n, List.map, List.length, List.replicate, List.cons_append, List.nil_append, Nat.sub_self, biD, isD_1, boolD_b, cmpD, relD_i, opD, addD_i, addD_l, subD_i, intD_i, lenD_l, lenD_t, listD_l, listD_t, tupleD_l, int2D_i, absD_i, toIntD_i, toIntD_b, eqD_i, eqD_b, eqD_s, rngD_1, rngD_2, seqD_l, seqD_t, lstD_l, ixX_l, ixX_t, negX_i, slX_l, rvX_l, repX_i, intX_i, ixD_0, ixD_1, ixD_2, true_and, and_true, ite_self]
        refine call_figs (by unfold big; omega) (fun j j0 j1 hj hf2 => ?_) fun e => ?_
        · simp only [backV, wSs, wS, w1, wT, wE, wA, wX, wV, wP, wC, opn, rdO_d, rdO_o, asD_d, asD_n, KQY, entry, look, put, slotV, argsOk, frzA, frzV, sv_i, sv_b, sv_s, sv_0, sv_l, sv_t, sv_d, sv_n, List.map, List.length, List.replicate, List.cons_append, List.nil_append, Nat.sub_self, biD, isD_1, boolD_b, cmpD, relD_i, opD, addD_i, addD_l, subD_i, intD_i, lenD_l, lenD_t, listD_l, listD_t, tupleD_l, int2D_i, absD_i, toIntD_i, toIntD_b, eqD_i, eqD_b, eqD_s, rngD_1, rngD_2, seqD_l, seqD_t, lstD_l, ixX_l, ixX_t, negX_i, slX_l, rvX_l, repX_i, intX_i, ixD_0, ixD_1, ixD_2, true_and, and_true, ite_self]
          have hlc : done.length + (r.length + 1) ≤ 1002 := by
            have := congrArg List.length hd
            rw [List.length_append, List.length_cons] at this
            rw [List.length_cons] at hlen
            omega
          refine ⟨by unfold big; decide, by rw [List.length_map]; unfold big; omega, ?_⟩
          have := hnx [some (.dat (.str z)), some (.own (.str w0 :: ws.map .str)), some (.own ((as ++ [(i, j)]).map arcD)), some (.dat (.str w)), some (.dat (.str (Txt.partition w sP).1)), some (.dat (.str (Txt.partition w sP).2.1)), some (.dat (.str (Txt.partition w sP).2.2)), none] () ⟨as ++ [(i, j)], _, _, _, _, rfl, by rw [List.length_append, List.length_append, List.length_singleton, List.length_singleton, hal], by rw [List.append_assoc]; exact hd, fun a ha => ?_, fun n bs q => ?_⟩
          · simp only [List.map_append] at this
            exact this
          · rcases List.mem_append.mp ha with ha | ha
            · exact hpos a ha
            · rw [List.mem_singleton.mp ha]
              exact ⟨i0, j0⟩
          · rw [List.map_append, hW n bs q]
            obtain ⟨b, rfl, ⟨b0, b1, b2, b3⟩, n40⟩ := hP n bs q
            rw [part_arcS b0] at hi hj
            rw [int_numS b0 (by omega)] at hi
            rw [int_numS (by omega) (by omega)] at hj
            have e1 := Option.some.inj hi
            have e2 := Option.some.inj hj
            subst e1 e2
            rfl
        · rw [hex]
          refine notW e fun n bs q => ?_
          obtain ⟨b, rfl, ⟨b0, b1, b2, b3⟩, n40⟩ := hP n bs q
          rw [part_arcS b0]
          exact figB_num (by omega) (by omega)
      · rw [hex]
        refine notW e fun n bs q => ?_
        obtain ⟨b, rfl, ⟨b0, b1, b2, b3⟩, n40⟩ := hP n bs q
        rw [part_arcS b0]
        exact figB_num b0 (by omega)
  · refine ⟨rfl, ?_⟩
    unfold trread_ring
    simp only [backV, wSs, wS, w1, wT, wE, wA, wX, wV, wP, wC, opn, rdO_d, rdO_o, asD_d, asD_n, KQY, entry, look, put, slotV, argsOk, frzA, frzV, sv_i, sv_b, sv_s, sv_0, sv_l, sv_t, sv_d, sv_n, List.map, List.length, List.replicate, List.cons_append, List.nil_append, Nat.sub_self, biD, isD_1, boolD_b, cmpD, relD_i, opD, addD_i, addD_l, subD_i, intD_i, lenD_l, lenD_t, listD_l, listD_t, tupleD_l, int2D_i, absD_i, toIntD_i, toIntD_b, eqD_i, eqD_b, eqD_s, rngD_1, rngD_2, seqD_l, seqD_t, lstD_l, ixX_l, ixX_t, negX_i, slX_l, rvX_l, repX_i, intX_i, ixD_0, ixD_1, ixD_2, true_and, and_true, ite_self, hd, Bool.not_false, if_true]
    exact h
end Ac
namespace Ac
open PySem PySem.Spec PyProof.Rows L2 TL
/-! ### the law's own look at a text -/
theorem mem_tw {g : Nat → Bool} {c : Nat} : ∀ {l : List Nat}, c ∈ l.takeWhile g → g c = true
  | [], h => nomatch h
  | x :: l, h => by
    rw [List.takeWhile_cons] at h
    cases hx : g x with
    | true =>
      rw [hx, if_pos rfl] at h
      rcases List.mem_cons.mp h with rfl | h
      · exact hx
      · exact mem_tw h
    | false =>
      rw [hx, if_neg (by simp)] at h
      cases h
theorem tw_self {g : Nat → Bool} : ∀ {l : List Nat}, (∀ c ∈ l, g c = true) → l.takeWhile g = l
  | [], _ => rfl
  | x :: l, h => by
    rw [List.takeWhile_cons, if_pos (h x List.mem_cons_self), tw_self fun c hc => h c (List.mem_cons_of_mem _ hc)]
theorem tw_lt {g : Nat → Bool} {l : List Nat} {c : Nat} (hc : c ∈ l) (hg : g c = false) : (l.takeWhile g).length < l.length := by
  have e := List.takeWhile_append_dropWhile (p := g) (l := l)
  have hl := congrArg List.length e
  rw [List.length_append] at hl
  have : c ∈ l.dropWhile g := by
    rw [← e] at hc
    rcases List.mem_append.mp hc with h | h
    · have := mem_tw h
      rw [hg] at this
      cases this
    · exact h
  have := List.length_pos_of_mem this
  omega
theorem stripBy_nil {g : Nat → Bool} {w : Str} : Txt.stripBy g true true w = (⟨#[]⟩ : Str) ↔ ∀ c ∈ tl w, g c = true := by
  unfold Txt.stripBy
  constructor
  · intro h c hc
    cases hg : g c with
    | true => rfl
    | false =>
      exfalso
      split at h
      · rw [h] at hc
        cases hc
      · have h1 := tw_lt hc hg
        have hlen : (tl w).length = w.length := (len_tl w).symm
        have hd : (tl w).drop ((tl w).takeWhile g).length = (tl w).dropWhile g := by
          have e := List.takeWhile_append_dropWhile (p := g) (l := tl w)
          calc (tl w).drop ((tl w).takeWhile g).length = (((tl w).takeWhile g) ++ ((tl w).dropWhile g)).drop ((tl w).takeWhile g).length := by rw [e]
            _ = _ := List.drop_left
        have hc2 : c ∈ ((tl w).dropWhile g).reverse := by
          rw [List.mem_reverse]
          have e := List.takeWhile_append_dropWhile (p := g) (l := tl w)
          rw [← e] at hc
          rcases List.mem_append.mp hc with h | h
          · have := mem_tw h
            rw [hg] at this
            cases this
          · exact h
        have h2 := tw_lt hc2 hg
        rw [List.length_reverse] at h2
        have h3 : ((tl w).dropWhile g).length = (tl w).length - ((tl w).takeWhile g).length := by rw [← hd, List.length_drop]
        have e := congrArg (fun z : Str => z.cps.size) h
        have hsz : w.cps.size = w.length := rfl
        simp only [stripped, PySem.Builtin.Str.strSub, stripLo, stripHi, if_true, Array.size_extract] at e
        rw [hd] at e
        simp only [List.size_toArray, List.length_nil] at e
        rw [hsz, ← hlen] at e
        rw [h3] at h2
        generalize ((tl w).dropWhile g).reverse.takeWhile g = U at e h2
        generalize (tl w).takeWhile g = T at e h1 h2
        generalize (tl w).length = L at e h1 h2
        omega
  · intro h
    have ht : (tl w).takeWhile g = tl w := tw_self h
    have hlen : (tl w).length = w.length := (len_tl w).symm
    split
    · rename_i e
      unfold stripSame stripLo at e
      rw [if_pos rfl, Bool.and_eq_true] at e
      have e1 : ((tl w).takeWhile g).length = 0 := by simpa using e.1
      rw [ht] at e1
      apply ext_tl
      exact List.length_eq_zero_iff.mp e1
    · unfold stripped PySem.Builtin.Str.strSub
      apply ext_tl
      have e : stripLo g true w = w.cps.size := by
        unfold stripLo
        rw [if_pos rfl, ht, hlen]
        rfl
      rw [e]
      show (w.cps.extract w.cps.size _).toList = []
      rw [Array.toList_extract]
      simp
theorem strip_figs {w : Str} : (Txt.stripChars w sF = ("" : Str)) ↔ ∀ c ∈ tl w, 48 ≤ c ∧ c ≤ 57 := by
  have e : ("" : Str) = ⟨#[]⟩ := by decide +kernel
  unfold Txt.stripChars
  rw [e, stripBy_nil]
  refine forall_congr' fun c => imp_congr_right fun _ => ?_
  rw [← mem_sF]
  simp
theorem nil_len {w : Str} : (w = ("" : Str)) ↔ w.length = 0 := by
  constructor
  · rintro rfl; decide +kernel
  · intro h
    rw [len_tl] at h
    apply ext_tl
    rw [List.length_eq_zero_iff.mp h]
    decide +kernel
theorem zero_sign {c : Nat} : ((⟨#[c]⟩ : Str) = ("0" : Str)) ↔ c = 48 := by
  have e : ("0" : Str) = ⟨#[48]⟩ := by decide +kernel
  rw [e]
  constructor
  · intro h
    have := congrArg (fun z : Str => z.cps.toList) h
    simpa using this
  · rintro rfl; rfl
open Classical in
/-- the number that a word writes, or none -/
noncomputable def numD (w : Str) : D := if figN w then .int ((PySem.intText? w).getD 0) else .none
theorem numD_no {w : Str} (h : ¬ figN w) : numD w = .none := by unfold numD; rw [if_neg h]
theorem numD_yes {w : Str} (h : figN w) {i : Int} (hi : PySem.intText? w = some i) : numD w = .int i := by unfold numD; rw [if_pos h, hi]; rfl
theorem numD_num {i : Int} (h0 : 0 ≤ i) (h1 : i < 100) : numD (numS i) = .int i := numD_yes (figN_num h0 h1) (int_numS h0 h1)
theorem numD_cases (w : Str) : (numD w = .none ∧ ¬ figN w) ∨ ∃ i : Int, numD w = .int i ∧ 0 ≤ i ∧ i < 100 ∧ w = numS i := by
  by_cases h : figN w
  · obtain ⟨i, i0, i1, hi⟩ := figB_int h.1
    obtain ⟨h1, h2, h3⟩ := figN_eq h hi
    exact .inr ⟨i, numD_yes h hi, i0, i1, h3⟩
  · exact .inl ⟨numD_no h, h⟩
def S_law_number : Summ where
  run ds Q _ := ∃ w : Str, ds = [.str w] ∧ w.length ≤ 1000 ∧ Q (.dat (numD w))
  mono := fun h1 _ ⟨w, e, hl, q⟩ => ⟨w, e, hl, h1 _ q⟩
theorem call_number {w : Str} {Q : Val → Prop} {Y : Nat → Prop} (hl : w.length ≤ 1000) (h : Q (.dat (numD w))) : S_law_number.run [.str w] Q Y := ⟨w, rfl, hl, h⟩
def tr_law_number_r1 : Sms Unit :=
  (.cons (.one (.ret (.bi .int (.cons (.var 0) .nil))))
    .nil)
def tr_law_number_r2 : Sms Unit :=
  (.cons (.ite (.an (.cmp .Eq (.bi .len (.cons (.var 0) .nil)) (.int 2)) (.cmp .Eq (.ix (.var 0) (.int 0)) (.str "0")))
    (.cons (.one (.ret .non))
    .nil)
    .nil)
    tr_law_number_r1)
def tr_law_number : Sms Unit :=
  (.cons (.ite (.or (.cmp .Eq (.var 0) (.str "")) (.or (.cmp .Gt (.bi .len (.cons (.var 0) .nil)) (.int 2)) (.cmp .NotEq (.tx .strip (.var 0) (.str "0123456789")) (.str ""))))
    (.cons (.one (.ret .non))
    .nil)
    .nil)
    tr_law_number_r2)

theorem w_law_number : WOk S_law_number 1 1 tr_law_number := fun ds Q Y h => by
  obtain ⟨w, rfl, hl, h⟩ := h
  refine ⟨rfl, ?_⟩
  have go : figB w = true → wSs tr_law_number_r2 [some (.dat (.str w))] () (KQY Q Y) := fun hf => by
    obtain ⟨⟨h1, h2⟩, h3⟩ := figB_iff.mp hf
    obtain ⟨i, i0, i1, hi⟩ := figB_int hf
    have fin : figN w → wSs tr_law_number_r1 [some (.dat (.str w))] () (KQY Q Y) := fun hn => by
      rw [numD_yes hn hi] at h
      unfold tr_law_number_r1
      simp only [backV, wSs, wS, w1, wT, wE, wA, wX, wV, wP, wC, opn, rdO_d, rdO_o, asD_d, asD_n, KQY, entry, look, put, slotV, argsOk, frzA, frzV, sv_i, sv_b, sv_s, sv_0, sv_l, sv_t, sv_d, sv_n, List.map, List.length, List.replicate, List.cons_append, List.nil_append, Nat.sub_self, biD, isD_1, boolD_b, cmpD, relD_i, opD, addD_i, addD_l, subD_i, intD_i, lenD_l, lenD_t, listD_l, listD_t, tupleD_l, int2D_i, absD_i, toIntD_i, toIntD_b, eqD_i, eqD_b, eqD_s, rngD_1, rngD_2, seqD_l, seqD_t, lstD_l, ixX_l, ixX_t, negX_i, slX_l, rvX_l, repX_i, intX_i, ixD_0, ixD_1, ixD_2, true_and, and_true, ite_self, toIntD]
      exact ⟨i, hi, by omega, h⟩
    unfold tr_law_number_r2
    generalize tr_law_number_r1 = r1 at fin
    simp only [backV, wSs, wS, w1, wT, wE, wA, wX, wV, wP, wC, opn, rdO_d, rdO_o, asD_d, asD_n, KQY, entry, look, put, slotV, argsOk, frzA, frzV, sv_i, sv_b, sv_s, sv_0, sv_l, sv_t, sv_d, sv_n, List.map, List.length, List.replicate, List.cons_append, List.nil_append, Nat.sub_self, biD, isD_1, boolD_b, cmpD, relD_i, opD, addD_i, addD_l, subD_i, intD_i, lenD_l, lenD_t, listD_l, listD_t, tupleD_l, int2D_i, absD_i, toIntD_i, toIntD_b, eqD_i, eqD_b, eqD_s, rngD_1, rngD_2, seqD_l, seqD_t, lstD_l, ixX_l, ixX_t, negX_i, slX_l, rvX_l, repX_i, intX_i, ixD_0, ixD_1, ixD_2, true_and, and_true, ite_self, lenD]
    refine ⟨by unfold big; omega, ?_⟩
    by_cases e2 : w.length = 2
    · have e2' : decide (((w.length : Nat) : Int) = 2) = true := decide_eq_true (by omega)
      simp only [e2', if_true, backV, wSs, wS, w1, wT, wE, wA, wX, wV, wP, wC, opn, rdO_d, rdO_o, asD_d, asD_n, KQY, entry, look, put, slotV, argsOk, frzA, frzV, sv_i, sv_b, sv_s, sv_0, sv_l, sv_t, sv_d, sv_n, List.map, List.length, List.replicate, List.cons_append, List.nil_append, Nat.sub_self, biD, isD_1, boolD_b, cmpD, relD_i, opD, addD_i, addD_l, subD_i, intD_i, lenD_l, lenD_t, listD_l, listD_t, tupleD_l, int2D_i, absD_i, toIntD_i, toIntD_b, eqD_i, eqD_b, eqD_s, rngD_1, rngD_2, seqD_l, seqD_t, lstD_l, ixX_l, ixX_t, negX_i, slX_l, rvX_l, repX_i, intX_i, ixD_0, ixD_1, ixD_2, true_and, and_true, ite_self, ixX]
      refine ⟨by unfold big; omega, ?_⟩
      have hlen : (tl w).length = 2 := by rw [← len_tl]; exact e2
      obtain ⟨c, r, ec⟩ : ∃ c r, tl w = c :: r := by
        cases e : tl w with
        | nil => rw [e] at hlen; cases hlen
        | cons c r => exact ⟨c, r, rfl⟩
      have es : signsD w = signD c :: r.map signD := by
        unfold signsD
        show (tl w).map signD = _
        rw [ec]
        rfl
      rw [es]
      simp only [backV, wSs, wS, w1, wT, wE, wA, wX, wV, wP, wC, opn, rdO_d, rdO_o, asD_d, asD_n, KQY, entry, look, put, slotV, argsOk, frzA, frzV, sv_i, sv_b, sv_s, sv_0, sv_l, sv_t, sv_d, sv_n, List.map, List.length, List.replicate, List.cons_append, List.nil_append, Nat.sub_self, biD, isD_1, boolD_b, cmpD, relD_i, opD, addD_i, addD_l, subD_i, intD_i, lenD_l, lenD_t, listD_l, listD_t, tupleD_l, int2D_i, absD_i, toIntD_i, toIntD_b, eqD_i, eqD_b, eqD_s, rngD_1, rngD_2, seqD_l, seqD_t, lstD_l, ixX_l, ixX_t, negX_i, slX_l, rvX_l, repX_i, intX_i, ixD_0, ixD_1, ixD_2, true_and, and_true, ite_self, signD]
      by_cases hc : c = 48
      · rw [decide_eq_true (zero_sign.mpr hc)]
        simp only [if_true]
        rw [numD_no (fun hn => hn.2 e2 c r ec hc)] at h
        exact h
      · rw [decide_eq_false (fun z => hc (zero_sign.mp z))]
        simp only [Bool.false_eq_true, if_false]
        refine fin ⟨hf, fun _ c' r' e' => ?_⟩
        rw [ec] at e'
        cases e'
        exact hc
    · have e2' : decide (((w.length : Nat) : Int) = 2) = false := decide_eq_false (by omega)
      simp only [e2', Bool.false_eq_true, if_false]
      exact fin ⟨hf, fun z => absurd z e2⟩
  unfold tr_law_number
  generalize tr_law_number_r2 = r2 at go
  simp only [backV, wSs, wS, w1, wT, wE, wA, wX, wV, wP, wC, opn, rdO_d, rdO_o, asD_d, asD_n, KQY, entry, look, put, slotV, argsOk, frzA, frzV, sv_i, sv_b, sv_s, sv_0, sv_l, sv_t, sv_d, sv_n, List.map, List.length, List.replicate, List.cons_append, List.nil_append, Nat.sub_self, biD, isD_1, boolD_b, cmpD, relD_i, opD, addD_i, addD_l, subD_i, intD_i, lenD_l, lenD_t, listD_l, listD_t, tupleD_l, int2D_i, absD_i, toIntD_i, toIntD_b, eqD_i, eqD_b, eqD_s, rngD_1, rngD_2, seqD_l, seqD_t, lstD_l, ixX_l, ixX_t, negX_i, slX_l, rvX_l, repX_i, intX_i, ixD_0, ixD_1, ixD_2, true_and, and_true, ite_self, lenD, strX_s, txD, txStrip]
  by_cases h0 : w = ("" : Str)
  · rw [decide_eq_true h0]
    simp only [if_true]
    rw [numD_no (fun hn => by
      have := (figB_iff.mp hn.1).1.1
      have := nil_len.mp h0
      omega)] at h
    exact h
  · rw [decide_eq_false h0]
    simp only [Bool.false_eq_true, if_false]
    refine ⟨by unfold big; omega, ?_⟩
    by_cases h2 : (w.length : Nat) > 2
    · have e : decide ((2 : Int) < ((w.length : Nat) : Int)) = true := decide_eq_true (by omega)
      simp only [e, if_true]
      rw [numD_no (fun hn => by
        have := (figB_iff.mp hn.1).1.2
        omega)] at h
      exact h
    · have e : decide ((2 : Int) < ((w.length : Nat) : Int)) = false := decide_eq_false (by omega)
      simp only [e, Bool.false_eq_true, if_false]
      refine ⟨by unfold big; omega, ?_⟩
      by_cases h3 : ∀ c ∈ tl w, 48 ≤ c ∧ c ≤ 57
      · have e4 := strip_figs.mpr h3
        rw [sF_lit, decide_eq_true e4]
        simp only [Bool.not_true, Bool.false_eq_true, if_false]
        refine go (figB_iff.mpr ⟨⟨?_, by omega⟩, h3⟩)
        rcases Nat.eq_zero_or_pos w.length with z | z
        · exact absurd (nil_len.mpr z) h0
        · exact z
      · have e4 : ¬ (Txt.stripChars w sF = ("" : Str)) := fun z => h3 (strip_figs.mp z)
        rw [sF_lit, decide_eq_false e4]
        simp only [Bool.not_false, if_true]
        rw [numD_no (fun hn => h3 (figB_iff.mp hn.1).2)] at h
        exact h
end Ac
namespace Ac
open PySem PySem.Spec PyProof.Rows L2 TL
/-! ### whether a text writes a ring, by the law's own look -/
theorem joinS_mem {S : List Nat} : ∀ {ps : List (List Nat)} {p : List Nat}, p ∈ ps → p.length ≤ (joinL S ps).length := joinL_mem
theorem splitP_mem_len {w p : Str} (h : p ∈ Txt.split w sP) : p.length ≤ w.length := by
  have e := StrLaws.join_split w sP
  rw [len_tl, len_tl, ← e, tl_join]
  exact joinL_mem (List.mem_map.mpr ⟨p, h, rfl⟩)
def S_law_writes : Summ where
  run ds Q _ := ∃ z : Str, ds = [.str z] ∧ z.length ≤ 1000 ∧ (∀ n as, Writes z n as → Q (.dat (.bool true))) ∧ ((∀ n as, ¬ Writes z n as) → Q (.dat (.bool false)))
  mono := fun h1 _ ⟨z, e, hl, q, y⟩ => ⟨z, e, hl, fun n as w => h1 _ (q n as w), fun w => h1 _ (y w)⟩
def tr_law_writes_e1 : E Unit :=
  (.call "_law_number" S_law_number (.cons (.var 5) .nil))
def tr_law_writes_b1 : Sms Unit :=
  (.cons (.one (.asgL 4 (.comp [5] (.nm 5) (.seq (.tx .split (.var 3) (.str "+"))) .nil tr_law_writes_e1)))
    (.cons (.ite (.or (.cmp .NotEq (.bi .len (.cons (.var 4) .nil)) (.int 2)) (.or (.cmp .In .non (.var 4)) (.or (.cmp .GtE (.ix (.var 4) (.int 0)) (.var 2)) (.nt (.ch .LtE .LtE (.int 1) (.ix (.var 4) (.int 1)) (.var 2))))))
    (.cons (.one (.ret (.bl false)))
    .nil)
    .nil)
    .nil))
def tr_law_writes_r1 : Sms Unit :=
  (.cons (.for (.nm 3) (.seq (.sl (.var 1) (.cons (.int 1) .nil) .nil))
    tr_law_writes_b1)
    (.cons (.one (.ret (.bl true)))
    .nil))
def tr_law_writes : Sms Unit :=
  (.cons (.one (.asg 1 (.tx .split (.var 0) (.str " "))))
    (.cons (.one (.asg 2 (.call "_law_number" S_law_number (.cons (.ix (.var 1) (.int 0)) .nil))))
    (.cons (.ite (.or (.isn true (.var 2)) (.or (.nt (.ch .LtE .LtE (.int 1) (.var 2) (.int 40))) (.cmp .Gt (.bi .len (.cons (.var 1) .nil)) (.int 21))))
    (.cons (.one (.ret (.bl false)))
    .nil)
    .nil)
    tr_law_writes_r1)))

theorem inD_none2 {a b : D} : inD .none [a, b] = (noneD a || noneD b) := by
  unfold inD
  simp only [List.any_cons, List.any_nil, Bool.or_false]
  have e : ∀ x : D, PyData.eqv x .none = noneD x := fun x => by cases x <;> rfl
  rw [e, e]
theorem w_law_writes : WOk S_law_writes 1 6 tr_law_writes := fun ds Q Y h => by
  obtain ⟨z, rfl, hl, hy, hno⟩ := h
  refine ⟨rfl, ?_⟩
  obtain ⟨w0, ws, hz⟩ := split_cons z
  have hlen : (w0 :: ws).length ≤ 1002 := by rw [← hz]; exact Nat.le_trans split_len (by omega)
  have hmem : ∀ p ∈ w0 :: ws, p.length ≤ 1000 := fun p hp => Nat.le_trans (split_mem_len (by rw [hz]; exact hp)) hl
  have hw0 := hmem w0 List.mem_cons_self
  unfold tr_law_writes
  simp only [backV, wSs, wS, w1, wT, wE, wA, wX, wV, wP, wC, opn, rdO_d, rdO_o, asD_d, asD_n, KQY, entry, look, put, slotV, argsOk, frzA, frzV, sv_i, sv_b, sv_s, sv_0, sv_l, sv_t, sv_d, sv_n, List.map, List.length, List.replicate, List.cons_append, List.nil_append, Nat.sub_self, biD, isD_1, boolD_b, cmpD, relD_i, opD, addD_i, addD_l, subD_i, intD_i, lenD_l, lenD_t, listD_l, listD_t, tupleD_l, int2D_i, absD_i, toIntD_i, toIntD_b, eqD_i, eqD_b, eqD_s, rngD_1, rngD_2, seqD_l, seqD_t, lstD_l, ixX_l, ixX_t, negX_i, slX_l, rvX_l, repX_i, intX_i, ixD_0, ixD_1, ixD_2, true_and, and_true, ite_self, strX_s, sB_lit, txD, txSplit, hz, List.map_cons]
  refine ⟨⟨by decide +kernel, by unfold big; omega⟩, ?_⟩
  refine call_number hw0 ?_
  try simp only [backV, wSs, wS, w1, wT, wE, wA, wX, wV, wP, wC, opn, rdO_d, rdO_o, asD_d, asD_n, KQY, entry, look, put, slotV, argsOk, frzA, frzV, sv_i, sv_b, sv_s, sv_0, sv_l, sv_t, sv_d, sv_n, List.map, List.length, List.replicate, List.cons_append, List.nil_append, Nat.sub_self, biD, isD_1, boolD_b, cmpD, relD_i, opD, addD_i, addD_l, subD_i, intD_i, lenD_l, lenD_t, listD_l, listD_t, tupleD_l, int2D_i, absD_i, toIntD_i, toIntD_b, eqD_i, eqD_b, eqD_s, rngD_1, rngD_2, seqD_l, seqD_t, lstD_l, ixX_l, ixX_t, negX_i, slX_l, rvX_l, repX_i, intX_i, ixD_0, ixD_1, ixD_2, true_and, and_true, ite_self, Bool.false_eq_true, if_false, if_true, Bool.not_true, Bool.not_false, ixR0, ixR1, sv_r]
  rcases numD_cases w0 with ⟨e0, hf0⟩ | ⟨n, e0, n0, n100, rfl⟩
  · rw [e0]
    simp only [noneD, if_true, backV, wSs, wS, w1, wT, wE, wA, wX, wV, wP, wC, opn, rdO_d, rdO_o, asD_d, asD_n, KQY, entry, look, put, slotV, argsOk, frzA, frzV, sv_i, sv_b, sv_s, sv_0, sv_l, sv_t, sv_d, sv_n, List.map, List.length, List.replicate, List.cons_append, List.nil_append, Nat.sub_self, biD, isD_1, boolD_b, cmpD, relD_i, opD, addD_i, addD_l, subD_i, intD_i, lenD_l, lenD_t, listD_l, listD_t, tupleD_l, int2D_i, absD_i, toIntD_i, toIntD_b, eqD_i, eqD_b, eqD_s, rngD_1, rngD_2, seqD_l, seqD_t, lstD_l, ixX_l, ixX_t, negX_i, slX_l, rvX_l, repX_i, intX_i, ixD_0, ixD_1, ixD_2, true_and, and_true, ite_self]
    refine hno fun n as w => ?_
    obtain ⟨e1, e2⟩ := parts_of hz w
    have p := w.1.pos
    have n40 := w.1.n40
    refine hf0 ?_
    rw [e1]
    exact figN_num p.1 (by omega)
  rw [e0]
  have hn : ∀ {m as}, Writes z m as → m = n ∧ ws = as.map arcS := fun {m as} w => by
    obtain ⟨e1, e2⟩ := parts_of hz w
    exact ⟨(numS_inj n0 w.1.pos.1 e1).symm, e2⟩
  simp only [noneD, Bool.false_eq_true, if_false, backV, wSs, wS, w1, wT, wE, wA, wX, wV, wP, wC, opn, rdO_d, rdO_o, asD_d, asD_n, KQY, entry, look, put, slotV, argsOk, frzA, frzV, sv_i, sv_b, sv_s, sv_0, sv_l, sv_t, sv_d, sv_n, List.map, List.length, List.replicate, List.cons_append, List.nil_append, Nat.sub_self, biD, isD_1, boolD_b, cmpD, relD_i, opD, addD_i, addD_l, subD_i, intD_i, lenD_l, lenD_t, listD_l, listD_t, tupleD_l, int2D_i, absD_i, toIntD_i, toIntD_b, eqD_i, eqD_b, eqD_s, rngD_1, rngD_2, seqD_l, seqD_t, lstD_l, ixX_l, ixX_t, negX_i, slX_l, rvX_l, repX_i, intX_i, ixD_0, ixD_1, ixD_2, true_and, and_true, ite_self]
  by_cases h1 : 1 ≤ n
  · by_cases h2 : n ≤ 40
    · simp only [h1, h2, decide_true, if_true, Bool.not_true, Bool.false_eq_true, if_false, backV, wSs, wS, w1, wT, wE, wA, wX, wV, wP, wC, opn, rdO_d, rdO_o, asD_d, asD_n, KQY, entry, look, put, slotV, argsOk, frzA, frzV, sv_i, sv_b, sv_s, sv_0, sv_l, sv_t, sv_d, sv_n, List.map, List.length, List.replicate, List.cons_append, List.nil_append, Nat.sub_self, biD, isD_1, boolD_b, cmpD, relD_i, opD, addD_i, addD_l, subD_i, intD_i, lenD_l, lenD_t, listD_l, listD_t, tupleD_l, int2D_i, absD_i, toIntD_i, toIntD_b, eqD_i, eqD_b, eqD_s, rngD_1, rngD_2, seqD_l, seqD_t, lstD_l, ixX_l, ixX_t, negX_i, slX_l, rvX_l, repX_i, intX_i, ixD_0, ixD_1, ixD_2, true_and, and_true, ite_self, List.length_cons, List.length_map]
      by_cases h3 : ws.length ≤ 20
      · have e : decide ((21 : Int) < ((ws.length + 1 : Nat) : Int)) = false := decide_eq_false (by omega)
        simp only [e, Bool.false_eq_true, if_false]
        unfold tr_law_writes_r1
        simp only [backV, wSs, wS, w1, wT, wE, wA, wX, wV, wP, wC, opn, rdO_d, rdO_o, asD_d, asD_n, KQY, entry, look, put, slotV, argsOk, frzA, frzV, sv_i, sv_b, sv_s, sv_0, sv_l, sv_t, sv_d, sv_n, List.map, List.length, List.replicate, List.cons_append, List.nil_append, Nat.sub_self, biD, isD_1, boolD_b, cmpD, relD_i, opD, addD_i, addD_l, subD_i, intD_i, lenD_l, lenD_t, listD_l, listD_t, tupleD_l, int2D_i, absD_i, toIntD_i, toIntD_b, eqD_i, eqD_b, eqD_s, rngD_1, rngD_2, seqD_l, seqD_t, lstD_l, ixX_l, ixX_t, negX_i, slX_l, rvX_l, repX_i, intX_i, ixD_0, ixD_1, ixD_2, true_and, and_true, ite_self, wJ]
        have ec : cutD (PyData.str (numS n) :: ws.map PyData.str) (some 1) none = ws.map .str := by
          unfold cutD HT.sIx
          simp [List.take_of_length_le]
        rw [ec]
        refine ⟨by rw [List.length_map]; unfold big; omega, ?_⟩
        refine fLoop_mp (g := PyData.str) (fun done rest Γ _ => ∃ (as : List (Int × Int)) (x3 x4 : Option Val), Γ = [some (.dat (.str z)), some (.own (.str (numS n) :: ws.map .str)), some (.dat (.int n)), x3, x4, none] ∧ as.map arcS = done ∧ done ++ rest = ws ∧ ∀ a ∈ as, arcOk n a) ?_ ?_ _ [] _ _ ⟨[], _, _, rfl, rfl, rfl, fun a ha => nomatch ha⟩
        · rintro done Γ s ⟨as, x3, x4, rfl, hd, hr, hok⟩
          simp only [backV, wSs, wS, w1, wT, wE, wA, wX, wV, wP, wC, opn, rdO_d, rdO_o, asD_d, asD_n, KQY, entry, look, put, slotV, argsOk, frzA, frzV, sv_i, sv_b, sv_s, sv_0, sv_l, sv_t, sv_d, sv_n, List.map, List.length, List.replicate, List.cons_append, List.nil_append, Nat.sub_self, biD, isD_1, boolD_b, cmpD, relD_i, opD, addD_i, addD_l, subD_i, intD_i, lenD_l, lenD_t, listD_l, listD_t, tupleD_l, int2D_i, absD_i, toIntD_i, toIntD_b, eqD_i, eqD_b, eqD_s, rngD_1, rngD_2, seqD_l, seqD_t, lstD_l, ixX_l, ixX_t, negX_i, slX_l, rvX_l, repX_i, intX_i, ixD_0, ixD_1, ixD_2, true_and, and_true, ite_self]
          rw [List.append_nil] at hr
          have hal : as.length ≤ 20 := by
            have := congrArg List.length hd
            rw [List.length_map, hr] at this
            omega
          refine hy n as ⟨⟨h1, h2, hal, hok⟩, ?_⟩
          rw [split_back hz, ← hr, ← hd]
          rfl
        · rintro done w r Γ s K' ⟨as, x3, x4, rfl, hd, hr, hok⟩ hnx hct hbk hrt hex
          have hwm : w ∈ numS n :: ws := by rw [← hr]; simp
          have hwl := hmem w hwm
          have hP : ∀ {m bs}, Writes z m bs → ∃ b : Int × Int, w = arcS b ∧ arcOk n b := fun {m bs} q => by
            obtain ⟨e1, e2⟩ := hn q
            have : w ∈ bs.map arcS := by rw [← e2, ← hr]; simp
            obtain ⟨b, hb, rfl⟩ := List.mem_map.mp this
            have := q.1.arcs b hb
            rw [e1] at this
            exact ⟨b, rfl, this⟩
          unfold tr_law_writes_b1
          simp only [bindT, backV, wSs, wS, w1, wT, wE, wA, wX, wV, wP, wC, opn, rdO_d, rdO_o, asD_d, asD_n, KQY, entry, look, put, slotV, argsOk, frzA, frzV, sv_i, sv_b, sv_s, sv_0, sv_l, sv_t, sv_d, sv_n, List.map, List.length, List.replicate, List.cons_append, List.nil_append, Nat.sub_self, biD, isD_1, boolD_b, cmpD, relD_i, opD, addD_i, addD_l, subD_i, intD_i, lenD_l, lenD_t, listD_l, listD_t, tupleD_l, int2D_i, absD_i, toIntD_i, toIntD_b, eqD_i, eqD_b, eqD_s, rngD_1, rngD_2, seqD_l, seqD_t, lstD_l, ixX_l, ixX_t, negX_i, slX_l, rvX_l, repX_i, intX_i, ixD_0, ixD_1, ixD_2, true_and, and_true, ite_self, strX_s, sP_lit, txD, txSplit, wI, wipeG, backG]
          refine ⟨⟨by decide +kernel, by unfold big; omega⟩, by rw [List.length_map]; exact Nat.le_trans (split_le w sP) (by unfold big; omega), ?_⟩
          refine cLoop_mp (g := PyData.str) (q := fun p => some (numD p)) _ [] ?_ ?_
          · intro p hp k' hk
            unfold tr_law_writes_e1
            simp only [bindT, backV, wSs, wS, w1, wT, wE, wA, wX, wV, wP, wC, opn, rdO_d, rdO_o, asD_d, asD_n, KQY, entry, look, put, slotV, argsOk, frzA, frzV, sv_i, sv_b, sv_s, sv_0, sv_l, sv_t, sv_d, sv_n, List.map, List.length, List.replicate, List.cons_append, List.nil_append, Nat.sub_self, biD, isD_1, boolD_b, cmpD, relD_i, opD, addD_i, addD_l, subD_i, intD_i, lenD_l, lenD_t, listD_l, listD_t, tupleD_l, int2D_i, absD_i, toIntD_i, toIntD_b, eqD_i, eqD_b, eqD_s, rngD_1, rngD_2, seqD_l, seqD_t, lstD_l, ixX_l, ixX_t, negX_i, slX_l, rvX_l, repX_i, intX_i, ixD_0, ixD_1, ixD_2, true_and, and_true, ite_self]
            refine call_number (Nat.le_trans (splitP_mem_len hp) hwl) ?_
            try simp only [backV, wSs, wS, w1, wT, wE, wA, wX, wV, wP, wC, opn, rdO_d, rdO_o, asD_d, asD_n, KQY, entry, look, put, slotV, argsOk, frzA, frzV, sv_i, sv_b, sv_s, sv_0, sv_l, sv_t, sv_d, sv_n, List.map, List.length, List.replicate, List.cons_append, List.nil_append, Nat.sub_self, biD, isD_1, boolD_b, cmpD, relD_i, opD, addD_i, addD_l, subD_i, intD_i, lenD_l, lenD_t, listD_l, listD_t, tupleD_l, int2D_i, absD_i, toIntD_i, toIntD_b, eqD_i, eqD_b, eqD_s, rngD_1, rngD_2, seqD_l, seqD_t, lstD_l, ixX_l, ixX_t, negX_i, slX_l, rvX_l, repX_i, intX_i, ixD_0, ixD_1, ixD_2, true_and, and_true, ite_self, Bool.false_eq_true, if_false, if_true, Bool.not_true, Bool.not_false, ixR0, ixR1, sv_r]
            exact hk
          rw [List.nil_append, fm_all]
          simp only [backV, wSs, wS, w1, wT, wE, wA, wX, wV, wP, wC, opn, rdO_d, rdO_o, asD_d, asD_n, KQY, entry, look, put, slotV, argsOk, frzA, frzV, sv_i, sv_b, sv_s, sv_0, sv_l, sv_t, sv_d, sv_n, List.map, List.length, List.replicate, List.cons_append, List.nil_append, Nat.sub_self, biD, isD_1, boolD_b, cmpD, relD_i, opD, addD_i, addD_l, subD_i, intD_i, lenD_l, lenD_t, listD_l, listD_t, tupleD_l, int2D_i, absD_i, toIntD_i, toIntD_b, eqD_i, eqD_b, eqD_s, rngD_1, rngD_2, seqD_l, seqD_t, lstD_l, ixX_l, ixX_t, negX_i, slX_l, rvX_l, repX_i, intX_i, ixD_0, ixD_1, ixD_2, true_and, and_true, ite_self, List.length_map]
          have bad : (∀ b : Int × Int, arcOk n b → w ≠ arcS b) → Q (.dat (.bool false)) := fun hb => hno fun m bs q => by
            obtain ⟨b, e1, e2⟩ := hP q
            exact hb b e2 e1
          by_cases h4 : (Txt.split w sP).length = 2
          · obtain ⟨a, b, hs⟩ : ∃ a b, Txt.split w sP = [a, b] := by
              match Txt.split w sP, h4 with
              | [a, b], _ => exact ⟨a, b, rfl⟩
            have hwe := split_plus hs
            rw [hs]
            have e4 : decide ((([a, b].length : Nat) : Int) = 2) = true := rfl
            simp only [e4, Bool.not_true, Bool.false_eq_true, if_false, List.map_cons, List.map_nil, memD, inD_none2, backV, wSs, wS, w1, wT, wE, wA, wX, wV, wP, wC, opn, rdO_d, rdO_o, asD_d, asD_n, KQY, entry, look, put, slotV, argsOk, frzA, frzV, sv_i, sv_b, sv_s, sv_0, sv_l, sv_t, sv_d, sv_n, List.map, List.length, List.replicate, List.cons_append, List.nil_append, Nat.sub_self, biD, isD_1, boolD_b, cmpD, relD_i, opD, addD_i, addD_l, subD_i, intD_i, lenD_l, lenD_t, listD_l, listD_t, tupleD_l, int2D_i, absD_i, toIntD_i, toIntD_b, eqD_i, eqD_b, eqD_s, rngD_1, rngD_2, seqD_l, seqD_t, lstD_l, ixX_l, ixX_t, negX_i, slX_l, rvX_l, repX_i, intX_i, ixD_0, ixD_1, ixD_2, true_and, and_true, ite_self]
            have hsp : ∀ c : Int × Int, arcOk n c → w = arcS c → a = numS c.1 ∧ b = numS c.2 := fun c hc e => by
              obtain ⟨c0, c1, c2, c3⟩ := hc
              have := split_arcS (a := c) (by omega)
              rw [← e, hs] at this
              have h1 := List.cons.inj this
              exact ⟨h1.1, (List.cons.inj h1.2).1⟩
            rcases numD_cases a with ⟨ea, hfa⟩ | ⟨i, ea, i0, i100, rfl⟩
            · rw [ea]
              refine .inl ⟨rfl, ?_, ?_⟩
              · rcases numD_cases b with ⟨eb, _⟩ | ⟨j, eb, _⟩ <;> rw [eb] <;> rfl
              · simp only [noneD, Bool.true_or, Bool.false_eq_true, if_false, if_true, backV, wSs, wS, w1, wT, wE, wA, wX, wV, wP, wC, opn, rdO_d, rdO_o, asD_d, asD_n, KQY, entry, look, put, slotV, argsOk, frzA, frzV, sv_i, sv_b, sv_s, sv_0, sv_l, sv_t, sv_d, sv_n, List.map, List.length, List.replicate, List.cons_append, List.nil_append, Nat.sub_self, biD, isD_1, boolD_b, cmpD, relD_i, opD, addD_i, addD_l, subD_i, intD_i, lenD_l, lenD_t, listD_l, listD_t, tupleD_l, int2D_i, absD_i, toIntD_i, toIntD_b, eqD_i, eqD_b, eqD_s, rngD_1, rngD_2, seqD_l, seqD_t, lstD_l, ixX_l, ixX_t, negX_i, slX_l, rvX_l, repX_i, intX_i, ixD_0, ixD_1, ixD_2, true_and, and_true, ite_self]
                rw [hrt]
                refine bad fun c hc e => hfa ?_
                rw [(hsp c hc e).1]
                obtain ⟨c0, c1, c2, c3⟩ := hc
                exact figN_num c0 (by omega)
            · rcases numD_cases b with ⟨eb, hfb⟩ | ⟨j, eb, j0, j100, rfl⟩
              · rw [ea, eb]
                refine .inl ⟨rfl, rfl, ?_⟩
                simp only [noneD, Bool.or_true, Bool.false_eq_true, if_false, if_true, backV, wSs, wS, w1, wT, wE, wA, wX, wV, wP, wC, opn, rdO_d, rdO_o, asD_d, asD_n, KQY, entry, look, put, slotV, argsOk, frzA, frzV, sv_i, sv_b, sv_s, sv_0, sv_l, sv_t, sv_d, sv_n, List.map, List.length, List.replicate, List.cons_append, List.nil_append, Nat.sub_self, biD, isD_1, boolD_b, cmpD, relD_i, opD, addD_i, addD_l, subD_i, intD_i, lenD_l, lenD_t, listD_l, listD_t, tupleD_l, int2D_i, absD_i, toIntD_i, toIntD_b, eqD_i, eqD_b, eqD_s, rngD_1, rngD_2, seqD_l, seqD_t, lstD_l, ixX_l, ixX_t, negX_i, slX_l, rvX_l, repX_i, intX_i, ixD_0, ixD_1, ixD_2, true_and, and_true, ite_self]
                rw [hrt]
                refine bad fun c hc e => hfb ?_
                rw [(hsp c hc e).2]
                obtain ⟨c0, c1, c2, c3⟩ := hc
                exact figN_num (by omega) (by omega)
              · rw [ea, eb]
                refine .inl ⟨rfl, rfl, ?_⟩
                have eij : w = arcS (i, j) := hwe
                simp only [noneD, Bool.or_false, Bool.false_eq_true, if_false, if_true, backV, wSs, wS, w1, wT, wE, wA, wX, wV, wP, wC, opn, rdO_d, rdO_o, asD_d, asD_n, KQY, entry, look, put, slotV, argsOk, frzA, frzV, sv_i, sv_b, sv_s, sv_0, sv_l, sv_t, sv_d, sv_n, List.map, List.length, List.replicate, List.cons_append, List.nil_append, Nat.sub_self, biD, isD_1, boolD_b, cmpD, relD_i, opD, addD_i, addD_l, subD_i, intD_i, lenD_l, lenD_t, listD_l, listD_t, tupleD_l, int2D_i, absD_i, toIntD_i, toIntD_b, eqD_i, eqD_b, eqD_s, rngD_1, rngD_2, seqD_l, seqD_t, lstD_l, ixX_l, ixX_t, negX_i, slX_l, rvX_l, repX_i, intX_i, ixD_0, ixD_1, ixD_2, true_and, and_true, ite_self]
                have nok : ¬ arcOk n (i, j) → Q (.dat (.bool false)) := fun hb => bad fun c hc e => by
                  obtain ⟨c0, c1, c2, c3⟩ := hc
                  have := arcS_inj (a := (i, j)) (b := c) ⟨i0, j0⟩ ⟨c0, by omega⟩ (eij.symm.trans e)
                  rw [this] at hb
                  exact hb ⟨c0, c1, c2, c3⟩
                by_cases g1 : n ≤ i
                · simp only [g1, decide_true, if_true, backV, wSs, wS, w1, wT, wE, wA, wX, wV, wP, wC, opn, rdO_d, rdO_o, asD_d, asD_n, KQY, entry, look, put, slotV, argsOk, frzA, frzV, sv_i, sv_b, sv_s, sv_0, sv_l, sv_t, sv_d, sv_n, List.map, List.length, List.replicate, List.cons_append, List.nil_append, Nat.sub_self, biD, isD_1, boolD_b, cmpD, relD_i, opD, addD_i, addD_l, subD_i, intD_i, lenD_l, lenD_t, listD_l, listD_t, tupleD_l, int2D_i, absD_i, toIntD_i, toIntD_b, eqD_i, eqD_b, eqD_s, rngD_1, rngD_2, seqD_l, seqD_t, lstD_l, ixX_l, ixX_t, negX_i, slX_l, rvX_l, repX_i, intX_i, ixD_0, ixD_1, ixD_2, true_and, and_true, ite_self]
                  rw [hrt]
                  exact nok fun hb => by have := hb.2.1; dsimp only at this; omega
                · simp only [g1, decide_false, Bool.false_eq_true, if_false, backV, wSs, wS, w1, wT, wE, wA, wX, wV, wP, wC, opn, rdO_d, rdO_o, asD_d, asD_n, KQY, entry, look, put, slotV, argsOk, frzA, frzV, sv_i, sv_b, sv_s, sv_0, sv_l, sv_t, sv_d, sv_n, List.map, List.length, List.replicate, List.cons_append, List.nil_append, Nat.sub_self, biD, isD_1, boolD_b, cmpD, relD_i, opD, addD_i, addD_l, subD_i, intD_i, lenD_l, lenD_t, listD_l, listD_t, tupleD_l, int2D_i, absD_i, toIntD_i, toIntD_b, eqD_i, eqD_b, eqD_s, rngD_1, rngD_2, seqD_l, seqD_t, lstD_l, ixX_l, ixX_t, negX_i, slX_l, rvX_l, repX_i, intX_i, ixD_0, ixD_1, ixD_2, true_and, and_true, ite_self]
                  by_cases g2 : 1 ≤ j
                  · by_cases g3 : j ≤ n
                    · simp only [g2, g3, decide_true, if_true, Bool.not_true, Bool.false_eq_true, if_false, backV, wSs, wS, w1, wT, wE, wA, wX, wV, wP, wC, opn, rdO_d, rdO_o, asD_d, asD_n, KQY, entry, look, put, slotV, argsOk, frzA, frzV, sv_i, sv_b, sv_s, sv_0, sv_l, sv_t, sv_d, sv_n, List.map, List.length, List.replicate, List.cons_append, List.nil_append, Nat.sub_self, biD, isD_1, boolD_b, cmpD, relD_i, opD, addD_i, addD_l, subD_i, intD_i, lenD_l, lenD_t, listD_l, listD_t, tupleD_l, int2D_i, absD_i, toIntD_i, toIntD_b, eqD_i, eqD_b, eqD_s, rngD_1, rngD_2, seqD_l, seqD_t, lstD_l, ixX_l, ixX_t, negX_i, slX_l, rvX_l, repX_i, intX_i, ixD_0, ixD_1, ixD_2, true_and, and_true, ite_self]
                      refine hnx _ _ ⟨as ++ [(i, j)], _, _, rfl, ?_, by rw [List.append_assoc]; exact hr, fun c hc => ?_⟩
                      · rw [List.map_append, hd, eij]
                        rfl
                      · rcases List.mem_append.mp hc with hc | hc
                        · exact hok c hc
                        · rw [List.mem_singleton.mp hc]
                          exact ⟨i0, by dsimp only; omega, by dsimp only; omega, by dsimp only; omega⟩
                    · simp only [g2, g3, decide_true, decide_false, if_true, Bool.not_false, Bool.false_eq_true, if_false, backV, wSs, wS, w1, wT, wE, wA, wX, wV, wP, wC, opn, rdO_d, rdO_o, asD_d, asD_n, KQY, entry, look, put, slotV, argsOk, frzA, frzV, sv_i, sv_b, sv_s, sv_0, sv_l, sv_t, sv_d, sv_n, List.map, List.length, List.replicate, List.cons_append, List.nil_append, Nat.sub_self, biD, isD_1, boolD_b, cmpD, relD_i, opD, addD_i, addD_l, subD_i, intD_i, lenD_l, lenD_t, listD_l, listD_t, tupleD_l, int2D_i, absD_i, toIntD_i, toIntD_b, eqD_i, eqD_b, eqD_s, rngD_1, rngD_2, seqD_l, seqD_t, lstD_l, ixX_l, ixX_t, negX_i, slX_l, rvX_l, repX_i, intX_i, ixD_0, ixD_1, ixD_2, true_and, and_true, ite_self]
                      rw [hrt]
                      exact nok fun hb => by have := hb.2.2.2; dsimp only at this; omega
                  · simp only [g2, decide_false, Bool.not_false, Bool.false_eq_true, if_true, if_false, backV, wSs, wS, w1, wT, wE, wA, wX, wV, wP, wC, opn, rdO_d, rdO_o, asD_d, asD_n, KQY, entry, look, put, slotV, argsOk, frzA, frzV, sv_i, sv_b, sv_s, sv_0, sv_l, sv_t, sv_d, sv_n, List.map, List.length, List.replicate, List.cons_append, List.nil_append, Nat.sub_self, biD, isD_1, boolD_b, cmpD, relD_i, opD, addD_i, addD_l, subD_i, intD_i, lenD_l, lenD_t, listD_l, listD_t, tupleD_l, int2D_i, absD_i, toIntD_i, toIntD_b, eqD_i, eqD_b, eqD_s, rngD_1, rngD_2, seqD_l, seqD_t, lstD_l, ixX_l, ixX_t, negX_i, slX_l, rvX_l, repX_i, intX_i, ixD_0, ixD_1, ixD_2, true_and, and_true, ite_self]
                    rw [hrt]
                    exact nok fun hb => by have := hb.2.2.1; dsimp only at this; omega
          · have e4 : decide ((((Txt.split w sP).length : Nat) : Int) = 2) = false := decide_eq_false (by omega)
            simp only [e4, Bool.not_false, if_true, backV, wSs, wS, w1, wT, wE, wA, wX, wV, wP, wC, opn, rdO_d, rdO_o, asD_d, asD_n, KQY, entry, look, put, slotV, argsOk, frzA, frzV, sv_i, sv_b, sv_s, sv_0, sv_l, sv_t, sv_d, sv_n, List.map, List.length, List.replicate, List.cons_append, List.nil_append, Nat.sub_self, biD, isD_1, boolD_b, cmpD, relD_i, opD, addD_i, addD_l, subD_i, intD_i, lenD_l, lenD_t, listD_l, listD_t, tupleD_l, int2D_i, absD_i, toIntD_i, toIntD_b, eqD_i, eqD_b, eqD_s, rngD_1, rngD_2, seqD_l, seqD_t, lstD_l, ixX_l, ixX_t, negX_i, slX_l, rvX_l, repX_i, intX_i, ixD_0, ixD_1, ixD_2, true_and, and_true, ite_self]
            rw [hrt]
            refine bad fun c hc e => h4 ?_
            obtain ⟨c0, c1, c2, c3⟩ := hc
            rw [e, split_arcS (a := c) (by omega)]
            rfl
      · have e : decide ((21 : Int) < ((ws.length + 1 : Nat) : Int)) = true := decide_eq_true (by omega)
        simp only [e, if_true, backV, wSs, wS, w1, wT, wE, wA, wX, wV, wP, wC, opn, rdO_d, rdO_o, asD_d, asD_n, KQY, entry, look, put, slotV, argsOk, frzA, frzV, sv_i, sv_b, sv_s, sv_0, sv_l, sv_t, sv_d, sv_n, List.map, List.length, List.replicate, List.cons_append, List.nil_append, Nat.sub_self, biD, isD_1, boolD_b, cmpD, relD_i, opD, addD_i, addD_l, subD_i, intD_i, lenD_l, lenD_t, listD_l, listD_t, tupleD_l, int2D_i, absD_i, toIntD_i, toIntD_b, eqD_i, eqD_b, eqD_s, rngD_1, rngD_2, seqD_l, seqD_t, lstD_l, ixX_l, ixX_t, negX_i, slX_l, rvX_l, repX_i, intX_i, ixD_0, ixD_1, ixD_2, true_and, and_true, ite_self]
        refine hno fun m as w => ?_
        have := (hn w).2
        have hl := w.1.len
        have := congrArg List.length this
        rw [List.length_map] at this
        omega
    · simp only [h1, h2, decide_true, decide_false, if_true, Bool.not_false, Bool.false_eq_true, if_false, backV, wSs, wS, w1, wT, wE, wA, wX, wV, wP, wC, opn, rdO_d, rdO_o, asD_d, asD_n, KQY, entry, look, put, slotV, argsOk, frzA, frzV, sv_i, sv_b, sv_s, sv_0, sv_l, sv_t, sv_d, sv_n, List.map, List.length, List.replicate, List.cons_append, List.nil_append, Nat.sub_self, biD, isD_1, boolD_b, cmpD, relD_i, opD, addD_i, addD_l, subD_i, intD_i, lenD_l, lenD_t, listD_l, listD_t, tupleD_l, int2D_i, absD_i, toIntD_i, toIntD_b, eqD_i, eqD_b, eqD_s, rngD_1, rngD_2, seqD_l, seqD_t, lstD_l, ixX_l, ixX_t, negX_i, slX_l, rvX_l, repX_i, intX_i, ixD_0, ixD_1, ixD_2, true_and, and_true, ite_self]
      exact hno fun m as w => by
        have := (hn w).1
        have := w.1.n40
        omega
  · simp only [h1, decide_false, Bool.not_false, Bool.false_eq_true, if_true, if_false, backV, wSs, wS, w1, wT, wE, wA, wX, wV, wP, wC, opn, rdO_d, rdO_o, asD_d, asD_n, KQY, entry, look, put, slotV, argsOk, frzA, frzV, sv_i, sv_b, sv_s, sv_0, sv_l, sv_t, sv_d, sv_n, List.map, List.length, List.replicate, List.cons_append, List.nil_append, Nat.sub_self, biD, isD_1, boolD_b, cmpD, relD_i, opD, addD_i, addD_l, subD_i, intD_i, lenD_l, lenD_t, listD_l, listD_t, tupleD_l, int2D_i, absD_i, toIntD_i, toIntD_b, eqD_i, eqD_b, eqD_s, rngD_1, rngD_2, seqD_l, seqD_t, lstD_l, ixX_l, ixX_t, negX_i, slX_l, rvX_l, repX_i, intX_i, ixD_0, ixD_1, ixD_2, true_and, and_true, ite_self]
    exact hno fun m as w => by
      have := (hn w).1
      have := w.1.n1
      omega
end Ac
namespace Ac
open PySem PySem.Spec PyProof.Rows L2 TL
/-! ### odd texts -/
def okT (xs : List D) : Bool := xs.all fun d => match d with
  | .str z => decide (z.length ≤ 200)
  | _ => false
theorem okT_mem {xs : List D} (h : okT xs = true) : ∀ x ∈ xs, ∃ z : Str, x = .str z ∧ z.length ≤ 200 := fun x hx => by
  have := List.all_eq_true.mp h x hx
  cases x with
  | str z => exact ⟨z, rfl, of_decide_eq_true this⟩
  | _ => cases this
theorem okT_app {xs ys : List D} (h : okT xs = true) (h' : okT ys = true) : okT (xs ++ ys) = true := by
  unfold okT at h h' ⊢
  rw [List.all_append, h, h']
  rfl
def S_law_odd : Summ where
  run ds Q _ := ∃ c : Int, ds = [.int c] ∧ ∀ z : Str, z.length ≤ 200 → Q (.dat (.str z))
  mono := fun h1 _ ⟨c, e, q⟩ => ⟨c, e, fun z hz => h1 _ (q z hz)⟩
def tr_law_odd_r1 : Sms Unit :=
  (.cons (.one (.ret (.ix (.var 1) (.op .Mod (.var 0) (.bi .len (.cons (.var 1) .nil))))))
    .nil)
def tr_law_odd_r2 : Sms Unit :=
  (.cons (.one (.asg 1 (.op .Add (.var 1) (.ls (.cons (.op .Add (.str "40") (.tx .mulS (.str " 0+1") (.int 20))) (.cons (.op .Add (.str "40") (.tx .mulS (.str " 0+1") (.int 21))) (.cons (.str "2 1+2 0+2") (.cons (.str "5 +2+1") (.cons (.str "5 2+\n1") .nil)))))))))
    tr_law_odd_r1)
def tr_law_odd_r3 : Sms Unit :=
  (.cons (.one (.asg 1 (.op .Add (.var 1) (.ls (.cons (.str "5\t0+1") (.cons (.str "5 0+1_0") (.cons (.str "1_0") (.cons (.str "5 0 +1") (.cons (.str "5 0+ 1") .nil)))))))))
    tr_law_odd_r2)
def tr_law_odd_r4 : Sms Unit :=
  (.cons (.one (.asg 1 (.op .Add (.var 1) (.ls (.cons (.str "100") (.cons (.str "40 39+40") (.cons (.str "40 40+1") (.cons (.str "5 0+1 0+1") (.cons (.str "1 0+1") (.cons (.str "1 0+2") .nil))))))))))
    tr_law_odd_r3)
def tr_law_odd_r5 : Sms Unit :=
  (.cons (.one (.asg 1 (.op .Add (.var 1) (.ls (.cons (.str "5 0 1") (.cons (.str "0+1") (.cons (.str "5 0+1,2+1") (.cons (.str "5 00+1") (.cons (.str "5 0+01") (.cons (.str "5 -1+1") .nil))))))))))
    tr_law_odd_r4)
def tr_law_odd_r6 : Sms Unit :=
  (.cons (.one (.asg 1 (.op .Add (.var 1) (.ls (.cons (.str "5 0+x") (.cons (.str "-5") (.cons (.str "+5") (.cons (.str "5.0") (.cons (.str "5 0+1\n") (.cons (.str "5\n") (.cons (.str "\n5") .nil)))))))))))
    tr_law_odd_r5)
def tr_law_odd_r7 : Sms Unit :=
  (.cons (.one (.asg 1 (.op .Add (.var 1) (.ls (.cons (.str "5 0-1") (.cons (.str "5 0+1+2") (.cons (.str "5 0++1") (.cons (.str "5 +1") (.cons (.str "5 0+") (.cons (.str "5 +") (.cons (.str "x") (.cons (.str "5 a+1") .nil))))))))))))
    tr_law_odd_r6)
def tr_law_odd_r8 : Sms Unit :=
  (.cons (.one (.asg 1 (.op .Add (.var 1) (.ls (.cons (.str "5 0+1 ") (.cons (.str "5  0+1") (.cons (.str "5 0+1") (.cons (.str "5 5+1") (.cons (.str "5 0+6") (.cons (.str "5 0+0") (.cons (.str "5 0+5") (.cons (.str "5 4+5") .nil))))))))))))
    tr_law_odd_r7)
def tr_law_odd : Sms Unit :=
  (.cons (.one (.asg 1 (.ls (.cons (.str "") (.cons (.str " ") (.cons (.str "0") (.cons (.str "1") (.cons (.str "40") (.cons (.str "41") (.cons (.str "01") (.cons (.str "1 ") (.cons (.str " 1") .nil))))))))))))
    tr_law_odd_r8)

section
variable {c : Int} {Q : Val → Prop} {Y : Nat → Prop}
def OddR (c : Int) (Q : Val → Prop) (Y : Nat → Prop) (m : Nat) (t : Sms Unit) : Prop := ∀ xs : List D, okT xs = true → 0 < xs.length → xs.length ≤ m → wSs t [some (.dat (.int c)), some (.own xs)] () (KQY Q Y)
theorem oddR_add {m k : Nat} {t : Sms Unit} {es : Es Unit} {ys : List D} (go : OddR c Q Y m t) (hm : m ≤ 200) (hy : okT ys = true) (hk : ys.length = k) (he : ∀ (xs : List D) (K : List D → Ctx → Unit → Prop), K ys [some (.dat (.int c)), some (.own xs)] () → wX (fun n _ _ => Y n) es [some (.dat (.int c)), some (.own xs)] () K) (hkm : k ≤ m) :
    OddR c Q Y (m - k) (.cons (.one (.asg 1 (.op .Add (.var 1) (.ls es)))) t) := fun xs hx h0 hl => by
  simp only [wSs, wS, w1, wE, opn, look, rdO_o, asD_n, opD]
  refine he xs _ ?_
  refine ⟨by unfold big; omega, ?_⟩
  refine ⟨by unfold big; omega, ?_⟩
  exact go (xs ++ ys) (okT_app hx hy) (by rw [List.length_append]; omega) (by rw [List.length_append]; omega)
theorem odd_r1 (h : ∀ z : Str, z.length ≤ 200 → Q (.dat (.str z))) : OddR c Q Y 100 tr_law_odd_r1 := fun xs hx h0 hl => by
  unfold tr_law_odd_r1
  simp only [backV, wSs, wS, w1, wT, wE, wA, wX, wV, wP, wC, opn, rdO_d, rdO_o, asD_d, asD_n, KQY, entry, look, put, slotV, argsOk, frzA, frzV, sv_i, sv_b, sv_s, sv_0, sv_l, sv_t, sv_d, sv_n, List.map, List.length, List.replicate, List.cons_append, List.nil_append, Nat.sub_self, biD, isD_1, boolD_b, cmpD, relD_i, opD, addD_i, addD_l, subD_i, intD_i, lenD_l, lenD_t, listD_l, listD_t, tupleD_l, int2D_i, absD_i, toIntD_i, toIntD_b, eqD_i, eqD_b, eqD_s, rngD_1, rngD_2, seqD_l, seqD_t, lstD_l, ixX_l, ixX_t, negX_i, slX_l, rvX_l, repX_i, intX_i, ixD_0, ixD_1, ixD_2, true_and, and_true, ite_self]
  have m1 := modR (a := c) (m := (xs.length : Nat)) (by omega)
  refine ⟨by omega, ?_⟩
  refine ixD_any m1.1 m1.2 fun x hx' => ?_
  obtain ⟨z, rfl, hz⟩ := okT_mem hx x hx'
  exact h z hz
theorem odd_r2 (h : ∀ z : Str, z.length ≤ 200 → Q (.dat (.str z))) : OddR c Q Y 95 tr_law_odd_r2 :=
  oddR_add (k := 5) (m := 100) (ys := [.str (("40" : Str) ++ repS (" 0+1" : Str) 20), .str (("40" : Str) ++ repS (" 0+1" : Str) 21), .str "2 1+2 0+2", .str "5 +2+1", .str "5 2+\n1"]) (odd_r1 h) (by decide) (by decide +kernel) rfl (fun xs K hK => by
    simp only [backV, wSs, wS, w1, wT, wE, wA, wX, wV, wP, wC, opn, rdO_d, rdO_o, asD_d, asD_n, KQY, entry, look, put, slotV, argsOk, frzA, frzV, sv_i, sv_b, sv_s, sv_0, sv_l, sv_t, sv_d, sv_n, List.map, List.length, List.replicate, List.cons_append, List.nil_append, Nat.sub_self, biD, isD_1, boolD_b, cmpD, relD_i, opD, addD_i, addD_l, subD_i, intD_i, lenD_l, lenD_t, listD_l, listD_t, tupleD_l, int2D_i, absD_i, toIntD_i, toIntD_b, eqD_i, eqD_b, eqD_s, rngD_1, rngD_2, seqD_l, seqD_t, lstD_l, ixX_l, ixX_t, negX_i, slX_l, rvX_l, repX_i, intX_i, ixD_0, ixD_1, ixD_2, true_and, and_true, ite_self, strX_s, txD, txMul, addD_s]
    refine ⟨⟨by decide, by decide, by decide +kernel⟩, by unfold big; decide +kernel, ⟨by decide, by decide, by decide +kernel⟩, by unfold big; decide +kernel, hK⟩) (by decide)
theorem odd_r3 (h : ∀ z : Str, z.length ≤ 200 → Q (.dat (.str z))) : OddR c Q Y 90 tr_law_odd_r3 :=
  oddR_add (k := 5) (m := 95) (ys := [.str "5\t0+1", .str "5 0+1_0", .str "1_0", .str "5 0 +1", .str "5 0+ 1"]) (odd_r2 h) (by decide) (by decide +kernel) rfl (fun xs K hK => by
    simp only [backV, wSs, wS, w1, wT, wE, wA, wX, wV, wP, wC, opn, rdO_d, rdO_o, asD_d, asD_n, KQY, entry, look, put, slotV, argsOk, frzA, frzV, sv_i, sv_b, sv_s, sv_0, sv_l, sv_t, sv_d, sv_n, List.map, List.length, List.replicate, List.cons_append, List.nil_append, Nat.sub_self, biD, isD_1, boolD_b, cmpD, relD_i, opD, addD_i, addD_l, subD_i, intD_i, lenD_l, lenD_t, listD_l, listD_t, tupleD_l, int2D_i, absD_i, toIntD_i, toIntD_b, eqD_i, eqD_b, eqD_s, rngD_1, rngD_2, seqD_l, seqD_t, lstD_l, ixX_l, ixX_t, negX_i, slX_l, rvX_l, repX_i, intX_i, ixD_0, ixD_1, ixD_2, true_and, and_true, ite_self]; exact hK) (by decide)
theorem odd_r4 (h : ∀ z : Str, z.length ≤ 200 → Q (.dat (.str z))) : OddR c Q Y 84 tr_law_odd_r4 :=
  oddR_add (k := 6) (m := 90) (ys := [.str "100", .str "40 39+40", .str "40 40+1", .str "5 0+1 0+1", .str "1 0+1", .str "1 0+2"]) (odd_r3 h) (by decide) (by decide +kernel) rfl (fun xs K hK => by
    simp only [backV, wSs, wS, w1, wT, wE, wA, wX, wV, wP, wC, opn, rdO_d, rdO_o, asD_d, asD_n, KQY, entry, look, put, slotV, argsOk, frzA, frzV, sv_i, sv_b, sv_s, sv_0, sv_l, sv_t, sv_d, sv_n, List.map, List.length, List.replicate, List.cons_append, List.nil_append, Nat.sub_self, biD, isD_1, boolD_b, cmpD, relD_i, opD, addD_i, addD_l, subD_i, intD_i, lenD_l, lenD_t, listD_l, listD_t, tupleD_l, int2D_i, absD_i, toIntD_i, toIntD_b, eqD_i, eqD_b, eqD_s, rngD_1, rngD_2, seqD_l, seqD_t, lstD_l, ixX_l, ixX_t, negX_i, slX_l, rvX_l, repX_i, intX_i, ixD_0, ixD_1, ixD_2, true_and, and_true, ite_self]; exact hK) (by decide)
theorem odd_r5 (h : ∀ z : Str, z.length ≤ 200 → Q (.dat (.str z))) : OddR c Q Y 78 tr_law_odd_r5 :=
  oddR_add (k := 6) (m := 84) (ys := [.str "5 0 1", .str "0+1", .str "5 0+1,2+1", .str "5 00+1", .str "5 0+01", .str "5 -1+1"]) (odd_r4 h) (by decide) (by decide +kernel) rfl (fun xs K hK => by
    simp only [backV, wSs, wS, w1, wT, wE, wA, wX, wV, wP, wC, opn, rdO_d, rdO_o, asD_d, asD_n, KQY, entry, look, put, slotV, argsOk, frzA, frzV, sv_i, sv_b, sv_s, sv_0, sv_l, sv_t, sv_d, sv_n, List.map, List.length, List.replicate, List.cons_append, List.nil_append, Nat.sub_self, biD, isD_1, boolD_b, cmpD, relD_i, opD, addD_i, addD_l, subD_i, intD_i, lenD_l, lenD_t, listD_l, listD_t, tupleD_l, int2D_i, absD_i, toIntD_i, toIntD_b, eqD_i, eqD_b, eqD_s, rngD_1, rngD_2, seqD_l, seqD_t, lstD_l, ixX_l, ixX_t, negX_i, slX_l, rvX_l, repX_i, intX_i, ixD_0, ixD_1, ixD_2, true_and, and_true, ite_self]; exact hK) (by decide)
theorem odd_r6 (h : ∀ z : Str, z.length ≤ 200 → Q (.dat (.str z))) : OddR c Q Y 71 tr_law_odd_r6 :=
  oddR_add (k := 7) (m := 78) (ys := [.str "5 0+x", .str "-5", .str "+5", .str "5.0", .str "5 0+1\n", .str "5\n", .str "\n5"]) (odd_r5 h) (by decide) (by decide +kernel) rfl (fun xs K hK => by
    simp only [backV, wSs, wS, w1, wT, wE, wA, wX, wV, wP, wC, opn, rdO_d, rdO_o, asD_d, asD_n, KQY, entry, look, put, slotV, argsOk, frzA, frzV, sv_i, sv_b, sv_s, sv_0, sv_l, sv_t, sv_d, sv_n, List.map, List.length, List.replicate, List.cons_append, List.nil_append, Nat.sub_self, biD, isD_1, boolD_b, cmpD, relD_i, opD, addD_i, addD_l, subD_i, intD_i, lenD_l, lenD_t, listD_l, listD_t, tupleD_l, int2D_i, absD_i, toIntD_i, toIntD_b, eqD_i, eqD_b, eqD_s, rngD_1, rngD_2, seqD_l, seqD_t, lstD_l, ixX_l, ixX_t, negX_i, slX_l, rvX_l, repX_i, intX_i, ixD_0, ixD_1, ixD_2, true_and, and_true, ite_self]; exact hK) (by decide)
theorem odd_r7 (h : ∀ z : Str, z.length ≤ 200 → Q (.dat (.str z))) : OddR c Q Y 63 tr_law_odd_r7 :=
  oddR_add (k := 8) (m := 71) (ys := [.str "5 0-1", .str "5 0+1+2", .str "5 0++1", .str "5 +1", .str "5 0+", .str "5 +", .str "x", .str "5 a+1"]) (odd_r6 h) (by decide) (by decide +kernel) rfl (fun xs K hK => by
    simp only [backV, wSs, wS, w1, wT, wE, wA, wX, wV, wP, wC, opn, rdO_d, rdO_o, asD_d, asD_n, KQY, entry, look, put, slotV, argsOk, frzA, frzV, sv_i, sv_b, sv_s, sv_0, sv_l, sv_t, sv_d, sv_n, List.map, List.length, List.replicate, List.cons_append, List.nil_append, Nat.sub_self, biD, isD_1, boolD_b, cmpD, relD_i, opD, addD_i, addD_l, subD_i, intD_i, lenD_l, lenD_t, listD_l, listD_t, tupleD_l, int2D_i, absD_i, toIntD_i, toIntD_b, eqD_i, eqD_b, eqD_s, rngD_1, rngD_2, seqD_l, seqD_t, lstD_l, ixX_l, ixX_t, negX_i, slX_l, rvX_l, repX_i, intX_i, ixD_0, ixD_1, ixD_2, true_and, and_true, ite_self]; exact hK) (by decide)
theorem odd_r8 (h : ∀ z : Str, z.length ≤ 200 → Q (.dat (.str z))) : OddR c Q Y 55 tr_law_odd_r8 :=
  oddR_add (k := 8) (m := 63) (ys := [.str "5 0+1 ", .str "5  0+1", .str "5 0+1", .str "5 5+1", .str "5 0+6", .str "5 0+0", .str "5 0+5", .str "5 4+5"]) (odd_r7 h) (by decide) (by decide +kernel) rfl (fun xs K hK => by
    simp only [backV, wSs, wS, w1, wT, wE, wA, wX, wV, wP, wC, opn, rdO_d, rdO_o, asD_d, asD_n, KQY, entry, look, put, slotV, argsOk, frzA, frzV, sv_i, sv_b, sv_s, sv_0, sv_l, sv_t, sv_d, sv_n, List.map, List.length, List.replicate, List.cons_append, List.nil_append, Nat.sub_self, biD, isD_1, boolD_b, cmpD, relD_i, opD, addD_i, addD_l, subD_i, intD_i, lenD_l, lenD_t, listD_l, listD_t, tupleD_l, int2D_i, absD_i, toIntD_i, toIntD_b, eqD_i, eqD_b, eqD_s, rngD_1, rngD_2, seqD_l, seqD_t, lstD_l, ixX_l, ixX_t, negX_i, slX_l, rvX_l, repX_i, intX_i, ixD_0, ixD_1, ixD_2, true_and, and_true, ite_self]; exact hK) (by decide)
end
theorem w_law_odd : WOk S_law_odd 1 2 tr_law_odd := fun ds Q Y h => by
  obtain ⟨c, rfl, h⟩ := h
  refine ⟨rfl, ?_⟩
  have go := odd_r8 (c := c) (Q := Q) (Y := Y) h
  unfold tr_law_odd
  generalize tr_law_odd_r8 = r8 at go
  simp only [backV, wSs, wS, w1, wT, wE, wA, wX, wV, wP, wC, opn, rdO_d, rdO_o, asD_d, asD_n, KQY, entry, look, put, slotV, argsOk, frzA, frzV, sv_i, sv_b, sv_s, sv_0, sv_l, sv_t, sv_d, sv_n, List.map, List.length, List.replicate, List.cons_append, List.nil_append, Nat.sub_self, biD, isD_1, boolD_b, cmpD, relD_i, opD, addD_i, addD_l, subD_i, intD_i, lenD_l, lenD_t, listD_l, listD_t, tupleD_l, int2D_i, absD_i, toIntD_i, toIntD_b, eqD_i, eqD_b, eqD_s, rngD_1, rngD_2, seqD_l, seqD_t, lstD_l, ixX_l, ixX_t, negX_i, slX_l, rvX_l, repX_i, intX_i, ixD_0, ixD_1, ixD_2, true_and, and_true, ite_self]
  refine ⟨by unfold big; decide, ?_⟩
  exact go _ (by decide +kernel) (by decide) (by decide)
/-! ### a ring's writing, a sign otherwise -/
def S_law_given : Summ where
  run ds Q _ := ∃ c : Int, ds = [.int c] ∧ ∀ z : Str, z.length ≤ 400 → Q (.dat (.str z))
  mono := fun h1 _ ⟨c, e, q⟩ => ⟨c, e, fun z hz => h1 _ (q z hz)⟩
def tr_law_given_e1 : E Unit :=
  (.op .Add (.op .Add (.bi .str (.cons (.var 5) .nil)) (.str "+")) (.bi .str (.cons (.var 6) .nil)))
def tr_law_given_r1 : Sms Unit :=
  (.cons (.one (.asg 9 (.op .Mod (.op .FloorDiv (.var 0) (.int 12)) (.op .Add (.bi .len (.cons (.var 7) .nil)) (.int 1)))))
    (.cons (.one (.asg 10 (.ix (.var 8) (.op .Mod (.op .FloorDiv (.var 0) (.int 4000)) (.bi .len (.cons (.var 8) .nil))))))
    (.cons (.ite (.cmp .Eq (.var 1) (.int 1))
    (.cons (.one (.ret (.op .Add (.sl (.var 7) .nil (.cons (.var 9) .nil)) (.sl (.var 7) (.cons (.op .Add (.var 9) (.int 1)) .nil) .nil))))
    .nil)
    .nil)
    (.cons (.one (.ret (.op .Add (.op .Add (.sl (.var 7) .nil (.cons (.var 9) .nil)) (.var 10)) (.sl (.var 7) (.cons (.op .Add (.var 9) (.bi .int (.cons (.cmp .Eq (.var 1) (.int 2)) .nil))) .nil) .nil))))
    .nil))))
def tr_law_given : Sms Unit :=
  (.cons (.one (.asg 1 (.op .Mod (.var 0) (.int 4))))
    (.cons (.ite (.cmp .Eq (.var 1) (.int 0))
    (.cons (.one (.ret (.call "_law_odd" S_law_odd (.cons (.op .FloorDiv (.var 0) (.int 4)) .nil))))
    .nil)
    .nil)
    (.cons (.one (.asgT [2, 3] (.call "_law_ring" S_law_ring (.cons (.call "_law_mixed" S_law_mixed (.cons (.var 0) (.cons (.int 3) .nil))) (.cons (.int 40) (.cons (.int 20) .nil))))))
    (.cons (.one (.asgL 4 (.comp [5, 6] (.tp [5, 6]) (.seq (.var 3)) .nil tr_law_given_e1)))
    (.cons (.one (.asg 7 (.tx .join (.str " ") (.op .Add (.ls (.cons (.bi .str (.cons (.var 2) .nil)) .nil)) (.var 4)))))
    (.cons (.one (.asg 8 (.str " !#$&'()*+,-./0123456789:;<=>?@ABCDEFGHIJKLMNOPQRSTUVWXYZ[]^_`abcdefghijklmnopqrstuvwxyz{|}~\t\n")))
    (.cons (.ite (.cmp .Gt (.op .Mod (.op .FloorDiv (.var 0) (.int 4)) (.int 3)) (.int 0))
    (.cons (.one (.asg 8 (.str "0123456789+ ")))
    .nil)
    .nil)
    tr_law_given_r1)))))))

theorem cutS_len {z : Str} {lo hi : Option Int} : (cutS z lo hi).length ≤ z.length := cutS_length z lo hi
section
variable {c k n : Int} {as : List D} {z sg : Str} {Q : Val → Prop} {Y : Nat → Prop} {x4 : Option Val}
theorem given_r1 (h : ∀ z : Str, z.length ≤ 400 → Q (.dat (.str z))) (hz : z.length ≤ 126) (hs : sg.length ≤ 200) (hs0 : 0 < sg.length) :
    wSs tr_law_given_r1 [some (.dat (.int c)), some (.dat (.int k)), some (.dat (.int n)), some (.dat (.list as)), x4, none, none, some (.dat (.str z)), some (.dat (.str sg)), none, none] () (KQY Q Y) := by
  have m1 := modR (a := c / 12) (m := (z.length : Nat) + 1) (by omega)
  have m2 := modR (a := c / 4000) (m := (sg.length : Nat)) (by omega)
  unfold tr_law_given_r1
  simp only [backV, wSs, wS, w1, wT, wE, wA, wX, wV, wP, wC, opn, rdO_d, rdO_o, asD_d, asD_n, KQY, entry, look, put, slotV, argsOk, frzA, frzV, sv_i, sv_b, sv_s, sv_0, sv_l, sv_t, sv_d, sv_n, List.map, List.length, List.replicate, List.cons_append, List.nil_append, Nat.sub_self, biD, isD_1, boolD_b, cmpD, relD_i, opD, addD_i, addD_l, subD_i, intD_i, lenD_l, lenD_t, listD_l, listD_t, tupleD_l, int2D_i, absD_i, toIntD_i, toIntD_b, eqD_i, eqD_b, eqD_s, rngD_1, rngD_2, seqD_l, seqD_t, lstD_l, ixX_l, ixX_t, negX_i, slX_l, rvX_l, repX_i, intX_i, ixD_0, ixD_1, ixD_2, true_and, and_true, ite_self, lenD, ixX]
  refine ⟨⟨by decide, by decide⟩, by unfold big; omega, by omega, ⟨by decide, by decide⟩, by unfold big; omega, by omega, by unfold big; omega, ?_⟩
  have hsl : (signsD sg).length = sg.length := by unfold signsD; rw [List.length_map]; rfl
  refine ixD_any m2.1 (by rw [hsl]; exact m2.2) fun x hx => ?_
  obtain ⟨s, _, rfl⟩ := List.mem_map.mp hx
  have h1 : (⟨#[s]⟩ : Str).length = 1 := rfl
  simp only [signD, backV, wSs, wS, w1, wT, wE, wA, wX, wV, wP, wC, opn, rdO_d, rdO_o, asD_d, asD_n, KQY, entry, look, put, slotV, argsOk, frzA, frzV, sv_i, sv_b, sv_s, sv_0, sv_l, sv_t, sv_d, sv_n, List.map, List.length, List.replicate, List.cons_append, List.nil_append, Nat.sub_self, biD, isD_1, boolD_b, cmpD, relD_i, opD, addD_i, addD_l, subD_i, intD_i, lenD_l, lenD_t, listD_l, listD_t, tupleD_l, int2D_i, absD_i, toIntD_i, toIntD_b, eqD_i, eqD_b, eqD_s, rngD_1, rngD_2, seqD_l, seqD_t, lstD_l, ixX_l, ixX_t, negX_i, slX_l, rvX_l, repX_i, intX_i, ixD_0, ixD_1, ixD_2, true_and, and_true, ite_self, slX, addD_s]
  generalize c / 12 % ((z.length : Nat) + 1) = at' at m1
  have c1 := cutS_len (z := z) (lo := none) (hi := some at')
  have c2 := cutS_len (z := z) (lo := some (at' + 1)) (hi := none)
  by_cases hk : k = 1
  · simp only [hk, decide_true, if_true, backV, wSs, wS, w1, wT, wE, wA, wX, wV, wP, wC, opn, rdO_d, rdO_o, asD_d, asD_n, KQY, entry, look, put, slotV, argsOk, frzA, frzV, sv_i, sv_b, sv_s, sv_0, sv_l, sv_t, sv_d, sv_n, List.map, List.length, List.replicate, List.cons_append, List.nil_append, Nat.sub_self, biD, isD_1, boolD_b, cmpD, relD_i, opD, addD_i, addD_l, subD_i, intD_i, lenD_l, lenD_t, listD_l, listD_t, tupleD_l, int2D_i, absD_i, toIntD_i, toIntD_b, eqD_i, eqD_b, eqD_s, rngD_1, rngD_2, seqD_l, seqD_t, lstD_l, ixX_l, ixX_t, negX_i, slX_l, rvX_l, repX_i, intX_i, ixD_0, ixD_1, ixD_2, true_and, and_true, ite_self, slX, addD_s]
    refine ⟨by unfold big; omega, by unfold big; omega, by unfold big; omega, h _ ?_⟩
    rw [str_len]
    omega
  · simp only [hk, decide_false, Bool.false_eq_true, if_false, backV, wSs, wS, w1, wT, wE, wA, wX, wV, wP, wC, opn, rdO_d, rdO_o, asD_d, asD_n, KQY, entry, look, put, slotV, argsOk, frzA, frzV, sv_i, sv_b, sv_s, sv_0, sv_l, sv_t, sv_d, sv_n, List.map, List.length, List.replicate, List.cons_append, List.nil_append, Nat.sub_self, biD, isD_1, boolD_b, cmpD, relD_i, opD, addD_i, addD_l, subD_i, intD_i, lenD_l, lenD_t, listD_l, listD_t, tupleD_l, int2D_i, absD_i, toIntD_i, toIntD_b, eqD_i, eqD_b, eqD_s, rngD_1, rngD_2, seqD_l, seqD_t, lstD_l, ixX_l, ixX_t, negX_i, slX_l, rvX_l, repX_i, intX_i, ixD_0, ixD_1, ixD_2, true_and, and_true, ite_self, slX, addD_s]
    refine ⟨by unfold big; omega, by rw [h1]; unfold big; omega, by unfold big; omega, ?_⟩
    have c3 := cutS_len (z := z) (lo := some (at' + if (decide (k = 2)) = true then 1 else 0)) (hi := none)
    refine ⟨by rw [str_len, h1]; unfold big; omega, h _ ?_⟩
    rw [str_len, str_len, h1]
    omega
end
theorem w_law_given : WOk S_law_given 1 11 tr_law_given := fun ds Q Y h => by
  obtain ⟨c, rfl, h⟩ := h
  refine ⟨rfl, ?_⟩
  have go := fun k n as z sg x4 hz hs hs0 => given_r1 (c := c) (k := k) (n := n) (as := as) (z := z) (sg := sg) (x4 := x4) (Q := Q) (Y := Y) h hz hs hs0
  unfold tr_law_given
  generalize tr_law_given_r1 = r1 at go
  simp only [backV, wSs, wS, w1, wT, wE, wA, wX, wV, wP, wC, opn, rdO_d, rdO_o, asD_d, asD_n, KQY, entry, look, put, slotV, argsOk, frzA, frzV, sv_i, sv_b, sv_s, sv_0, sv_l, sv_t, sv_d, sv_n, List.map, List.length, List.replicate, List.cons_append, List.nil_append, Nat.sub_self, biD, isD_1, boolD_b, cmpD, relD_i, opD, addD_i, addD_l, subD_i, intD_i, lenD_l, lenD_t, listD_l, listD_t, tupleD_l, int2D_i, absD_i, toIntD_i, toIntD_b, eqD_i, eqD_b, eqD_s, rngD_1, rngD_2, seqD_l, seqD_t, lstD_l, ixX_l, ixX_t, negX_i, slX_l, rvX_l, repX_i, intX_i, ixD_0, ixD_1, ixD_2, true_and, and_true, ite_self]
  refine ⟨by decide, ?_⟩
  by_cases hk : c % 4 = 0
  · simp only [hk, decide_true, if_true, backV, wSs, wS, w1, wT, wE, wA, wX, wV, wP, wC, opn, rdO_d, rdO_o, asD_d, asD_n, KQY, entry, look, put, slotV, argsOk, frzA, frzV, sv_i, sv_b, sv_s, sv_0, sv_l, sv_t, sv_d, sv_n, List.map, List.length, List.replicate, List.cons_append, List.nil_append, Nat.sub_self, biD, isD_1, boolD_b, cmpD, relD_i, opD, addD_i, addD_l, subD_i, intD_i, lenD_l, lenD_t, listD_l, listD_t, tupleD_l, int2D_i, absD_i, toIntD_i, toIntD_b, eqD_i, eqD_b, eqD_s, rngD_1, rngD_2, seqD_l, seqD_t, lstD_l, ixX_l, ixX_t, negX_i, slX_l, rvX_l, repX_i, intX_i, ixD_0, ixD_1, ixD_2, true_and, and_true, ite_self]
    exact ⟨⟨by decide, by decide⟩, _, rfl, fun z hz => h z (by omega)⟩
  · simp only [hk, decide_false, Bool.false_eq_true, if_false]
    refine call_mixed (by decide) (by decide) fun c2 => ?_
    try simp only [backV, wSs, wS, w1, wT, wE, wA, wX, wV, wP, wC, opn, rdO_d, rdO_o, asD_d, asD_n, KQY, entry, look, put, slotV, argsOk, frzA, frzV, sv_i, sv_b, sv_s, sv_0, sv_l, sv_t, sv_d, sv_n, List.map, List.length, List.replicate, List.cons_append, List.nil_append, Nat.sub_self, biD, isD_1, boolD_b, cmpD, relD_i, opD, addD_i, addD_l, subD_i, intD_i, lenD_l, lenD_t, listD_l, listD_t, tupleD_l, int2D_i, absD_i, toIntD_i, toIntD_b, eqD_i, eqD_b, eqD_s, rngD_1, rngD_2, seqD_l, seqD_t, lstD_l, ixX_l, ixX_t, negX_i, slX_l, rvX_l, repX_i, intX_i, ixD_0, ixD_1, ixD_2, true_and, and_true, ite_self, Bool.false_eq_true, if_false, if_true, Bool.not_true, Bool.not_false, ixR0, ixR1, sv_r]
    refine call_ringT (by decide) fun n as ok hn hl2 => ?_
    have n1 := ok.n1
    have n40 := ok.n40
    have hal := ok.len
    have hsl := showS_len ok
    simp only [backV, wSs, wS, w1, wT, wE, wA, wX, wV, wP, wC, opn, rdO_d, rdO_o, asD_d, asD_n, KQY, entry, look, put, slotV, argsOk, frzA, frzV, sv_i, sv_b, sv_s, sv_0, sv_l, sv_t, sv_d, sv_n, List.map, List.length, List.replicate, List.cons_append, List.nil_append, Nat.sub_self, biD, isD_1, boolD_b, cmpD, relD_i, opD, addD_i, addD_l, subD_i, intD_i, lenD_l, lenD_t, listD_l, listD_t, tupleD_l, int2D_i, absD_i, toIntD_i, toIntD_b, eqD_i, eqD_b, eqD_s, rngD_1, rngD_2, seqD_l, seqD_t, lstD_l, ixX_l, ixX_t, negX_i, slX_l, rvX_l, repX_i, intX_i, ixD_0, ixD_1, ixD_2, true_and, and_true, ite_self, ringD, putAll, wI, wipeG, backG]
    refine ⟨by rw [List.length_map]; unfold big; omega, ?_⟩
    refine cLoop_mp (g := arcD) (q := fun a => some (.str (arcS a))) _ [] ?_ ?_
    · intro a ha k' hk
      obtain ⟨h1, h2, h3, h4⟩ := ok.arcs a ha
      have l1 := numS_len (i := a.1) (by omega) (by omega)
      have l2 := numS_len (i := a.2) (by omega) (by omega)
      unfold tr_law_given_e1
      simp only [bindT, arcD, putAll, backV, wSs, wS, w1, wT, wE, wA, wX, wV, wP, wC, opn, rdO_d, rdO_o, asD_d, asD_n, KQY, entry, look, put, slotV, argsOk, frzA, frzV, sv_i, sv_b, sv_s, sv_0, sv_l, sv_t, sv_d, sv_n, List.map, List.length, List.replicate, List.cons_append, List.nil_append, Nat.sub_self, biD, isD_1, boolD_b, cmpD, relD_i, opD, addD_i, addD_l, subD_i, intD_i, lenD_l, lenD_t, listD_l, listD_t, tupleD_l, int2D_i, absD_i, toIntD_i, toIntD_b, eqD_i, eqD_b, eqD_s, rngD_1, rngD_2, seqD_l, seqD_t, lstD_l, ixX_l, ixX_t, negX_i, slX_l, rvX_l, repX_i, intX_i, ixD_0, ixD_1, ixD_2, true_and, and_true, ite_self, toStrD_i, addD_s, sP_lit]
      refine ⟨log2_sm (by omega), ?_, log2_sm (by omega), ?_, hk⟩
      · rw [sP_len]; unfold big; omega
      · rw [str_len, sP_len]; unfold big; omega
    rw [List.nil_append, fm_all]
    simp only [backV, wSs, wS, w1, wT, wE, wA, wX, wV, wP, wC, opn, rdO_d, rdO_o, asD_d, asD_n, KQY, entry, look, put, slotV, argsOk, frzA, frzV, sv_i, sv_b, sv_s, sv_0, sv_l, sv_t, sv_d, sv_n, List.map, List.length, List.replicate, List.cons_append, List.nil_append, Nat.sub_self, biD, isD_1, boolD_b, cmpD, relD_i, opD, addD_i, addD_l, subD_i, intD_i, lenD_l, lenD_t, listD_l, listD_t, tupleD_l, int2D_i, absD_i, toIntD_i, toIntD_b, eqD_i, eqD_b, eqD_s, rngD_1, rngD_2, seqD_l, seqD_t, lstD_l, ixX_l, ixX_t, negX_i, slX_l, rvX_l, repX_i, intX_i, ixD_0, ixD_1, ixD_2, true_and, and_true, ite_self, strX_s, toStrD_i, sB_lit, txD]
    refine ⟨log2_sm (by omega), by unfold big; decide, by rw [List.length_map]; unfold big; omega, ?_⟩
    refine ⟨numS n :: as.map arcS, ?_, join_room ok, ?_⟩
    · show strsD (.str (numS n) :: as.map fun a => PyData.str (arcS a)) = _
      rw [strsD_cons, strsD_arcs]
      rfl
    have es : Txt.join sB (numS n :: as.map arcS) = showS n as := rfl
    simp only [es]
    refine ⟨⟨by decide, by decide⟩, by decide, ?_⟩
    split
    · exact go _ _ _ _ _ _ hsl (by decide +kernel) (by decide +kernel)
    · exact go _ _ _ _ _ _ hsl (by decide +kernel) (by decide +kernel)
end Ac
namespace Ac
open PySem PySem.Spec PyProof.Rows L2 TL
/-! ### rings with a part otherwise -/
theorem bad_arc {n : Int} {xs : List D} {x : D} (hx : x ∈ xs) (h : isArcD x n = false) : isRingD (.tuple [.int n, .list xs]) = false := by
  rw [Bool.eq_false_iff]
  intro z
  unfold isRingD at z
  simp only [Bool.and_eq_true] at z
  have := List.all_eq_true.mp z.2 x hx
  rw [h] at this
  cases this
theorem b20 {a : Nat} (h : a ≤ 20) : a ≤ big := by unfold big; omega
def okB (xs : List D) : Prop := ∀ x ∈ xs, isRingD x = false
theorem okB_app {xs ys : List D} (h : okB xs) (h' : okB ys) : okB (xs ++ ys) := fun x hx => by
  rcases List.mem_append.mp hx with hx | hx
  · exact h x hx
  · exact h' x hx
theorem okB_nil : okB [] := fun x h => nomatch h
theorem okB_cons {x : D} {xs : List D} (h : isRingD x = false) (h' : okB xs) : okB (x :: xs) := fun y hy => by
  rcases List.mem_cons.mp hy with rfl | hy
  · exact h
  · exact h' y hy
def okA (n : Int) (xs : List D) : Prop := ∀ x ∈ xs, isArcD x n = false
theorem okA_nil {n : Int} : okA n [] := fun x h => nomatch h
theorem okA_cons {n : Int} {x : D} {xs : List D} (h : isArcD x n = false) (h' : okA n xs) : okA n (x :: xs) := fun y hy => by
  rcases List.mem_cons.mp hy with rfl | hy
  · exact h
  · exact h' y hy
theorem okA_app {n : Int} {xs ys : List D} (h : okA n xs) (h' : okA n ys) : okA n (xs ++ ys) := fun x hx => by
  rcases List.mem_append.mp hx with hx | hx
  · exact h x hx
  · exact h' x hx
theorem cutD_len {xs : List D} {lo hi : Option Int} : (cutD xs lo hi).length ≤ xs.length := by
  unfold cutD
  rw [List.length_take, List.length_drop]
  omega
theorem fLoop_id {S : Type} {f : D → Ctx → S → Kn S → Prop} {K : Kn S} (I : List D → List D → Ctx → S → Prop) (hnx : ∀ done Γ s, I done [] Γ s → K.nx Γ s)
    (hstep : ∀ done x r Γ s (K' : Kn S), I done (x :: r) Γ s → (∀ Γ' s', I (done ++ [x]) r Γ' s' → K'.nx Γ' s') → (∀ Γ' s', I (done ++ [x]) r Γ' s' → K'.ct Γ' s') → K'.bk = K.nx → K'.rt = K.rt → K'.ex = K.ex → f x Γ s K') (L : List D) (Γ : Ctx) (s : S) (h : I [] L Γ s) : fLoop f K L Γ s := by
  have := fLoop_mp (g := fun x : D => x) I hnx hstep L [] Γ s h
  rwa [List.map_id''] at this
  intro x
  rfl
theorem ring_n {n : Int} {xs : List D} (h : ¬ (1 ≤ n ∧ n ≤ 40)) : isRingD (.tuple [.int n, .list xs]) = false := by
  rw [Bool.eq_false_iff]
  intro z
  unfold isRingD at z
  simp only [Bool.and_eq_true, decide_eq_true_eq] at z
  exact h ⟨z.1.1.1, z.1.1.2⟩
def S_law_bad : Summ where
  run ds Q _ := ∃ (n : Int) (as : List (Int × Int)) (c : Int), ds = [ringD n as, .int c] ∧ RingOk n as ∧ ∀ d, isRingD d = false → Q (.dat d)
  mono := fun h1 _ ⟨n, as, c, e, ok, q⟩ => ⟨n, as, c, e, ok, fun d hd => h1 _ (q d hd)⟩
def tr_law_bad_b1 : Sms Unit :=
  (.cons (.one (.app 4 (.tp (.cons (.var 2) (.cons (.op .Add (.op .Add (.sl (.var 3) .nil (.cons (.var 5) .nil)) (.ls (.cons (.var 7) .nil))) (.sl (.var 3) (.cons (.op .Add (.var 5) (.int 1)) .nil) .nil)) .nil)))))
    .nil)
def tr_law_bad_r1 : Sms Unit :=
  (.cons (.one (.ret (.ix (.var 4) (.op .Mod (.var 1) (.bi .len (.cons (.var 4) .nil))))))
    .nil)
def tr_law_bad_r2 : Sms Unit :=
  (.cons (.for (.nm 7) (.seq (.op .Add (.var 6) (.ls (.cons (.ls (.cons (.int 0) (.cons (.int 1) .nil))) (.cons .non (.cons (.tp (.cons (.bl true) (.cons (.int 1) .nil))) (.cons (.tp (.cons (.int 0) (.cons (.bl true) .nil))) (.cons (.tp (.cons (.str "0") (.cons (.int 1) .nil))) (.cons (.tp (.cons (.int 0) (.cons .non .nil))) (.cons (.int 1) .nil))))))))))
    tr_law_bad_b1)
    tr_law_bad_r1)
def tr_law_bad_r3 : Sms Unit :=
  (.cons (.one (.asg 6 (.ls (.cons (.tp (.cons (.var 2) (.cons (.int 1) .nil))) (.cons (.tp (.cons (.int 0) (.cons (.op .Add (.var 2) (.int 1)) .nil))) (.cons (.tp (.cons (.int 0) (.cons (.int 0) .nil))) (.cons (.tp (.cons (.neg (.int 1)) (.cons (.int 1) .nil))) (.cons (.tp (.cons (.int 0) (.cons (.neg (.int 1)) .nil))) (.cons (.tp (.cons (.int 0) .nil)) (.cons (.tp (.cons (.int 0) (.cons (.int 1) (.cons (.int 1) .nil)))) .nil))))))))))
    tr_law_bad_r2)
def tr_law_bad_r4 : Sms Unit :=
  (.cons (.one (.asg 5 (.op .Mod (.op .FloorDiv (.var 1) (.int 100)) (.op .Add (.bi .len (.cons (.var 3) .nil)) (.int 1)))))
    tr_law_bad_r3)
def tr_law_bad_r5 : Sms Unit :=
  (.cons (.one (.asg 4 (.op .Add (.var 4) (.ls (.cons (.tp (.cons (.var 2) (.cons .non .nil))) (.cons (.tp (.cons (.var 2) (.cons (.bi .tuple (.cons (.var 3) .nil)) .nil))) (.cons (.tp (.cons (.neg (.var 2)) (.cons (.var 3) .nil))) .nil)))))))
    tr_law_bad_r4)
def tr_law_bad_r6 : Sms Unit :=
  (.cons (.one (.asg 4 (.op .Add (.var 4) (.ls (.cons (.tp (.cons (.int 41) (.cons (.var 3) .nil))) (.cons (.tp (.cons (.bl true) (.cons (.var 3) .nil))) (.cons (.tp (.cons (.bi .str (.cons (.var 2) .nil)) (.cons (.var 3) .nil))) .nil)))))))
    tr_law_bad_r5)
def tr_law_bad_r7 : Sms Unit :=
  (.cons (.one (.asg 4 (.ls (.cons .non (.cons (.var 2) (.cons (.tp (.cons (.var 2) .nil)) (.cons (.ls (.cons (.var 2) (.cons (.var 3) .nil))) (.cons (.tp (.cons (.var 2) (.cons (.var 3) (.cons (.int 0) .nil)))) (.cons (.tp (.cons (.int 0) (.cons (.var 3) .nil))) .nil)))))))))
    tr_law_bad_r6)
def tr_law_bad : Sms Unit :=
  (.cons (.one (.asgT [2, 3] (.var 0)))
    tr_law_bad_r7)

section
variable {n c : Int} {as : List (Int × Int)} {at' : Int} {x4 x5 x6 x7 : Option Val} {Q : Val → Prop} {Y : Nat → Prop}
abbrev bctx (n c : Int) (as : List (Int × Int)) (x4 x5 x6 x7 : Option Val) : Ctx := [some (.dat (ringD n as)), some (.dat (.int c)), some (.dat (.int n)), some (.dat (.list (as.map arcD))), x4, x5, x6, x7]
theorem bad_r2 (ok : RingOk n as) (h : ∀ d, isRingD d = false → Q (.dat d)) {some' bad : List D} (hs : okB some') (h0 : 0 < some'.length) (h1 : some'.length ≤ 20) (hb : okA n bad) (hb1 : bad.length ≤ 20) :
    wSs tr_law_bad_r2 (bctx n c as (some (.own some')) (some (.dat (.int at'))) (some (.own bad)) x7) () (KQY Q Y) := by
  have hal := ok.len
  unfold tr_law_bad_r2 bctx
  simp only [backV, wSs, wS, w1, wT, wE, wA, wX, wV, wP, wC, opn, rdO_d, rdO_o, asD_d, asD_n, KQY, entry, look, put, slotV, argsOk, frzA, frzV, sv_i, sv_b, sv_s, sv_0, sv_l, sv_t, sv_d, sv_n, List.map, List.length, List.replicate, List.cons_append, List.nil_append, Nat.sub_self, biD, isD_1, boolD_b, cmpD, relD_i, opD, addD_i, addD_l, subD_i, intD_i, lenD_l, lenD_t, listD_l, listD_t, tupleD_l, int2D_i, absD_i, toIntD_i, toIntD_b, eqD_i, eqD_b, eqD_s, rngD_1, rngD_2, seqD_l, seqD_t, lstD_l, ixX_l, ixX_t, negX_i, slX_l, rvX_l, repX_i, intX_i, ixD_0, ixD_1, ixD_2, true_and, and_true, ite_self, wJ]
  have hok : okA n (bad ++ [.list [.int 0, .int 1], .none, .tuple [.bool true, .int 1], .tuple [.int 0, .bool true], .tuple [.str "0", .int 1], .tuple [.int 0, .none], .int 1]) := okA_app hb (okA_cons rfl (okA_cons rfl (okA_cons rfl (okA_cons rfl (okA_cons rfl (okA_cons rfl (okA_cons rfl okA_nil)))))))
  have hll : (bad ++ [PyData.list [.int 0, .int 1], .none, .tuple [.bool true, .int 1], .tuple [.int 0, .bool true], .tuple [.str "0", .int 1], .tuple [.int 0, .none], .int 1]).length ≤ 30 := by rw [List.length_append]; show bad.length + 7 ≤ 30; omega
  generalize bad ++ [PyData.list [.int 0, .int 1], .none, .tuple [.bool true, .int 1], .tuple [.int 0, .bool true], .tuple [.str "0", .int 1], .tuple [.int 0, .none], .int 1] = L at hok hll ⊢
  refine ⟨b20 (by decide), b20 (by decide), b20 (by decide), b20 (by decide), b20 (by decide), b20 (by decide), by unfold big; omega, by unfold big; omega, ?_⟩
  refine fLoop_id (fun done rest Γ _ => ∃ (sm : List D) (x7 : Option Val), Γ = bctx n c as (some (.own sm)) (some (.dat (.int at'))) (some (.own bad)) x7 ∧ okB sm ∧ 0 < sm.length ∧ sm.length ≤ 20 + done.length ∧ okA n rest ∧ done.length + rest.length ≤ 30) ?_ ?_ _ _ _ ⟨some', _, rfl, hs, h0, by simpa using h1, hok, by simpa using hll⟩
  · rintro done Γ s ⟨sm, x7, rfl, hsm, hs0, hs1, _, hd⟩
    unfold tr_law_bad_r1 bctx
    simp only [backV, wSs, wS, w1, wT, wE, wA, wX, wV, wP, wC, opn, rdO_d, rdO_o, asD_d, asD_n, KQY, entry, look, put, slotV, argsOk, frzA, frzV, sv_i, sv_b, sv_s, sv_0, sv_l, sv_t, sv_d, sv_n, List.map, List.length, List.replicate, List.cons_append, List.nil_append, Nat.sub_self, biD, isD_1, boolD_b, cmpD, relD_i, opD, addD_i, addD_l, subD_i, intD_i, lenD_l, lenD_t, listD_l, listD_t, tupleD_l, int2D_i, absD_i, toIntD_i, toIntD_b, eqD_i, eqD_b, eqD_s, rngD_1, rngD_2, seqD_l, seqD_t, lstD_l, ixX_l, ixX_t, negX_i, slX_l, rvX_l, repX_i, intX_i, ixD_0, ixD_1, ixD_2, true_and, and_true, ite_self]
    have m1 := modR (a := c) (m := (sm.length : Nat)) (by omega)
    refine ⟨by omega, ?_⟩
    exact ixD_any m1.1 m1.2 fun x hx => h x (hsm x hx)
  · rintro done x r Γ s K' ⟨sm, x7, rfl, hsm, hs0, hs1, hr, hd⟩ hnx hct hbk hrt hex
    have c1 := cutD_len (xs := as.map arcD) (lo := none) (hi := some at')
    have c2 := cutD_len (xs := as.map arcD) (lo := some (at' + 1)) (hi := none)
    rw [List.length_map] at c1 c2
    rw [List.length_cons] at hd
    unfold tr_law_bad_b1 bctx
    simp only [bindT, backV, wSs, wS, w1, wT, wE, wA, wX, wV, wP, wC, opn, rdO_d, rdO_o, asD_d, asD_n, KQY, entry, look, put, slotV, argsOk, frzA, frzV, sv_i, sv_b, sv_s, sv_0, sv_l, sv_t, sv_d, sv_n, List.map, List.length, List.replicate, List.cons_append, List.nil_append, Nat.sub_self, biD, isD_1, boolD_b, cmpD, relD_i, opD, addD_i, addD_l, subD_i, intD_i, lenD_l, lenD_t, listD_l, listD_t, tupleD_l, int2D_i, absD_i, toIntD_i, toIntD_b, eqD_i, eqD_b, eqD_s, rngD_1, rngD_2, seqD_l, seqD_t, lstD_l, ixX_l, ixX_t, negX_i, slX_l, rvX_l, repX_i, intX_i, ixD_0, ixD_1, ixD_2, true_and, and_true, ite_self]
    refine ⟨by unfold big; decide, by show (cutD _ _ _).length + 1 ≤ big; unfold big; omega, ?_⟩
    refine ⟨by rw [List.length_append]; show (cutD _ _ _).length + 1 + (cutD _ _ _).length ≤ big; unfold big; omega, by unfold big; decide, by unfold big; omega, ?_⟩
    refine hnx _ _ ⟨_, _, rfl, okB_app hsm (okB_cons (bad_arc (x := x) (by simp) (hr x List.mem_cons_self)) okB_nil), by rw [List.length_append]; show 0 < sm.length + 1; omega, by rw [List.length_append, List.length_append]; show sm.length + 1 ≤ 20 + (done.length + 1); omega, fun y hy => hr y (List.mem_cons_of_mem _ hy), by rw [List.length_append]; show done.length + 1 + r.length ≤ 30; omega⟩
theorem bad_r3 (ok : RingOk n as) (h : ∀ d, isRingD d = false → Q (.dat d)) {some' : List D} (hs : okB some') (h0 : 0 < some'.length) (h1 : some'.length ≤ 20) :
    wSs tr_law_bad_r4 (bctx n c as (some (.own some')) x5 x6 x7) () (KQY Q Y) := by
  have go := fun at' bad hb hb1 => bad_r2 (c := c) (Q := Q) (Y := Y) (at' := at') (x7 := x7) ok h (some' := some') (bad := bad) hs h0 h1 hb hb1
  have n1 := ok.n1
  have hal := ok.len
  unfold tr_law_bad_r4 tr_law_bad_r3
  generalize tr_law_bad_r2 = r2 at go
  unfold bctx at go ⊢
  simp only [backV, wSs, wS, w1, wT, wE, wA, wX, wV, wP, wC, opn, rdO_d, rdO_o, asD_d, asD_n, KQY, entry, look, put, slotV, argsOk, frzA, frzV, sv_i, sv_b, sv_s, sv_0, sv_l, sv_t, sv_d, sv_n, List.map, List.length, List.replicate, List.cons_append, List.nil_append, Nat.sub_self, biD, isD_1, boolD_b, cmpD, relD_i, opD, addD_i, addD_l, subD_i, intD_i, lenD_l, lenD_t, listD_l, listD_t, tupleD_l, int2D_i, absD_i, toIntD_i, toIntD_b, eqD_i, eqD_b, eqD_s, rngD_1, rngD_2, seqD_l, seqD_t, lstD_l, ixX_l, ixX_t, negX_i, slX_l, rvX_l, repX_i, intX_i, ixD_0, ixD_1, ixD_2, true_and, and_true, ite_self, List.length_map]
  refine ⟨⟨by decide, by decide⟩, by omega, by unfold big; decide, by unfold big; decide, by unfold big; decide, by unfold big; decide, by unfold big; decide, by unfold big; decide, by unfold big; decide, by unfold big; decide, ?_⟩
  refine go _ _ ?_ (by simp)
  refine okA_cons ?_ (okA_cons ?_ (okA_cons ?_ (okA_cons ?_ (okA_cons ?_ (okA_cons ?_ (okA_cons ?_ okA_nil))))))
  · simp [isArcD, isNumD]
  · simp [isArcD, isNumD]
  · simp [isArcD, isNumD]
  · simp [isArcD, isNumD]
  · simp [isArcD, isNumD]
  · rfl
  · rfl
end
def BadR (n c : Int) (as : List (Int × Int)) (Q : Val → Prop) (Y : Nat → Prop) (m : Nat) (t : Sms Unit) : Prop := ∀ xs : List D, okB xs → 0 < xs.length → xs.length ≤ m → wSs t (bctx n c as (some (.own xs)) none none none) () (KQY Q Y)
theorem badR_add {n c : Int} {as : List (Int × Int)} {Q : Val → Prop} {Y : Nat → Prop} {m k : Nat} {t : Sms Unit} {es : Es Unit} {ys : List D} (go : BadR n c as Q Y m t) (hm : m ≤ 200) (hy : okB ys) (hk : ys.length = k) (he : ∀ (xs : List D) (K : List D → Ctx → Unit → Prop), K ys (bctx n c as (some (.own xs)) none none none) () → wX (fun n _ _ => Y n) es (bctx n c as (some (.own xs)) none none none) () K) (hkm : k ≤ m) :
    BadR n c as Q Y (m - k) (.cons (.one (.asg 4 (.op .Add (.var 4) (.ls es)))) t) := fun xs hx h0 hl => by
  simp only [bctx, wSs, wS, w1, wE, opn, look, rdO_o, asD_n, opD]
  refine he xs _ ?_
  refine ⟨by unfold big; omega, ?_⟩
  refine ⟨by unfold big; omega, ?_⟩
  exact go (xs ++ ys) (okB_app hx hy) (by rw [List.length_append]; omega) (by rw [List.length_append]; omega)
section
variable {n c : Int} {as : List (Int × Int)} {Q : Val → Prop} {Y : Nat → Prop}
theorem badR_5 (ok : RingOk n as) (h : ∀ d, isRingD d = false → Q (.dat d)) : BadR n c as Q Y 17 tr_law_bad_r5 := by
  have n1 := ok.n1
  refine badR_add (k := 3) (m := 20) (ys := [.tuple [.int n, .none], .tuple [.int n, .tuple (as.map arcD)], .tuple [.int (-n), .list (as.map arcD)]]) (fun xs a b cc => bad_r3 ok h a b cc) (by decide) (okB_cons rfl (okB_cons rfl (okB_cons (ring_n (by omega)) okB_nil))) rfl (fun xs K hK => ?_) (by decide)
  simp only [bctx, wX, wE, wA, opn, look, rdO_d, asD_d]
  refine ⟨b20 (by simp), ?_⟩
  simp only [biD, tupleD_l, asD_d]
  refine ⟨b20 (by simp), ?_⟩
  simp only [negX_i, asD_d]
  exact ⟨b20 (by simp), hK⟩
theorem badR_6 (ok : RingOk n as) (h : ∀ d, isRingD d = false → Q (.dat d)) : BadR n c as Q Y 14 tr_law_bad_r6 := by
  have n1 := ok.n1
  have n40 := ok.n40
  refine badR_add (k := 3) (m := 17) (ys := [.tuple [.int 41, .list (as.map arcD)], .tuple [.bool true, .list (as.map arcD)], .tuple [.str (numS n), .list (as.map arcD)]]) (badR_5 ok h) (by decide) (okB_cons (ring_n (by omega)) (okB_cons rfl (okB_cons rfl okB_nil))) rfl (fun xs K hK => ?_) (by decide)
  simp only [bctx, wX, wE, wA, opn, look, rdO_d, asD_d, biD, toStrD_i]
  exact ⟨b20 (by simp), b20 (by simp), log2_sm (by omega), b20 (by simp), hK⟩
theorem bad_r7 (ok : RingOk n as) (h : ∀ d, isRingD d = false → Q (.dat d)) : wSs tr_law_bad_r7 (bctx n c as none none none none) () (KQY Q Y) := by
  have go := badR_6 (c := c) (Y := Y) ok h
  unfold tr_law_bad_r7
  generalize tr_law_bad_r6 = r6 at go
  simp only [bctx, wSs, wS, w1, wX, wE, wA, opn, look, rdO_d, asD_d, asD_n, slotV, put]
  refine ⟨b20 (by simp), b20 (by simp), b20 (by simp), b20 (by simp), b20 (by simp), ?_⟩
  exact go _ (okB_cons rfl (okB_cons rfl (okB_cons rfl (okB_cons rfl (okB_cons rfl (okB_cons (ring_n (by omega)) okB_nil)))))) (by simp) (by simp)
end
theorem asgT_var {S : Type} {is : List Nat} {i : Nat} {Γ : Ctx} {s : S} {K : Kn S} {ds : List D} (h : look Γ i = some (.dat (.tuple ds))) : w1 (.asgT is (.var i)) Γ s K = putAll is ds Γ (fun Γ2 => K.nx Γ2 s) := by
  simp only [w1, wE, h, asD_d]
theorem w_law_bad : WOk S_law_bad 2 8 tr_law_bad := fun ds Q Y h => by
  obtain ⟨n, as, c, rfl, ok, h⟩ := h
  refine ⟨rfl, ?_⟩
  have go := bad_r7 (c := c) (Y := Y) ok h
  unfold tr_law_bad
  generalize tr_law_bad_r7 = r7 at go
  simp only [wSs, wS]
  rw [asgT_var (ds := [.int n, .list (as.map arcD)]) rfl]
  exact go
end Ac
namespace Ac
open PySem PySem.Spec PyProof.Rows L2 TL
/-! ### what is asked -/
def txtD (z : Str) : List D := [.bool true, .str z]
def E_law_asked : ESumm Unit where
  run vs s Q Y := ∃ (ask : Int) (d : D), vs = [.dat (.int ask), .dat d] ∧
    ((ask = 0 ∧ ((∃ z, d = .str z ∧ z.length ≤ 1000 ∧ (∀ n as, Writes z n as → Q (.new [.bool false, ringD n as]) ()) ∧ ((∀ n as, ¬ Writes z n as) → Q (.new (txtD "text")) ())) ∨ (isStrD d = false ∧ Q (.new (txtD "text")) ()))) ∨
     (ask = 1 ∧ ((∃ n as, d = ringD n as ∧ RingOk n as ∧ Q (.new [.bool false, .str (showS n as)]) ()) ∨ (isRingD d = false ∧ Q (.new (txtD "ring")) ()))))
  mono := fun h1 _ ⟨ask, d, e, h⟩ => ⟨ask, d, e, h.imp (fun h => ⟨h.1, h.2.imp (fun ⟨z, e, hl, q, y⟩ => ⟨z, e, hl, fun n as w => h1 _ _ (q n as w), fun w => h1 _ _ (y w)⟩) fun h => ⟨h.1, h1 _ _ h.2⟩⟩) fun h => ⟨h.1, h.2.imp (fun ⟨n, as, e, ok, q⟩ => ⟨n, as, e, ok, h1 _ _ q⟩) fun h => ⟨h.1, h1 _ _ h.2⟩⟩⟩
def tr_law_asked_b1 : Sms Unit :=
  (.cons (.ite (.cmp .Eq (.var 0) (.int 0))
    (.cons (.one (.setI 2 (.int 1) (.call "read_ring" Sread_ring (.cons (.var 1) .nil))))
    .nil)
    (.cons (.one (.setI 2 (.int 1) (.call "show_ring" Sshow_ring (.cons (.var 1) .nil))))
    .nil))
    .nil)
def tr_law_asked_b2 : Sms Unit :=
  (.cons (.one (.asg 4 (.ls (.cons (.isC 3 false [4]) (.cons (.isC 3 false [0]) (.cons (.isC 3 false [99]) .nil))))))
    (.cons (.one (.asg 5 (.isC 3 true [1, 5, 2, 6, 3])))
    (.cons (.one (.asg 2 (.ls (.cons (.bl true) (.cons (.str "other") .nil)))))
    (.cons (.ite (.an (.ix (.var 4) (.int 2)) (.an (.nt (.var 5)) (.cmp .NotEq (.ix (.var 4) (.int 0)) (.ix (.var 4) (.int 1)))))
    (.cons (.one (.asg 2 (.ls (.cons (.bl true) (.cons (.ix (.ls (.cons (.str "text") (.cons (.str "ring") .nil))) (.bi .int (.cons (.ix (.var 4) (.int 1)) .nil))) .nil)))))
    .nil)
    .nil)
    .nil))))
def tr_law_asked : Sms Unit :=
  (.cons (.one (.asg 2 (.ls (.cons (.bl false) (.cons .non .nil)))))
    (.cons (.tryS tr_law_asked_b1 3 tr_law_asked_b2)
    (.cons (.one (.ret (.var 2)))
    .nil)))

theorem asked_key : (isCB 104 [4] = true ∧ isCB 104 [0] = false ∧ isCB 104 [99] = true ∧ isCB 104 [1, 5, 2, 6, 3] = false) ∧ isCB 100 [4] = false ∧ isCB 100 [0] = true ∧ isCB 100 [99] = true ∧ isCB 100 [1, 5, 2, 6, 3] = false := by decide +kernel
theorem w_law_asked : WOkE E_law_asked 2 6 tr_law_asked := fun ws s Q Y h => by
  obtain ⟨ask, d, rfl, h⟩ := h
  refine ⟨rfl, ?_⟩
  obtain ⟨⟨a1, a2, a3, a4⟩, b1, b2, b3', b4⟩ := asked_key
  unfold tr_law_asked
  simp only [backV, wSs, wS, w1, wT, wE, wA, wX, wV, wP, wC, opn, rdO_d, rdO_o, asD_d, asD_n, KQY, entry, look, put, slotV, argsOk, frzA, frzV, sv_i, sv_b, sv_s, sv_0, sv_l, sv_t, sv_d, sv_n, List.map, List.length, List.replicate, List.cons_append, List.nil_append, Nat.sub_self, biD, isD_1, boolD_b, cmpD, relD_i, opD, addD_i, addD_l, subD_i, intD_i, lenD_l, lenD_t, listD_l, listD_t, tupleD_l, int2D_i, absD_i, toIntD_i, toIntD_b, eqD_i, eqD_b, eqD_s, rngD_1, rngD_2, seqD_l, seqD_t, lstD_l, ixX_l, ixX_t, negX_i, slX_l, rvX_l, repX_i, intX_i, ixD_0, ixD_1, ixD_2, true_and, and_true, ite_self, KE2]
  refine ⟨b20 (by simp), _, KLe0.refl _, ?_⟩
  unfold tr_law_asked_b1
  rcases h with ⟨rfl, h⟩ | ⟨rfl, h⟩
  · simp only [backV, wSs, wS, w1, wT, wE, wA, wX, wV, wP, wC, opn, rdO_d, rdO_o, asD_d, asD_n, KQY, entry, look, put, slotV, argsOk, frzA, frzV, sv_i, sv_b, sv_s, sv_0, sv_l, sv_t, sv_d, sv_n, List.map, List.length, List.replicate, List.cons_append, List.nil_append, Nat.sub_self, biD, isD_1, boolD_b, cmpD, relD_i, opD, addD_i, addD_l, subD_i, intD_i, lenD_l, lenD_t, listD_l, listD_t, tupleD_l, int2D_i, absD_i, toIntD_i, toIntD_b, eqD_i, eqD_b, eqD_s, rngD_1, rngD_2, seqD_l, seqD_t, lstD_l, ixX_l, ixX_t, negX_i, slX_l, rvX_l, repX_i, intX_i, ixD_0, ixD_1, ixD_2, true_and, and_true, ite_self, decide_true, if_true]
    rcases h with ⟨z, rfl, hl, hw, hn⟩ | ⟨hs, hn⟩
    · refine .inl ⟨z, rfl, hl, fun n as w => ?_, fun w => ?_⟩
      · have h := hw n as w
        simp only [backV, wSs, wS, w1, wT, wE, wA, wX, wV, wP, wC, opn, rdO_d, rdO_o, asD_d, asD_n, KQY, entry, look, put, slotV, argsOk, frzA, frzV, sv_i, sv_b, sv_s, sv_0, sv_l, sv_t, sv_d, sv_n, List.map, List.length, List.replicate, List.cons_append, List.nil_append, Nat.sub_self, biD, isD_1, boolD_b, cmpD, relD_i, opD, addD_i, addD_l, subD_i, intD_i, lenD_l, lenD_t, listD_l, listD_t, tupleD_l, int2D_i, absD_i, toIntD_i, toIntD_b, eqD_i, eqD_b, eqD_s, rngD_1, rngD_2, seqD_l, seqD_t, lstD_l, ixX_l, ixX_t, negX_i, slX_l, rvX_l, repX_i, intX_i, ixD_0, ixD_1, ixD_2, true_and, and_true, ite_self, ixN]
        exact h
      · have h := hn w
        refine ⟨by decide, ?_⟩
        unfold tr_law_asked_b2
        simp only [backV, wSs, wS, w1, wT, wE, wA, wX, wV, wP, wC, opn, rdO_d, rdO_o, asD_d, asD_n, KQY, entry, look, put, slotV, argsOk, frzA, frzV, sv_i, sv_b, sv_s, sv_0, sv_l, sv_t, sv_d, sv_n, List.map, List.length, List.replicate, List.cons_append, List.nil_append, Nat.sub_self, biD, isD_1, boolD_b, cmpD, relD_i, opD, addD_i, addD_l, subD_i, intD_i, lenD_l, lenD_t, listD_l, listD_t, tupleD_l, int2D_i, absD_i, toIntD_i, toIntD_b, eqD_i, eqD_b, eqD_s, rngD_1, rngD_2, seqD_l, seqD_t, lstD_l, ixX_l, ixX_t, negX_i, slX_l, rvX_l, repX_i, intX_i, ixD_0, ixD_1, ixD_2, true_and, and_true, ite_self, isCW_h, a1, a2, a3, a4, if_true, Bool.not_false]
        refine ⟨⟨by decide, by decide⟩, ⟨by decide, by decide⟩, ⟨by decide, by decide⟩, b20 (by simp), ⟨by decide, by decide⟩, b20 (by simp), b20 (by simp), b20 (by simp), h⟩
    · refine .inr ⟨d, rfl, hs, ?_⟩
      refine ⟨by decide, ?_⟩
      unfold tr_law_asked_b2
      simp only [backV, wSs, wS, w1, wT, wE, wA, wX, wV, wP, wC, opn, rdO_d, rdO_o, asD_d, asD_n, KQY, entry, look, put, slotV, argsOk, frzA, frzV, sv_i, sv_b, sv_s, sv_0, sv_l, sv_t, sv_d, sv_n, List.map, List.length, List.replicate, List.cons_append, List.nil_append, Nat.sub_self, biD, isD_1, boolD_b, cmpD, relD_i, opD, addD_i, addD_l, subD_i, intD_i, lenD_l, lenD_t, listD_l, listD_t, tupleD_l, int2D_i, absD_i, toIntD_i, toIntD_b, eqD_i, eqD_b, eqD_s, rngD_1, rngD_2, seqD_l, seqD_t, lstD_l, ixX_l, ixX_t, negX_i, slX_l, rvX_l, repX_i, intX_i, ixD_0, ixD_1, ixD_2, true_and, and_true, ite_self, isCW_h, a1, a2, a3, a4, if_true, Bool.not_false]
      refine ⟨⟨by decide, by decide⟩, ⟨by decide, by decide⟩, ⟨by decide, by decide⟩, b20 (by simp), ⟨by decide, by decide⟩, b20 (by simp), b20 (by simp), b20 (by simp), hn⟩
  · have e10 : decide ((1 : Int) = 0) = false := by decide
    simp only [backV, wSs, wS, w1, wT, wE, wA, wX, wV, wP, wC, opn, rdO_d, rdO_o, asD_d, asD_n, KQY, entry, look, put, slotV, argsOk, frzA, frzV, sv_i, sv_b, sv_s, sv_0, sv_l, sv_t, sv_d, sv_n, List.map, List.length, List.replicate, List.cons_append, List.nil_append, Nat.sub_self, biD, isD_1, boolD_b, cmpD, relD_i, opD, addD_i, addD_l, subD_i, intD_i, lenD_l, lenD_t, listD_l, listD_t, tupleD_l, int2D_i, absD_i, toIntD_i, toIntD_b, eqD_i, eqD_b, eqD_s, rngD_1, rngD_2, seqD_l, seqD_t, lstD_l, ixX_l, ixX_t, negX_i, slX_l, rvX_l, repX_i, intX_i, ixD_0, ixD_1, ixD_2, true_and, and_true, ite_self, e10, Bool.false_eq_true, if_false]
    rcases h with ⟨n, as, rfl, ok, h⟩ | ⟨hr, h⟩
    · refine call_show ok ?_
      simp only [backV, wSs, wS, w1, wT, wE, wA, wX, wV, wP, wC, opn, rdO_d, rdO_o, asD_d, asD_n, KQY, entry, look, put, slotV, argsOk, frzA, frzV, sv_i, sv_b, sv_s, sv_0, sv_l, sv_t, sv_d, sv_n, List.map, List.length, List.replicate, List.cons_append, List.nil_append, Nat.sub_self, biD, isD_1, boolD_b, cmpD, relD_i, opD, addD_i, addD_l, subD_i, intD_i, lenD_l, lenD_t, listD_l, listD_t, tupleD_l, int2D_i, absD_i, toIntD_i, toIntD_b, eqD_i, eqD_b, eqD_s, rngD_1, rngD_2, seqD_l, seqD_t, lstD_l, ixX_l, ixX_t, negX_i, slX_l, rvX_l, repX_i, intX_i, ixD_0, ixD_1, ixD_2, true_and, and_true, ite_self, ixN]
      exact h
    · refine call_showN hr ?_
      refine ⟨by decide, ?_⟩
      unfold tr_law_asked_b2
      simp only [backV, wSs, wS, w1, wT, wE, wA, wX, wV, wP, wC, opn, rdO_d, rdO_o, asD_d, asD_n, KQY, entry, look, put, slotV, argsOk, frzA, frzV, sv_i, sv_b, sv_s, sv_0, sv_l, sv_t, sv_d, sv_n, List.map, List.length, List.replicate, List.cons_append, List.nil_append, Nat.sub_self, biD, isD_1, boolD_b, cmpD, relD_i, opD, addD_i, addD_l, subD_i, intD_i, lenD_l, lenD_t, listD_l, listD_t, tupleD_l, int2D_i, absD_i, toIntD_i, toIntD_b, eqD_i, eqD_b, eqD_s, rngD_1, rngD_2, seqD_l, seqD_t, lstD_l, ixX_l, ixX_t, negX_i, slX_l, rvX_l, repX_i, intX_i, ixD_0, ixD_1, ixD_2, true_and, and_true, ite_self, isCW_h, b1, b2, b3', b4, if_true, Bool.not_false]
      refine ⟨⟨by decide, by decide⟩, ⟨by decide, by decide⟩, ⟨by decide, by decide⟩, b20 (by simp), ⟨by decide, by decide⟩, b20 (by simp), b20 (by simp), b20 (by simp), h⟩
end Ac
namespace Ac
open PySem PySem.Spec PyProof.Rows L2 TL
theorem strOk_of {z : Str} (h : ∀ c ∈ tl z, c < 0x110000) : PyData.strOk z = true := by
  unfold PyData.strOk
  rw [← Array.all_toList]
  exact List.all_eq_true.mpr fun c hc => decide_eq_true (h c hc)
theorem joinL_in {S : List Nat} : ∀ {ps : List (List Nat)} {c : Nat}, c ∈ joinL S ps → c ∈ S ∨ ∃ p ∈ ps, c ∈ p
  | [], c, h => by simp [joinL] at h
  | [q], c, h => by
    simp only [joinL] at h
    exact .inr ⟨q, List.mem_cons_self, h⟩
  | q :: r :: t, c, h => by
    simp only [joinL, List.mem_append] at h
    rcases h with h | h | h
    · exact .inr ⟨q, List.mem_cons_self, h⟩
    · exact .inl h
    · rcases joinL_in h with h | ⟨p, hp, h⟩
      · exact .inl h
      · exact .inr ⟨p, List.mem_cons_of_mem _ hp, h⟩
theorem strOk_show {n : Int} {as : List (Int × Int)} (ok : RingOk n as) : PyData.strOk (showS n as) = true := strOk_of fun c hc => by
  have p := ok.pos
  rw [tl_showS] at hc
  rcases joinL_in hc with h | ⟨q, hq, h⟩
  · have := List.mem_singleton.mp h
    omega
  · rcases List.mem_cons.mp hq with rfl | hq
    · rw [tl_numS p.1] at h
      have := numL_digits _ c h
      omega
    · obtain ⟨a, ha, rfl⟩ := List.mem_map.mp hq
      obtain ⟨a1, a2⟩ := p.2 a ha
      rw [tl_arcS a1 a2] at h
      rcases List.mem_append.mp h with h | h
      · have := numL_digits _ c h
        omega
      · rcases List.mem_cons.mp h with h | h
        · omega
        · have := numL_digits _ c h
          omega
theorem eqD_bs {b : Bool} {z : Str} {k : Bool → Prop} (hz : PyData.strOk z = true) (h : k true) : eqD (.list [.bool b, .str z]) (.list [.bool b, .str z]) k := by
  show SeqAt.shaped _ = true ∧ SeqAt.shaped _ = true ∧ k _
  have h1 : SeqAt.shaped (.list [.bool b, .str z]) = true := okD_shaped (k := 8) (by simp [okD, scalB, hz]) (by decide)
  have h3 : PyData.eqv (.list [.bool b, .str z]) (.list [.bool b, .str z]) = true := by simp [PyData.eqv, PyData.eqvAll]
  exact ⟨h1, h1, by rw [h3]; exact h⟩
/-! ### the law -/
def trlaw_r1 : Sms Unit :=
  (.cons (.one (.asg 5 (.call "_law_ring" S_law_ring (.cons (.call "_law_mixed" S_law_mixed (.cons (.var 2) (.cons (.int 5) .nil))) (.cons (.int 40) (.cons (.int 19) .nil))))))
    (.cons (.ite (.cmp .NotEq (.calE "_law_asked" E_law_asked (.cons (.int 1) (.cons (.call "_law_bad" S_law_bad (.cons (.var 5) (.cons (.call "_law_mixed" S_law_mixed (.cons (.var 2) (.cons (.int 6) .nil))) .nil))) .nil))) (.ls (.cons (.bl true) (.cons (.str "ring") .nil))))
    (.cons (.one (.ret (.bl false)))
    .nil)
    .nil)
    .nil))
def trlaw_b1 : Sms Unit :=
  (.cons (.one (.asg 2 (.bi .abs (.cons (.call "_law_cell" S_law_cell (.cons (.var 0) (.cons (.var 1) .nil))) .nil))))
    (.cons (.one (.asg 3 (.call "_law_given" S_law_given (.cons (.var 2) .nil))))
    (.cons (.one (.asg 4 (.calE "_law_asked" E_law_asked (.cons (.int 0) (.cons (.var 3) .nil)))))
    (.cons (.ite (.call "_law_writes" S_law_writes (.cons (.var 3) .nil))
    (.cons (.ite (.or (.ix (.var 4) (.int 0)) (.cmp .NotEq (.calE "_law_asked" E_law_asked (.cons (.int 1) (.cons (.ix (.var 4) (.int 1)) .nil))) (.ls (.cons (.bl false) (.cons (.var 3) .nil)))))
    (.cons (.one (.ret (.bl false)))
    .nil)
    .nil)
    .nil)
    (.cons (.ite (.cmp .NotEq (.var 4) (.ls (.cons (.bl true) (.cons (.str "text") .nil))))
    (.cons (.one (.ret (.bl false)))
    .nil)
    .nil)
    .nil))
    trlaw_r1))))
def trlaw_b2 : Sms Unit :=
  (.cons (.ite (.cmp .NotEq (.calE "_law_asked" E_law_asked (.cons (.int 0) (.cons (.var 6) .nil))) (.ls (.cons (.bl true) (.cons (.str "text") .nil))))
    (.cons (.one (.ret (.bl false)))
    .nil)
    .nil)
    .nil)
def trlaw : Sms Unit :=
  (.cons (.for (.nm 1) (.rng (.cons (.bi .max2 (.cons (.int 16) (.cons (.bi .min2 (.cons (.bi .len (.cons (.var 0) .nil)) (.cons (.int 63) .nil))) .nil))) .nil))
    trlaw_b1)
    (.cons (.for (.nm 6) (.seq (.ls (.cons .non (.cons (.int 0) (.cons (.ls (.cons (.str "1") .nil)) (.cons (.tp (.cons (.int 1) (.cons (.ls .nil) .nil))) (.cons (.bl true) (.cons .d0 (.cons (.int 2) .nil)))))))))
    trlaw_b2)
    (.cons (.one (.ret (.cmp .Eq (.calE "_law_asked" E_law_asked (.cons (.int 1) (.cons (.tp (.cons (.int 40) (.cons (.rep (.cons (.tp (.cons (.int 0) (.cons (.int 1) .nil))) .nil) (.int 21)) .nil))) .nil))) (.ls (.cons (.bl true) (.cons (.str "ring") .nil))))))
    .nil)))

section
variable {K : Kn Unit} {u : Unit} {ns : List Int} {x0 x1 x3 x4 x5 x6 : Option Val} {c : Int}
theorem law37_r1 (hK : ∀ x5 : Option Val, K.nx [x0, x1, some (.dat (.int c)), x3, x4, x5, x6] ()) :
    wSs trlaw_r1 [x0, x1, some (.dat (.int c)), x3, x4, x5, x6] u K := by
  unfold trlaw_r1
  simp only [backV, wSs, wS, w1, wT, wE, wA, wX, wV, wP, wC, opn, rdO_d, rdO_o, asD_d, asD_n, KQY, entry, look, put, slotV, argsOk, frzA, frzV, sv_i, sv_b, sv_s, sv_0, sv_l, sv_t, sv_d, sv_n, List.map, List.length, List.replicate, List.cons_append, List.nil_append, Nat.sub_self, biD, isD_1, boolD_b, cmpD, relD_i, opD, addD_i, addD_l, subD_i, intD_i, lenD_l, lenD_t, listD_l, listD_t, tupleD_l, int2D_i, absD_i, toIntD_i, toIntD_b, eqD_i, eqD_b, eqD_s, rngD_1, rngD_2, seqD_l, seqD_t, lstD_l, ixX_l, ixX_t, negX_i, slX_l, rvX_l, repX_i, intX_i, ixD_0, ixD_1, ixD_2, true_and, and_true, ite_self]
  refine call_mixed (by decide) (by decide) fun c2 => ?_
  try simp only [backV, wSs, wS, w1, wT, wE, wA, wX, wV, wP, wC, opn, rdO_d, rdO_o, asD_d, asD_n, KQY, entry, look, put, slotV, argsOk, frzA, frzV, sv_i, sv_b, sv_s, sv_0, sv_l, sv_t, sv_d, sv_n, List.map, List.length, List.replicate, List.cons_append, List.nil_append, Nat.sub_self, biD, isD_1, boolD_b, cmpD, relD_i, opD, addD_i, addD_l, subD_i, intD_i, lenD_l, lenD_t, listD_l, listD_t, tupleD_l, int2D_i, absD_i, toIntD_i, toIntD_b, eqD_i, eqD_b, eqD_s, rngD_1, rngD_2, seqD_l, seqD_t, lstD_l, ixX_l, ixX_t, negX_i, slX_l, rvX_l, repX_i, intX_i, ixD_0, ixD_1, ixD_2, true_and, and_true, ite_self, Bool.false_eq_true, if_false, if_true, Bool.not_true, Bool.not_false, ixR0, ixR1, sv_r]
  refine call_ringT (by decide) fun n as ok hn hl => ?_
  simp only [backV, wSs, wS, w1, wT, wE, wA, wX, wV, wP, wC, opn, rdO_d, rdO_o, asD_d, asD_n, KQY, entry, look, put, slotV, argsOk, frzA, frzV, sv_i, sv_b, sv_s, sv_0, sv_l, sv_t, sv_d, sv_n, List.map, List.length, List.replicate, List.cons_append, List.nil_append, Nat.sub_self, biD, isD_1, boolD_b, cmpD, relD_i, opD, addD_i, addD_l, subD_i, intD_i, lenD_l, lenD_t, listD_l, listD_t, tupleD_l, int2D_i, absD_i, toIntD_i, toIntD_b, eqD_i, eqD_b, eqD_s, rngD_1, rngD_2, seqD_l, seqD_t, lstD_l, ixX_l, ixX_t, negX_i, slX_l, rvX_l, repX_i, intX_i, ixD_0, ixD_1, ixD_2, true_and, and_true, ite_self]
  refine call_mixed (by decide) (by decide) fun c3 => ?_
  try simp only [backV, wSs, wS, w1, wT, wE, wA, wX, wV, wP, wC, opn, rdO_d, rdO_o, asD_d, asD_n, KQY, entry, look, put, slotV, argsOk, frzA, frzV, sv_i, sv_b, sv_s, sv_0, sv_l, sv_t, sv_d, sv_n, List.map, List.length, List.replicate, List.cons_append, List.nil_append, Nat.sub_self, biD, isD_1, boolD_b, cmpD, relD_i, opD, addD_i, addD_l, subD_i, intD_i, lenD_l, lenD_t, listD_l, listD_t, tupleD_l, int2D_i, absD_i, toIntD_i, toIntD_b, eqD_i, eqD_b, eqD_s, rngD_1, rngD_2, seqD_l, seqD_t, lstD_l, ixX_l, ixX_t, negX_i, slX_l, rvX_l, repX_i, intX_i, ixD_0, ixD_1, ixD_2, true_and, and_true, ite_self, Bool.false_eq_true, if_false, if_true, Bool.not_true, Bool.not_false, ixR0, ixR1, sv_r]
  refine ⟨n, as, c3, rfl, ok, fun d hd => ?_⟩
  try simp only [backV, wSs, wS, w1, wT, wE, wA, wX, wV, wP, wC, opn, rdO_d, rdO_o, asD_d, asD_n, KQY, entry, look, put, slotV, argsOk, frzA, frzV, sv_i, sv_b, sv_s, sv_0, sv_l, sv_t, sv_d, sv_n, List.map, List.length, List.replicate, List.cons_append, List.nil_append, Nat.sub_self, biD, isD_1, boolD_b, cmpD, relD_i, opD, addD_i, addD_l, subD_i, intD_i, lenD_l, lenD_t, listD_l, listD_t, tupleD_l, int2D_i, absD_i, toIntD_i, toIntD_b, eqD_i, eqD_b, eqD_s, rngD_1, rngD_2, seqD_l, seqD_t, lstD_l, ixX_l, ixX_t, negX_i, slX_l, rvX_l, repX_i, intX_i, ixD_0, ixD_1, ixD_2, true_and, and_true, ite_self, Bool.false_eq_true, if_false, if_true, Bool.not_true, Bool.not_false, ixR0, ixR1, sv_r]
  refine ⟨1, d, rfl, .inr ⟨rfl, .inr ⟨hd, ?_⟩⟩⟩
  simp only [backV, wSs, wS, w1, wT, wE, wA, wX, wV, wP, wC, opn, rdO_d, rdO_o, asD_d, asD_n, KQY, entry, look, put, slotV, argsOk, frzA, frzV, sv_i, sv_b, sv_s, sv_0, sv_l, sv_t, sv_d, sv_n, List.map, List.length, List.replicate, List.cons_append, List.nil_append, Nat.sub_self, biD, isD_1, boolD_b, cmpD, relD_i, opD, addD_i, addD_l, subD_i, intD_i, lenD_l, lenD_t, listD_l, listD_t, tupleD_l, int2D_i, absD_i, toIntD_i, toIntD_b, eqD_i, eqD_b, eqD_s, rngD_1, rngD_2, seqD_l, seqD_t, lstD_l, ixX_l, ixX_t, negX_i, slX_l, rvX_l, repX_i, intX_i, ixD_0, ixD_1, ixD_2, true_and, and_true, ite_self, txtD]
  refine ⟨b20 (by simp), eqD_bs (by decide +kernel) ?_⟩
  simp only [Bool.not_true, Bool.false_eq_true, if_false]
  exact hK _
theorem law37_b1 {i : Nat} (hi : i < 63) (hK : ∀ x2 x3 x4 x5 : Option Val, K.nx [some (.dat (.list (ns.map .int))), some (.dat (.int (i : Nat))), x2, x3, x4, x5, x6] ()) {x2 : Option Val} :
    wSs trlaw_b1 [some (.dat (.list (ns.map .int))), some (.dat (.int (i : Nat))), x2, x3, x4, x5, x6] u K := by
  have go := fun c x3 x4 x5 => law37_r1 (K := K) (u := ()) (x0 := some (.dat (.list (ns.map .int)))) (x1 := some (.dat (.int (i : Nat)))) (x3 := x3) (x4 := x4) (x5 := x5) (x6 := x6) (c := c) fun x5 => hK _ _ _ _
  unfold trlaw_b1
  generalize trlaw_r1 = r1 at go
  simp only [backV, wSs, wS, w1, wT, wE, wA, wX, wV, wP, wC, opn, rdO_d, rdO_o, asD_d, asD_n, KQY, entry, look, put, slotV, argsOk, frzA, frzV, sv_i, sv_b, sv_s, sv_0, sv_l, sv_t, sv_d, sv_n, List.map, List.length, List.replicate, List.cons_append, List.nil_append, Nat.sub_self, biD, isD_1, boolD_b, cmpD, relD_i, opD, addD_i, addD_l, subD_i, intD_i, lenD_l, lenD_t, listD_l, listD_t, tupleD_l, int2D_i, absD_i, toIntD_i, toIntD_b, eqD_i, eqD_b, eqD_s, rngD_1, rngD_2, seqD_l, seqD_t, lstD_l, ixX_l, ixX_t, negX_i, slX_l, rvX_l, repX_i, intX_i, ixD_0, ixD_1, ixD_2, true_and, and_true, ite_self]
  refine call_cellT (by omega) (by omega) fun c => ?_
  try simp only [backV, wSs, wS, w1, wT, wE, wA, wX, wV, wP, wC, opn, rdO_d, rdO_o, asD_d, asD_n, KQY, entry, look, put, slotV, argsOk, frzA, frzV, sv_i, sv_b, sv_s, sv_0, sv_l, sv_t, sv_d, sv_n, List.map, List.length, List.replicate, List.cons_append, List.nil_append, Nat.sub_self, biD, isD_1, boolD_b, cmpD, relD_i, opD, addD_i, addD_l, subD_i, intD_i, lenD_l, lenD_t, listD_l, listD_t, tupleD_l, int2D_i, absD_i, toIntD_i, toIntD_b, eqD_i, eqD_b, eqD_s, rngD_1, rngD_2, seqD_l, seqD_t, lstD_l, ixX_l, ixX_t, negX_i, slX_l, rvX_l, repX_i, intX_i, ixD_0, ixD_1, ixD_2, true_and, and_true, ite_self, Bool.false_eq_true, if_false, if_true, Bool.not_true, Bool.not_false, ixR0, ixR1, sv_r]
  refine ⟨_, rfl, fun z hz => ?_⟩
  try simp only [backV, wSs, wS, w1, wT, wE, wA, wX, wV, wP, wC, opn, rdO_d, rdO_o, asD_d, asD_n, KQY, entry, look, put, slotV, argsOk, frzA, frzV, sv_i, sv_b, sv_s, sv_0, sv_l, sv_t, sv_d, sv_n, List.map, List.length, List.replicate, List.cons_append, List.nil_append, Nat.sub_self, biD, isD_1, boolD_b, cmpD, relD_i, opD, addD_i, addD_l, subD_i, intD_i, lenD_l, lenD_t, listD_l, listD_t, tupleD_l, int2D_i, absD_i, toIntD_i, toIntD_b, eqD_i, eqD_b, eqD_s, rngD_1, rngD_2, seqD_l, seqD_t, lstD_l, ixX_l, ixX_t, negX_i, slX_l, rvX_l, repX_i, intX_i, ixD_0, ixD_1, ixD_2, true_and, and_true, ite_self, Bool.false_eq_true, if_false, if_true, Bool.not_true, Bool.not_false, ixR0, ixR1, sv_r]
  by_cases hW : ∃ n as, Writes z n as
  · obtain ⟨n, as, w⟩ := hW
    refine ⟨0, .str z, rfl, .inl ⟨rfl, .inl ⟨z, rfl, by omega, fun n' as' w' => ?_, fun hn => absurd w (hn n as)⟩⟩⟩
    obtain ⟨rfl, rfl⟩ := Writes.uniq w w'
    simp only [backV, wSs, wS, w1, wT, wE, wA, wX, wV, wP, wC, opn, rdO_d, rdO_o, asD_d, asD_n, KQY, entry, look, put, slotV, argsOk, frzA, frzV, sv_i, sv_b, sv_s, sv_0, sv_l, sv_t, sv_d, sv_n, List.map, List.length, List.replicate, List.cons_append, List.nil_append, Nat.sub_self, biD, isD_1, boolD_b, cmpD, relD_i, opD, addD_i, addD_l, subD_i, intD_i, lenD_l, lenD_t, listD_l, listD_t, tupleD_l, int2D_i, absD_i, toIntD_i, toIntD_b, eqD_i, eqD_b, eqD_s, rngD_1, rngD_2, seqD_l, seqD_t, lstD_l, ixX_l, ixX_t, negX_i, slX_l, rvX_l, repX_i, intX_i, ixD_0, ixD_1, ixD_2, true_and, and_true, ite_self]
    refine ⟨z, rfl, by omega, fun _ _ _ => ?_, fun hn => absurd w (hn n as)⟩
    simp only [backV, wSs, wS, w1, wT, wE, wA, wX, wV, wP, wC, opn, rdO_d, rdO_o, asD_d, asD_n, KQY, entry, look, put, slotV, argsOk, frzA, frzV, sv_i, sv_b, sv_s, sv_0, sv_l, sv_t, sv_d, sv_n, List.map, List.length, List.replicate, List.cons_append, List.nil_append, Nat.sub_self, biD, isD_1, boolD_b, cmpD, relD_i, opD, addD_i, addD_l, subD_i, intD_i, lenD_l, lenD_t, listD_l, listD_t, tupleD_l, int2D_i, absD_i, toIntD_i, toIntD_b, eqD_i, eqD_b, eqD_s, rngD_1, rngD_2, seqD_l, seqD_t, lstD_l, ixX_l, ixX_t, negX_i, slX_l, rvX_l, repX_i, intX_i, ixD_0, ixD_1, ixD_2, true_and, and_true, ite_self, if_true, Bool.false_eq_true, if_false]
    refine ⟨1, ringD n as, rfl, .inr ⟨rfl, .inl ⟨n, as, rfl, w.1, ?_⟩⟩⟩
    simp only [backV, wSs, wS, w1, wT, wE, wA, wX, wV, wP, wC, opn, rdO_d, rdO_o, asD_d, asD_n, KQY, entry, look, put, slotV, argsOk, frzA, frzV, sv_i, sv_b, sv_s, sv_0, sv_l, sv_t, sv_d, sv_n, List.map, List.length, List.replicate, List.cons_append, List.nil_append, Nat.sub_self, biD, isD_1, boolD_b, cmpD, relD_i, opD, addD_i, addD_l, subD_i, intD_i, lenD_l, lenD_t, listD_l, listD_t, tupleD_l, int2D_i, absD_i, toIntD_i, toIntD_b, eqD_i, eqD_b, eqD_s, rngD_1, rngD_2, seqD_l, seqD_t, lstD_l, ixX_l, ixX_t, negX_i, slX_l, rvX_l, repX_i, intX_i, ixD_0, ixD_1, ixD_2, true_and, and_true, ite_self]
    refine ⟨b20 (by simp), ?_⟩
    rw [w.2]
    refine eqD_bs (strOk_show w.1) ?_
    simp only [Bool.not_true, Bool.false_eq_true, if_false]
    exact go _ _ _ _
  · have hn : ∀ n as, ¬ Writes z n as := fun n as w => hW ⟨n, as, w⟩
    refine ⟨0, .str z, rfl, .inl ⟨rfl, .inl ⟨z, rfl, by omega, fun n as w => absurd w (hn n as), fun _ => ?_⟩⟩⟩
    simp only [backV, wSs, wS, w1, wT, wE, wA, wX, wV, wP, wC, opn, rdO_d, rdO_o, asD_d, asD_n, KQY, entry, look, put, slotV, argsOk, frzA, frzV, sv_i, sv_b, sv_s, sv_0, sv_l, sv_t, sv_d, sv_n, List.map, List.length, List.replicate, List.cons_append, List.nil_append, Nat.sub_self, biD, isD_1, boolD_b, cmpD, relD_i, opD, addD_i, addD_l, subD_i, intD_i, lenD_l, lenD_t, listD_l, listD_t, tupleD_l, int2D_i, absD_i, toIntD_i, toIntD_b, eqD_i, eqD_b, eqD_s, rngD_1, rngD_2, seqD_l, seqD_t, lstD_l, ixX_l, ixX_t, negX_i, slX_l, rvX_l, repX_i, intX_i, ixD_0, ixD_1, ixD_2, true_and, and_true, ite_self, txtD]
    refine ⟨z, rfl, by omega, fun n as w => absurd w (hn n as), fun _ => ?_⟩
    simp only [backV, wSs, wS, w1, wT, wE, wA, wX, wV, wP, wC, opn, rdO_d, rdO_o, asD_d, asD_n, KQY, entry, look, put, slotV, argsOk, frzA, frzV, sv_i, sv_b, sv_s, sv_0, sv_l, sv_t, sv_d, sv_n, List.map, List.length, List.replicate, List.cons_append, List.nil_append, Nat.sub_self, biD, isD_1, boolD_b, cmpD, relD_i, opD, addD_i, addD_l, subD_i, intD_i, lenD_l, lenD_t, listD_l, listD_t, tupleD_l, int2D_i, absD_i, toIntD_i, toIntD_b, eqD_i, eqD_b, eqD_s, rngD_1, rngD_2, seqD_l, seqD_t, lstD_l, ixX_l, ixX_t, negX_i, slX_l, rvX_l, repX_i, intX_i, ixD_0, ixD_1, ixD_2, true_and, and_true, ite_self, Bool.false_eq_true, if_false]
    refine ⟨b20 (by simp), eqD_bs (by decide +kernel) ?_⟩
    simp only [Bool.not_true, Bool.false_eq_true, if_false]
    exact go _ _ _ _
end
theorem w_law : WOkE Elaw 1 7 trlaw := fun ws s Q Y h => by
  obtain ⟨ns, rfl, hl, h⟩ := Elaw_run h
  refine ⟨rfl, ?_⟩
  unfold trlaw
  simp only [backV, wSs, wS, w1, wT, wE, wA, wX, wV, wP, wC, opn, rdO_d, rdO_o, asD_d, asD_n, KQY, entry, look, put, slotV, argsOk, frzA, frzV, sv_i, sv_b, sv_s, sv_0, sv_l, sv_t, sv_d, sv_n, List.map, List.length, List.replicate, List.cons_append, List.nil_append, Nat.sub_self, biD, isD_1, boolD_b, cmpD, relD_i, opD, addD_i, addD_l, subD_i, intD_i, lenD_l, lenD_t, listD_l, listD_t, tupleD_l, int2D_i, absD_i, toIntD_i, toIntD_b, eqD_i, eqD_b, eqD_s, rngD_1, rngD_2, seqD_l, seqD_t, lstD_l, ixX_l, ixX_t, negX_i, slX_l, rvX_l, repX_i, intX_i, ixD_0, ixD_1, ixD_2, true_and, and_true, ite_self, KE2, wJ, List.length_map]
  have hmn : (if (if (63 : Int) < (ns.length : Nat) then 63 else ((ns.length : Nat) : Int)) > (16 : Int) then (if (63 : Int) < (ns.length : Nat) then 63 else ((ns.length : Nat) : Int)) else 16) ≤ 63 ∧ 0 ≤ (if (if (63 : Int) < (ns.length : Nat) then 63 else ((ns.length : Nat) : Int)) > (16 : Int) then (if (63 : Int) < (ns.length : Nat) then 63 else ((ns.length : Nat) : Int)) else 16) := by split <;> split <;> omega
  generalize (if (if (63 : Int) < (ns.length : Nat) then 63 else ((ns.length : Nat) : Int)) > (16 : Int) then (if (63 : Int) < (ns.length : Nat) then 63 else ((ns.length : Nat) : Int)) else 16) = mn at hmn
  refine ⟨⟨by omega, by omega⟩, by rw [List.length_range]; unfold big; omega, ?_⟩
  refine fLoop_mp (g := fun i : Nat => PyData.int (i : Nat)) (fun done rest Γ _ => ∃ (x1 x2 x3 x4 x5 : Option Val), Γ = [some (.dat (.list (ns.map .int))), x1, x2, x3, x4, x5, none] ∧ ∀ i ∈ rest, i < 63) ?_ ?_ _ [] _ _ ⟨_, _, _, _, _, rfl, fun i hi => by have := List.mem_range.mp hi; omega⟩
  · rintro done Γ u ⟨x1, x2, x3, x4, x5, rfl, _⟩
    simp only [backV, wSs, wS, w1, wT, wE, wA, wX, wV, wP, wC, opn, rdO_d, rdO_o, asD_d, asD_n, KQY, entry, look, put, slotV, argsOk, frzA, frzV, sv_i, sv_b, sv_s, sv_0, sv_l, sv_t, sv_d, sv_n, List.map, List.length, List.replicate, List.cons_append, List.nil_append, Nat.sub_self, biD, isD_1, boolD_b, cmpD, relD_i, opD, addD_i, addD_l, subD_i, intD_i, lenD_l, lenD_t, listD_l, listD_t, tupleD_l, int2D_i, absD_i, toIntD_i, toIntD_b, eqD_i, eqD_b, eqD_s, rngD_1, rngD_2, seqD_l, seqD_t, lstD_l, ixX_l, ixX_t, negX_i, slX_l, rvX_l, repX_i, intX_i, ixD_0, ixD_1, ixD_2, true_and, and_true, ite_self, wJ]
    refine ⟨b20 (by simp), b20 (by simp), b20 (by simp), b20 (by simp), b20 (by simp), ?_⟩
    refine fLoop_id (fun done rest Γ _ => ∃ (x6 : Option Val), Γ = [some (.dat (.list (ns.map .int))), x1, x2, x3, x4, x5, x6] ∧ ∀ x ∈ rest, isStrD x = false) ?_ ?_ _ _ _ ⟨_, rfl, fun x hx => ?_⟩
    · rintro done Γ u ⟨x6, rfl, _⟩
      simp only [backV, wSs, wS, w1, wT, wE, wA, wX, wV, wP, wC, opn, rdO_d, rdO_o, asD_d, asD_n, KQY, entry, look, put, slotV, argsOk, frzA, frzV, sv_i, sv_b, sv_s, sv_0, sv_l, sv_t, sv_d, sv_n, List.map, List.length, List.replicate, List.cons_append, List.nil_append, Nat.sub_self, biD, isD_1, boolD_b, cmpD, relD_i, opD, addD_i, addD_l, subD_i, intD_i, lenD_l, lenD_t, listD_l, listD_t, tupleD_l, int2D_i, absD_i, toIntD_i, toIntD_b, eqD_i, eqD_b, eqD_s, rngD_1, rngD_2, seqD_l, seqD_t, lstD_l, ixX_l, ixX_t, negX_i, slX_l, rvX_l, repX_i, intX_i, ixD_0, ixD_1, ixD_2, true_and, and_true, ite_self]
      refine ⟨b20 (by simp), b20 (by simp), ⟨by decide, by decide, by unfold big; decide⟩, b20 (by simp), ?_⟩
      refine ⟨1, _, rfl, .inr ⟨rfl, .inr ⟨by decide +kernel, ?_⟩⟩⟩
      simp only [backV, wSs, wS, w1, wT, wE, wA, wX, wV, wP, wC, opn, rdO_d, rdO_o, asD_d, asD_n, KQY, entry, look, put, slotV, argsOk, frzA, frzV, sv_i, sv_b, sv_s, sv_0, sv_l, sv_t, sv_d, sv_n, List.map, List.length, List.replicate, List.cons_append, List.nil_append, Nat.sub_self, biD, isD_1, boolD_b, cmpD, relD_i, opD, addD_i, addD_l, subD_i, intD_i, lenD_l, lenD_t, listD_l, listD_t, tupleD_l, int2D_i, absD_i, toIntD_i, toIntD_b, eqD_i, eqD_b, eqD_s, rngD_1, rngD_2, seqD_l, seqD_t, lstD_l, ixX_l, ixX_t, negX_i, slX_l, rvX_l, repX_i, intX_i, ixD_0, ixD_1, ixD_2, true_and, and_true, ite_self, txtD]
      refine ⟨b20 (by simp), eqD_bs (by decide +kernel) ?_⟩
      exact h
    · rintro done x r Γ u K' ⟨x6, rfl, hx⟩ hnx hct hbk hrt hex
      unfold trlaw_b2
      simp only [bindT, backV, wSs, wS, w1, wT, wE, wA, wX, wV, wP, wC, opn, rdO_d, rdO_o, asD_d, asD_n, KQY, entry, look, put, slotV, argsOk, frzA, frzV, sv_i, sv_b, sv_s, sv_0, sv_l, sv_t, sv_d, sv_n, List.map, List.length, List.replicate, List.cons_append, List.nil_append, Nat.sub_self, biD, isD_1, boolD_b, cmpD, relD_i, opD, addD_i, addD_l, subD_i, intD_i, lenD_l, lenD_t, listD_l, listD_t, tupleD_l, int2D_i, absD_i, toIntD_i, toIntD_b, eqD_i, eqD_b, eqD_s, rngD_1, rngD_2, seqD_l, seqD_t, lstD_l, ixX_l, ixX_t, negX_i, slX_l, rvX_l, repX_i, intX_i, ixD_0, ixD_1, ixD_2, true_and, and_true, ite_self]
      refine ⟨0, x, rfl, .inl ⟨rfl, .inr ⟨hx x List.mem_cons_self, ?_⟩⟩⟩
      simp only [backV, wSs, wS, w1, wT, wE, wA, wX, wV, wP, wC, opn, rdO_d, rdO_o, asD_d, asD_n, KQY, entry, look, put, slotV, argsOk, frzA, frzV, sv_i, sv_b, sv_s, sv_0, sv_l, sv_t, sv_d, sv_n, List.map, List.length, List.replicate, List.cons_append, List.nil_append, Nat.sub_self, biD, isD_1, boolD_b, cmpD, relD_i, opD, addD_i, addD_l, subD_i, intD_i, lenD_l, lenD_t, listD_l, listD_t, tupleD_l, int2D_i, absD_i, toIntD_i, toIntD_b, eqD_i, eqD_b, eqD_s, rngD_1, rngD_2, seqD_l, seqD_t, lstD_l, ixX_l, ixX_t, negX_i, slX_l, rvX_l, repX_i, intX_i, ixD_0, ixD_1, ixD_2, true_and, and_true, ite_self, txtD]
      refine ⟨b20 (by simp), eqD_bs (by decide +kernel) ?_⟩
      simp only [Bool.not_true, Bool.false_eq_true, if_false]
      exact hnx _ _ ⟨_, rfl, fun y hy => hx y (List.mem_cons_of_mem _ hy)⟩
    · simp only [List.mem_cons, List.not_mem_nil, or_false] at hx
      rcases hx with rfl | rfl | rfl | rfl | rfl | rfl | rfl <;> rfl
  · rintro done i r Γ u K' ⟨x1, x2, x3, x4, x5, rfl, hd⟩ hnx hct hbk hrt hex
    simp only [bindT, put]
    exact law37_b1 (hd i List.mem_cons_self) fun x2 x3 x4 x5 => hnx _ _ ⟨_, _, _, _, _, rfl, fun j hj => hd j (List.mem_cons_of_mem _ hj)⟩
end Ac
namespace Ac
open PySem PySem.Spec PyProof.Rows L2
def topS (i : Nat) : Stmt := PySem.Challenge.pw_arcpins_k37_texts_that_write_no_ring.main.body.getD i (.Pass ⟨0, 0, 0, 0⟩)
abbrev sis_number : Stmt := topS 12
abbrev sis_arc : Stmt := topS 13
abbrev sis_ring : Stmt := topS 14
abbrev sarc_text : Stmt := topS 17
abbrev sshow_ring : Stmt := topS 18
abbrev sread_figures : Stmt := topS 19
abbrev sread_ring : Stmt := topS 20
abbrev s_law_cell : Stmt := topS 22
abbrev s_law_mixed : Stmt := topS 23
abbrev s_law_ring : Stmt := topS 24
abbrev s_law_number : Stmt := topS 25
abbrev s_law_writes : Stmt := topS 26
abbrev s_law_odd : Stmt := topS 27
abbrev s_law_given : Stmt := topS 28
abbrev s_law_asked : Stmt := topS 29
abbrev s_law_bad : Stmt := topS 30
abbrev slaw : Stmt := topS 31
def bnL : List Str := ["len", "min", "max", "sum", "sorted", "list", "tuple", "abs", "int", "str", "isinstance", "bool", "range", "enumerate", "zip", "set", "repr", "dict"]
def cnL : List (Str × Int) := [("MOST_PLACES", 40), ("MOST_ARCS", 20)]
def csL : List (Str × Str) := [("FIGURES", "0123456789")]
theorem cs_nil {mg : Str → Option Value} : ∀ (x z : Str), ([] : List (Str × Str)).lookup x = some z → ∃ u, mg x = some (.str z u) := fun _ _ h => nomatch h
theorem cs_cons {mg : Str → Option Value} {y v : Str} {l : List (Str × Str)} (h : ∃ u, mg y = some (.str v u)) (r : ∀ (x z : Str), l.lookup x = some z → ∃ u, mg x = some (.str z u)) : ∀ (x z : Str), ((y, v) :: l).lookup x = some z → ∃ u, mg x = some (.str z u) := fun x z e => by
  rw [List.lookup_cons] at e
  split at e
  · rename_i q
    have q := eq_of_beq q
    subst q
    cases e
    exact h
  · exact r x z e
def exL : List (Str × Nat) := [("NoRing", 0), ("NoArc", 1), ("NoPlace", 2), ("TooMany", 3), ("NoText", 4), ("NoName", 5), ("NoRow", 6)]
def GXL (x : Str) (n : Nat) : Prop := (x, n) ∈ exL
section
variable {P : Program} {w : World} {K : PySem.W.Frag} {mg : Str → Option Value} {base : Heap} {cl : Nat → Addr}
theorem sc_law_mixed : FnScope ["cell", "k", "number"] ["cell", "k"] (defScope s_law_mixed) := ⟨rfl, rfl, rfl, by decide +kernel, rfl, by decide +kernel, by decide +kernel⟩
theorem ch_law_mixed : chSs tr_law_mixed (txt ["cell", "k", "number"] (defScope s_law_mixed) bnL cnL false csL) (defBody s_law_mixed) = true := by decide +kernel
theorem g_law_mixed (T : Top K mg base bnL cnL GXL cl csL) (d : DefAt K mg "_law_mixed" s_law_mixed ["cell", "k"]) : GoodP0 cl P w K mg base 1 "_law_mixed" S_law_mixed := by
  obtain ⟨f, fd, F, hm, hb, _⟩ := d.ex
  refine fn_good F hm sc_law_mixed hb T (fun _ _ h => h) tr_law_mixed ch_law_mixed ?_ w_law_mixed
  unfold tr_law_mixed
  simp [fnSs, fnS, fn1, fnE, fnEs, fnI, GXL, exL]
theorem sc_law_ring : FnScope ["cell", "most", "many", "n", "kind", "arcs", "k", "one", "start", "long"] ["cell", "most", "many"] (defScope s_law_ring) := ⟨rfl, rfl, rfl, by decide +kernel, rfl, by decide +kernel, by decide +kernel⟩
theorem ch_law_ring : chSs tr_law_ring (txt ["cell", "most", "many", "n", "kind", "arcs", "k", "one", "start", "long"] (defScope s_law_ring) bnL cnL false csL) (defBody s_law_ring) = true := by decide +kernel
theorem g_law_ring (T : Top K mg base bnL cnL GXL cl csL) (d : DefAt K mg "_law_ring" s_law_ring ["cell", "most", "many"]) (h_law_mixed : GoodP0 cl P w K mg base 1 "_law_mixed" S_law_mixed) : GoodP0 cl P w K mg base 2 "_law_ring" S_law_ring := by
  obtain ⟨f, fd, F, hm, hb, _⟩ := d.ex
  refine fn_good F hm sc_law_ring hb T (fun _ _ h => h) tr_law_ring ch_law_ring ?_ w_law_ring
  unfold tr_law_ring
  simp [fnSs, fnS, fn1, fnE, fnEs, fnI, GXL, exL, tr_law_ring_r1, tr_law_ring_r2, tr_law_ring_r3, tr_law_ring_r4, tr_law_ring_b1, h_law_mixed]
theorem sc_law_odd : FnScope ["cell", "some"] ["cell"] (defScope s_law_odd) := ⟨rfl, rfl, rfl, by decide +kernel, rfl, by decide +kernel, by decide +kernel⟩
theorem ch_law_odd : chSs tr_law_odd (txt ["cell", "some"] (defScope s_law_odd) bnL cnL false csL) (defBody s_law_odd) = true := by decide +kernel
theorem g_law_odd (T : Top K mg base bnL cnL GXL cl csL) (d : DefAt K mg "_law_odd" s_law_odd ["cell"]) : GoodP0 cl P w K mg base 1 "_law_odd" S_law_odd := by
  obtain ⟨f, fd, F, hm, hb, _⟩ := d.ex
  refine fn_good F hm sc_law_odd hb T (fun _ _ h => h) tr_law_odd ch_law_odd ?_ w_law_odd
  unfold tr_law_odd
  simp [fnSs, fnS, fn1, fnE, fnEs, fnI, GXL, exL, tr_law_odd_r1, tr_law_odd_r2, tr_law_odd_r3, tr_law_odd_r4, tr_law_odd_r5, tr_law_odd_r6, tr_law_odd_r7, tr_law_odd_r8]
theorem sc_law_given : FnScope ["cell", "kind", "n", "arcs", "words", "start", "many", "text", "signs", "at", "sign"] ["cell"] (defScope s_law_given) := ⟨rfl, rfl, rfl, by decide +kernel, rfl, by decide +kernel, by decide +kernel⟩
theorem ch_law_given : chSs tr_law_given (txt ["cell", "kind", "n", "arcs", "words", "start", "many", "text", "signs", "at", "sign"] (defScope s_law_given) bnL cnL false csL) (defBody s_law_given) = true := by decide +kernel
theorem g_law_given (T : Top K mg base bnL cnL GXL cl csL) (d : DefAt K mg "_law_given" s_law_given ["cell"]) (h_law_ring : GoodP0 cl P w K mg base 2 "_law_ring" S_law_ring) (h_law_odd : GoodP0 cl P w K mg base 1 "_law_odd" S_law_odd) (h_law_mixed : GoodP0 cl P w K mg base 1 "_law_mixed" S_law_mixed) : GoodP0 cl P w K mg base 3 "_law_given" S_law_given := by
  obtain ⟨f, fd, F, hm, hb, _⟩ := d.ex
  replace h_law_odd := h_law_odd.mono (show 1 ≤ 2 by decide)
  replace h_law_mixed := h_law_mixed.mono (show 1 ≤ 2 by decide)
  refine fn_good F hm sc_law_given hb T (fun _ _ h => h) tr_law_given ch_law_given ?_ w_law_given
  unfold tr_law_given
  simp [fnSs, fnS, fn1, fnE, fnEs, fnI, GXL, exL, tr_law_given_e1, tr_law_given_r1, h_law_ring, h_law_odd, h_law_mixed]
theorem scread_figures : FnScope ["word", "sign"] ["word"] (defScope sread_figures) := ⟨rfl, rfl, rfl, by decide +kernel, rfl, by decide +kernel, by decide +kernel⟩
theorem chread_figures : chSs trread_figures (txt ["word", "sign"] (defScope sread_figures) bnL cnL false csL) (defBody sread_figures) = true := by decide +kernel
theorem gread_figures (T : Top K mg base bnL cnL GXL cl csL) (d : DefAt K mg "read_figures" sread_figures ["word"]) : GoodP0 cl P w K mg base 1 "read_figures" Sread_figures := by
  obtain ⟨f, fd, F, hm, hb, _⟩ := d.ex
  refine fn_good F hm scread_figures hb T (fun _ _ h => h) trread_figures chread_figures ?_ w_read_figures
  unfold trread_figures
  simp [fnSs, fnS, fn1, fnE, fnEs, fnI, GXL, exL, trread_figures_c1, trread_figures_r1]
theorem scis_number : FnScope ["thing", "beyond"] ["thing", "beyond"] (defScope sis_number) := ⟨rfl, rfl, rfl, by decide +kernel, rfl, by decide +kernel, by decide +kernel⟩
theorem chis_number : chSs tris_number (txt ["thing", "beyond"] (defScope sis_number) bnL cnL false csL) (defBody sis_number) = true := by decide +kernel
theorem gis_number (T : Top K mg base bnL cnL GXL cl csL) (d : DefAt K mg "is_number" sis_number ["thing", "beyond"]) : GoodP0 cl P w K mg base 1 "is_number" Sis_number := by
  obtain ⟨f, fd, F, hm, hb, _⟩ := d.ex
  refine fn_good F hm scis_number hb T (fun _ _ h => h) tris_number chis_number ?_ w_is_number
  unfold tris_number
  simp [fnSs, fnS, fn1, fnE, fnEs, fnI, GXL, exL]
theorem scis_arc : FnScope ["thing", "n"] ["thing", "n"] (defScope sis_arc) := ⟨rfl, rfl, rfl, by decide +kernel, rfl, by decide +kernel, by decide +kernel⟩
theorem chis_arc : chSs tris_arc (txt ["thing", "n"] (defScope sis_arc) bnL cnL false csL) (defBody sis_arc) = true := by decide +kernel
theorem gis_arc (T : Top K mg base bnL cnL GXL cl csL) (d : DefAt K mg "is_arc" sis_arc ["thing", "n"]) (his_number : GoodP0 cl P w K mg base 1 "is_number" Sis_number) : GoodP0 cl P w K mg base 2 "is_arc" Sis_arc := by
  obtain ⟨f, fd, F, hm, hb, _⟩ := d.ex
  refine fn_good F hm scis_arc hb T (fun _ _ h => h) tris_arc chis_arc ?_ w_is_arc
  unfold tris_arc
  simp [fnSs, fnS, fn1, fnE, fnEs, fnI, GXL, exL, his_number]
theorem scis_ring : FnScope ["thing", "arc"] ["thing"] (defScope sis_ring) := ⟨rfl, rfl, rfl, by decide +kernel, rfl, by decide +kernel, by decide +kernel⟩
theorem chis_ring : chSs tris_ring (txt ["thing", "arc"] (defScope sis_ring) bnL cnL false csL) (defBody sis_ring) = true := by decide +kernel
theorem gis_ring (T : Top K mg base bnL cnL GXL cl csL) (d : DefAt K mg "is_ring" sis_ring ["thing"]) (his_number : GoodP0 cl P w K mg base 1 "is_number" Sis_number) (his_arc : GoodP0 cl P w K mg base 2 "is_arc" Sis_arc) : GoodP0 cl P w K mg base 3 "is_ring" Sis_ring := by
  obtain ⟨f, fd, F, hm, hb, _⟩ := d.ex
  replace his_number := his_number.mono (show 1 ≤ 2 by decide)
  refine fn_good F hm scis_ring hb T (fun _ _ h => h) tris_ring chis_ring ?_ w_is_ring
  unfold tris_ring
  simp [fnSs, fnS, fn1, fnE, fnEs, fnI, GXL, exL, tris_ring_c1, his_number, his_arc]
theorem scarc_text : FnScope ["arc"] ["arc"] (defScope sarc_text) := ⟨rfl, rfl, rfl, by decide +kernel, rfl, by decide +kernel, by decide +kernel⟩
theorem charc_text : chSs trarc_text (txt ["arc"] (defScope sarc_text) bnL cnL false csL) (defBody sarc_text) = true := by decide +kernel
theorem garc_text (T : Top K mg base bnL cnL GXL cl csL) (d : DefAt K mg "arc_text" sarc_text ["arc"]) : GoodP0 cl P w K mg base 1 "arc_text" Sarc_text := by
  obtain ⟨f, fd, F, hm, hb, _⟩ := d.ex
  refine fn_good F hm scarc_text hb T (fun _ _ h => h) trarc_text charc_text ?_ w_arc_text
  unfold trarc_text
  simp [fnSs, fnS, fn1, fnE, fnEs, fnI, GXL, exL]
theorem scshow_ring : FnScope ["ring", "arc"] ["ring"] (defScope sshow_ring) := ⟨rfl, rfl, rfl, by decide +kernel, rfl, by decide +kernel, by decide +kernel⟩
theorem chshow_ring : chSs trshow_ring (txt ["ring", "arc"] (defScope sshow_ring) bnL cnL false csL) (defBody sshow_ring) = true := by decide +kernel
theorem gshow_ring (T : Top K mg base bnL cnL GXL cl csL) (d : DefAt K mg "show_ring" sshow_ring ["ring"]) (his_ring : GoodP0 cl P w K mg base 3 "is_ring" Sis_ring) (harc_text : GoodP0 cl P w K mg base 1 "arc_text" Sarc_text) : GoodP0 cl P w K mg base 4 "show_ring" Sshow_ring := by
  obtain ⟨f, fd, F, hm, hb, _⟩ := d.ex
  replace harc_text := harc_text.mono (show 1 ≤ 3 by decide)
  refine fn_good F hm scshow_ring hb T (fun _ _ h => h) trshow_ring chshow_ring ?_ w_show_ring
  unfold trshow_ring
  simp [fnSs, fnS, fn1, fnE, fnEs, fnI, GXL, exL, trshow_ring_e1, his_ring, harc_text]
theorem scread_ring : FnScope ["text", "words", "arcs", "word", "one", "sign", "other", "ring"] ["text"] (defScope sread_ring) := ⟨rfl, rfl, rfl, by decide +kernel, rfl, by decide +kernel, by decide +kernel⟩
theorem chread_ring : chSs trread_ring (txt ["text", "words", "arcs", "word", "one", "sign", "other", "ring"] (defScope sread_ring) bnL cnL false csL) (defBody sread_ring) = true := by decide +kernel
theorem gread_ring (T : Top K mg base bnL cnL GXL cl csL) (d : DefAt K mg "read_ring" sread_ring ["text"]) (hread_figures : GoodP0 cl P w K mg base 1 "read_figures" Sread_figures) (his_ring : GoodP0 cl P w K mg base 3 "is_ring" Sis_ring) (hshow_ring : GoodP0 cl P w K mg base 4 "show_ring" Sshow_ring) : GoodP0 cl P w K mg base 5 "read_ring" Sread_ring := by
  obtain ⟨f, fd, F, hm, hb, _⟩ := d.ex
  replace hread_figures := hread_figures.mono (show 1 ≤ 4 by decide)
  replace his_ring := his_ring.mono (show 3 ≤ 4 by decide)
  refine fn_good F hm scread_ring hb T (fun _ _ h => h) trread_ring chread_ring ?_ w_read_ring
  unfold trread_ring
  simp [fnSs, fnS, fn1, fnE, fnEs, fnI, GXL, exL, trread_ring_b1, trread_ring_r1, trread_ring_r2, trread_ring_r3, hread_figures, his_ring, hshow_ring]
theorem sc_law_asked : FnScope ["ask", "thing", "found", "e", "kinds", "others"] ["ask", "thing"] (defScope s_law_asked) := ⟨rfl, rfl, rfl, by decide +kernel, rfl, by decide +kernel, by decide +kernel⟩
theorem ch_law_asked : chSs tr_law_asked (txt ["ask", "thing", "found", "e", "kinds", "others"] (defScope s_law_asked) bnL cnL true csL) (defBody s_law_asked) = true := by decide +kernel
theorem g_law_asked (T : Top K mg base bnL cnL GXL cl csL) (d : DefAt K mg "_law_asked" s_law_asked ["ask", "thing"]) (XT : XTop K mg cl) (hread_ring : GoodP0 cl P w K mg base 5 "read_ring" Sread_ring) (hshow_ring : GoodP0 cl P w K mg base 4 "show_ring" Sshow_ring) : GoodE0 (rmD cl) cl P w K mg base 6 "_law_asked" E_law_asked := by
  obtain ⟨f, fd, F, hm, hb, _⟩ := d.ex
  replace hshow_ring := hshow_ring.mono (show 4 ≤ 5 by decide)
  refine fn_goodE (rm := rmD cl) F hm sc_law_asked hb T (G := GoodP0 cl P w K mg base 5) (GE := GoodE0 (rmD cl) cl P w K mg base 5) (fun _ _ h => h) (fun _ _ h => h) (fun _ => ⟨XT, rmD_err cl⟩) tr_law_asked ch_law_asked ?_ w_law_asked
  unfold tr_law_asked
  simp [fnSs, fnS, fn1, fnE, fnEs, fnI, GXL, exL, tr_law_asked_b1, tr_law_asked_b2, hread_ring, hshow_ring]
theorem sc_law_number : FnScope ["word"] ["word"] (defScope s_law_number) := ⟨rfl, rfl, rfl, by decide +kernel, rfl, by decide +kernel, by decide +kernel⟩
theorem ch_law_number : chSs tr_law_number (txt ["word"] (defScope s_law_number) bnL cnL false csL) (defBody s_law_number) = true := by decide +kernel
theorem g_law_number (T : Top K mg base bnL cnL GXL cl csL) (d : DefAt K mg "_law_number" s_law_number ["word"]) : GoodP0 cl P w K mg base 1 "_law_number" S_law_number := by
  obtain ⟨f, fd, F, hm, hb, _⟩ := d.ex
  refine fn_good F hm sc_law_number hb T (fun _ _ h => h) tr_law_number ch_law_number ?_ w_law_number
  unfold tr_law_number
  simp [fnSs, fnS, fn1, fnE, fnEs, fnI, GXL, exL, tr_law_number_r1, tr_law_number_r2]
theorem sc_law_writes : FnScope ["text", "words", "n", "word", "both", "part"] ["text"] (defScope s_law_writes) := ⟨rfl, rfl, rfl, by decide +kernel, rfl, by decide +kernel, by decide +kernel⟩
theorem ch_law_writes : chSs tr_law_writes (txt ["text", "words", "n", "word", "both", "part"] (defScope s_law_writes) bnL cnL false csL) (defBody s_law_writes) = true := by decide +kernel
theorem g_law_writes (T : Top K mg base bnL cnL GXL cl csL) (d : DefAt K mg "_law_writes" s_law_writes ["text"]) (h_law_number : GoodP0 cl P w K mg base 1 "_law_number" S_law_number) : GoodP0 cl P w K mg base 2 "_law_writes" S_law_writes := by
  obtain ⟨f, fd, F, hm, hb, _⟩ := d.ex
  refine fn_good F hm sc_law_writes hb T (fun _ _ h => h) tr_law_writes ch_law_writes ?_ w_law_writes
  unfold tr_law_writes
  simp [fnSs, fnS, fn1, fnE, fnEs, fnI, GXL, exL, tr_law_writes_e1, tr_law_writes_b1, tr_law_writes_r1, h_law_number]
theorem sc_law_cell : FnScope ["script", "k"] ["script", "k"] (defScope s_law_cell) := ⟨rfl, rfl, rfl, by decide +kernel, rfl, by decide +kernel, by decide +kernel⟩
theorem ch_law_cell : chSs tr_law_cell (txt ["script", "k"] (defScope s_law_cell) bnL cnL false csL) (defBody s_law_cell) = true := by decide +kernel
theorem g_law_cell (T : Top K mg base bnL cnL GXL cl csL) (d : DefAt K mg "_law_cell" s_law_cell ["script", "k"]) : GoodP0 cl P w K mg base 1 "_law_cell" S_law_cell := by
  obtain ⟨f, fd, F, hm, hb, _⟩ := d.ex
  refine fn_good F hm sc_law_cell hb T (fun _ _ h => h) tr_law_cell ch_law_cell ?_ w_law_cell
  unfold tr_law_cell
  simp [fnSs, fnS, fn1, fnE, fnEs, fnI, GXL, exL]
theorem sc_law_bad : FnScope ["ring", "cell", "n", "arcs", "some", "at", "bad", "arc"] ["ring", "cell"] (defScope s_law_bad) := ⟨rfl, rfl, rfl, by decide +kernel, rfl, by decide +kernel, by decide +kernel⟩
theorem ch_law_bad : chSs tr_law_bad (txt ["ring", "cell", "n", "arcs", "some", "at", "bad", "arc"] (defScope s_law_bad) bnL cnL false csL) (defBody s_law_bad) = true := by decide +kernel
theorem g_law_bad (T : Top K mg base bnL cnL GXL cl csL) (d : DefAt K mg "_law_bad" s_law_bad ["ring", "cell"]) : GoodP0 cl P w K mg base 1 "_law_bad" S_law_bad := by
  obtain ⟨f, fd, F, hm, hb, _⟩ := d.ex
  refine fn_good F hm sc_law_bad hb T (fun _ _ h => h) tr_law_bad ch_law_bad ?_ w_law_bad
  unfold tr_law_bad
  simp [fnSs, fnS, fn1, fnE, fnEs, fnI, GXL, exL, tr_law_bad_b1, tr_law_bad_r1, tr_law_bad_r2, tr_law_bad_r3, tr_law_bad_r4, tr_law_bad_r5, tr_law_bad_r6, tr_law_bad_r7]
theorem sclaw : FnScope ["script", "k", "cell", "text", "found", "ring", "odd"] ["script"] (defScope slaw) := ⟨rfl, rfl, rfl, by decide +kernel, rfl, by decide +kernel, by decide +kernel⟩
theorem chlaw : chSs trlaw (txt ["script", "k", "cell", "text", "found", "ring", "odd"] (defScope slaw) bnL cnL true csL) (defBody slaw) = true := by decide +kernel
theorem glaw {f : Addr} {fd : FuncData} (T : Top K mg base bnL cnL GXL cl csL) (F : Fun K "law" "law" slaw f fd) (XT : XTop K mg cl) (h_law_given : GoodP0 cl P w K mg base 3 "_law_given" S_law_given) (h_law_asked : GoodE0 (rmD cl) cl P w K mg base 6 "_law_asked" E_law_asked) (h_law_writes : GoodP0 cl P w K mg base 2 "_law_writes" S_law_writes) (h_law_ring : GoodP0 cl P w K mg base 2 "_law_ring" S_law_ring) (h_law_cell : GoodP0 cl P w K mg base 1 "_law_cell" S_law_cell) (h_law_mixed : GoodP0 cl P w K mg base 1 "_law_mixed" S_law_mixed) (h_law_bad : GoodP0 cl P w K mg base 1 "_law_bad" S_law_bad) : FnG P w K mg base 7 f fd ["script"] (spE (rmD cl) cl Elaw) := by
  replace h_law_given := h_law_given.mono (show 3 ≤ 6 by decide)
  replace h_law_writes := h_law_writes.mono (show 2 ≤ 6 by decide)
  replace h_law_ring := h_law_ring.mono (show 2 ≤ 6 by decide)
  replace h_law_cell := h_law_cell.mono (show 1 ≤ 6 by decide)
  replace h_law_mixed := h_law_mixed.mono (show 1 ≤ 6 by decide)
  replace h_law_bad := h_law_bad.mono (show 1 ≤ 6 by decide)
  refine fn_okE (rm := rmD cl) F sclaw T (G := GoodP0 cl P w K mg base 6) (GE := GoodE0 (rmD cl) cl P w K mg base 6) (fun _ _ h => h) (fun _ _ h => h) (fun _ => ⟨XT, rmD_err cl⟩) trlaw chlaw ?_ w_law
  unfold trlaw
  simp [fnSs, fnS, fn1, fnE, fnEs, fnI, GXL, exL, trlaw_r1, trlaw_b1, trlaw_b2, h_law_given, h_law_asked, h_law_writes, h_law_ring, h_law_cell, h_law_mixed, h_law_bad]
theorem all_mk {h : Heap} {fa : Addr} (X : K.In h) (G : h.Ns mainGlobals mg) (hfa : mg "law" = some (.ref fa))
    {t_MOST_PLACES : Tok}
    {t_MOST_ARCS : Tok}
    {t_FIGURES : Tok}
    {C_NoRing : Addr}
    {C_NoArc : Addr}
    {C_NoPlace : Addr}
    {C_TooMany : Addr}
    {C_NoText : Addr}
    {C_NoName : Addr}
    {C_NoRow : Addr}
    {C_Pin : Addr}
    {f__law_mixed : Addr} {od__law_mixed an__law_mixed : Option Addr} {sl__law_mixed : Array (Option Value)} {oc__law_mixed kV__law_mixed dc__law_mixed pm__law_mixed cd__law_mixed ct__law_mixed : Value}
    {f__law_ring : Addr} {od__law_ring an__law_ring : Option Addr} {sl__law_ring : Array (Option Value)} {oc__law_ring kV__law_ring dc__law_ring pm__law_ring cd__law_ring ct__law_ring : Value}
    {f__law_odd : Addr} {od__law_odd an__law_odd : Option Addr} {sl__law_odd : Array (Option Value)} {oc__law_odd kV__law_odd dc__law_odd pm__law_odd cd__law_odd ct__law_odd : Value}
    {f__law_given : Addr} {od__law_given an__law_given : Option Addr} {sl__law_given : Array (Option Value)} {oc__law_given kV__law_given dc__law_given pm__law_given cd__law_given ct__law_given : Value}
    {f_read_figures : Addr} {od_read_figures an_read_figures : Option Addr} {sl_read_figures : Array (Option Value)} {oc_read_figures kV_read_figures dc_read_figures pm_read_figures cd_read_figures ct_read_figures : Value}
    {f_is_number : Addr} {od_is_number an_is_number : Option Addr} {sl_is_number : Array (Option Value)} {oc_is_number kV_is_number dc_is_number pm_is_number cd_is_number ct_is_number : Value}
    {f_is_arc : Addr} {od_is_arc an_is_arc : Option Addr} {sl_is_arc : Array (Option Value)} {oc_is_arc kV_is_arc dc_is_arc pm_is_arc cd_is_arc ct_is_arc : Value}
    {f_is_ring : Addr} {od_is_ring an_is_ring : Option Addr} {sl_is_ring : Array (Option Value)} {oc_is_ring kV_is_ring dc_is_ring pm_is_ring cd_is_ring ct_is_ring : Value}
    {f_arc_text : Addr} {od_arc_text an_arc_text : Option Addr} {sl_arc_text : Array (Option Value)} {oc_arc_text kV_arc_text dc_arc_text pm_arc_text cd_arc_text ct_arc_text : Value}
    {f_show_ring : Addr} {od_show_ring an_show_ring : Option Addr} {sl_show_ring : Array (Option Value)} {oc_show_ring kV_show_ring dc_show_ring pm_show_ring cd_show_ring ct_show_ring : Value}
    {f_read_ring : Addr} {od_read_ring an_read_ring : Option Addr} {sl_read_ring : Array (Option Value)} {oc_read_ring kV_read_ring dc_read_ring pm_read_ring cd_read_ring ct_read_ring : Value}
    {f__law_asked : Addr} {od__law_asked an__law_asked : Option Addr} {sl__law_asked : Array (Option Value)} {oc__law_asked kV__law_asked dc__law_asked pm__law_asked cd__law_asked ct__law_asked : Value}
    {f__law_number : Addr} {od__law_number an__law_number : Option Addr} {sl__law_number : Array (Option Value)} {oc__law_number kV__law_number dc__law_number pm__law_number cd__law_number ct__law_number : Value}
    {f__law_writes : Addr} {od__law_writes an__law_writes : Option Addr} {sl__law_writes : Array (Option Value)} {oc__law_writes kV__law_writes dc__law_writes pm__law_writes cd__law_writes ct__law_writes : Value}
    {f__law_cell : Addr} {od__law_cell an__law_cell : Option Addr} {sl__law_cell : Array (Option Value)} {oc__law_cell kV__law_cell dc__law_cell pm__law_cell cd__law_cell ct__law_cell : Value}
    {f__law_bad : Addr} {od__law_bad an__law_bad : Option Addr} {sl__law_bad : Array (Option Value)} {oc__law_bad kV__law_bad dc__law_bad pm__law_bad cd__law_bad ct__law_bad : Value}
    {f_law : Addr} {od_law an_law : Option Addr} {sl_law : Array (Option Value)} {oc_law kV_law dc_law pm_law cd_law ct_law : Value}
    (z_len : PySem.W.nsIn K mainGlobals "len" = some none)
    (z_min : PySem.W.nsIn K mainGlobals "min" = some none)
    (z_max : PySem.W.nsIn K mainGlobals "max" = some none)
    (z_sum : PySem.W.nsIn K mainGlobals "sum" = some none)
    (z_sorted : PySem.W.nsIn K mainGlobals "sorted" = some none)
    (z_list : PySem.W.nsIn K mainGlobals "list" = some none)
    (z_tuple : PySem.W.nsIn K mainGlobals "tuple" = some none)
    (z_abs : PySem.W.nsIn K mainGlobals "abs" = some none)
    (z_int : PySem.W.nsIn K mainGlobals "int" = some none)
    (z_str : PySem.W.nsIn K mainGlobals "str" = some none)
    (z_isinstance : PySem.W.nsIn K mainGlobals "isinstance" = some none)
    (z_bool : PySem.W.nsIn K mainGlobals "bool" = some none)
    (z_range : PySem.W.nsIn K mainGlobals "range" = some none)
    (z_enumerate : PySem.W.nsIn K mainGlobals "enumerate" = some none)
    (z_zip : PySem.W.nsIn K mainGlobals "zip" = some none)
    (z_set : PySem.W.nsIn K mainGlobals "set" = some none)
    (z_repr : PySem.W.nsIn K mainGlobals "repr" = some none)
    (z_dict : PySem.W.nsIn K mainGlobals "dict" = some none)
    (n_MOST_PLACES : PySem.W.nsIn K mainGlobals "MOST_PLACES" = some (some (.int 40 t_MOST_PLACES)))
    (n_MOST_ARCS : PySem.W.nsIn K mainGlobals "MOST_ARCS" = some (some (.int 20 t_MOST_ARCS)))
    (n_FIGURES : PySem.W.nsIn K mainGlobals "FIGURES" = some (some (.str "0123456789" t_FIGURES)))
    (xa_NoRing : PySem.W.nsIn K mainGlobals "NoRing" = some (some (.ref C_NoRing)))
    (xe_NoRing : PySem.W.excIn K C_NoRing [.type "ValueError", .type "Exception", .type "BaseException", .type "object"] "ValueError.__new__" = true)
    (xk_NoRing : PySem.W.keepIn K (.ref C_NoRing) = true)
    (xb_NoRing : PySem.W.subIn K (.ref C_NoRing) (.type "BaseException") = some true)
    (xt_NoRing : PySem.W.typeIn K (.ref C_NoRing) = some (.type "type"))
    (xa_NoArc : PySem.W.nsIn K mainGlobals "NoArc" = some (some (.ref C_NoArc)))
    (xe_NoArc : PySem.W.excIn K C_NoArc [.type "ValueError", .type "Exception", .type "BaseException", .type "object"] "ValueError.__new__" = true)
    (xk_NoArc : PySem.W.keepIn K (.ref C_NoArc) = true)
    (xb_NoArc : PySem.W.subIn K (.ref C_NoArc) (.type "BaseException") = some true)
    (xt_NoArc : PySem.W.typeIn K (.ref C_NoArc) = some (.type "type"))
    (xa_NoPlace : PySem.W.nsIn K mainGlobals "NoPlace" = some (some (.ref C_NoPlace)))
    (xe_NoPlace : PySem.W.excIn K C_NoPlace [.type "ValueError", .type "Exception", .type "BaseException", .type "object"] "ValueError.__new__" = true)
    (xk_NoPlace : PySem.W.keepIn K (.ref C_NoPlace) = true)
    (xb_NoPlace : PySem.W.subIn K (.ref C_NoPlace) (.type "BaseException") = some true)
    (xt_NoPlace : PySem.W.typeIn K (.ref C_NoPlace) = some (.type "type"))
    (xa_TooMany : PySem.W.nsIn K mainGlobals "TooMany" = some (some (.ref C_TooMany)))
    (xe_TooMany : PySem.W.excIn K C_TooMany [.type "ValueError", .type "Exception", .type "BaseException", .type "object"] "ValueError.__new__" = true)
    (xk_TooMany : PySem.W.keepIn K (.ref C_TooMany) = true)
    (xb_TooMany : PySem.W.subIn K (.ref C_TooMany) (.type "BaseException") = some true)
    (xt_TooMany : PySem.W.typeIn K (.ref C_TooMany) = some (.type "type"))
    (xa_NoText : PySem.W.nsIn K mainGlobals "NoText" = some (some (.ref C_NoText)))
    (xe_NoText : PySem.W.excIn K C_NoText [.type "ValueError", .type "Exception", .type "BaseException", .type "object"] "ValueError.__new__" = true)
    (xk_NoText : PySem.W.keepIn K (.ref C_NoText) = true)
    (xb_NoText : PySem.W.subIn K (.ref C_NoText) (.type "BaseException") = some true)
    (xt_NoText : PySem.W.typeIn K (.ref C_NoText) = some (.type "type"))
    (xa_NoName : PySem.W.nsIn K mainGlobals "NoName" = some (some (.ref C_NoName)))
    (xe_NoName : PySem.W.excIn K C_NoName [.type "ValueError", .type "Exception", .type "BaseException", .type "object"] "ValueError.__new__" = true)
    (xk_NoName : PySem.W.keepIn K (.ref C_NoName) = true)
    (xb_NoName : PySem.W.subIn K (.ref C_NoName) (.type "BaseException") = some true)
    (xt_NoName : PySem.W.typeIn K (.ref C_NoName) = some (.type "type"))
    (xa_NoRow : PySem.W.nsIn K mainGlobals "NoRow" = some (some (.ref C_NoRow)))
    (xe_NoRow : PySem.W.excIn K C_NoRow [.type "ValueError", .type "Exception", .type "BaseException", .type "object"] "ValueError.__new__" = true)
    (xk_NoRow : PySem.W.keepIn K (.ref C_NoRow) = true)
    (xb_NoRow : PySem.W.subIn K (.ref C_NoRow) (.type "BaseException") = some true)
    (xt_NoRow : PySem.W.typeIn K (.ref C_NoRow) = some (.type "type"))
    (z_ValueError : PySem.W.nsIn K mainGlobals "ValueError" = some none)
    (pa : PySem.W.nsIn K mainGlobals "PinError" = some (some (.ref C_Pin)))
    (ps : PySem.W.subIn K (.ref C_Pin) (.type "BaseException") = some true)
    (pd : PySem.W.hasDictIn K C_Pin = true)
    (pt : PySem.W.typeIn K (.ref C_Pin) = some (.type "type"))
    (en : PySem.W.specialIn K (.builtin "object.__class__") "__get__" = some (some (.builtin "getset_descriptor.__get__")))
    (et : PySem.W.takesIn K (.builtin "object.__class__") = some true)
    (eg_NoRing : PySem.W.findIn K (.ref C_NoRing) "__getattribute__" = some (some (.builtin "BaseException.__getattribute__")))
    (ek_NoRing : PySem.W.findIn K (.ref C_NoRing) "__getattr__" = some none)
    (ed_NoRing : PySem.W.hasDictIn K C_NoRing = true)
    (ea_NoRing : PySem.W.findIn K (.ref C_NoRing) "__class__" = some (some (.builtin "object.__class__")))
    (em_NoRing : PySem.W.mroIn K C_NoRing (.type "object") = some true)
    (ep_NoRing : PySem.W.subIn K (.ref C_NoRing) (.ref C_Pin) = some true)
    (ev_NoRing : PySem.W.subIn K (.ref C_NoRing) (.type "ValueError") = some true)
    (eo_NoRing : PySem.W.subIn K (.type "NoneType") (.ref C_NoRing) = some false)
    (es_NoRing_NoRing : PySem.W.subIn K (.ref C_NoRing) (.ref C_NoRing) = some true)
    (es_NoRing_NoArc : PySem.W.subIn K (.ref C_NoRing) (.ref C_NoArc) = some false)
    (es_NoRing_NoPlace : PySem.W.subIn K (.ref C_NoRing) (.ref C_NoPlace) = some false)
    (es_NoRing_TooMany : PySem.W.subIn K (.ref C_NoRing) (.ref C_TooMany) = some false)
    (es_NoRing_NoText : PySem.W.subIn K (.ref C_NoRing) (.ref C_NoText) = some false)
    (es_NoRing_NoName : PySem.W.subIn K (.ref C_NoRing) (.ref C_NoName) = some false)
    (es_NoRing_NoRow : PySem.W.subIn K (.ref C_NoRing) (.ref C_NoRow) = some false)
    (eg_NoArc : PySem.W.findIn K (.ref C_NoArc) "__getattribute__" = some (some (.builtin "BaseException.__getattribute__")))
    (ek_NoArc : PySem.W.findIn K (.ref C_NoArc) "__getattr__" = some none)
    (ed_NoArc : PySem.W.hasDictIn K C_NoArc = true)
    (ea_NoArc : PySem.W.findIn K (.ref C_NoArc) "__class__" = some (some (.builtin "object.__class__")))
    (em_NoArc : PySem.W.mroIn K C_NoArc (.type "object") = some true)
    (ep_NoArc : PySem.W.subIn K (.ref C_NoArc) (.ref C_Pin) = some true)
    (ev_NoArc : PySem.W.subIn K (.ref C_NoArc) (.type "ValueError") = some true)
    (eo_NoArc : PySem.W.subIn K (.type "NoneType") (.ref C_NoArc) = some false)
    (es_NoArc_NoRing : PySem.W.subIn K (.ref C_NoArc) (.ref C_NoRing) = some false)
    (es_NoArc_NoArc : PySem.W.subIn K (.ref C_NoArc) (.ref C_NoArc) = some true)
    (es_NoArc_NoPlace : PySem.W.subIn K (.ref C_NoArc) (.ref C_NoPlace) = some false)
    (es_NoArc_TooMany : PySem.W.subIn K (.ref C_NoArc) (.ref C_TooMany) = some false)
    (es_NoArc_NoText : PySem.W.subIn K (.ref C_NoArc) (.ref C_NoText) = some false)
    (es_NoArc_NoName : PySem.W.subIn K (.ref C_NoArc) (.ref C_NoName) = some false)
    (es_NoArc_NoRow : PySem.W.subIn K (.ref C_NoArc) (.ref C_NoRow) = some false)
    (eg_NoPlace : PySem.W.findIn K (.ref C_NoPlace) "__getattribute__" = some (some (.builtin "BaseException.__getattribute__")))
    (ek_NoPlace : PySem.W.findIn K (.ref C_NoPlace) "__getattr__" = some none)
    (ed_NoPlace : PySem.W.hasDictIn K C_NoPlace = true)
    (ea_NoPlace : PySem.W.findIn K (.ref C_NoPlace) "__class__" = some (some (.builtin "object.__class__")))
    (em_NoPlace : PySem.W.mroIn K C_NoPlace (.type "object") = some true)
    (ep_NoPlace : PySem.W.subIn K (.ref C_NoPlace) (.ref C_Pin) = some true)
    (ev_NoPlace : PySem.W.subIn K (.ref C_NoPlace) (.type "ValueError") = some true)
    (eo_NoPlace : PySem.W.subIn K (.type "NoneType") (.ref C_NoPlace) = some false)
    (es_NoPlace_NoRing : PySem.W.subIn K (.ref C_NoPlace) (.ref C_NoRing) = some false)
    (es_NoPlace_NoArc : PySem.W.subIn K (.ref C_NoPlace) (.ref C_NoArc) = some false)
    (es_NoPlace_NoPlace : PySem.W.subIn K (.ref C_NoPlace) (.ref C_NoPlace) = some true)
    (es_NoPlace_TooMany : PySem.W.subIn K (.ref C_NoPlace) (.ref C_TooMany) = some false)
    (es_NoPlace_NoText : PySem.W.subIn K (.ref C_NoPlace) (.ref C_NoText) = some false)
    (es_NoPlace_NoName : PySem.W.subIn K (.ref C_NoPlace) (.ref C_NoName) = some false)
    (es_NoPlace_NoRow : PySem.W.subIn K (.ref C_NoPlace) (.ref C_NoRow) = some false)
    (eg_TooMany : PySem.W.findIn K (.ref C_TooMany) "__getattribute__" = some (some (.builtin "BaseException.__getattribute__")))
    (ek_TooMany : PySem.W.findIn K (.ref C_TooMany) "__getattr__" = some none)
    (ed_TooMany : PySem.W.hasDictIn K C_TooMany = true)
    (ea_TooMany : PySem.W.findIn K (.ref C_TooMany) "__class__" = some (some (.builtin "object.__class__")))
    (em_TooMany : PySem.W.mroIn K C_TooMany (.type "object") = some true)
    (ep_TooMany : PySem.W.subIn K (.ref C_TooMany) (.ref C_Pin) = some true)
    (ev_TooMany : PySem.W.subIn K (.ref C_TooMany) (.type "ValueError") = some true)
    (eo_TooMany : PySem.W.subIn K (.type "NoneType") (.ref C_TooMany) = some false)
    (es_TooMany_NoRing : PySem.W.subIn K (.ref C_TooMany) (.ref C_NoRing) = some false)
    (es_TooMany_NoArc : PySem.W.subIn K (.ref C_TooMany) (.ref C_NoArc) = some false)
    (es_TooMany_NoPlace : PySem.W.subIn K (.ref C_TooMany) (.ref C_NoPlace) = some false)
    (es_TooMany_TooMany : PySem.W.subIn K (.ref C_TooMany) (.ref C_TooMany) = some true)
    (es_TooMany_NoText : PySem.W.subIn K (.ref C_TooMany) (.ref C_NoText) = some false)
    (es_TooMany_NoName : PySem.W.subIn K (.ref C_TooMany) (.ref C_NoName) = some false)
    (es_TooMany_NoRow : PySem.W.subIn K (.ref C_TooMany) (.ref C_NoRow) = some false)
    (eg_NoText : PySem.W.findIn K (.ref C_NoText) "__getattribute__" = some (some (.builtin "BaseException.__getattribute__")))
    (ek_NoText : PySem.W.findIn K (.ref C_NoText) "__getattr__" = some none)
    (ed_NoText : PySem.W.hasDictIn K C_NoText = true)
    (ea_NoText : PySem.W.findIn K (.ref C_NoText) "__class__" = some (some (.builtin "object.__class__")))
    (em_NoText : PySem.W.mroIn K C_NoText (.type "object") = some true)
    (ep_NoText : PySem.W.subIn K (.ref C_NoText) (.ref C_Pin) = some true)
    (ev_NoText : PySem.W.subIn K (.ref C_NoText) (.type "ValueError") = some true)
    (eo_NoText : PySem.W.subIn K (.type "NoneType") (.ref C_NoText) = some false)
    (es_NoText_NoRing : PySem.W.subIn K (.ref C_NoText) (.ref C_NoRing) = some false)
    (es_NoText_NoArc : PySem.W.subIn K (.ref C_NoText) (.ref C_NoArc) = some false)
    (es_NoText_NoPlace : PySem.W.subIn K (.ref C_NoText) (.ref C_NoPlace) = some false)
    (es_NoText_TooMany : PySem.W.subIn K (.ref C_NoText) (.ref C_TooMany) = some false)
    (es_NoText_NoText : PySem.W.subIn K (.ref C_NoText) (.ref C_NoText) = some true)
    (es_NoText_NoName : PySem.W.subIn K (.ref C_NoText) (.ref C_NoName) = some false)
    (es_NoText_NoRow : PySem.W.subIn K (.ref C_NoText) (.ref C_NoRow) = some false)
    (eg_NoName : PySem.W.findIn K (.ref C_NoName) "__getattribute__" = some (some (.builtin "BaseException.__getattribute__")))
    (ek_NoName : PySem.W.findIn K (.ref C_NoName) "__getattr__" = some none)
    (ed_NoName : PySem.W.hasDictIn K C_NoName = true)
    (ea_NoName : PySem.W.findIn K (.ref C_NoName) "__class__" = some (some (.builtin "object.__class__")))
    (em_NoName : PySem.W.mroIn K C_NoName (.type "object") = some true)
    (ep_NoName : PySem.W.subIn K (.ref C_NoName) (.ref C_Pin) = some true)
    (ev_NoName : PySem.W.subIn K (.ref C_NoName) (.type "ValueError") = some true)
    (eo_NoName : PySem.W.subIn K (.type "NoneType") (.ref C_NoName) = some false)
    (es_NoName_NoRing : PySem.W.subIn K (.ref C_NoName) (.ref C_NoRing) = some false)
    (es_NoName_NoArc : PySem.W.subIn K (.ref C_NoName) (.ref C_NoArc) = some false)
    (es_NoName_NoPlace : PySem.W.subIn K (.ref C_NoName) (.ref C_NoPlace) = some false)
    (es_NoName_TooMany : PySem.W.subIn K (.ref C_NoName) (.ref C_TooMany) = some false)
    (es_NoName_NoText : PySem.W.subIn K (.ref C_NoName) (.ref C_NoText) = some false)
    (es_NoName_NoName : PySem.W.subIn K (.ref C_NoName) (.ref C_NoName) = some true)
    (es_NoName_NoRow : PySem.W.subIn K (.ref C_NoName) (.ref C_NoRow) = some false)
    (eg_NoRow : PySem.W.findIn K (.ref C_NoRow) "__getattribute__" = some (some (.builtin "BaseException.__getattribute__")))
    (ek_NoRow : PySem.W.findIn K (.ref C_NoRow) "__getattr__" = some none)
    (ed_NoRow : PySem.W.hasDictIn K C_NoRow = true)
    (ea_NoRow : PySem.W.findIn K (.ref C_NoRow) "__class__" = some (some (.builtin "object.__class__")))
    (em_NoRow : PySem.W.mroIn K C_NoRow (.type "object") = some true)
    (ep_NoRow : PySem.W.subIn K (.ref C_NoRow) (.ref C_Pin) = some true)
    (ev_NoRow : PySem.W.subIn K (.ref C_NoRow) (.type "ValueError") = some true)
    (eo_NoRow : PySem.W.subIn K (.type "NoneType") (.ref C_NoRow) = some false)
    (es_NoRow_NoRing : PySem.W.subIn K (.ref C_NoRow) (.ref C_NoRing) = some false)
    (es_NoRow_NoArc : PySem.W.subIn K (.ref C_NoRow) (.ref C_NoArc) = some false)
    (es_NoRow_NoPlace : PySem.W.subIn K (.ref C_NoRow) (.ref C_NoPlace) = some false)
    (es_NoRow_TooMany : PySem.W.subIn K (.ref C_NoRow) (.ref C_TooMany) = some false)
    (es_NoRow_NoText : PySem.W.subIn K (.ref C_NoRow) (.ref C_NoText) = some false)
    (es_NoRow_NoName : PySem.W.subIn K (.ref C_NoRow) (.ref C_NoName) = some false)
    (es_NoRow_NoRow : PySem.W.subIn K (.ref C_NoRow) (.ref C_NoRow) = some true)
    (a__law_mixed : PySem.W.nsIn K mainGlobals "_law_mixed" = some (some (.ref f__law_mixed)))
    (l__law_mixed : K.lookup f__law_mixed = some ⟨oc__law_mixed, od__law_mixed, .func (PySem.W.fnOf "_law_mixed" "_law_mixed" (defArgs s_law_mixed) (defBody s_law_mixed) (defScope s_law_mixed) .none kV__law_mixed dc__law_mixed pm__law_mixed an__law_mixed cd__law_mixed ct__law_mixed), sl__law_mixed⟩)
    (c__law_mixed : PySem.W.codeIn K cd__law_mixed "_law_mixed" = true)
    (k__law_mixed : PySem.W.keepIn K (.ref f__law_mixed) = true)
    (a__law_ring : PySem.W.nsIn K mainGlobals "_law_ring" = some (some (.ref f__law_ring)))
    (l__law_ring : K.lookup f__law_ring = some ⟨oc__law_ring, od__law_ring, .func (PySem.W.fnOf "_law_ring" "_law_ring" (defArgs s_law_ring) (defBody s_law_ring) (defScope s_law_ring) .none kV__law_ring dc__law_ring pm__law_ring an__law_ring cd__law_ring ct__law_ring), sl__law_ring⟩)
    (c__law_ring : PySem.W.codeIn K cd__law_ring "_law_ring" = true)
    (k__law_ring : PySem.W.keepIn K (.ref f__law_ring) = true)
    (a__law_odd : PySem.W.nsIn K mainGlobals "_law_odd" = some (some (.ref f__law_odd)))
    (l__law_odd : K.lookup f__law_odd = some ⟨oc__law_odd, od__law_odd, .func (PySem.W.fnOf "_law_odd" "_law_odd" (defArgs s_law_odd) (defBody s_law_odd) (defScope s_law_odd) .none kV__law_odd dc__law_odd pm__law_odd an__law_odd cd__law_odd ct__law_odd), sl__law_odd⟩)
    (c__law_odd : PySem.W.codeIn K cd__law_odd "_law_odd" = true)
    (k__law_odd : PySem.W.keepIn K (.ref f__law_odd) = true)
    (a__law_given : PySem.W.nsIn K mainGlobals "_law_given" = some (some (.ref f__law_given)))
    (l__law_given : K.lookup f__law_given = some ⟨oc__law_given, od__law_given, .func (PySem.W.fnOf "_law_given" "_law_given" (defArgs s_law_given) (defBody s_law_given) (defScope s_law_given) .none kV__law_given dc__law_given pm__law_given an__law_given cd__law_given ct__law_given), sl__law_given⟩)
    (c__law_given : PySem.W.codeIn K cd__law_given "_law_given" = true)
    (k__law_given : PySem.W.keepIn K (.ref f__law_given) = true)
    (a_read_figures : PySem.W.nsIn K mainGlobals "read_figures" = some (some (.ref f_read_figures)))
    (l_read_figures : K.lookup f_read_figures = some ⟨oc_read_figures, od_read_figures, .func (PySem.W.fnOf "read_figures" "read_figures" (defArgs sread_figures) (defBody sread_figures) (defScope sread_figures) .none kV_read_figures dc_read_figures pm_read_figures an_read_figures cd_read_figures ct_read_figures), sl_read_figures⟩)
    (c_read_figures : PySem.W.codeIn K cd_read_figures "read_figures" = true)
    (k_read_figures : PySem.W.keepIn K (.ref f_read_figures) = true)
    (a_is_number : PySem.W.nsIn K mainGlobals "is_number" = some (some (.ref f_is_number)))
    (l_is_number : K.lookup f_is_number = some ⟨oc_is_number, od_is_number, .func (PySem.W.fnOf "is_number" "is_number" (defArgs sis_number) (defBody sis_number) (defScope sis_number) .none kV_is_number dc_is_number pm_is_number an_is_number cd_is_number ct_is_number), sl_is_number⟩)
    (c_is_number : PySem.W.codeIn K cd_is_number "is_number" = true)
    (k_is_number : PySem.W.keepIn K (.ref f_is_number) = true)
    (a_is_arc : PySem.W.nsIn K mainGlobals "is_arc" = some (some (.ref f_is_arc)))
    (l_is_arc : K.lookup f_is_arc = some ⟨oc_is_arc, od_is_arc, .func (PySem.W.fnOf "is_arc" "is_arc" (defArgs sis_arc) (defBody sis_arc) (defScope sis_arc) .none kV_is_arc dc_is_arc pm_is_arc an_is_arc cd_is_arc ct_is_arc), sl_is_arc⟩)
    (c_is_arc : PySem.W.codeIn K cd_is_arc "is_arc" = true)
    (k_is_arc : PySem.W.keepIn K (.ref f_is_arc) = true)
    (a_is_ring : PySem.W.nsIn K mainGlobals "is_ring" = some (some (.ref f_is_ring)))
    (l_is_ring : K.lookup f_is_ring = some ⟨oc_is_ring, od_is_ring, .func (PySem.W.fnOf "is_ring" "is_ring" (defArgs sis_ring) (defBody sis_ring) (defScope sis_ring) .none kV_is_ring dc_is_ring pm_is_ring an_is_ring cd_is_ring ct_is_ring), sl_is_ring⟩)
    (c_is_ring : PySem.W.codeIn K cd_is_ring "is_ring" = true)
    (k_is_ring : PySem.W.keepIn K (.ref f_is_ring) = true)
    (a_arc_text : PySem.W.nsIn K mainGlobals "arc_text" = some (some (.ref f_arc_text)))
    (l_arc_text : K.lookup f_arc_text = some ⟨oc_arc_text, od_arc_text, .func (PySem.W.fnOf "arc_text" "arc_text" (defArgs sarc_text) (defBody sarc_text) (defScope sarc_text) .none kV_arc_text dc_arc_text pm_arc_text an_arc_text cd_arc_text ct_arc_text), sl_arc_text⟩)
    (c_arc_text : PySem.W.codeIn K cd_arc_text "arc_text" = true)
    (k_arc_text : PySem.W.keepIn K (.ref f_arc_text) = true)
    (a_show_ring : PySem.W.nsIn K mainGlobals "show_ring" = some (some (.ref f_show_ring)))
    (l_show_ring : K.lookup f_show_ring = some ⟨oc_show_ring, od_show_ring, .func (PySem.W.fnOf "show_ring" "show_ring" (defArgs sshow_ring) (defBody sshow_ring) (defScope sshow_ring) .none kV_show_ring dc_show_ring pm_show_ring an_show_ring cd_show_ring ct_show_ring), sl_show_ring⟩)
    (c_show_ring : PySem.W.codeIn K cd_show_ring "show_ring" = true)
    (k_show_ring : PySem.W.keepIn K (.ref f_show_ring) = true)
    (a_read_ring : PySem.W.nsIn K mainGlobals "read_ring" = some (some (.ref f_read_ring)))
    (l_read_ring : K.lookup f_read_ring = some ⟨oc_read_ring, od_read_ring, .func (PySem.W.fnOf "read_ring" "read_ring" (defArgs sread_ring) (defBody sread_ring) (defScope sread_ring) .none kV_read_ring dc_read_ring pm_read_ring an_read_ring cd_read_ring ct_read_ring), sl_read_ring⟩)
    (c_read_ring : PySem.W.codeIn K cd_read_ring "read_ring" = true)
    (k_read_ring : PySem.W.keepIn K (.ref f_read_ring) = true)
    (a__law_asked : PySem.W.nsIn K mainGlobals "_law_asked" = some (some (.ref f__law_asked)))
    (l__law_asked : K.lookup f__law_asked = some ⟨oc__law_asked, od__law_asked, .func (PySem.W.fnOf "_law_asked" "_law_asked" (defArgs s_law_asked) (defBody s_law_asked) (defScope s_law_asked) .none kV__law_asked dc__law_asked pm__law_asked an__law_asked cd__law_asked ct__law_asked), sl__law_asked⟩)
    (c__law_asked : PySem.W.codeIn K cd__law_asked "_law_asked" = true)
    (k__law_asked : PySem.W.keepIn K (.ref f__law_asked) = true)
    (a__law_number : PySem.W.nsIn K mainGlobals "_law_number" = some (some (.ref f__law_number)))
    (l__law_number : K.lookup f__law_number = some ⟨oc__law_number, od__law_number, .func (PySem.W.fnOf "_law_number" "_law_number" (defArgs s_law_number) (defBody s_law_number) (defScope s_law_number) .none kV__law_number dc__law_number pm__law_number an__law_number cd__law_number ct__law_number), sl__law_number⟩)
    (c__law_number : PySem.W.codeIn K cd__law_number "_law_number" = true)
    (k__law_number : PySem.W.keepIn K (.ref f__law_number) = true)
    (a__law_writes : PySem.W.nsIn K mainGlobals "_law_writes" = some (some (.ref f__law_writes)))
    (l__law_writes : K.lookup f__law_writes = some ⟨oc__law_writes, od__law_writes, .func (PySem.W.fnOf "_law_writes" "_law_writes" (defArgs s_law_writes) (defBody s_law_writes) (defScope s_law_writes) .none kV__law_writes dc__law_writes pm__law_writes an__law_writes cd__law_writes ct__law_writes), sl__law_writes⟩)
    (c__law_writes : PySem.W.codeIn K cd__law_writes "_law_writes" = true)
    (k__law_writes : PySem.W.keepIn K (.ref f__law_writes) = true)
    (a__law_cell : PySem.W.nsIn K mainGlobals "_law_cell" = some (some (.ref f__law_cell)))
    (l__law_cell : K.lookup f__law_cell = some ⟨oc__law_cell, od__law_cell, .func (PySem.W.fnOf "_law_cell" "_law_cell" (defArgs s_law_cell) (defBody s_law_cell) (defScope s_law_cell) .none kV__law_cell dc__law_cell pm__law_cell an__law_cell cd__law_cell ct__law_cell), sl__law_cell⟩)
    (c__law_cell : PySem.W.codeIn K cd__law_cell "_law_cell" = true)
    (k__law_cell : PySem.W.keepIn K (.ref f__law_cell) = true)
    (a__law_bad : PySem.W.nsIn K mainGlobals "_law_bad" = some (some (.ref f__law_bad)))
    (l__law_bad : K.lookup f__law_bad = some ⟨oc__law_bad, od__law_bad, .func (PySem.W.fnOf "_law_bad" "_law_bad" (defArgs s_law_bad) (defBody s_law_bad) (defScope s_law_bad) .none kV__law_bad dc__law_bad pm__law_bad an__law_bad cd__law_bad ct__law_bad), sl__law_bad⟩)
    (c__law_bad : PySem.W.codeIn K cd__law_bad "_law_bad" = true)
    (k__law_bad : PySem.W.keepIn K (.ref f__law_bad) = true)
    (a_law : PySem.W.nsIn K mainGlobals "law" = some (some (.ref f_law)))
    (l_law : K.lookup f_law = some ⟨oc_law, od_law, .func (PySem.W.fnOf "law" "law" (defArgs slaw) (defBody slaw) (defScope slaw) .none kV_law dc_law pm_law an_law cd_law ct_law), sl_law⟩)
    (c_law : PySem.W.codeIn K cd_law "law" = true)
    (k_law : PySem.W.keepIn K (.ref f_law) = true)
    (noL : noLst K = true) :
    ∃ (cl : Nat → Addr) (fd : FuncData), noLst K = true ∧ (∀ (s : Shared) (v : Value), BindsTo s fd ⟨[v], []⟩ [("script", v)]) ∧ ∀ base : Heap, K.In base → base.Ns mainGlobals mg → SmB base → FnG P w K mg base 7 fa fd ["script"] (spE (rmD cl) cl Elaw) := by
  have d__law_mixed : DefAt K mg "_law_mixed" s_law_mixed ["cell", "k"] := defAt_mk X G a__law_mixed l__law_mixed c__law_mixed k__law_mixed fun _ _ _ _ _ _ us hl => match us, hl with | [_, _], _ => rfl
  have d__law_ring : DefAt K mg "_law_ring" s_law_ring ["cell", "most", "many"] := defAt_mk X G a__law_ring l__law_ring c__law_ring k__law_ring fun _ _ _ _ _ _ us hl => match us, hl with | [_, _, _], _ => rfl
  have d__law_odd : DefAt K mg "_law_odd" s_law_odd ["cell"] := defAt_mk X G a__law_odd l__law_odd c__law_odd k__law_odd fun _ _ _ _ _ _ us hl => match us, hl with | [_], _ => rfl
  have d__law_given : DefAt K mg "_law_given" s_law_given ["cell"] := defAt_mk X G a__law_given l__law_given c__law_given k__law_given fun _ _ _ _ _ _ us hl => match us, hl with | [_], _ => rfl
  have d_read_figures : DefAt K mg "read_figures" sread_figures ["word"] := defAt_mk X G a_read_figures l_read_figures c_read_figures k_read_figures fun _ _ _ _ _ _ us hl => match us, hl with | [_], _ => rfl
  have d_is_number : DefAt K mg "is_number" sis_number ["thing", "beyond"] := defAt_mk X G a_is_number l_is_number c_is_number k_is_number fun _ _ _ _ _ _ us hl => match us, hl with | [_, _], _ => rfl
  have d_is_arc : DefAt K mg "is_arc" sis_arc ["thing", "n"] := defAt_mk X G a_is_arc l_is_arc c_is_arc k_is_arc fun _ _ _ _ _ _ us hl => match us, hl with | [_, _], _ => rfl
  have d_is_ring : DefAt K mg "is_ring" sis_ring ["thing"] := defAt_mk X G a_is_ring l_is_ring c_is_ring k_is_ring fun _ _ _ _ _ _ us hl => match us, hl with | [_], _ => rfl
  have d_arc_text : DefAt K mg "arc_text" sarc_text ["arc"] := defAt_mk X G a_arc_text l_arc_text c_arc_text k_arc_text fun _ _ _ _ _ _ us hl => match us, hl with | [_], _ => rfl
  have d_show_ring : DefAt K mg "show_ring" sshow_ring ["ring"] := defAt_mk X G a_show_ring l_show_ring c_show_ring k_show_ring fun _ _ _ _ _ _ us hl => match us, hl with | [_], _ => rfl
  have d_read_ring : DefAt K mg "read_ring" sread_ring ["text"] := defAt_mk X G a_read_ring l_read_ring c_read_ring k_read_ring fun _ _ _ _ _ _ us hl => match us, hl with | [_], _ => rfl
  have d__law_asked : DefAt K mg "_law_asked" s_law_asked ["ask", "thing"] := defAt_mk X G a__law_asked l__law_asked c__law_asked k__law_asked fun _ _ _ _ _ _ us hl => match us, hl with | [_, _], _ => rfl
  have d__law_number : DefAt K mg "_law_number" s_law_number ["word"] := defAt_mk X G a__law_number l__law_number c__law_number k__law_number fun _ _ _ _ _ _ us hl => match us, hl with | [_], _ => rfl
  have d__law_writes : DefAt K mg "_law_writes" s_law_writes ["text"] := defAt_mk X G a__law_writes l__law_writes c__law_writes k__law_writes fun _ _ _ _ _ _ us hl => match us, hl with | [_], _ => rfl
  have d__law_cell : DefAt K mg "_law_cell" s_law_cell ["script", "k"] := defAt_mk X G a__law_cell l__law_cell c__law_cell k__law_cell fun _ _ _ _ _ _ us hl => match us, hl with | [_, _], _ => rfl
  have d__law_bad : DefAt K mg "_law_bad" s_law_bad ["ring", "cell"] := defAt_mk X G a__law_bad l__law_bad c__law_bad k__law_bad fun _ _ _ _ _ _ us hl => match us, hl with | [_, _], _ => rfl
  have d_law : DefAt K mg "law" slaw ["script"] := defAt_mk X G a_law l_law c_law k_law fun _ _ _ _ _ _ us hl => match us, hl with | [_], _ => rfl
  have XT : XTop K mg (fun n => match n with | 0 => C_NoRing | 1 => C_NoArc | 2 => C_NoPlace | 3 => C_TooMany | 4 => C_NoText | 5 => C_NoName | 6 => C_NoRow | _ => 0) := {
    pin := ⟨C_Pin, PySem.W.mg_of X G pa, fun n hn => match n, hn with | 0, _ => PySem.W.exm_ref ps pd pt ep_NoRing | 1, _ => PySem.W.exm_ref ps pd pt ep_NoArc | 2, _ => PySem.W.exm_ref ps pd pt ep_NoPlace | 3, _ => PySem.W.exm_ref ps pd pt ep_TooMany | 4, _ => PySem.W.exm_ref ps pd pt ep_NoText | 5, _ => PySem.W.exm_ref ps pd pt ep_NoName | 6, _ => PySem.W.exm_ref ps pd pt ep_NoRow | n + 7, hn => absurd hn (by omega)⟩
    nm := fun n hn => match n, hn with | 0, _ => PySem.W.mg_of X G xa_NoRing | 1, _ => PySem.W.mg_of X G xa_NoArc | 2, _ => PySem.W.mg_of X G xa_NoPlace | 3, _ => PySem.W.mg_of X G xa_TooMany | 4, _ => PySem.W.mg_of X G xa_NoText | 5, _ => PySem.W.mg_of X G xa_NoName | 6, _ => PySem.W.mg_of X G xa_NoRow | n + 7, hn => absurd hn (by omega)
    ec := fun n hn => match n, hn with | 0, _ => ⟨eg_NoRing, ek_NoRing, xb_NoRing, ed_NoRing, ea_NoRing, en, et, em_NoRing⟩ | 1, _ => ⟨eg_NoArc, ek_NoArc, xb_NoArc, ed_NoArc, ea_NoArc, en, et, em_NoArc⟩ | 2, _ => ⟨eg_NoPlace, ek_NoPlace, xb_NoPlace, ed_NoPlace, ea_NoPlace, en, et, em_NoPlace⟩ | 3, _ => ⟨eg_TooMany, ek_TooMany, xb_TooMany, ed_TooMany, ea_TooMany, en, et, em_TooMany⟩ | 4, _ => ⟨eg_NoText, ek_NoText, xb_NoText, ed_NoText, ea_NoText, en, et, em_NoText⟩ | 5, _ => ⟨eg_NoName, ek_NoName, xb_NoName, ed_NoName, ea_NoName, en, et, em_NoName⟩ | 6, _ => ⟨eg_NoRow, ek_NoRow, xb_NoRow, ed_NoRow, ea_NoRow, en, et, em_NoRow⟩ | n + 7, hn => absurd hn (by omega)
    kk := fun n m hn hm => match n, m, hn, hm with | 0, 0, _, _ => kit_same | 0, 1, _, _ => kit_two ed_NoArc xt_NoArc es_NoRing_NoArc es_NoRing_NoRing | 0, 2, _, _ => kit_two ed_NoPlace xt_NoPlace es_NoRing_NoPlace es_NoRing_NoRing | 0, 3, _, _ => kit_two ed_TooMany xt_TooMany es_NoRing_TooMany es_NoRing_NoRing | 0, 4, _, _ => kit_two ed_NoText xt_NoText es_NoRing_NoText es_NoRing_NoRing | 0, 5, _, _ => kit_two ed_NoName xt_NoName es_NoRing_NoName es_NoRing_NoRing | 0, 6, _, _ => kit_two ed_NoRow xt_NoRow es_NoRing_NoRow es_NoRing_NoRing | 1, 0, _, _ => kit_two ed_NoRing xt_NoRing es_NoArc_NoRing es_NoArc_NoArc | 1, 1, _, _ => kit_same | 1, 2, _, _ => kit_two ed_NoPlace xt_NoPlace es_NoArc_NoPlace es_NoArc_NoArc | 1, 3, _, _ => kit_two ed_TooMany xt_TooMany es_NoArc_TooMany es_NoArc_NoArc | 1, 4, _, _ => kit_two ed_NoText xt_NoText es_NoArc_NoText es_NoArc_NoArc | 1, 5, _, _ => kit_two ed_NoName xt_NoName es_NoArc_NoName es_NoArc_NoArc | 1, 6, _, _ => kit_two ed_NoRow xt_NoRow es_NoArc_NoRow es_NoArc_NoArc | 2, 0, _, _ => kit_two ed_NoRing xt_NoRing es_NoPlace_NoRing es_NoPlace_NoPlace | 2, 1, _, _ => kit_two ed_NoArc xt_NoArc es_NoPlace_NoArc es_NoPlace_NoPlace | 2, 2, _, _ => kit_same | 2, 3, _, _ => kit_two ed_TooMany xt_TooMany es_NoPlace_TooMany es_NoPlace_NoPlace | 2, 4, _, _ => kit_two ed_NoText xt_NoText es_NoPlace_NoText es_NoPlace_NoPlace | 2, 5, _, _ => kit_two ed_NoName xt_NoName es_NoPlace_NoName es_NoPlace_NoPlace | 2, 6, _, _ => kit_two ed_NoRow xt_NoRow es_NoPlace_NoRow es_NoPlace_NoPlace | 3, 0, _, _ => kit_two ed_NoRing xt_NoRing es_TooMany_NoRing es_TooMany_TooMany | 3, 1, _, _ => kit_two ed_NoArc xt_NoArc es_TooMany_NoArc es_TooMany_TooMany | 3, 2, _, _ => kit_two ed_NoPlace xt_NoPlace es_TooMany_NoPlace es_TooMany_TooMany | 3, 3, _, _ => kit_same | 3, 4, _, _ => kit_two ed_NoText xt_NoText es_TooMany_NoText es_TooMany_TooMany | 3, 5, _, _ => kit_two ed_NoName xt_NoName es_TooMany_NoName es_TooMany_TooMany | 3, 6, _, _ => kit_two ed_NoRow xt_NoRow es_TooMany_NoRow es_TooMany_TooMany | 4, 0, _, _ => kit_two ed_NoRing xt_NoRing es_NoText_NoRing es_NoText_NoText | 4, 1, _, _ => kit_two ed_NoArc xt_NoArc es_NoText_NoArc es_NoText_NoText | 4, 2, _, _ => kit_two ed_NoPlace xt_NoPlace es_NoText_NoPlace es_NoText_NoText | 4, 3, _, _ => kit_two ed_TooMany xt_TooMany es_NoText_TooMany es_NoText_NoText | 4, 4, _, _ => kit_same | 4, 5, _, _ => kit_two ed_NoName xt_NoName es_NoText_NoName es_NoText_NoText | 4, 6, _, _ => kit_two ed_NoRow xt_NoRow es_NoText_NoRow es_NoText_NoText | 5, 0, _, _ => kit_two ed_NoRing xt_NoRing es_NoName_NoRing es_NoName_NoName | 5, 1, _, _ => kit_two ed_NoArc xt_NoArc es_NoName_NoArc es_NoName_NoName | 5, 2, _, _ => kit_two ed_NoPlace xt_NoPlace es_NoName_NoPlace es_NoName_NoName | 5, 3, _, _ => kit_two ed_TooMany xt_TooMany es_NoName_TooMany es_NoName_NoName | 5, 4, _, _ => kit_two ed_NoText xt_NoText es_NoName_NoText es_NoName_NoName | 5, 5, _, _ => kit_same | 5, 6, _, _ => kit_two ed_NoRow xt_NoRow es_NoName_NoRow es_NoName_NoName | 6, 0, _, _ => kit_two ed_NoRing xt_NoRing es_NoRow_NoRing es_NoRow_NoRow | 6, 1, _, _ => kit_two ed_NoArc xt_NoArc es_NoRow_NoArc es_NoRow_NoRow | 6, 2, _, _ => kit_two ed_NoPlace xt_NoPlace es_NoRow_NoPlace es_NoRow_NoRow | 6, 3, _, _ => kit_two ed_TooMany xt_TooMany es_NoRow_TooMany es_NoRow_NoRow | 6, 4, _, _ => kit_two ed_NoText xt_NoText es_NoRow_NoText es_NoRow_NoRow | 6, 5, _, _ => kit_two ed_NoName xt_NoName es_NoRow_NoName es_NoRow_NoRow | 6, 6, _, _ => kit_same | n + 7, _, hn, _ => absurd hn (by omega) | _, m + 7, _, hm => absurd hm (by omega)
    kv := fun n hn => match n, hn with | 0, _ => kit_val ev_NoRing | 1, _ => kit_val ev_NoArc | 2, _ => kit_val ev_NoPlace | 3, _ => kit_val ev_TooMany | 4, _ => kit_val ev_NoText | 5, _ => kit_val ev_NoName | 6, _ => kit_val ev_NoRow | n + 7, hn => absurd hn (by omega)
    kn := fun n hn => match n, hn with | 0, _ => kit_own ed_NoRing xt_NoRing eo_NoRing (fun e => nomatch e) | 1, _ => kit_own ed_NoArc xt_NoArc eo_NoArc (fun e => nomatch e) | 2, _ => kit_own ed_NoPlace xt_NoPlace eo_NoPlace (fun e => nomatch e) | 3, _ => kit_own ed_TooMany xt_TooMany eo_TooMany (fun e => nomatch e) | 4, _ => kit_own ed_NoText xt_NoText eo_NoText (fun e => nomatch e) | 5, _ => kit_own ed_NoName xt_NoName eo_NoName (fun e => nomatch e) | 6, _ => kit_own ed_NoRow xt_NoRow eo_NoRow (fun e => nomatch e) | n + 7, hn => absurd hn (by omega)
    ve := PySem.W.mg_none_of X G z_ValueError }
  obtain ⟨f, fd, F, hm, hb, bt⟩ := d_law.ex
  have e := hfa.symm.trans hm
  cases e
  refine ⟨(fun n => match n with | 0 => C_NoRing | 1 => C_NoArc | 2 => C_NoPlace | 3 => C_TooMany | 4 => C_NoText | 5 => C_NoName | 6 => C_NoRow | _ => 0), fd, noL, fun s v => bt s [v] rfl, fun base _ _ hsm => ?_⟩
  have T : Top K mg base bnL cnL GXL (fun n => match n with | 0 => C_NoRing | 1 => C_NoArc | 2 => C_NoPlace | 3 => C_TooMany | 4 => C_NoText | 5 => C_NoName | 6 => C_NoRow | _ => 0) csL := {
    sm := hsm
    bn := all_cons (PySem.W.mg_none_of X G z_len) (all_cons (PySem.W.mg_none_of X G z_min) (all_cons (PySem.W.mg_none_of X G z_max) (all_cons (PySem.W.mg_none_of X G z_sum) (all_cons (PySem.W.mg_none_of X G z_sorted) (all_cons (PySem.W.mg_none_of X G z_list) (all_cons (PySem.W.mg_none_of X G z_tuple) (all_cons (PySem.W.mg_none_of X G z_abs) (all_cons (PySem.W.mg_none_of X G z_int) (all_cons (PySem.W.mg_none_of X G z_str) (all_cons (PySem.W.mg_none_of X G z_isinstance) (all_cons (PySem.W.mg_none_of X G z_bool) (all_cons (PySem.W.mg_none_of X G z_range) (all_cons (PySem.W.mg_none_of X G z_enumerate) (all_cons (PySem.W.mg_none_of X G z_zip) (all_cons (PySem.W.mg_none_of X G z_set) (all_cons (PySem.W.mg_none_of X G z_repr) (all_cons (PySem.W.mg_none_of X G z_dict) (all_nil))))))))))))))))))
    cn := cn_cons (PySem.W.mg_of X G n_MOST_PLACES) (cn_cons (PySem.W.mg_of X G n_MOST_ARCS) (cn_nil))
    gx := ex_cons (exF_mk X G xa_NoRing xe_NoRing xk_NoRing xb_NoRing xt_NoRing) (ex_cons (exF_mk X G xa_NoArc xe_NoArc xk_NoArc xb_NoArc xt_NoArc) (ex_cons (exF_mk X G xa_NoPlace xe_NoPlace xk_NoPlace xb_NoPlace xt_NoPlace) (ex_cons (exF_mk X G xa_TooMany xe_TooMany xk_TooMany xb_TooMany xt_TooMany) (ex_cons (exF_mk X G xa_NoText xe_NoText xk_NoText xb_NoText xt_NoText) (ex_cons (exF_mk X G xa_NoName xe_NoName xk_NoName xb_NoName xt_NoName) (ex_cons (exF_mk X G xa_NoRow xe_NoRow xk_NoRow xb_NoRow xt_NoRow) (ex_nil)))))))
    cs := cs_cons ⟨_, PySem.W.mg_of X G n_FIGURES⟩ (cs_nil) }
  have h_law_mixed := g_law_mixed (P := P) (w := w) (base := base) T d__law_mixed 
  have h_law_ring := g_law_ring (P := P) (w := w) (base := base) T d__law_ring h_law_mixed
  have h_law_odd := g_law_odd (P := P) (w := w) (base := base) T d__law_odd 
  have h_law_given := g_law_given (P := P) (w := w) (base := base) T d__law_given h_law_ring h_law_odd h_law_mixed
  have hread_figures := gread_figures (P := P) (w := w) (base := base) T d_read_figures 
  have his_number := gis_number (P := P) (w := w) (base := base) T d_is_number 
  have his_arc := gis_arc (P := P) (w := w) (base := base) T d_is_arc his_number
  have his_ring := gis_ring (P := P) (w := w) (base := base) T d_is_ring his_number his_arc
  have harc_text := garc_text (P := P) (w := w) (base := base) T d_arc_text 
  have hshow_ring := gshow_ring (P := P) (w := w) (base := base) T d_show_ring his_ring harc_text
  have hread_ring := gread_ring (P := P) (w := w) (base := base) T d_read_ring hread_figures his_ring hshow_ring
  have h_law_asked := g_law_asked (P := P) (w := w) (base := base) T d__law_asked XT hread_ring hshow_ring
  have h_law_number := g_law_number (P := P) (w := w) (base := base) T d__law_number 
  have h_law_writes := g_law_writes (P := P) (w := w) (base := base) T d__law_writes h_law_number
  have h_law_cell := g_law_cell (P := P) (w := w) (base := base) T d__law_cell 
  have h_law_bad := g_law_bad (P := P) (w := w) (base := base) T d__law_bad 
  exact glaw T F XT h_law_given h_law_asked h_law_writes h_law_ring h_law_cell h_law_mixed h_law_bad
end
end Ac
open PySem PySem.W PyProof.Rows
set_option maxRecDepth 100000 in
set_option maxHeartbeats 0 in
theorem PySem.Challenge.cw_arcpins_k37_texts_that_write_no_ring_holds : PySem.Challenge.rw_arcpins_k37_texts_that_write_no_ring.Holds := by
  w_on; o_law; k_head; (case hw => w_witness2)
  k_fill
  refine Ac.walk_ofC (l := PySem.Challenge.rw_arcpins_k37_texts_that_write_no_ring) (n := 63) (k := 7) (x := "script") rfl (by decide) rfl ⟨rfl, by decide, by decide⟩ (by first | rfl | decide +kernel) (fun w h Y => PySem.W.kIn_of Y) ?F
  case F =>
    intro w mg fa h KX G hmg
    refine' Ac.all_mk KX G hmg ?z_len ?z_min ?z_max ?z_sum ?z_sorted ?z_list ?z_tuple ?z_abs ?z_int ?z_str ?z_isinstance ?z_bool ?z_range ?z_enumerate ?z_zip ?z_set ?z_repr ?z_dict ?n_MOST_PLACES ?n_MOST_ARCS ?n_FIGURES ?xa_NoRing ?xe_NoRing ?xk_NoRing ?xb_NoRing ?xt_NoRing ?xa_NoArc ?xe_NoArc ?xk_NoArc ?xb_NoArc ?xt_NoArc ?xa_NoPlace ?xe_NoPlace ?xk_NoPlace ?xb_NoPlace ?xt_NoPlace ?xa_TooMany ?xe_TooMany ?xk_TooMany ?xb_TooMany ?xt_TooMany ?xa_NoText ?xe_NoText ?xk_NoText ?xb_NoText ?xt_NoText ?xa_NoName ?xe_NoName ?xk_NoName ?xb_NoName ?xt_NoName ?xa_NoRow ?xe_NoRow ?xk_NoRow ?xb_NoRow ?xt_NoRow ?z_ValueError ?pa ?ps ?pd ?pt ?en ?et ?eg_NoRing ?ek_NoRing ?ed_NoRing ?ea_NoRing ?em_NoRing ?ep_NoRing ?ev_NoRing ?eo_NoRing ?es_NoRing_NoRing ?es_NoRing_NoArc ?es_NoRing_NoPlace ?es_NoRing_TooMany ?es_NoRing_NoText ?es_NoRing_NoName ?es_NoRing_NoRow ?eg_NoArc ?ek_NoArc ?ed_NoArc ?ea_NoArc ?em_NoArc ?ep_NoArc ?ev_NoArc ?eo_NoArc ?es_NoArc_NoRing ?es_NoArc_NoArc ?es_NoArc_NoPlace ?es_NoArc_TooMany ?es_NoArc_NoText ?es_NoArc_NoName ?es_NoArc_NoRow ?eg_NoPlace ?ek_NoPlace ?ed_NoPlace ?ea_NoPlace ?em_NoPlace ?ep_NoPlace ?ev_NoPlace ?eo_NoPlace ?es_NoPlace_NoRing ?es_NoPlace_NoArc ?es_NoPlace_NoPlace ?es_NoPlace_TooMany ?es_NoPlace_NoText ?es_NoPlace_NoName ?es_NoPlace_NoRow ?eg_TooMany ?ek_TooMany ?ed_TooMany ?ea_TooMany ?em_TooMany ?ep_TooMany ?ev_TooMany ?eo_TooMany ?es_TooMany_NoRing ?es_TooMany_NoArc ?es_TooMany_NoPlace ?es_TooMany_TooMany ?es_TooMany_NoText ?es_TooMany_NoName ?es_TooMany_NoRow ?eg_NoText ?ek_NoText ?ed_NoText ?ea_NoText ?em_NoText ?ep_NoText ?ev_NoText ?eo_NoText ?es_NoText_NoRing ?es_NoText_NoArc ?es_NoText_NoPlace ?es_NoText_TooMany ?es_NoText_NoText ?es_NoText_NoName ?es_NoText_NoRow ?eg_NoName ?ek_NoName ?ed_NoName ?ea_NoName ?em_NoName ?ep_NoName ?ev_NoName ?eo_NoName ?es_NoName_NoRing ?es_NoName_NoArc ?es_NoName_NoPlace ?es_NoName_TooMany ?es_NoName_NoText ?es_NoName_NoName ?es_NoName_NoRow ?eg_NoRow ?ek_NoRow ?ed_NoRow ?ea_NoRow ?em_NoRow ?ep_NoRow ?ev_NoRow ?eo_NoRow ?es_NoRow_NoRing ?es_NoRow_NoArc ?es_NoRow_NoPlace ?es_NoRow_TooMany ?es_NoRow_NoText ?es_NoRow_NoName ?es_NoRow_NoRow ?a__law_mixed ?l__law_mixed ?c__law_mixed ?k__law_mixed ?a__law_ring ?l__law_ring ?c__law_ring ?k__law_ring ?a__law_odd ?l__law_odd ?c__law_odd ?k__law_odd ?a__law_given ?l__law_given ?c__law_given ?k__law_given ?a_read_figures ?l_read_figures ?c_read_figures ?k_read_figures ?a_is_number ?l_is_number ?c_is_number ?k_is_number ?a_is_arc ?l_is_arc ?c_is_arc ?k_is_arc ?a_is_ring ?l_is_ring ?c_is_ring ?k_is_ring ?a_arc_text ?l_arc_text ?c_arc_text ?k_arc_text ?a_show_ring ?l_show_ring ?c_show_ring ?k_show_ring ?a_read_ring ?l_read_ring ?c_read_ring ?k_read_ring ?a__law_asked ?l__law_asked ?c__law_asked ?k__law_asked ?a__law_number ?l__law_number ?c__law_number ?k__law_number ?a__law_writes ?l__law_writes ?c__law_writes ?k__law_writes ?a__law_cell ?l__law_cell ?c__law_cell ?k__law_cell ?a__law_bad ?l__law_bad ?c__law_bad ?k__law_bad ?a_law ?l_law ?c_law ?k_law ?noL
    (case z_len => k_is); (case z_min => k_is); (case z_max => k_is); (case z_sum => k_is); (case z_sorted => k_is); (case z_list => k_is); (case z_tuple => k_is); (case z_abs => k_is); (case z_int => k_is); (case z_str => k_is); (case z_isinstance => k_is); (case z_bool => k_is); (case z_range => k_is); (case z_enumerate => k_is); (case z_zip => k_is); (case z_set => k_is); (case z_repr => k_is); (case z_dict => k_is); (case n_MOST_PLACES => k_is); (case n_MOST_ARCS => k_is); (case n_FIGURES => k_is); (case xa_NoRing => k_is); (case xe_NoRing => first | k_exc | k_is); (case xk_NoRing => k_is); (case xb_NoRing => k_is); (case xt_NoRing => k_is); (case xa_NoArc => k_is); (case xe_NoArc => first | k_exc | k_is); (case xk_NoArc => k_is); (case xb_NoArc => k_is); (case xt_NoArc => k_is); (case xa_NoPlace => k_is); (case xe_NoPlace => first | k_exc | k_is); (case xk_NoPlace => k_is); (case xb_NoPlace => k_is); (case xt_NoPlace => k_is); (case xa_TooMany => k_is); (case xe_TooMany => first | k_exc | k_is); (case xk_TooMany => k_is); (case xb_TooMany => k_is); (case xt_TooMany => k_is); (case xa_NoText => k_is); (case xe_NoText => first | k_exc | k_is); (case xk_NoText => k_is); (case xb_NoText => k_is); (case xt_NoText => k_is); (case xa_NoName => k_is); (case xe_NoName => first | k_exc | k_is); (case xk_NoName => k_is); (case xb_NoName => k_is); (case xt_NoName => k_is); (case xa_NoRow => k_is); (case xe_NoRow => first | k_exc | k_is); (case xk_NoRow => k_is); (case xb_NoRow => k_is); (case xt_NoRow => k_is); (case z_ValueError => k_is); (case pa => k_is); (case ps => k_is); (case pd => k_is); (case pt => k_is); (case en => k_is); (case et => k_is); (case eg_NoRing => k_is); (case ek_NoRing => k_is); (case ed_NoRing => k_is); (case ea_NoRing => k_is); (case em_NoRing => k_is); (case ep_NoRing => k_is); (case ev_NoRing => k_is); (case eo_NoRing => k_is); (case es_NoRing_NoRing => k_is); (case es_NoRing_NoArc => k_is); (case es_NoRing_NoPlace => k_is); (case es_NoRing_TooMany => k_is); (case es_NoRing_NoText => k_is); (case es_NoRing_NoName => k_is); (case es_NoRing_NoRow => k_is); (case eg_NoArc => k_is); (case ek_NoArc => k_is); (case ed_NoArc => k_is); (case ea_NoArc => k_is); (case em_NoArc => k_is); (case ep_NoArc => k_is); (case ev_NoArc => k_is); (case eo_NoArc => k_is); (case es_NoArc_NoRing => k_is); (case es_NoArc_NoArc => k_is); (case es_NoArc_NoPlace => k_is); (case es_NoArc_TooMany => k_is); (case es_NoArc_NoText => k_is); (case es_NoArc_NoName => k_is); (case es_NoArc_NoRow => k_is); (case eg_NoPlace => k_is); (case ek_NoPlace => k_is); (case ed_NoPlace => k_is); (case ea_NoPlace => k_is); (case em_NoPlace => k_is); (case ep_NoPlace => k_is); (case ev_NoPlace => k_is); (case eo_NoPlace => k_is); (case es_NoPlace_NoRing => k_is); (case es_NoPlace_NoArc => k_is); (case es_NoPlace_NoPlace => k_is); (case es_NoPlace_TooMany => k_is); (case es_NoPlace_NoText => k_is); (case es_NoPlace_NoName => k_is); (case es_NoPlace_NoRow => k_is); (case eg_TooMany => k_is); (case ek_TooMany => k_is); (case ed_TooMany => k_is); (case ea_TooMany => k_is); (case em_TooMany => k_is); (case ep_TooMany => k_is); (case ev_TooMany => k_is); (case eo_TooMany => k_is); (case es_TooMany_NoRing => k_is); (case es_TooMany_NoArc => k_is); (case es_TooMany_NoPlace => k_is); (case es_TooMany_TooMany => k_is); (case es_TooMany_NoText => k_is); (case es_TooMany_NoName => k_is); (case es_TooMany_NoRow => k_is); (case eg_NoText => k_is); (case ek_NoText => k_is); (case ed_NoText => k_is); (case ea_NoText => k_is); (case em_NoText => k_is); (case ep_NoText => k_is); (case ev_NoText => k_is); (case eo_NoText => k_is); (case es_NoText_NoRing => k_is); (case es_NoText_NoArc => k_is); (case es_NoText_NoPlace => k_is); (case es_NoText_TooMany => k_is); (case es_NoText_NoText => k_is); (case es_NoText_NoName => k_is); (case es_NoText_NoRow => k_is); (case eg_NoName => k_is); (case ek_NoName => k_is); (case ed_NoName => k_is); (case ea_NoName => k_is); (case em_NoName => k_is); (case ep_NoName => k_is); (case ev_NoName => k_is); (case eo_NoName => k_is); (case es_NoName_NoRing => k_is); (case es_NoName_NoArc => k_is); (case es_NoName_NoPlace => k_is); (case es_NoName_TooMany => k_is); (case es_NoName_NoText => k_is); (case es_NoName_NoName => k_is); (case es_NoName_NoRow => k_is); (case eg_NoRow => k_is); (case ek_NoRow => k_is); (case ed_NoRow => k_is); (case ea_NoRow => k_is); (case em_NoRow => k_is); (case ep_NoRow => k_is); (case ev_NoRow => k_is); (case eo_NoRow => k_is); (case es_NoRow_NoRing => k_is); (case es_NoRow_NoArc => k_is); (case es_NoRow_NoPlace => k_is); (case es_NoRow_TooMany => k_is); (case es_NoRow_NoText => k_is); (case es_NoRow_NoName => k_is); (case es_NoRow_NoRow => k_is); (case a__law_mixed => k_is); (case l__law_mixed => k_is); (case c__law_mixed => k_is); (case k__law_mixed => k_is); (case a__law_ring => k_is); (case l__law_ring => k_is); (case c__law_ring => k_is); (case k__law_ring => k_is); (case a__law_odd => k_is); (case l__law_odd => k_is); (case c__law_odd => k_is); (case k__law_odd => k_is); (case a__law_given => k_is); (case l__law_given => k_is); (case c__law_given => k_is); (case k__law_given => k_is); (case a_read_figures => k_is); (case l_read_figures => k_is); (case c_read_figures => k_is); (case k_read_figures => k_is); (case a_is_number => k_is); (case l_is_number => k_is); (case c_is_number => k_is); (case k_is_number => k_is); (case a_is_arc => k_is); (case l_is_arc => k_is); (case c_is_arc => k_is); (case k_is_arc => k_is); (case a_is_ring => k_is); (case l_is_ring => k_is); (case c_is_ring => k_is); (case k_is_ring => k_is); (case a_arc_text => k_is); (case l_arc_text => k_is); (case c_arc_text => k_is); (case k_arc_text => k_is); (case a_show_ring => k_is); (case l_show_ring => k_is); (case c_show_ring => k_is); (case k_show_ring => k_is); (case a_read_ring => k_is); (case l_read_ring => k_is); (case c_read_ring => k_is); (case k_read_ring => k_is); (case a__law_asked => k_is); (case l__law_asked => k_is); (case c__law_asked => k_is); (case k__law_asked => k_is); (case a__law_number => k_is); (case l__law_number => k_is); (case c__law_number => k_is); (case k__law_number => k_is); (case a__law_writes => k_is); (case l__law_writes => k_is); (case c__law_writes => k_is); (case k__law_writes => k_is); (case a__law_cell => k_is); (case l__law_cell => k_is); (case c__law_cell => k_is); (case k__law_cell => k_is); (case a__law_bad => k_is); (case l__law_bad => k_is); (case c__law_bad => k_is); (case k__law_bad => k_is); (case a_law => k_is); (case l_law => k_is); (case c_law => k_is); (case k_law => k_is); (case noL => first | rfl | k_is)
