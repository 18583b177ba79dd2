import PyProof.Rows.All
import Wide.All
import OpenK.AllK
import Wide.FinOn
import HandS.ForMost
import HandS.ForExc
import HandS.More
import HandS.Style
import HandS.IsInst
import HandS.SortInts
import HandS.SortRule
import HandS.Conv
import HandS.Flow
import HandS.CallSlots
import HandS.Deep
import HandS.SetFor
import HandS.Strs
import PySem.Challenge.RW_arcpins_k14_fewest_arcs
set_option Elab.async false
set_option linter.all false
set_option maxRecDepth 100000
set_option maxHeartbeats 4000000
namespace Ac
open PySem PySem.Spec PyProof.Rows L2

abbrev D := PyData
/-- what a name holds: data that stays, a list of one's own (may grow), a list just made, a handle -/
inductive Val where
  | dat (d : D) | own (xs : List D) | new (xs : List D) | hdl (k : Nat)
abbrev Ctx := List (Option Val)
def look : Ctx → Nat → Option Val
  | [], _ => none
  | v :: _, 0 => v
  | _ :: r, i + 1 => look r i
def put : Ctx → Nat → Option Val → Ctx
  | [], _, _ => []
  | _ :: r, 0, v => v :: r
  | w :: r, i + 1, v => w :: put r i v
def scal : D → Bool
  | .none | .bool _ | .int _ | .str _ => true
  | _ => false
/-- what a def of plain data gives -/
structure Summ where
  run : List D → (Val → Prop) → (Nat → Prop) → Prop
  mono : ∀ {ds : List D} {Q Q' : Val → Prop} {Y Y' : Nat → Prop}, (∀ v, Q v → Q' v) → (∀ n, Y n → Y' n) → run ds Q Y → run ds Q' Y'
/-- what a def with a state gives -/
structure ESumm (S : Type) where
  run : List Val → S → (Val → S → Prop) → (Nat → S → Prop) → Prop
  mono : ∀ {vs : List Val} {s : S} {Q Q' : Val → S → Prop} {Y Y' : Nat → S → Prop}, (∀ v s', Q v s' → Q' v s') → (∀ n s', Y n s' → Y' n s') → run vs s Q Y → run vs s Q' Y'
inductive BI where
  | len | min2 | max2 | minL | maxL | sum | sorted | list | tuple | abs | int | str | isint | isbool | islist | istuple | isstr | sortP | dictP | repr
inductive MT where
  | index
inductive Tg where
  | nm (i : Nat) | tp (is : List Nat)
mutual
inductive E (S : Type) where
  | var (i : Nat) | non | bl (b : Bool) | int (i : Int) | str (x : Str)
  | glb (x : Str) (i : Int)
  | op (o : Operator) (a b : E S)
  | neg (a : E S)
  | nt (a : E S) | an (a b : E S) | or (a b : E S)
  | cmp (o : CmpOp) (a b : E S)
  | ch (o o' : CmpOp) (a b c : E S)
  | isn (pos : Bool) (a : E S)
  | isb (pos : Bool) (b : Bool) (a : E S)
  | ix (a b : E S)
  | sl (a : E S) (lo hi : Es S)
  | rv (a : E S)
  | ls (es : Es S) | tp (es : Es S) | rep (es : Es S) (b : E S)
  | comp (own : List Nat) (tg : Tg) (it : It S) (c : Es S) (e : E S)
  | call (x : Str) (φ : Summ) (es : Es S)
  | cal0 (x : Str) (φ : Summ)
  | calE (x : Str) (φ : ESumm S) (es : Es S)
  | bi (b : BI) (es : Es S)
  | mt (m : MT) (a : E S) (es : Es S)
  | pop (i : Nat) (a : E S)
  | d0 | d1 (k v : E S)
  | compM (own : List Nat) (tg : Tg) (it : It S) (i : Nat) (a : E S)
  | srtS (a : E S) | lenS (a : E S) | lr (es : Es S)
  | callT (x : Str) (φ : Summ) (i j k : Nat)
inductive Es (S : Type) where
  | nil | cons (e : E S) (es : Es S)
inductive It (S : Type) where
  | seq (e : E S) | rng (es : Es S) | enu (e : E S) | zip (a b : E S)
end
inductive St1 (S : Type) where
  | nop
  | asg (i : Nat) (e : E S)
  | asgL (i : Nat) (e : E S)
  | asgT (is : List Nat) (e : E S)
  | asgH (i : Nat) (φ : ESumm S) (e : E S)
  | app (i : Nat) (e : E S)
  | ins (i : Nat) (j : E S) (e : E S)
  | setI (i : Nat) (j : E S) (e : E S)
  | aug (i : Nat) (o : Operator) (e : E S)
  | expr (e : E S)
  | ret (e : E S)
  | brk | cnt | never
  | raise (x : Str) (n : Nat)
mutual
inductive Sm (S : Type) where
  | one (s : St1 S)
  | ite (c : E S) (t f : Sms S)
  | whl (c : E S) (b : Sms S)
  | for (tg : Tg) (it : It S) (b : Sms S)
inductive Sms (S : Type) where
  | nil | cons (s : Sm S) (r : Sms S)
end

/-! ### meaning -/
section
variable {S : Type}
def asD : Val → (D → Prop) → Prop
  | .dat d, k => k d
  | .new xs, k => k (.list xs)
  | _, _ => False
def rdO : Option Val → (D → Prop) → Prop
  | some (.dat d), k => k d
  | some (.own xs), k => k (.list xs)
  | _, _ => False
/-- an operand: a name is read, and stays as it is -/
def opn (a : E S) (wa : Ctx → S → (Val → Ctx → S → Prop) → Prop) (Γ : Ctx) (s : S) (Q : D → Ctx → S → Prop) : Prop :=
  match a with
  | .var i => rdO (look Γ i) fun d => Q d Γ s
  | _ => wa Γ s fun v Γ' s' => asD v fun d => Q d Γ' s'
def frzV (Γ : Ctx) (i : Nat) : Ctx := match look Γ i with
  | some (.own xs) => put Γ i (some (.dat (.list xs)))
  | _ => Γ
/-- names handed in: their lists stay from then on -/
def frzA : Es S → Ctx → Ctx
  | .nil, Γ => Γ
  | .cons (.var i) r, Γ => frzA r (frzV Γ i)
  | .cons _ r, Γ => frzA r Γ
/-- names handed in are known -/
def argsOk : Es S → Ctx → Prop
  | .nil, _ => True
  | .cons (.var i) r, Γ => (match look Γ i with | some (.dat _) => True | some (.own _) => True | _ => False) ∧ argsOk r Γ
  | .cons _ r, Γ => argsOk r Γ
def big : Nat := 100000
def ixD (xs : List D) (i : Int) (k : D → Prop) : Prop := match (ixN xs.length i).bind fun j => xs[j]? with
  | some d => k d
  | none => False
def cutD (xs : List D) (lo hi : Option Int) : List D := (xs.drop (HT.sIx xs.length 0 lo)).take (HT.sIx xs.length xs.length hi - HT.sIx xs.length 0 lo)
def addD : D → D → (Val → Prop) → Prop
  | .int i, .int j, k => k (.dat (.int (i + j)))
  | .list xs, .list ys, k => xs.length + ys.length ≤ big ∧ k (.new (xs ++ ys))
  | .str x, .str y, k => x.length + y.length ≤ big ∧ k (.dat (.str (x ++ y)))
  | _, _, _ => False
def intD (C : Int → Int → Prop) (f : Int → Int → Int) : D → D → (Val → Prop) → Prop
  | .int i, .int j, k => C i j ∧ k (.dat (.int (f i j)))
  | _, _, _ => False
def subD : D → D → (Val → Prop) → Prop
  | .int i, .int j, k => k (.dat (.int (i - j)))
  | _, _, _ => False
def noD : D → D → (Val → Prop) → Prop := fun _ _ _ => False
def opD : Operator → D → D → (Val → Prop) → Prop
  | .Add => addD
  | .Sub => subD
  | .Mult => intD CMul fun i j => i * j
  | .Mod => intD (fun _ j => 0 < j) fun i j => i % j
  | .FloorDiv => intD (fun _ j => 0 < j ∧ j < 1073741824) fun i j => i / j
  | .Pow => intD (fun i j => 0 ≤ j ∧ j ≤ 1000 ∧ i.natAbs < 2 ^ 64) fun i j => i ^ j.toNat
  | _ => noD
def eqD (x y : D) (k : Bool → Prop) : Prop := match x, y with
  | .int i, .int j => k (decide (i = j))
  | .bool i, .bool j => k (decide (i = j))
  | .str i, .str j => k (decide (i = j))
  | .none, .none => k true
  | .list [], .list [] => k true
  | .list (_ :: _), .list [] => k false
  | x, y => SeqAt.shaped x = true ∧ SeqAt.shaped y = true ∧ k (PyData.eqv x y)
def boolD : D → (Bool → Prop) → Prop
  | .bool b, k => k b
  | _, _ => False
def noneD : D → Bool
  | .none => true
  | _ => false
def intsD : List D → Option (List Int)
  | [] => some []
  | .int i :: r => (intsD r).map (i :: ·)
  | _ :: _ => none
/-- x in xs: ints, bools, None, texts -/
def flatD : D → Bool
  | .none | .bool _ | .int _ | .str _ => true
  | _ => false
def inD (x : D) (xs : List D) : Bool := xs.any fun y => PyData.eqv y x
def relD (f : Int → Int → Bool) : D → D → (Val → Prop) → Prop
  | .int i, .int j, k => k (.dat (.bool (f i j)))
  | _, _, _ => False
def memD (neg : Bool) : D → D → (Val → Prop) → Prop
  | x, .list xs, k => flatD x = true ∧ xs.all flatD = true ∧ k (.dat (.bool (if neg then !inD x xs else inD x xs)))
  | x, .tuple xs, k => (flatD x = true ∧ xs.all flatD = true ∧ k (.dat (.bool (if neg then !inD x xs else inD x xs)))) ∨ (neg = false ∧ SeqAt.shaped x = true ∧ SeqAt.shaped (.tuple xs) = true ∧ k (.dat (.bool (inD x xs))))
  | _, _, _ => False
def cmpD : CmpOp → D → D → (Val → Prop) → Prop
  | .Eq => fun x y k => eqD x y fun b => k (.dat (.bool b))
  | .NotEq => fun x y k => eqD x y fun b => k (.dat (.bool (!b)))
  | .Lt => relD fun i j => decide (i < j)
  | .LtE => relD fun i j => decide (i ≤ j)
  | .Gt => relD fun i j => decide (j < i)
  | .GtE => relD fun i j => decide (j ≤ i)
  | .In => memD false
  | .NotIn => memD true
  | _ => noD
def lenD : List D → (Val → Prop) → Prop
  | [.list xs], k => k (.dat (.int xs.length))
  | [.tuple xs], k => k (.dat (.int xs.length))
  | [.str x], k => x.length ≤ big ∧ k (.dat (.int x.length))
  | _, _ => False
def int2D (f : Int → Int → Int) : List D → (Val → Prop) → Prop
  | [.int i, .int j], k => k (.dat (.int (f i j)))
  | _, _ => False
def minLD : List D → (Val → Prop) → Prop
  | [.list xs], k => ∃ ns, intsD xs = some ns ∧ 0 < ns.length ∧ ∀ m, m ∈ ns → (∀ y, y ∈ ns → m ≤ y) → k (.dat (.int m))
  | _, _ => False
def maxLD : List D → (Val → Prop) → Prop
  | [.list xs], k => ∃ ns, intsD xs = some ns ∧ 0 < ns.length ∧ ∀ m, m ∈ ns → (∀ y, y ∈ ns → y ≤ m) → k (.dat (.int m))
  | _, _ => False
def sumD : List D → (Val → Prop) → Prop
  | [.list xs], k => ∃ ns, intsD xs = some ns ∧ k (.dat (.int ns.sum))
  | _, _ => False
def sortedD : List D → (Val → Prop) → Prop
  | [.list xs], k => ∃ ns, intsD xs = some ns ∧ ∀ ns' : List Int, ns'.Perm ns → ns'.Pairwise (· ≤ ·) → k (.new (ns'.map .int))
  | _, _ => False
def listD : List D → (Val → Prop) → Prop
  | [.list xs], k => k (.new xs)
  | [.tuple xs], k => k (.new xs)
  | _, _ => False
def tupleD : List D → (Val → Prop) → Prop
  | [.list xs], k => k (.dat (.tuple xs))
  | [.tuple xs], k => k (.dat (.tuple xs))
  | _, _ => False
def absD : List D → (Val → Prop) → Prop
  | [.int i], k => k (.dat (.int (if i < 0 then -i else i)))
  | _, _ => False
def toIntD : List D → (Val → Prop) → Prop
  | [.int i], k => k (.dat (.int i))
  | [.bool b], k => k (.dat (.int (if b then 1 else 0)))
  | _, _ => False
def toStrD : List D → (Val → Prop) → Prop
  | [.int i], k => i.natAbs.log2 < 1920 ∧ k (.dat (.str (toString i)))
  | _, _ => False
def isD (f : D → Bool) : List D → (Val → Prop) → Prop
  | [d], k => k (.dat (.bool (f d)))
  | _, _ => False
def isIntD : D → Bool
  | .int _ => true
  | .bool _ => true
  | _ => false
def isBoolD : D → Bool
  | .bool _ => true
  | _ => false
def isListD : D → Bool
  | .list _ => true
  | _ => false
def isTupD : D → Bool
  | .tuple _ => true
  | _ => false
def isStrD : D → Bool
  | .str _ => true
  | _ => false
def pairD (p : Int × Int) : D := .tuple [.int p.1, .int p.2]
def pairsD : List D → Option (List (Int × Int))
  | [] => some []
  | .tuple [.int i, .int j] :: r => (pairsD r).map ((i, j) :: ·)
  | _ :: _ => none
def lexLe (p q : Int × Int) : Prop := p.1 < q.1 ∨ (p.1 = q.1 ∧ p.2 ≤ q.2)
def sortPD : List D → (Val → Prop) → Prop
  | [.list xs], k => ∃ ps, pairsD xs = some ps ∧ ∀ ps' : List (Int × Int), ps'.Perm ps → ps'.Pairwise lexLe → k (.new (ps'.map pairD))
  | _, _ => False
def trueD (n : Int) : D := .tuple [.int n, .bool true]
/-- dict([(k, True) ..]): which keys stand is not told -/
def dictPD : List D → (Val → Prop) → Prop
  | [.list xs], k => ∃ ns : List Int, xs = ns.map trueD ∧ ∀ ms : List Int, ms.length ≤ ns.length → (∀ m ∈ ms, m ∈ ns) → k (.dat (.dict (ms.map fun m => (.int m, .bool true))))
  | _, _ => False
/-- repr(x) -/
def okR (d : D) : Prop := d.showable = true ∧ d.depth ≤ 60 ∧ d.shown.length ≤ sizeLine
def reprD : List D → (Val → Prop) → Prop
  | [d], k => okR d ∧ k (.dat (.str d.shown))
  | _, _ => False
/-- sorted(set(xs)) -/
def srtSX : D → (Val → Prop) → Prop
  | .list xs, k => ∃ ns, intsD xs = some ns ∧ ns.length < 4000 ∧ (ns.length < 64 ∨ ∀ m ∈ ns, 0 ≤ m ∧ m < 63) ∧ ∀ ms : List Int, ms.Pairwise (· < ·) → (∀ j, j ∈ ms ↔ j ∈ ns) → k (.new (ms.map .int))
  | _, _ => False
/-- len(set(xs)) -/
def lenSX : D → (Val → Prop) → Prop
  | .list xs, k => ∃ ns, intsD xs = some ns ∧ ns.length < 4000 ∧ ∀ ms : List Int, ms.Nodup → (∀ j, j ∈ ms ↔ j ∈ ns) → k (.dat (.int (ms.length : Nat)))
  | _, _ => False
def biD : BI → List D → (Val → Prop) → Prop
  | .len => lenD
  | .min2 => int2D fun i j => if j < i then j else i
  | .max2 => int2D fun i j => if j > i then j else i
  | .minL => minLD
  | .maxL => maxLD
  | .sum => sumD
  | .sorted => sortedD
  | .list => listD
  | .tuple => tupleD
  | .abs => absD
  | .int => toIntD
  | .str => toStrD
  | .isint => isD isIntD
  | .isbool => isD isBoolD
  | .islist => isD isListD
  | .istuple => isD isTupD
  | .isstr => isD isStrD
  | .sortP => sortPD
  | .dictP => dictPD
  | .repr => reprD
def idxD (ns : List Int) (y : Int) : Option Nat := ns.findIdx? fun n => decide (n = y)
def indexD : D → List D → (Val → Prop) → Prop
  | .list xs, [.int y], k => ∃ ns, intsD xs = some ns ∧ (match idxD ns y with | some j => k (.dat (.int (j : Nat))) | none => False)
  | _, _, _ => False
def mtD : MT → D → List D → (Val → Prop) → Prop
  | .index => indexD
def keyD : D → (Key → Prop) → Prop
  | .int i, k => k (.inl i)
  | .str x, k => k (.inr x)
  | _, _ => False
def scalV : Val → Bool
  | .dat d => scal d
  | _ => false
/-- nothing that is handed in can stand in it -/
def freeV : Val → Bool
  | .dat d => scal d
  | .new xs => xs.all scal
  | _ => false
/-- a comprehension's turns; the state in between is without its own names -/
def cLoop (f : D → Ctx → S → (Option D → Ctx → S → Prop) → Prop) : List D → Ctx → S → List D → (List D → Ctx → S → Prop) → Prop
  | [], Γ, s, acc, k => k acc Γ s
  | x :: r, Γ, s, acc, k => f x Γ s fun o Γ' s' => cLoop f r Γ' s' (acc ++ o.toList) k
def wipeG : List Nat → Ctx → Ctx
  | [], Γ => Γ
  | i :: r, Γ => put (wipeG r Γ) i none
/-- the names that a comprehension hid are back -/
def backG (Γ0 : Ctx) : List Nat → Ctx → Ctx
  | [], Γ => Γ
  | i :: r, Γ => put (backG Γ0 r Γ) i (match look Γ0 i with | some (.own _) => none | v => v)
def putAll : List Nat → List D → Ctx → (Ctx → Prop) → Prop
  | [], [], Γ, k => k Γ
  | i :: is, d :: ds, Γ, k => putAll is ds (put Γ i (some (.dat d))) k
  | _, _, _, _ => False
def bindT : Tg → D → Ctx → (Ctx → Prop) → Prop
  | .nm i, d, Γ, k => k (put Γ i (some (.dat d)))
  | .tp is, .tuple ds, Γ, k => putAll is ds Γ k
  | .tp _, _, _, _ => False
def rngD : List D → (List D → Prop) → Prop
  | [.int n], k => (-(2 ^ 62) ≤ n ∧ n < 2 ^ 62) ∧ k ((List.range n.toNat).map fun i => .int (i : Nat))
  | [.int a, .int b], k => (-(2 ^ 62) ≤ a ∧ a < 2 ^ 62 ∧ -(2 ^ 62) ≤ b ∧ b < 2 ^ 62) ∧ k ((List.range (b - a).toNat).map fun i => .int (a + (i : Nat)))
  | [.int a, .int b, .int c], k => c = -1 ∧ (-(2 ^ 62) ≤ a ∧ a < 2 ^ 62 ∧ -(2 ^ 62) ≤ b ∧ b < 2 ^ 62) ∧ k ((List.range (a - b).toNat).map fun i => .int (a + (i : Nat) * (-1)))
  | _, _ => False
def enumD (xs : List D) : List D := xs.zipIdx.map fun p => .tuple [.int (p.2 : Nat), p.1]
def zipD (xs ys : List D) : List D := (xs.zip ys).map fun p => .tuple [p.1, p.2]
def negX : D → (Val → Prop) → Prop
  | .int i, k => k (.dat (.int (-i)))
  | _, _ => False
def ixX : D → D → (D → Prop) → Prop
  | .list xs, .int i, k => ixD xs i k
  | .tuple xs, .int i, k => ixD xs i k
  | _, _, _ => False
def slX : D → Option Int → Option Int → (Val → Prop) → Prop
  | .list xs, l, h, k => k (.new (cutD xs l h))
  | _, _, _, _ => False
def rvX : D → (Val → Prop) → Prop
  | .list xs, k => k (.new xs.reverse)
  | _, _ => False
def repX (ds : List D) : D → (Val → Prop) → Prop
  | .int j, k => (-100000 ≤ j ∧ j ≤ 100000 ∧ ds.length * j.toNat ≤ big) ∧ k (.new (List.replicate j.toNat ds).flatten)
  | _, _ => False
def intX : D → (Int → Prop) → Prop
  | .int i, k => k i
  | _, _ => False
def seqD : D → (List D → Prop) → Prop
  | .list xs, k => k xs
  | .tuple xs, k => k xs
  | _, _ => False
def lstD : D → (List D → Prop) → Prop
  | .list xs, k => k xs
  | _, _ => False
def xn : Nat → Ctx → S → Prop := fun _ _ _ => False
/-- xs.pop(j) -/
def popW (i : Nat) (Γ : Ctx) (o : (D → Ctx → S → Prop) → Prop) (Q : Val → Ctx → S → Prop) : Prop := match look Γ i with
    | some (.own _) => o fun y Γ1 s1 => (match look Γ1 i, y with
      | some (.own xs), .int j => (match (ixN xs.length j).bind fun m => xs[m]?.map fun d => (m, d) with
        | some p => (-(2 ^ 62) ≤ j ∧ j < 2 ^ 62) ∧ Q (.dat p.2) (put Γ1 i (some (.own (xs.eraseIdx p.1)))) s1
        | none => False)
      | _, _ => False)
    | _ => False
mutual
def wE : (Nat → Ctx → S → Prop) → E S → Ctx → S → (Val → Ctx → S → Prop) → Prop
  | xc, .var i, Γ, s, Q => (match look Γ i with
    | some (.dat d) => Q (.dat d) Γ s
    | some (.own xs) => Q (.dat (.list xs)) (put Γ i (some (.dat (.list xs)))) s
    | some (.hdl k) => Q (.hdl k) Γ s
    | _ => False)
  | xc, .non, Γ, s, Q => Q (.dat .none) Γ s
  | xc, .bl b, Γ, s, Q => Q (.dat (.bool b)) Γ s
  | xc, .int i, Γ, s, Q => Q (.dat (.int i)) Γ s
  | xc, .str x, Γ, s, Q => Q (.dat (.str x)) Γ s
  | xc, .glb _ i, Γ, s, Q => Q (.dat (.int i)) Γ s
  | xc, .op o a b, Γ, s, Q => opn a (wE xc a) Γ s fun x Γ1 s1 => opn b (wE xc b) Γ1 s1 fun y Γ2 s2 => opD o x y fun v => Q v Γ2 s2
  | xc, .neg a, Γ, s, Q => opn a (wE xc a) Γ s fun x Γ1 s1 => negX x fun v => Q v Γ1 s1
  | xc, .nt a, Γ, s, Q => opn a (wE xc a) Γ s fun x Γ1 s1 => boolD x fun b => Q (.dat (.bool (!b))) Γ1 s1
  | xc, .an a b, Γ, s, Q => opn a (wE xc a) Γ s fun x Γ1 s1 => boolD x fun c => if c = true then opn b (wE xc b) Γ1 s1 fun y Γ2 s2 => boolD y fun d => Q (.dat (.bool d)) Γ2 s2 else Q (.dat (.bool false)) Γ1 s1
  | xc, .or a b, Γ, s, Q => opn a (wE xc a) Γ s fun x Γ1 s1 => boolD x fun c => if c = true then Q (.dat (.bool true)) Γ1 s1 else opn b (wE xc b) Γ1 s1 fun y Γ2 s2 => boolD y fun d => Q (.dat (.bool d)) Γ2 s2
  | xc, .cmp o a b, Γ, s, Q => opn a (wE xc a) Γ s fun x Γ1 s1 => opn b (wE xc b) Γ1 s1 fun y Γ2 s2 => cmpD o x y fun v => Q v Γ2 s2
  | xc, .ch o o' a b c, Γ, s, Q => opn a (wE xc a) Γ s fun x Γ1 s1 => opn b (wE xc b) Γ1 s1 fun y Γ2 s2 => cmpD o x y fun v => asD v fun d => boolD d fun k => if k = true then opn c (wE xc c) Γ2 s2 fun z Γ3 s3 => cmpD o' y z fun v => Q v Γ3 s3 else Q (.dat (.bool false)) Γ2 s2
  | xc, .isn p a, Γ, s, Q => opn a (wE xc a) Γ s fun x Γ1 s1 => Q (.dat (.bool (if p then noneD x else !noneD x))) Γ1 s1
  | xc, .isb p b a, Γ, s, Q => opn a (wE xc a) Γ s fun x Γ1 s1 => boolD x fun c => Q (.dat (.bool (if p then c == b else !(c == b)))) Γ1 s1
  | xc, .ix a b, Γ, s, Q => opn a (wE xc a) Γ s fun x Γ1 s1 => opn b (wE xc b) Γ1 s1 fun y Γ2 s2 => ixX x y fun d => Q (.dat d) Γ2 s2
  | xc, .sl a lo hi, Γ, s, Q => opn a (wE xc a) Γ s fun x Γ1 s1 => wP xc lo Γ1 s1 fun l Γ2 s2 => wP xc hi Γ2 s2 fun h Γ3 s3 => slX x l h fun v => Q v Γ3 s3
  | xc, .rv a, Γ, s, Q => opn a (wE xc a) Γ s fun x Γ1 s1 => rvX x fun v => Q v Γ1 s1
  | xc, .ls es, Γ, s, Q => wX xc es Γ s fun ds Γ1 s1 => ds.length ≤ big ∧ Q (.new ds) Γ1 s1
  | xc, .tp es, Γ, s, Q => wX xc es Γ s fun ds Γ1 s1 => ds.length ≤ big ∧ Q (.dat (.tuple ds)) Γ1 s1
  | xc, .rep es b, Γ, s, Q => wX xc es Γ s fun ds Γ1 s1 => ds.length ≤ big ∧ opn b (wE xc b) Γ1 s1 fun y Γ2 s2 => repX ds y fun v => Q v Γ2 s2
  | xc, .comp own tg it c e, Γ, s, Q => wI xc it Γ s fun xs Γ1 s1 => xs.length ≤ big ∧
      cLoop (fun x Γ s k => bindT tg x Γ fun Γ' => wC xn c Γ' s fun b Γ2 s2 => if b = true then wE xn e Γ2 s2 (fun v Γ3 s3 => asD v fun d => k (some d) (wipeG own Γ3) s3) else k none (wipeG own Γ2) s2)
        xs (wipeG own Γ1) s1 [] fun ys Γ' s' => Q (.new ys) (backG Γ1 own Γ') s'
  | xc, .call _ φ es, Γ, s, Q => wA xc es Γ s fun ds Γ1 s1 => argsOk es Γ1 ∧ φ.run ds (fun v => Q v (if scalV v = true then Γ1 else frzA es Γ1) s1) (fun n => xc n (frzA es Γ1) s1)
  | xc, .cal0 _ φ, Γ, s, Q => φ.run [] (fun v => Q v Γ s) (fun _ => False)
  | xc, .calE _ φ es, Γ, s, Q => wV xc es Γ s fun vs Γ1 s1 => φ.run vs s1 (fun v s2 => Q v Γ1 s2) (fun n s2 => xc n Γ1 s2)
  | xc, .bi b es, Γ, s, Q => wA xc es Γ s fun ds Γ1 s1 => biD b ds fun v => Q v Γ1 s1
  | xc, .mt m a es, Γ, s, Q => opn a (wE xc a) Γ s fun x Γ1 s1 => lstD x fun _ => wA xc es Γ1 s1 fun ds Γ2 s2 => mtD m x ds fun v => Q v Γ2 s2
  | xc, .pop i a, Γ, s, Q => popW i Γ (fun k' => opn a (wE xc a) Γ s k') Q
  | xc, .d0, Γ, s, Q => Q (.dat (.dict [])) Γ s
  | xc, .d1 k v, Γ, s, Q => opn k (wE xc k) Γ s fun x Γ1 s1 => wE xc v Γ1 s1 fun w Γ2 s2 => asD w fun d => keyD x fun _ => Q (.dat (.dict [(x, d)])) Γ2 s2
  | xc, .compM own tg it i a, Γ, s, Q => wJ xc it Γ s fun xs Γ1 s1 => xs.length ≤ big ∧
      cLoop (fun x Γ s k => bindT tg x Γ fun Γ' => popW i Γ' (fun k' => opn a (wE xn a) Γ' s k') fun v Γ3 s3 => asD v fun d => k (some d) (wipeG own Γ3) s3)
        xs (wipeG own Γ1) s1 [] fun ys Γ' s' => Q (.new ys) (backG Γ1 own Γ') s'
  | xc, .srtS a, Γ, s, Q => opn a (wE xc a) Γ s fun x Γ1 s1 => srtSX x fun v => Q v Γ1 s1
  | xc, .lenS a, Γ, s, Q => opn a (wE xc a) Γ s fun x Γ1 s1 => lenSX x fun v => Q v Γ1 s1
  | xc, .lr es, Γ, s, Q => wA xc es Γ s fun ds Γ1 s1 => rngD ds fun xs => xs.length ≤ big ∧ Q (.new xs) Γ1 s1
  | xc, .callT _ φ i j k, Γ, s, Q => rdO (look Γ i) fun a => rdO (look Γ j) fun b => rdO (look Γ k) fun c => φ.run [.tuple [a, b], c] (fun v => freeV v = true ∧ Q v Γ s) (fun _ => False)
/-- operands in a row -/
def wA : (Nat → Ctx → S → Prop) → Es S → Ctx → S → (List D → Ctx → S → Prop) → Prop
  | xc, .nil, Γ, s, Q => Q [] Γ s
  | xc, .cons e r, Γ, s, Q => opn e (wE xc e) Γ s fun d Γ1 s1 => wA xc r Γ1 s1 fun ds Γ2 s2 => Q (d :: ds) Γ2 s2
/-- things that are kept, in a row -/
def wX : (Nat → Ctx → S → Prop) → Es S → Ctx → S → (List D → Ctx → S → Prop) → Prop
  | xc, .nil, Γ, s, Q => Q [] Γ s
  | xc, .cons e r, Γ, s, Q => wE xc e Γ s fun v Γ1 s1 => asD v fun d => wX xc r Γ1 s1 fun ds Γ2 s2 => Q (d :: ds) Γ2 s2
/-- .. handles too -/
def wV : (Nat → Ctx → S → Prop) → Es S → Ctx → S → (List Val → Ctx → S → Prop) → Prop
  | xc, .nil, Γ, s, Q => Q [] Γ s
  | xc, .cons e r, Γ, s, Q => wE xc e Γ s fun v Γ1 s1 => (match v with
    | .dat d => wV xc r Γ1 s1 fun vs Γ2 s2 => Q (.dat d :: vs) Γ2 s2
    | .new xs => wV xc r Γ1 s1 fun vs Γ2 s2 => Q (.dat (.list xs) :: vs) Γ2 s2
    | .hdl k => wV xc r Γ1 s1 fun vs Γ2 s2 => Q (.hdl k :: vs) Γ2 s2
    | .own _ => False)
/-- a part of a slice -/
def wP : (Nat → Ctx → S → Prop) → Es S → Ctx → S → (Option Int → Ctx → S → Prop) → Prop
  | xc, .nil, Γ, s, Q => Q none Γ s
  | xc, .cons e _, Γ, s, Q => opn e (wE xc e) Γ s fun d Γ1 s1 => intX d fun i => Q (some i) Γ1 s1
/-- the test of a comprehension -/
def wC : (Nat → Ctx → S → Prop) → Es S → Ctx → S → (Bool → Ctx → S → Prop) → Prop
  | xc, .nil, Γ, s, Q => Q true Γ s
  | xc, .cons e _, Γ, s, Q => opn e (wE xc e) Γ s fun d Γ1 s1 => boolD d fun b => Q b Γ1 s1
def wI : (Nat → Ctx → S → Prop) → It S → Ctx → S → (List D → Ctx → S → Prop) → Prop
  | xc, .seq e, Γ, s, Q => opn e (wE xc e) Γ s fun d Γ1 s1 => seqD d fun xs => Q xs Γ1 s1
  | xc, .rng es, Γ, s, Q => wA xc es Γ s fun ds Γ1 s1 => rngD ds fun xs => Q xs Γ1 s1
  | xc, .enu e, Γ, s, Q => opn e (wE xc e) Γ s fun d Γ1 s1 => lstD d fun xs => Q (enumD xs) Γ1 s1
  | xc, .zip a b, Γ, s, Q => opn a (wE xc a) Γ s fun x Γ1 s1 => opn b (wE xc b) Γ1 s1 fun y Γ2 s2 => lstD x fun xs => lstD y fun ys => Q (zipD xs ys) Γ2 s2
/-- what a for walks: it stays from then on -/
def wJ : (Nat → Ctx → S → Prop) → It S → Ctx → S → (List D → Ctx → S → Prop) → Prop
  | xc, .seq e, Γ, s, Q => wE xc e Γ s fun v Γ1 s1 => asD v fun d => seqD d fun xs => Q xs Γ1 s1
  | xc, .rng es, Γ, s, Q => wA xc es Γ s fun ds Γ1 s1 => rngD ds fun xs => Q xs Γ1 s1
  | xc, .enu e, Γ, s, Q => wE xc e Γ s fun v Γ1 s1 => asD v fun d => lstD d fun xs => Q (enumD xs) Γ1 s1
  | xc, .zip a b, Γ, s, Q => wE xc a Γ s fun v Γ1 s1 => asD v fun x => wE xc b Γ1 s1 fun w Γ2 s2 => asD w fun y => lstD x fun xs => lstD y fun ys => Q (zipD xs ys) Γ2 s2
end
/-- what follows -/
structure Kn (S : Type) where
  nx : Ctx → S → Prop
  rt : Val → S → Prop
  bk : Ctx → S → Prop := fun _ _ => False
  ct : Ctx → S → Prop := fun _ _ => False
  ex : Nat → Ctx → S → Prop := fun _ _ _ => False
def slotV : Val → Option Val
  | .dat d => some (.dat d)
  | .new xs => some (.own xs)
  | .hdl k => some (.hdl k)
  | .own _ => none
def w1 : St1 S → Ctx → S → Kn S → Prop
  | .nop, Γ, s, K => K.nx Γ s
  | .asg i e, Γ, s, K => wE K.ex e Γ s fun v Γ' s' => K.nx (put Γ' i (slotV v)) s'
  | .asgL i e, Γ, s, K => wE K.ex e Γ s fun v Γ' s' => K.nx (put Γ' i (slotV v)) s'
  | .asgT is e, Γ, s, K => wE K.ex e Γ s fun v Γ' s' => asD v fun d => (match d with | .tuple ds => putAll is ds Γ' fun Γ2 => K.nx Γ2 s' | _ => False)
  | .asgH i φ e, Γ, s, K => wE K.ex e Γ s fun v Γ' s' => φ.run [v] s' (fun w s2 => K.nx (put Γ' i (slotV w)) s2) (fun _ _ => False)
  | .app i e, Γ, s, K => (match look Γ i with
    | some (.own _) => wE K.ex e Γ s fun v Γ' s' => asD v fun d => (match look Γ' i with
      | some (.own xs) => xs.length < big ∧ K.nx (put Γ' i (some (.own (xs ++ [d])))) s'
      | _ => False)
    | _ => False)
  | .ins i j e, Γ, s, K => (match look Γ i with
    | some (.own _) => opn j (wE K.ex j) Γ s fun y Γ1 s1 => wE K.ex e Γ1 s1 fun v Γ' s' => asD v fun d => (match look Γ' i, y with
      | some (.own xs), .int n => xs.length < big ∧ 0 ≤ n ∧ n ≤ xs.length ∧ K.nx (put Γ' i (some (.own (xs.insertIdx n.toNat d)))) s'
      | _, _ => False)
    | _ => False)
  | .setI i j e, Γ, s, K => wE K.ex e Γ s fun v Γ' s' => asD v fun d => (match look Γ' i with
    | some (.own _) => opn j (wE K.ex j) Γ' s' fun y Γ2 s2 => (match look Γ2 i, y with
      | some (.own xs), .int n => (match ixN xs.length n with
        | some m => K.nx (put Γ2 i (some (.own (xs.set m d)))) s2
        | none => False)
      | _, _ => False)
    | _ => False)
  | .aug i o e, Γ, s, K => (match look Γ i with
    | some (.dat (.int a)) => opn e (wE K.ex e) Γ s fun y Γ' s' => (match y with
      | .int b => (match o with
        | .Add => K.nx (put Γ' i (some (.dat (.int (a + b))))) s'
        | .Sub => K.nx (put Γ' i (some (.dat (.int (a - b))))) s'
        | _ => False)
      | _ => False)
    | _ => False)
  | .expr e, Γ, s, K => wE K.ex e Γ s fun _ Γ' s' => K.nx Γ' s'
  | .ret e, Γ, s, K => (match e with
    | .var i => (match look Γ i with
      | some (.dat d) => K.rt (.dat d) s
      | some (.own xs) => K.rt (.new xs) s
      | some (.hdl k) => K.rt (.hdl k) s
      | _ => False)
    | _ => wE K.ex e Γ s fun v _ s' => K.rt v s')
  | .brk, Γ, s, K => K.bk Γ s
  | .cnt, Γ, s, K => K.ct Γ s
  | .never, _, _, _ => False
  | .raise _ n, Γ, s, K => K.ex n Γ s
/-- turns over a list -/
def fLoop (f : D → Ctx → S → Kn S → Prop) (K : Kn S) : List D → Ctx → S → Prop
  | [], Γ, s => K.nx Γ s
  | x :: r, Γ, s => f x Γ s { K with nx := fun Γ' s' => fLoop f K r Γ' s', ct := fun Γ' s' => fLoop f K r Γ' s', bk := K.nx }
/-- a test -/
def wT (xc : Nat → Ctx → S → Prop) (c : E S) (Γ : Ctx) (s : S) (Q : Bool → Ctx → S → Prop) : Prop := opn c (wE xc c) Γ s fun d Γ1 s1 => boolD d fun b => Q b Γ1 s1
mutual
def wS : Sm S → Ctx → S → Kn S → Prop
  | .one st, Γ, s, K => w1 st Γ s K
  | .ite c t f, Γ, s, K => wT K.ex c Γ s fun b Γ1 s1 => if b = true then wSs t Γ1 s1 K else wSs f Γ1 s1 K
  | .whl c b, Γ, s, K => ∃ W : Nat → Ctx → S → Prop, (∃ m, W m Γ s) ∧ ∀ m Γ s, W m Γ s → wT K.ex c Γ s fun b' Γ1 s1 =>
      if b' = true then wSs b Γ1 s1 { K with nx := fun Γ' s' => ∃ m', m' < m ∧ W m' Γ' s', ct := fun Γ' s' => ∃ m', m' < m ∧ W m' Γ' s', bk := K.nx } else K.nx Γ1 s1
  | .for tg it b, Γ, s, K => wJ K.ex it Γ s fun xs Γ1 s1 => xs.length ≤ big ∧ fLoop (fun x Γ s K' => bindT tg x Γ fun Γ' => wSs b Γ' s K') K xs Γ1 s1
def wSs : Sms S → Ctx → S → Kn S → Prop
  | .nil, Γ, s, K => K.nx Γ s
  | .cons st r, Γ, s, K => wS st Γ s { K with nx := fun Γ' s' => wSs r Γ' s' K }
end
end
end Ac
namespace Ac
open PySem PySem.Spec PyProof.Rows L2

/-! ### data in a heap -/
mutual
inductive Rp (F : Hp) : V → D → Prop
  | non : Rp F .non .none
  | bl (b : Bool) : Rp F (.bl b) (.bool b)
  | int (i : Int) : Rp F (.int i) (.int i)
  | str (x : Str) : Rp F (.str x) (.str x)
  | lst {a : Addr} {vs : List V} {ds : List D} : Rd F a (.lst vs) → RpL F vs ds → Rp F (.ref a) (.list ds)
  | tup {a : Addr} {vs : List V} {ds : List D} : F a = some (.tup vs) → RpL F vs ds → Rp F (.ref a) (.tuple ds)
  | dic {a : Addr} {kvs : List (Key × V)} {es : List (D × D)} : F a = some (.dK kvs) → RpK F kvs es → Rp F (.ref a) (.dict es)
inductive RpL (F : Hp) : List V → List D → Prop
  | nil : RpL F [] []
  | cons {v : V} {vs : List V} {d : D} {ds : List D} : Rp F v d → RpL F vs ds → RpL F (v :: vs) (d :: ds)
inductive RpK (F : Hp) : List (Key × V) → List (D × D) → Prop
  | nil : RpK F [] []
  | cons {k : Key} {v : V} {r : List (Key × V)} {d : D} {ds : List (D × D)} : Rp F v d → RpK F r ds → RpK F ((k, v) :: r) ((match k with | .inl i => .int i | .inr x => .str x, d) :: ds)
end
def Sub (F G : Hp) : Prop := ∀ a o, F a = some o → G a = some o
theorem Sub.refl (F : Hp) : Sub F F := fun _ _ h => h
theorem Sub.trans {F G H : Hp} (a : Sub F G) (b : Sub G H) : Sub F H := fun x o h => b x o (a x o h)
theorem Sub.rd {F G : Hp} (s : Sub F G) {a : Addr} {u : HO} (h : Rd F a u) : Rd G a u := by
  rcases h with h | ⟨o, h⟩
  · exact .inl (s _ _ h)
  · exact .inr ⟨o, s _ _ h⟩
mutual
theorem Rp.mono {F G : Hp} (s : Sub F G) : ∀ {v : V} {d : D}, Rp F v d → Rp G v d
  | _, _, .non => .non
  | _, _, .bl b => .bl b
  | _, _, .int i => .int i
  | _, _, .str x => .str x
  | _, _, .lst h r => .lst (s.rd h) (RpL.mono s r)
  | _, _, .tup h r => .tup (s _ _ h) (RpL.mono s r)
  | _, _, .dic h r => .dic (s _ _ h) (RpK.mono s r)
theorem RpL.mono {F G : Hp} (s : Sub F G) : ∀ {v : List V} {d : List D}, RpL F v d → RpL G v d
  | _, _, .nil => .nil
  | _, _, .cons h r => .cons (Rp.mono s h) (RpL.mono s r)
theorem RpK.mono {F G : Hp} (s : Sub F G) : ∀ {v : List (Key × V)} {d : List (D × D)}, RpK F v d → RpK G v d
  | _, _, .nil => .nil
  | _, _, .cons h r => .cons (Rp.mono s h) (RpK.mono s r)
end
theorem RpL.length {F : Hp} : ∀ {v : List V} {d : List D}, RpL F v d → v.length = d.length
  | _, _, .nil => rfl
  | _, _, .cons _ r => by rw [List.length_cons, List.length_cons, r.length]
theorem RpL.get {F : Hp} : ∀ {v : List V} {d : List D} {i : Nat} {y : D}, RpL F v d → d[i]? = some y → ∃ x, v[i]? = some x ∧ Rp F x y
  | _, _, _, _, .nil, e => by simp at e
  | _, _, 0, _, .cons h _, e => by simp at e; subst e; exact ⟨_, rfl, h⟩
  | _, _, i + 1, y, .cons _ t, e => by
    obtain ⟨u, h1, h2⟩ := RpL.get (i := i) (y := y) t (by simpa using e)
    exact ⟨u, by simpa using h1, h2⟩
theorem RpL.get' {F : Hp} : ∀ {v : List V} {d : List D} {i : Nat} {x : V}, RpL F v d → v[i]? = some x → ∃ y, d[i]? = some y ∧ Rp F x y
  | _, _, _, _, .nil, e => by simp at e
  | _, _, 0, _, .cons h _, e => by simp at e; subst e; exact ⟨_, rfl, h⟩
  | _, _, i + 1, y, .cons _ t, e => by
    obtain ⟨u, h1, h2⟩ := RpL.get' (i := i) (x := y) t (by simpa using e)
    exact ⟨u, by simpa using h1, h2⟩
theorem RpL.append {F : Hp} : ∀ {v w : List V} {d e : List D}, RpL F v d → RpL F w e → RpL F (v ++ w) (d ++ e)
  | _, _, _, _, .nil, s => s
  | _, _, _, _, .cons h r, s => .cons h (RpL.append r s)
theorem RpL.take {F : Hp} : ∀ {v : List V} {d : List D} (n : Nat), RpL F v d → RpL F (v.take n) (d.take n)
  | _, _, 0, _ => .nil
  | _, _, _ + 1, .nil => .nil
  | _, _, n + 1, .cons h r => .cons h (RpL.take n r)
theorem RpL.drop {F : Hp} : ∀ {v : List V} {d : List D} (n : Nat), RpL F v d → RpL F (v.drop n) (d.drop n)
  | _, _, 0, r => r
  | _, _, _ + 1, .nil => .nil
  | _, _, n + 1, .cons _ r => RpL.drop n r
theorem RpL.reverse {F : Hp} : ∀ {v : List V} {d : List D}, RpL F v d → RpL F v.reverse d.reverse
  | _, _, .nil => .nil
  | _, _, .cons h r => by rw [List.reverse_cons, List.reverse_cons]; exact (RpL.reverse r).append (.cons h .nil)
theorem RpL.set {F : Hp} {x : V} {y : D} (h : Rp F x y) : ∀ {v : List V} {d : List D} (i : Nat), RpL F v d → RpL F (v.set i x) (d.set i y)
  | _, _, _, .nil => .nil
  | _, _, 0, .cons _ r => .cons h r
  | _, _, i + 1, .cons q r => .cons q (RpL.set h i r)
theorem RpL.rep {F : Hp} {v : List V} {d : List D} (h : RpL F v d) : ∀ n : Nat, RpL F (List.replicate n v).flatten (List.replicate n d).flatten
  | 0 => .nil
  | n + 1 => by
    rw [List.replicate_succ, List.replicate_succ, List.flatten_cons, List.flatten_cons]
    exact h.append (RpL.rep h n)
theorem RpL.ints {F : Hp} : ∀ ns : List Int, RpL F (ns.map V.int) (ns.map PyData.int)
  | [] => .nil
  | n :: r => .cons (.int n) (RpL.ints r)
theorem intsD_map : ∀ ns : List Int, intsD (ns.map PyData.int) = some ns
  | [] => rfl
  | n :: r => by
    show (intsD (r.map PyData.int)).map (n :: ·) = _
    rw [intsD_map r]
    rfl
theorem intsD_eq : ∀ {xs : List D} {ns : List Int}, intsD xs = some ns → xs = ns.map PyData.int
  | [], ns, h => by cases h; rfl
  | .int i :: r, ns, h => by
    have h' : (intsD r).map (i :: ·) = some ns := h
    cases e : intsD r with
    | none => rw [e] at h'; cases h'
    | some ms =>
      rw [e] at h'
      cases h'
      rw [intsD_eq e]
      rfl
  | .none :: _, _, h => by cases h
  | .bool _ :: _, _, h => by cases h
  | .str _ :: _, _, h => by cases h
  | .list _ :: _, _, h => by cases h
  | .tuple _ :: _, _, h => by cases h
  | .dict _ :: _, _, h => by cases h
theorem RpL.of_ints {F : Hp} : ∀ {vs : List V} {ns : List Int}, RpL F vs (ns.map PyData.int) → vs = ns.map V.int
  | _, [], .nil => rfl
  | _, n :: r, .cons h t => by
    cases h
    rw [RpL.of_ints t]
    rfl

/-! ### handles -/
/-- a model of things with a state: S what is told of them, A where they lie -/
structure RM where
  S : Type
  A : Type
  ok : A → S → Hp → Prop
  ft : A → Addr → Prop
  hd : A → Nat → V → Prop
  le : A → A → Prop
  le_refl : ∀ a, le a a
  le_trans : ∀ {a b c}, le a b → le b c → le a c
  le_ft : ∀ {a b p}, le a b → ft a p → ft b p
  le_hd : ∀ {a b k v}, le a b → hd a k v → hd b k v
  ex : ∀ {a s H p}, ok a s H → ft a p → H p ≠ none
  frame : ∀ {a s H H'}, ok a s H → (∀ p, ft a p → H' p = H p) → ok a s H'
/-- none -/
def rm0 : RM where
  S := Unit
  A := Unit
  ok := fun _ _ _ => True
  ft := fun _ _ => False
  hd := fun _ _ _ => False
  le := fun _ _ => True
  le_refl := fun _ => trivial
  le_trans := fun _ _ => trivial
  le_ft := fun _ h => h
  le_hd := fun _ h => h
  ex := fun _ h => h.elim
  frame := fun _ _ => trivial

structure Fx (rm : RM) where
  L : Hp
  F0 : Hp
  A0 : rm.A
variable {rm : RM}
/-- what a slot holds -/
def SV (fx : Fx rm) (H F : Hp) (A : rm.A) (x : V) : Val → Prop
  | .dat d => Rp F x d
  | .own xs => ∃ a vs, x = .ref a ∧ H a = some (.lst vs) ∧ F a = none ∧ ¬ rm.ft A a ∧ fx.L a = none ∧ RpL F vs xs
  | .new _ => False
  | .hdl k => rm.hd A k x
structure SR (fx : Fx rm) (σ : L2.St) (H : Hp) (Γ : Ctx) (s : rm.S) (F : Hp) (A : rm.A) : Prop where
  fh : Sub F H
  fz : ∀ a o, F a = some o → ¬ rm.ft A a
  f0 : Sub fx.F0 F
  lk : ∀ a o, fx.L a = some o → H a = some o ∧ F a = none ∧ ¬ rm.ft A a
  a0 : rm.le fx.A0 A
  ok : rm.ok A s H
  ln : Γ.length = σ.length
  sl : ∀ i v, look Γ i = some v → ∃ x, σ[i]? = some (some x) ∧ SV fx H F A x v
  dj : ∀ i j a xs ys, look Γ i = some (.own xs) → look Γ j = some (.own ys) → σ[i]? = some (some (V.ref a)) → σ[j]? = some (some (V.ref a)) → i = j
/-- what stood (but what handles reach) stands -/
def HX (H : Hp) (A : rm.A) (H' : Hp) (A' : rm.A) : Prop := rm.le A A' ∧ ∀ a o, H a = some o → ¬ rm.ft A a → H' a = some o ∧ ¬ rm.ft A' a
theorem HX.refl (H : Hp) (A : rm.A) : HX H A H A := ⟨rm.le_refl A, fun _ _ h n => ⟨h, n⟩⟩
theorem HX.trans {H H1 H2 : Hp} {A A1 A2 : rm.A} (a : HX H A H1 A1) (b : HX H1 A1 H2 A2) : HX H A H2 A2 := ⟨rm.le_trans a.1 b.1, fun p o h n => let ⟨h1, n1⟩ := a.2 p o h n; b.2 p o h1 n1⟩
/-- a value that an expression gives -/
def RV (fx : Fx rm) (σ : L2.St) (H F : Hp) (A : rm.A) (Γ : Ctx) (x : V) : Val → Prop
  | .dat d => Rp F x d
  | .own _ => False
  | .new xs => ∃ p vs, x = .ref p ∧ H p = some (.lst vs) ∧ F p = none ∧ ¬ rm.ft A p ∧ fx.L p = none ∧ RpL F vs xs ∧ ∀ i ys, look Γ i = some (.own ys) → σ[i]? ≠ some (some (V.ref p))
  | .hdl k => rm.hd A k x
/-- an operand: its things stay -/
def Ro (H F : Hp) (A : rm.A) (x : V) (d : D) : Prop := Rp F x d ∨ ∃ a vs ds, x = V.ref a ∧ d = .list ds ∧ H a = some (.lst vs) ∧ ¬ rm.ft A a ∧ RpL F vs ds
theorem Ro.mono {H H' F F' : Hp} {A A' : rm.A} {x : V} {d : D} (h : Ro H F A x d) (hx : HX H A H' A') (fx : Sub F F') : Ro H' F' A' x d := by
  rcases h with h | ⟨a, vs, ds, e1, e2, e3, e4, e5⟩
  · exact .inl (h.mono fx)
  · exact .inr ⟨a, vs, ds, e1, e2, (hx.2 _ _ e3 e4).1, (hx.2 _ _ e3 e4).2, e5.mono fx⟩
/-- a list operand, seen in the heap -/
theorem Ro.lst {H F : Hp} {A : rm.A} {x : V} {ds : List D} (fh : Sub F H) (h : Ro H F A x (.list ds)) : ∃ a vs, x = V.ref a ∧ Rd H a (.lst vs) ∧ RpL F vs ds := by
  rcases h with h | ⟨a, vs, ds', e1, e2, e3, _, e5⟩
  · cases h with
    | lst h r => exact ⟨_, _, rfl, fh.rd h, r⟩
  · cases e2
    exact ⟨a, vs, e1, .inl e3, e5⟩
theorem Ro.flat {H F : Hp} {A : rm.A} {x : V} {d : D} (h : Ro H F A x d) (hd : ∀ ds, d ≠ .list ds) : Rp F x d := by
  rcases h with h | ⟨a, vs, ds, _, e2, _⟩
  · exact h
  · exact absurd e2 (hd ds)

/-! ### slots -/
theorem look_put_same : ∀ {Γ : Ctx} {i : Nat} {v : Option Val}, i < Γ.length → look (put Γ i v) i = v
  | [], _, _, h => absurd h (Nat.not_lt_zero _)
  | _ :: _, 0, _, _ => rfl
  | _ :: r, i + 1, v, h => look_put_same (Γ := r) (i := i) (v := v) (Nat.lt_of_succ_lt_succ h)
theorem look_put_ne : ∀ {Γ : Ctx} {i j : Nat} {v : Option Val}, j ≠ i → look (put Γ i v) j = look Γ j
  | [], _, _, _, _ => rfl
  | _ :: _, 0, 0, _, h => absurd rfl h
  | _ :: _, 0, j + 1, _, _ => rfl
  | _ :: _, i + 1, 0, _, _ => rfl
  | _ :: r, i + 1, j + 1, v, h => look_put_ne (Γ := r) (i := i) (j := j) (v := v) (fun e => h (by rw [e]))
theorem put_length : ∀ {Γ : Ctx} {i : Nat} {v : Option Val}, (put Γ i v).length = Γ.length
  | [], _, _ => rfl
  | _ :: _, 0, _ => rfl
  | _ :: r, i + 1, v => by
    show (put r i v).length + 1 = r.length + 1
    rw [put_length]
theorem look_lt : ∀ {Γ : Ctx} {i : Nat} {v : Val}, look Γ i = some v → i < Γ.length
  | [], _, _, h => by cases h
  | _ :: _, 0, _, _ => Nat.succ_pos _
  | _ :: r, i + 1, v, h => Nat.succ_lt_succ (look_lt (Γ := r) (i := i) (v := v) h)
theorem look_put {Γ : Ctx} {i j : Nat} {v : Option Val} {w : Val} (h : look (put Γ i v) j = some w) : (j = i ∧ v = some w) ∨ (j ≠ i ∧ look Γ j = some w) := by
  by_cases e : j = i
  · subst e
    have hl := look_lt h
    rw [put_length] at hl
    rw [look_put_same hl] at h
    exact .inl ⟨rfl, h⟩
  · rw [look_put_ne e] at h
    exact .inr ⟨e, h⟩
end Ac
namespace Ac
open PySem PySem.Spec PyProof.Rows L2
variable {rm : RM} {fx : Fx rm} {σ : L2.St} {H F : Hp} {Γ : Ctx} {s : rm.S} {A : rm.A}

/-! ### the state's lemmas -/
theorem upd_sub {H : Hp} {p : Addr} {o : HO} (h : H p = none) : Sub H (upd H p o) := fun a u e => by
  rw [upd_ne (ne_of_none e h)]
  exact e
theorem SR.alloc (R : SR fx σ H Γ s F A) {p : Addr} {o : HO} (hp : H p = none) : SR fx σ (upd H p o) Γ s F A where
  fh := fun a u e => upd_sub hp a u (R.fh a u e)
  fz := R.fz
  f0 := R.f0
  lk := fun a u e => ⟨upd_sub hp a u (R.lk a u e).1, (R.lk a u e).2⟩
  a0 := R.a0
  ok := rm.frame R.ok fun q hq => upd_ne fun e => rm.ex R.ok hq (by rw [e]; exact hp)
  ln := R.ln
  sl := fun i v e => by
    obtain ⟨x, h1, h2⟩ := R.sl i v e
    refine ⟨x, h1, ?_⟩
    cases v with
    | dat d => exact h2
    | own xs =>
      obtain ⟨a, vs, e1, e2, e3⟩ := h2
      exact ⟨a, vs, e1, upd_sub hp _ _ e2, e3⟩
    | new xs => exact h2
    | hdl k => exact h2
  dj := R.dj
theorem SR.hx (R : SR fx σ H Γ s F A) {p : Addr} {o : HO} (hp : H p = none) : HX H A (upd H p o) A := ⟨rm.le_refl A, fun a u e n => ⟨upd_sub hp a u e, n⟩⟩
theorem SR.nft (R : SR fx σ H Γ s F A) {p : Addr} (hp : H p = none) : ¬ rm.ft A p := fun h => rm.ex R.ok h hp
theorem SR.nF (R : SR fx σ H Γ s F A) {p : Addr} (hp : H p = none) : F p = none := by
  cases e : F p with
  | none => rfl
  | some o => rw [R.fh p o e] at hp; cases hp
theorem SR.nL (R : SR fx σ H Γ s F A) {p : Addr} (hp : H p = none) : fx.L p = none := by
  cases e : fx.L p with
  | none => rfl
  | some o => rw [(R.lk p o e).1] at hp; cases hp
/-- nothing of one's own at a place -/
def NoOwn (σ : L2.St) (Γ : Ctx) (p : Addr) : Prop := ∀ i ys, look Γ i = some (.own ys) → σ[i]? ≠ some (some (V.ref p))
theorem SR.noOwn (R : SR fx σ H Γ s F A) {p : Addr} (hp : H p = none) : NoOwn σ Γ p := fun i ys e z => by
  obtain ⟨x, h1, a, vs, e1, e2, _⟩ := R.sl i _ e
  rw [z] at h1
  cases h1
  cases e1
  rw [hp] at e2
  cases e2
/-- a thing is handed over to what stays -/
theorem SR.frz (R : SR fx σ H Γ s F A) {p : Addr} {o : HO} (hp : H p = some o) (hf : F p = none) (hz : ¬ rm.ft A p) (hl : fx.L p = none) (no : NoOwn σ Γ p) : SR fx σ H Γ s (upd F p o) A where
  fh := fun a u e => by
    by_cases h : a = p
    · subst h; rw [upd_same] at e; cases e; exact hp
    · rw [upd_ne h] at e; exact R.fh a u e
  fz := fun a u e => by
    by_cases h : a = p
    · subst h; exact hz
    · rw [upd_ne h] at e; exact R.fz a u e
  f0 := fun a u e => upd_sub hf a u (R.f0 a u e)
  lk := fun a u e => by
    have h : a ≠ p := fun z => by rw [z, hl] at e; cases e
    rw [upd_ne h]
    exact R.lk a u e
  a0 := R.a0
  ok := R.ok
  ln := R.ln
  sl := fun i v e => by
    obtain ⟨x, h1, h2⟩ := R.sl i v e
    refine ⟨x, h1, ?_⟩
    cases v with
    | dat d => exact Rp.mono (upd_sub hf) h2
    | own xs =>
      obtain ⟨a, vs, e1, e2, e3, e4, e5, e6⟩ := h2
      have h : a ≠ p := fun z => by rw [e1, z] at h1; exact no i xs e h1
      exact ⟨a, vs, e1, e2, by rw [upd_ne h]; exact e3, e4, e5, e6.mono (upd_sub hf)⟩
    | new xs => exact h2
    | hdl k => exact h2
  dj := R.dj
/-- a new thing that stays -/
theorem SR.lay (R : SR fx σ H Γ s F A) {p : Addr} {o : HO} (hp : H p = none) : SR fx σ (upd H p o) Γ s (upd F p o) A :=
  (R.alloc hp).frz upd_same (R.nF hp) (R.nft hp) (R.nL hp) (R.noOwn hp)
/-- a slot is stored -/
theorem SR.put (R : SR fx σ H Γ s F A) {i : Nat} {x : V} {v : Option Val} (h : ∀ w, v = some w → SV fx H F A x w)
    (hd : ∀ xs a, v = some (.own xs) → x = V.ref a → ∀ j ys, j ≠ i → look Γ j = some (.own ys) → σ[j]? ≠ some (some (V.ref a))) : SR fx (σ.set i (some x)) H (put Γ i v) s F A where
  fh := R.fh
  fz := R.fz
  f0 := R.f0
  lk := R.lk
  a0 := R.a0
  ok := R.ok
  ln := by rw [put_length, List.length_set]; exact R.ln
  sl := fun j w e => by
    rcases look_put e with ⟨rfl, rfl⟩ | ⟨ne, e'⟩
    · have hl := look_lt e
      rw [put_length, R.ln] at hl
      exact ⟨x, by rw [List.getElem?_set_self hl], h w rfl⟩
    · obtain ⟨y, h1, h2⟩ := R.sl j w e'
      exact ⟨y, by rw [List.getElem?_set_ne (Ne.symm ne)]; exact h1, h2⟩
  dj := fun j k a xs ys e1 e2 s1 s2 => by
    rcases look_put e1 with ⟨rfl, rfl⟩ | ⟨n1, e1'⟩
    · have hl := look_lt e1
      rw [put_length, R.ln] at hl
      rcases look_put e2 with ⟨rfl, _⟩ | ⟨n2, e2'⟩
      · rfl
      · rw [List.getElem?_set_self hl] at s1
        cases s1
        rw [List.getElem?_set_ne (Ne.symm n2)] at s2
        exact absurd s2 (hd xs a rfl rfl k ys n2 e2')
    · rcases look_put e2 with ⟨rfl, rfl⟩ | ⟨n2, e2'⟩
      · have hl := look_lt e2
        rw [put_length, R.ln] at hl
        rw [List.getElem?_set_self hl] at s2
        cases s2
        rw [List.getElem?_set_ne (Ne.symm n1)] at s1
        exact absurd s1 (hd ys a rfl rfl j xs n1 e1')
      · rw [List.getElem?_set_ne (Ne.symm n1)] at s1
        rw [List.getElem?_set_ne (Ne.symm n2)] at s2
        exact R.dj j k a xs ys e1' e2' s1 s2
theorem SR.putD (R : SR fx σ H Γ s F A) {i : Nat} {x : V} {d : D} (h : Rp F x d) : SR fx (σ.set i (some x)) H (Ac.put Γ i (some (.dat d))) s F A :=
  R.put (fun w e => by cases e; exact h) (fun xs a e => nomatch e)
theorem SR.putH (R : SR fx σ H Γ s F A) {i : Nat} {x : V} {k : Nat} (h : rm.hd A k x) : SR fx (σ.set i (some x)) H (Ac.put Γ i (some (.hdl k))) s F A :=
  R.put (fun w e => by cases e; exact h) (fun xs a e => nomatch e)
theorem SR.putN (R : SR fx σ H Γ s F A) {i : Nat} {x : V} : SR fx (σ.set i (some x)) H (Ac.put Γ i none) s F A :=
  R.put (fun w e => nomatch e) (fun xs a e => nomatch e)
/-- a value goes to a slot -/
theorem SR.putV (R : SR fx σ H Γ s F A) {i : Nat} {x : V} {v : Val} (h : RV fx σ H F A Γ x v) : SR fx (σ.set i (some x)) H (Ac.put Γ i (slotV v)) s F A := by
  cases v with
  | dat d => exact R.putD h
  | own xs => exact h.elim
  | new xs =>
    obtain ⟨p, vs, e1, e2, e3, e4, e5, e6, e7⟩ := h
    exact R.put (fun w e => by cases e; exact ⟨p, vs, e1, e2, e3, e4, e5, e6⟩) (fun ys a e ea j zs ne ej => by rw [e1] at ea; cases ea; exact e7 j zs ej)
  | hdl k => exact R.putH h
/-- a name is forgotten -/
theorem SR.drop (R : SR fx σ H Γ s F A) {i : Nat} : SR fx σ H (Ac.put Γ i none) s F A where
  fh := R.fh
  fz := R.fz
  f0 := R.f0
  lk := R.lk
  a0 := R.a0
  ok := R.ok
  ln := by rw [put_length]; exact R.ln
  sl := fun j w e => by
    rcases look_put e with ⟨_, z⟩ | ⟨_, e'⟩
    · cases z
    · exact R.sl j w e'
  dj := fun j k a xs ys e1 e2 s1 s2 => by
    rcases look_put e1 with ⟨_, z⟩ | ⟨_, e1'⟩
    · cases z
    · rcases look_put e2 with ⟨_, z⟩ | ⟨_, e2'⟩
      · cases z
      · exact R.dj j k a xs ys e1' e2' s1 s2
theorem put_look : ∀ {Γ : Ctx} {i : Nat} {v : Option Val}, look Γ i = v → put Γ i v = Γ ∨ v = none
  | [], _, _, _ => .inl rfl
  | w :: r, 0, v, h => by
    cases v with
    | none => exact .inr rfl
    | some v =>
      left
      show some v :: r = w :: r
      have : w = some v := h
      rw [this]
  | w :: r, i + 1, v, h => by
    rcases put_look (Γ := r) (i := i) (v := v) h with e | e
    · left
      show w :: put r i v = w :: r
      rw [e]
    · exact .inr e
/-- a slot's list is handed over to what stays -/
theorem SR.frzOwn (R : SR fx σ H Γ s F A) {i : Nat} {xs : List D} (h : look Γ i = some (.own xs)) : ∃ a vs, σ[i]? = some (some (V.ref a)) ∧ H a = some (.lst vs) ∧ F a = none ∧ RpL F vs xs ∧ SR fx σ H (Ac.put Γ i (some (.dat (.list xs)))) s (upd F a (.lst vs)) A := by
  obtain ⟨x, h1, a, vs, rfl, e2, e3, e4, e5, e6⟩ := R.sl i _ h
  have no : NoOwn σ (Ac.put Γ i none) a := fun j ys ej z => by
    rcases look_put ej with ⟨_, q⟩ | ⟨ne, ej'⟩
    · cases q
    · exact ne (R.dj j i a ys xs ej' h z h1)
  have R2 := (R.drop (i := i)).frz e2 e3 e4 e5 no
  refine ⟨a, vs, h1, e2, e3, e6, ?_⟩
  have hl := look_lt h
  refine { fh := R2.fh, fz := R2.fz, f0 := R2.f0, lk := R2.lk, a0 := R2.a0, ok := R2.ok, ln := by rw [put_length]; exact R.ln, sl := fun j w e => ?_, dj := fun j k b ys zs e1 e2' s1 s2 => ?_ }
  · rcases look_put e with ⟨rfl, z⟩ | ⟨ne, e'⟩
    · cases z
      exact ⟨_, h1, .lst (.inl upd_same) (e6.mono (upd_sub e3))⟩
    · exact R2.sl j w (by rw [look_put_ne ne]; exact e')
  · rcases look_put e1 with ⟨_, z⟩ | ⟨n1, e1'⟩
    · cases z
    · rcases look_put e2' with ⟨_, z⟩ | ⟨n2, e2''⟩
      · cases z
      · exact R.dj j k b ys zs e1' e2'' s1 s2
/-- a value, made to stay -/
theorem SR.stay (R : SR fx σ H Γ s F A) {x : V} {v : Val} {k : D → Prop} (h : RV fx σ H F A Γ x v) (hk : asD v k) : ∃ d F', k d ∧ SR fx σ H Γ s F' A ∧ Sub F F' ∧ Rp F' x d := by
  cases v with
  | dat d => exact ⟨d, F, hk, R, Sub.refl F, h⟩
  | own xs => exact h.elim
  | new xs =>
    obtain ⟨p, vs, rfl, e2, e3, e4, e5, e6, e7⟩ := h
    exact ⟨_, upd F p (.lst vs), hk, R.frz e2 e3 e4 e5 e7, upd_sub e3, .lst (.inl upd_same) (e6.mono (upd_sub e3))⟩
  | hdl k' => exact hk.elim

/-! ### monotony -/
section
variable {S : Type}
theorem ite_mono {c : Bool} {P P' R R' : Prop} (h1 : P → P') (h2 : R → R') (q : if c = true then P else R) : if c = true then P' else R' := by
  cases c with
  | true => rw [if_pos rfl] at q ⊢; exact h1 q
  | false => rw [if_neg Bool.false_ne_true] at q ⊢; exact h2 q
theorem asD_mono {v : Val} {k k' : D → Prop} (h : ∀ d, k d → k' d) (q : asD v k) : asD v k' := by
  cases v with
  | dat d => exact h _ q
  | new xs => exact h _ q
  | own xs => exact q
  | hdl n => exact q
theorem boolD_mono {d : D} {k k' : Bool → Prop} (h : ∀ b, k b → k' b) (q : boolD d k) : boolD d k' := by
  cases d <;> first | exact h _ q | exact q.elim
theorem rdO_mono {v : Option Val} {k k' : D → Prop} (h : ∀ d, k d → k' d) (q : rdO v k) : rdO v k' := by
  cases v with
  | none => exact q
  | some v =>
    cases v with
    | dat d => exact h _ q
    | new xs => exact q
    | own xs => exact h _ q
    | hdl n => exact q
theorem opn_mono {a : E S} {wa : Ctx → S → (Val → Ctx → S → Prop) → Prop} (hw : ∀ (Γ : Ctx) (s : S) (Q Q' : Val → Ctx → S → Prop), (∀ v Γ' s', Q v Γ' s' → Q' v Γ' s') → wa Γ s Q → wa Γ s Q') {Γ : Ctx} {s : S} {Q Q' : D → Ctx → S → Prop}
    (h : ∀ d Γ' s', Q d Γ' s' → Q' d Γ' s') (q : opn a wa Γ s Q) : opn a wa Γ s Q' := by
  cases a with
  | var i => exact rdO_mono (fun d => h d Γ s) q
  | _ => exact hw _ _ _ _ (fun v Γ' s' q' => asD_mono (fun d => h d Γ' s') q') q
theorem ixD_mono {xs : List D} {i : Int} {k k' : D → Prop} (h : ∀ d, k d → k' d) (q : ixD xs i k) : ixD xs i k' := by
  unfold ixD at q ⊢
  split at q
  · exact h _ q
  · exact q.elim
theorem negX_mono {d : D} {k k' : Val → Prop} (h : ∀ v, k v → k' v) (q : negX d k) : negX d k' := by
  unfold negX at q ⊢
  split at q <;> first | exact h _ q | exact q.elim
theorem ixX_mono {x y : D} {k k' : D → Prop} (h : ∀ v, k v → k' v) (q : ixX x y k) : ixX x y k' := by
  unfold ixX at q ⊢
  split at q <;> first | exact ixD_mono h q | exact q.elim
theorem slX_mono {d : D} {l r : Option Int} {k k' : Val → Prop} (h : ∀ v, k v → k' v) (q : slX d l r k) : slX d l r k' := by
  unfold slX at q ⊢
  split at q <;> first | exact h _ q | exact q.elim
theorem rvX_mono {d : D} {k k' : Val → Prop} (h : ∀ v, k v → k' v) (q : rvX d k) : rvX d k' := by
  unfold rvX at q ⊢
  split at q <;> first | exact h _ q | exact q.elim
theorem repX_mono {ds : List D} {d : D} {k k' : Val → Prop} (h : ∀ v, k v → k' v) (q : repX ds d k) : repX ds d k' := by
  unfold repX at q ⊢
  split at q <;> first | exact ⟨q.1, h _ q.2⟩ | exact q.elim
theorem intX_mono {d : D} {k k' : Int → Prop} (h : ∀ v, k v → k' v) (q : intX d k) : intX d k' := by
  unfold intX at q ⊢
  split at q <;> first | exact h _ q | exact q.elim
theorem seqD_mono {d : D} {k k' : List D → Prop} (h : ∀ v, k v → k' v) (q : seqD d k) : seqD d k' := by
  unfold seqD at q ⊢
  split at q <;> first | exact h _ q | exact q.elim
theorem lstD_mono {d : D} {k k' : List D → Prop} (h : ∀ v, k v → k' v) (q : lstD d k) : lstD d k' := by
  unfold lstD at q ⊢
  split at q <;> first | exact h _ q | exact q.elim
theorem addD_mono {x y : D} {k k' : Val → Prop} (h : ∀ d, k d → k' d) (q : addD x y k) : addD x y k' := by
  unfold addD at q ⊢
  split at q <;> first | exact h _ q | exact ⟨q.1, h _ q.2⟩ | exact q.elim
theorem intD_mono {C : Int → Int → Prop} {f : Int → Int → Int} {x y : D} {k k' : Val → Prop} (h : ∀ d, k d → k' d) (q : intD C f x y k) : intD C f x y k' := by
  unfold intD at q ⊢
  split at q <;> first | exact ⟨q.1, h _ q.2⟩ | exact q.elim
theorem subD_mono {x y : D} {k k' : Val → Prop} (h : ∀ d, k d → k' d) (q : subD x y k) : subD x y k' := by
  unfold subD at q ⊢
  split at q <;> first | exact h _ q | exact q.elim
theorem opD_mono {o : Operator} {x y : D} {k k' : Val → Prop} (h : ∀ d, k d → k' d) (q : opD o x y k) : opD o x y k' := by
  cases o <;> first | exact addD_mono h q | exact subD_mono h q | exact intD_mono h q | exact False.elim q
theorem eqD_mono {x y : D} {k k' : Bool → Prop} (h : ∀ d, k d → k' d) (q : eqD x y k) : eqD x y k' := by
  unfold eqD at q ⊢
  split at q <;> first | exact h _ q | exact ⟨q.1, q.2.1, h _ q.2.2⟩
theorem relD_mono {f : Int → Int → Bool} {x y : D} {k k' : Val → Prop} (h : ∀ d, k d → k' d) (q : relD f x y k) : relD f x y k' := by
  unfold relD at q ⊢
  split at q <;> first | exact h _ q | exact q.elim
theorem memD_mono {f : Bool} {x y : D} {k k' : Val → Prop} (h : ∀ d, k d → k' d) (q : memD f x y k) : memD f x y k' := by
  unfold memD at q ⊢
  split at q <;> first | exact ⟨q.1, q.2.1, h _ q.2.2⟩ | exact q.elim (fun z => .inl ⟨z.1, z.2.1, h _ z.2.2⟩) (fun z => .inr ⟨z.1, z.2.1, z.2.2.1, h _ z.2.2.2⟩) | exact False.elim q
theorem cmpD_mono {o : CmpOp} {x y : D} {k k' : Val → Prop} (h : ∀ d, k d → k' d) (q : cmpD o x y k) : cmpD o x y k' := by
  cases o <;> first | exact eqD_mono (x := x) (y := y) (k := fun b => k (.dat (.bool b))) (k' := fun b => k' (.dat (.bool b))) (fun b => h _) q | exact eqD_mono (x := x) (y := y) (k := fun b => k (.dat (.bool (!b)))) (k' := fun b => k' (.dat (.bool (!b)))) (fun b => h _) q | exact relD_mono h q | exact memD_mono h q | exact False.elim q
theorem biD_mono {b : BI} {ds : List D} {k k' : Val → Prop} (h : ∀ d, k d → k' d) (q : biD b ds k) : biD b ds k' := by
  cases b <;> dsimp only [biD] at q ⊢
  case len => unfold lenD at q ⊢; split at q <;> first | exact h _ q | exact ⟨q.1, h _ q.2⟩ | exact q.elim
  case min2 => unfold int2D at q ⊢; split at q <;> first | exact h _ q | exact q.elim
  case max2 => unfold int2D at q ⊢; split at q <;> first | exact h _ q | exact q.elim
  case minL => unfold minLD at q ⊢; split at q <;> first | (obtain ⟨ns, e1, e2, e3⟩ := q; exact ⟨ns, e1, e2, fun m a b => h _ (e3 m a b)⟩) | exact q.elim
  case maxL => unfold maxLD at q ⊢; split at q <;> first | (obtain ⟨ns, e1, e2, e3⟩ := q; exact ⟨ns, e1, e2, fun m a b => h _ (e3 m a b)⟩) | exact q.elim
  case sum => unfold sumD at q ⊢; split at q <;> first | (obtain ⟨ns, e1, e2⟩ := q; exact ⟨ns, e1, h _ e2⟩) | exact q.elim
  case sorted => unfold sortedD at q ⊢; split at q <;> first | (obtain ⟨ns, e1, e2⟩ := q; exact ⟨ns, e1, fun m a b => h _ (e2 m a b)⟩) | exact q.elim
  case list => unfold listD at q ⊢; split at q <;> first | exact h _ q | exact q.elim
  case tuple => unfold tupleD at q ⊢; split at q <;> first | exact h _ q | exact q.elim
  case abs => unfold absD at q ⊢; split at q <;> first | exact h _ q | exact q.elim
  case int => unfold toIntD at q ⊢; split at q <;> first | exact h _ q | exact q.elim
  case str => unfold toStrD at q ⊢; split at q <;> first | exact ⟨q.1, h _ q.2⟩ | exact q.elim
  case sortP => unfold sortPD at q ⊢; split at q <;> first | (obtain ⟨ns, e1, e2⟩ := q; exact ⟨ns, e1, fun m a b => h _ (e2 m a b)⟩) | exact q.elim
  case repr => unfold reprD at q ⊢; split at q <;> first | exact ⟨q.1, h _ q.2⟩ | exact q.elim
  case dictP => unfold dictPD at q ⊢; split at q <;> first | (obtain ⟨ns, e1, e2⟩ := q; exact ⟨ns, e1, fun m a b => h _ (e2 m a b)⟩) | exact q.elim
  all_goals (unfold isD at q ⊢; split at q <;> first | exact h _ q | exact q.elim)
theorem keyD_mono {d : D} {k k' : Key → Prop} (h : ∀ b, k b → k' b) (q : keyD d k) : keyD d k' := by
  cases d <;> first | exact h _ q | exact q.elim
theorem mtD_mono {m : MT} {x : D} {ds : List D} {k k' : Val → Prop} (h : ∀ d, k d → k' d) (q : mtD m x ds k) : mtD m x ds k' := by
  cases m
  dsimp only [mtD] at q ⊢
  unfold indexD at q ⊢
  split at q
  · obtain ⟨ns, e, q⟩ := q
    refine ⟨ns, e, ?_⟩
    split at q
    · rename_i j ej
      exact h _ q
    · exact q.elim
  · exact q.elim
theorem srtSX_mono {d : D} {k k' : Val → Prop} (h : ∀ v, k v → k' v) (q : srtSX d k) : srtSX d k' := by
  unfold srtSX at q ⊢
  split at q <;> first | (obtain ⟨ns, e1, e2, e3, e4⟩ := q; exact ⟨ns, e1, e2, e3, fun m a b => h _ (e4 m a b)⟩) | exact q.elim
theorem lenSX_mono {d : D} {k k' : Val → Prop} (h : ∀ v, k v → k' v) (q : lenSX d k) : lenSX d k' := by
  unfold lenSX at q ⊢
  split at q <;> first | (obtain ⟨ns, e1, e2, e4⟩ := q; exact ⟨ns, e1, e2, fun m a b => h _ (e4 m a b)⟩) | exact q.elim
theorem rngD_mono {ds : List D} {k k' : List D → Prop} (h : ∀ d, k d → k' d) (q : rngD ds k) : rngD ds k' := by
  unfold rngD at q ⊢
  split at q <;> first | exact ⟨q.1, h _ q.2⟩ | exact ⟨q.1, q.2.1, h _ q.2.2⟩ | exact q.elim
theorem putAll_mono {k k' : Ctx → Prop} (h : ∀ d, k d → k' d) : ∀ {is : List Nat} {ds : List D} {Γ : Ctx}, putAll is ds Γ k → putAll is ds Γ k'
  | [], [], _, q => h _ q
  | [], _ :: _, _, q => q.elim
  | _ :: _, [], _, q => q.elim
  | _ :: is, _ :: ds, _, q => putAll_mono h (is := is) (ds := ds) q
theorem bindT_mono {tg : Tg} {x : D} {Γ : Ctx} {k k' : Ctx → Prop} (h : ∀ d, k d → k' d) (q : bindT tg x Γ k) : bindT tg x Γ k' := by
  unfold bindT at q ⊢
  split at q <;> first | exact h _ q | exact putAll_mono h q | exact q.elim
theorem cLoop_mono {f : D → Ctx → S → (Option D → Ctx → S → Prop) → Prop} (hf : ∀ (x : D) (Γ : Ctx) (s : S) (k k' : Option D → Ctx → S → Prop), (∀ o Γ' s', k o Γ' s' → k' o Γ' s') → f x Γ s k → f x Γ s k')
    {k k' : List D → Ctx → S → Prop} (h : ∀ o Γ' s', k o Γ' s' → k' o Γ' s') : ∀ {xs : List D} {Γ : Ctx} {s : S} {acc : List D}, cLoop f xs Γ s acc k → cLoop f xs Γ s acc k'
  | [], _, _, _, q => h _ _ _ q
  | x :: r, Γ, s, acc, q => hf _ _ _ _ _ (fun o Γ' s' q' => cLoop_mono hf h (xs := r) q') q
theorem popW_mono {i : Nat} {Γ : Ctx} {o : (D → Ctx → S → Prop) → Prop} {Q Q' : Val → Ctx → S → Prop} (ho : ∀ k k', (∀ d Γ' s', k d Γ' s' → k' d Γ' s') → o k → o k') (h : ∀ v Γ' s', Q v Γ' s' → Q' v Γ' s') (q : popW i Γ o Q) : popW i Γ o Q' := by
  unfold popW at q ⊢
  split at q
  · refine ho _ _ (fun x Γ1 s1 q => ?_) q
    split at q
    · split at q
      · exact ⟨q.1, h _ _ _ q.2⟩
      · exact q.elim
    · exact q.elim
  · exact q.elim
mutual
theorem wE_mono : ∀ {xc : Nat → Ctx → S → Prop} (c : E S) {Γ : Ctx} {s : S} {Q Q' : Val → Ctx → S → Prop}, (∀ v Γ' s', Q v Γ' s' → Q' v Γ' s') → wE xc c Γ s Q → wE xc c Γ s Q'
  | xc, .var i, Γ, s, Q, Q', h, q => by
    unfold wE at q ⊢
    split at q <;> first | exact h _ _ _ q | exact q.elim
  | xc, .non, _, _, _, _, h, q => by unfold wE at q ⊢; exact h _ _ _ q
  | xc, .bl _, _, _, _, _, h, q => by unfold wE at q ⊢; exact h _ _ _ q
  | xc, .int _, _, _, _, _, h, q => by unfold wE at q ⊢; exact h _ _ _ q
  | xc, .str _, _, _, _, _, h, q => by unfold wE at q ⊢; exact h _ _ _ q
  | xc, .glb _ _, _, _, _, _, h, q => by unfold wE at q ⊢; exact h _ _ _ q
  | xc, .op o a b, _, _, _, _, h, q => by
    unfold wE at q ⊢
    exact opn_mono (wa := wE xc a) (fun _ _ _ _ => wE_mono a) (fun x Γ1 s1 => opn_mono (wa := wE xc b) (fun _ _ _ _ => wE_mono b) fun y Γ2 s2 => opD_mono fun v => h v Γ2 s2) q
  | xc, .neg a, _, _, _, _, h, q => by
    unfold wE at q ⊢
    exact opn_mono (wa := wE xc a) (fun _ _ _ _ => wE_mono a) (fun x Γ1 s1 => negX_mono fun v => h v Γ1 s1) q
  | xc, .nt a, _, _, _, _, h, q => by
    unfold wE at q ⊢
    exact opn_mono (wa := wE xc a) (fun _ _ _ _ => wE_mono a) (fun x Γ1 s1 => boolD_mono fun b => h _ _ _) q
  | xc, .an a b, _, _, _, _, h, q => by
    unfold wE at q ⊢
    exact opn_mono (wa := wE xc a) (fun _ _ _ _ => wE_mono a) (fun x Γ1 s1 => boolD_mono fun c => ite_mono (opn_mono (wa := wE xc b) (fun _ _ _ _ => wE_mono b) (fun y Γ2 s2 => boolD_mono fun d => h _ _ _)) (h _ _ _)) q
  | xc, .or a b, _, _, _, _, h, q => by
    unfold wE at q ⊢
    exact opn_mono (wa := wE xc a) (fun _ _ _ _ => wE_mono a) (fun x Γ1 s1 => boolD_mono fun c => ite_mono (h _ _ _) (opn_mono (wa := wE xc b) (fun _ _ _ _ => wE_mono b) (fun y Γ2 s2 => boolD_mono fun d => h _ _ _))) q
  | xc, .cmp o a b, _, _, _, _, h, q => by
    unfold wE at q ⊢
    exact opn_mono (wa := wE xc a) (fun _ _ _ _ => wE_mono a) (fun x Γ1 s1 => opn_mono (wa := wE xc b) (fun _ _ _ _ => wE_mono b) fun y Γ2 s2 => cmpD_mono fun v => h v Γ2 s2) q
  | xc, .ch o o' a b c, _, _, _, _, h, q => by
    unfold wE at q ⊢
    exact opn_mono (wa := wE xc a) (fun _ _ _ _ => wE_mono a) (fun x Γ1 s1 => opn_mono (wa := wE xc b) (fun _ _ _ _ => wE_mono b) (fun y Γ2 s2 => cmpD_mono fun v => asD_mono fun d => boolD_mono fun k => ite_mono (opn_mono (wa := wE xc c) (fun _ _ _ _ => wE_mono c) (fun z Γ3 s3 => cmpD_mono fun v => h v Γ3 s3)) (h _ _ _))) q
  | xc, .isn p a, _, _, _, _, h, q => by
    unfold wE at q ⊢
    exact opn_mono (wa := wE xc a) (fun _ _ _ _ => wE_mono a) (fun x Γ1 s1 q => h _ _ _ q) q
  | xc, .isb p b a, _, _, _, _, h, q => by
    unfold wE at q ⊢
    exact opn_mono (wa := wE xc a) (fun _ _ _ _ => wE_mono a) (fun x Γ1 s1 => boolD_mono fun b => h _ _ _) q
  | xc, .ix a b, _, _, _, _, h, q => by
    unfold wE at q ⊢
    exact opn_mono (wa := wE xc a) (fun _ _ _ _ => wE_mono a) (fun x Γ1 s1 => opn_mono (wa := wE xc b) (fun _ _ _ _ => wE_mono b) fun y Γ2 s2 => ixX_mono fun d => h _ Γ2 s2) q
  | xc, .sl a lo hi, _, _, _, _, h, q => by
    unfold wE at q ⊢
    exact opn_mono (wa := wE xc a) (fun _ _ _ _ => wE_mono a) (fun x Γ1 s1 => wP_mono lo fun l Γ2 s2 => wP_mono hi fun l2 Γ3 s3 => slX_mono fun v => h v Γ3 s3) q
  | xc, .rv a, _, _, _, _, h, q => by
    unfold wE at q ⊢
    exact opn_mono (wa := wE xc a) (fun _ _ _ _ => wE_mono a) (fun x Γ1 s1 => rvX_mono fun v => h v Γ1 s1) q
  | xc, .ls es, _, _, _, _, h, q => by
    unfold wE at q ⊢
    exact wX_mono es (fun ds Γ1 s1 q => ⟨q.1, h _ _ _ q.2⟩) q
  | xc, .tp es, _, _, _, _, h, q => by
    unfold wE at q ⊢
    exact wX_mono es (fun ds Γ1 s1 q => ⟨q.1, h _ _ _ q.2⟩) q
  | xc, .rep es b, _, _, _, _, h, q => by
    unfold wE at q ⊢
    exact wX_mono es (fun ds Γ1 s1 q => ⟨q.1, opn_mono (wa := wE xc b) (fun _ _ _ _ => wE_mono b) (fun x Γ1 s1 => repX_mono fun v => h v Γ1 s1) q.2⟩) q
  | xc, .comp own tg it c e, _, _, _, _, h, q => by
    unfold wE at q ⊢
    refine wI_mono it (fun xs Γ1 s1 q => ⟨q.1, ?_⟩) q
    refine cLoop_mono ?_ (fun ys Γ' s' => h (.new ys) (backG Γ1 own Γ') s') q.2
    intro x Γ s k k' hk
    exact bindT_mono fun Γ' => wC_mono c fun b Γ2 s2 q => ite_mono (wE_mono e (fun v Γ3 s3 => asD_mono fun d => hk _ _ _)) (hk _ _ _) q
  | xc, .call _ φ es, _, _, _, _, h, q => by
    unfold wE at q ⊢
    exact wA_mono es (fun ds Γ1 s1 q => ⟨q.1, φ.mono (fun v q => h _ _ _ q) (fun _ z => z) q.2⟩) q
  | xc, .cal0 _ φ, _, _, _, _, h, q => by
    unfold wE at q ⊢
    exact φ.mono (fun v q => h _ _ _ q) (fun _ z => z) q
  | xc, .calE _ φ es, _, _, _, _, h, q => by
    unfold wE at q ⊢
    exact wV_mono es (fun ds Γ1 s1 => φ.mono (fun v s2 => h v Γ1 s2) (fun _ _ z => z)) q
  | xc, .bi b es, _, _, _, _, h, q => by
    unfold wE at q ⊢
    exact wA_mono es (fun ds Γ1 s1 => biD_mono fun v => h v Γ1 s1) q
  | xc, .mt m a es, _, _, _, _, h, q => by
    unfold wE at q ⊢
    exact opn_mono (wa := wE xc a) (fun _ _ _ _ => wE_mono a) (fun x Γ1 s1 => lstD_mono fun _ => wA_mono es fun ds Γ2 s2 => mtD_mono fun v => h v Γ2 s2) q
  | xc, .pop i a, _, _, _, _, h, q => by
    unfold wE at q ⊢
    exact popW_mono (fun k k' hk => opn_mono (wa := wE xc a) (fun _ _ _ _ => wE_mono a) hk) h q
  | xc, .d0, _, _, _, _, h, q => by unfold wE at q ⊢; exact h _ _ _ q
  | xc, .d1 k v, _, _, _, _, h, q => by
    unfold wE at q ⊢
    exact opn_mono (wa := wE xc k) (fun _ _ _ _ => wE_mono k) (fun x Γ1 s1 => wE_mono v fun w Γ2 s2 => asD_mono fun d => keyD_mono fun _ => h _ _ _) q
  | xc, .compM own tg it i a, _, _, _, _, h, q => by
    unfold wE at q ⊢
    refine wJ_mono it (fun xs Γ1 s1 q => ⟨q.1, ?_⟩) q
    refine cLoop_mono ?_ (fun ys Γ' s' => h (.new ys) (backG Γ1 own Γ') s') q.2
    intro x Γ s k k' hk
    exact bindT_mono fun Γ' => popW_mono (fun k k' hk => opn_mono (wa := wE xn a) (fun _ _ _ _ => wE_mono a) hk) fun v Γ3 s3 => asD_mono fun d => hk _ _ _
  | xc, .srtS a, _, _, _, _, h, q => by
    unfold wE at q ⊢
    exact opn_mono (wa := wE xc a) (fun _ _ _ _ => wE_mono a) (fun x Γ1 s1 => srtSX_mono fun v => h v Γ1 s1) q
  | xc, .lenS a, _, _, _, _, h, q => by
    unfold wE at q ⊢
    exact opn_mono (wa := wE xc a) (fun _ _ _ _ => wE_mono a) (fun x Γ1 s1 => lenSX_mono fun v => h v Γ1 s1) q
  | xc, .lr es, _, _, _, _, h, q => by
    unfold wE at q ⊢
    exact wA_mono es (fun ds Γ1 s1 => rngD_mono fun xs q => ⟨q.1, h _ _ _ q.2⟩) q
  | xc, .callT _ φ i j k, _, _, _, _, h, q => by
    unfold wE at q ⊢
    exact rdO_mono (fun a => rdO_mono fun b => rdO_mono fun c => φ.mono (fun v q => ⟨q.1, h _ _ _ q.2⟩) fun _ z => z) q
theorem wA_mono : ∀ {xc : Nat → Ctx → S → Prop} (c : Es S) {Γ : Ctx} {s : S} {Q Q' : List D → Ctx → S → Prop}, (∀ v Γ' s', Q v Γ' s' → Q' v Γ' s') → wA xc c Γ s Q → wA xc c Γ s Q'
  | xc, .nil, _, _, _, _, h, q => by unfold wA at q ⊢; exact h _ _ _ q
  | xc, .cons e r, _, _, _, _, h, q => by
    unfold wA at q ⊢
    exact opn_mono (wa := wE xc e) (fun _ _ _ _ => wE_mono e) (fun d Γ1 s1 => wA_mono r fun ds => h _) q
theorem wX_mono : ∀ {xc : Nat → Ctx → S → Prop} (c : Es S) {Γ : Ctx} {s : S} {Q Q' : List D → Ctx → S → Prop}, (∀ v Γ' s', Q v Γ' s' → Q' v Γ' s') → wX xc c Γ s Q → wX xc c Γ s Q'
  | xc, .nil, _, _, _, _, h, q => by unfold wX at q ⊢; exact h _ _ _ q
  | xc, .cons e r, _, _, _, _, h, q => by
    unfold wX at q ⊢
    exact wE_mono e (fun v Γ1 s1 => asD_mono fun d => wX_mono r fun ds => h _) q
theorem wV_mono : ∀ {xc : Nat → Ctx → S → Prop} (c : Es S) {Γ : Ctx} {s : S} {Q Q' : List Val → Ctx → S → Prop}, (∀ v Γ' s', Q v Γ' s' → Q' v Γ' s') → wV xc c Γ s Q → wV xc c Γ s Q'
  | xc, .nil, _, _, _, _, h, q => by unfold wV at q ⊢; exact h _ _ _ q
  | xc, .cons e r, _, _, _, _, h, q => by
    unfold wV at q ⊢
    refine wE_mono e (fun v Γ1 s1 q => ?_) q
    split at q <;> first | exact wV_mono r (fun vs => h _) q | exact q.elim
theorem wP_mono : ∀ {xc : Nat → Ctx → S → Prop} (c : Es S) {Γ : Ctx} {s : S} {Q Q' : Option Int → Ctx → S → Prop}, (∀ v Γ' s', Q v Γ' s' → Q' v Γ' s') → wP xc c Γ s Q → wP xc c Γ s Q'
  | xc, .nil, _, _, _, _, h, q => by unfold wP at q ⊢; exact h _ _ _ q
  | xc, .cons e _, _, _, _, _, h, q => by
    unfold wP at q ⊢
    exact opn_mono (wa := wE xc e) (fun _ _ _ _ => wE_mono e) (fun x Γ1 s1 => intX_mono fun i => h _ Γ1 s1) q
theorem wC_mono : ∀ {xc : Nat → Ctx → S → Prop} (c : Es S) {Γ : Ctx} {s : S} {Q Q' : Bool → Ctx → S → Prop}, (∀ v Γ' s', Q v Γ' s' → Q' v Γ' s') → wC xc c Γ s Q → wC xc c Γ s Q'
  | xc, .nil, _, _, _, _, h, q => by unfold wC at q ⊢; exact h _ _ _ q
  | xc, .cons e _, _, _, _, _, h, q => by
    unfold wC at q ⊢
    exact opn_mono (wa := wE xc e) (fun _ _ _ _ => wE_mono e) (fun x Γ1 s1 => boolD_mono fun b => h _ _ _) q
theorem wI_mono : ∀ {xc : Nat → Ctx → S → Prop} (c : It S) {Γ : Ctx} {s : S} {Q Q' : List D → Ctx → S → Prop}, (∀ v Γ' s', Q v Γ' s' → Q' v Γ' s') → wI xc c Γ s Q → wI xc c Γ s Q'
  | xc, .seq e, _, _, _, _, h, q => by
    unfold wI at q ⊢
    exact opn_mono (wa := wE xc e) (fun _ _ _ _ => wE_mono e) (fun x Γ1 s1 => seqD_mono fun xs => h _ Γ1 s1) q
  | xc, .rng es, _, _, _, _, h, q => by
    unfold wI at q ⊢
    exact wA_mono es (fun ds Γ1 s1 => rngD_mono fun xs => h _ _ _) q
  | xc, .enu e, _, _, _, _, h, q => by
    unfold wI at q ⊢
    exact opn_mono (wa := wE xc e) (fun _ _ _ _ => wE_mono e) (fun x Γ1 s1 => lstD_mono fun xs => h _ Γ1 s1) q
  | xc, .zip a b, _, _, _, _, h, q => by
    unfold wI at q ⊢
    exact opn_mono (wa := wE xc a) (fun _ _ _ _ => wE_mono a) (fun x Γ1 s1 => opn_mono (wa := wE xc b) (fun _ _ _ _ => wE_mono b) fun y Γ2 s2 => lstD_mono fun xs => lstD_mono fun ys => h _ Γ2 s2) q
theorem wJ_mono : ∀ {xc : Nat → Ctx → S → Prop} (c : It S) {Γ : Ctx} {s : S} {Q Q' : List D → Ctx → S → Prop}, (∀ v Γ' s', Q v Γ' s' → Q' v Γ' s') → wJ xc c Γ s Q → wJ xc c Γ s Q'
  | xc, .seq e, _, _, _, _, h, q => by
    unfold wJ at q ⊢
    exact wE_mono e (fun v Γ1 s1 => asD_mono fun d => seqD_mono fun xs => h _ Γ1 s1) q
  | xc, .rng es, _, _, _, _, h, q => by
    unfold wJ at q ⊢
    exact wA_mono es (fun ds Γ1 s1 => rngD_mono fun xs => h _ _ _) q
  | xc, .enu e, _, _, _, _, h, q => by
    unfold wJ at q ⊢
    exact wE_mono e (fun v Γ1 s1 => asD_mono fun d => lstD_mono fun xs => h _ Γ1 s1) q
  | xc, .zip a b, _, _, _, _, h, q => by
    unfold wJ at q ⊢
    exact wE_mono a (fun v Γ1 s1 => asD_mono fun x => wE_mono b fun w Γ2 s2 => asD_mono fun y => lstD_mono fun xs => lstD_mono fun ys => h _ Γ2 s2) q
end
theorem opnE_mono {xc : Nat → Ctx → S → Prop} (c : E S) {Γ : Ctx} {s : S} {Q Q' : D → Ctx → S → Prop} (h : ∀ v Γ' s', Q v Γ' s' → Q' v Γ' s') (q : opn c (wE xc c) Γ s Q) : opn c (wE xc c) Γ s Q' := opn_mono (wa := wE xc c) (fun _ _ _ _ => wE_mono c) h q
end
end Ac
namespace Ac
open PySem PySem.Spec PyProof.Rows L2
variable {rm : RM} {fx : Fx rm} {σ : L2.St} {H F : Hp} {Γ : Ctx} {s : rm.S} {A : rm.A} {X : Cx}

theorem big_sz {n : Nat} (h : n ≤ big) : n ≤ sizeLine := Nat.le_trans h (by unfold big; decide)
theorem big_lt {n : Nat} (h : n < big) : n < sizeLine := Nat.lt_of_lt_of_le h (by unfold big; decide)
/-- what an operation on values may give -/
def KQ (fx : Fx rm) (σ : L2.St) (H F : Hp) (A : rm.A) (Γ : Ctx) (s : rm.S) (Q : VK) : Val → Prop := fun v => ∀ z H' F', SR fx σ H' Γ s F' A → HX H A H' A → Sub F F' → RV fx σ H' F' A Γ z v → Q z H'
theorem KQ.dat {Q : VK} (R : SR fx σ H Γ s F A) {z : V} {d : D} (h : Rp F z d) (k : KQ fx σ H F A Γ s Q (.dat d)) : Q z H := k z H F R (HX.refl H A) (Sub.refl F) h
/-- a new list -/
theorem KQ.mk {Q : VK} (R : SR fx σ H Γ s F A) {p : Addr} (hp : H p = none) {vs : List V} {ds : List D} (h : RpL F vs ds) (k : KQ fx σ H F A Γ s Q (.new ds)) : Q (.ref p) (upd H p (.lst vs)) :=
  k _ _ F (R.alloc hp) (R.hx hp) (Sub.refl F) ⟨p, vs, rfl, upd_same, R.nF hp, R.nft hp, R.nL hp, h, R.noOwn hp⟩
theorem KQ.mkT {Q : VK} (R : SR fx σ H Γ s F A) {p : Addr} (hp : H p = none) {vs : List V} {ds : List D} (h : RpL F vs ds) (k : KQ fx σ H F A Γ s Q (.dat (.tuple ds))) : Q (.ref p) (upd H p (.tup vs)) :=
  k _ _ (upd F p (.tup vs)) (R.lay hp) (R.hx hp) (upd_sub (R.nF hp)) (.tup upd_same (h.mono (upd_sub (R.nF hp))))
/-- a rule for a two-place operation, over data -/
def Op2 (X : Cx) (f : Value → Value → Sem Value) (g : D → D → (Val → Prop) → Prop) : Prop :=
  ∃ r : R2, OpR X f r ∧ ∀ (rm : RM) (fx : Fx rm) (σ : L2.St) (H : Hp) (Γ : Ctx) (s : rm.S) (F : Hp) (A : rm.A) (x y : V) (d e : D) (Q : VK), SR fx σ H Γ s F A → Ro H F A x d → Ro H F A y e → g d e (KQ fx σ H F A Γ s Q) → r x y H Q
theorem flat_int {x : V} {i : Int} (h : Ro H F A x (.int i)) : x = .int i := by
  have := h.flat (fun ds e => nomatch e)
  cases this
  rfl
theorem flat_bool {x : V} {b : Bool} (h : Ro H F A x (.bool b)) : x = .bl b := by
  have := h.flat (fun ds e => nomatch e)
  cases this
  rfl
theorem flat_str {x : V} {b : Str} (h : Ro H F A x (.str b)) : x = .str b := by
  have := h.flat (fun ds e => nomatch e)
  cases this
  rfl
theorem flat_none {x : V} (h : Ro H F A x .none) : x = .non := by
  have := h.flat (fun ds e => nomatch e)
  cases this
  rfl
theorem Ro.tup {x : V} {ds : List D} (h : Ro H F A x (.tuple ds)) : ∃ a vs, x = V.ref a ∧ F a = some (.tup vs) ∧ RpL F vs ds := by
  have := h.flat (fun ds e => nomatch e)
  cases this with
  | tup h1 r => exact ⟨_, _, rfl, h1, r⟩
/-- two lists, one behind the other -/
def rCatR : R2 := fun x y H Q => ∃ l b xs zs, x = .ref l ∧ y = .ref b ∧ Rd H l (.lst xs) ∧ Rd H b (.lst zs) ∧ xs.length + zs.length ≤ sizeLine ∧ ∀ p, H p = none → Q (.ref p) (upd H p (.lst (xs ++ zs)))
theorem op_catR : OpR X (binaryOp .Add) rCatR := by
  intro pins s σ H x y v u Q I rx ry h
  obtain ⟨l, b, xs, zs, rfl, rfl, hH, hB, hz, q⟩ := h
  cases rx
  cases ry
  obtain ⟨z, its, n, r, e⟩ := hH.ok I.hok
  obtain ⟨z2, its2, n2, r2, e2⟩ := hB.ok I.hok
  refine PySem.P.add_list e e2 ?_ (by rw [List.size_toArray, List.size_toArray, ← r.length, ← r2.length]; omega)
  have ea : its.toArray ++ its2.toArray = (its ++ its2).toArray := by simp
  rw [ea]
  exact ⟨.ref _, _, I.lnew (t' := s.toks) (r.append r2) (by rw [List.length_append]; omega), rfl, q _ I.fresh⟩
theorem op2_add : Op2 X (binaryOp .Add) addD := by
  refine ⟨_, op_add.or (op_catR.or op_add_str), ?_⟩
  intro rm fx σ H Γ s F A x y d e Q R hx hy h
  unfold addD at h
  split at h
  · rename_i i j
    exact .inl ⟨i, j, flat_int hx, flat_int hy, KQ.dat R (.int _) h⟩
  · rename_i xs ys
    obtain ⟨a, vs, e1, h1, r1⟩ := hx.lst R.fh
    obtain ⟨b, ws, e2, h2, r2⟩ := hy.lst R.fh
    exact .inr (.inl ⟨a, b, vs, ws, e1, e2, h1, h2, by rw [r1.length, r2.length]; exact big_sz h.1, fun p hp => KQ.mk R hp (r1.append r2) h.2⟩)
  · rename_i i j
    exact .inr (.inr ⟨i, j, flat_str hx, flat_str hy, big_sz h.1, KQ.dat R (.str _) h.2⟩)
  · exact h.elim
theorem op2_sub : Op2 X (binaryOp .Sub) subD := by
  refine ⟨_, op_sub, ?_⟩
  intro rm fx σ H Γ s F A x y d e Q R hx hy h
  unfold subD at h
  split at h
  · exact ⟨_, _, flat_int hx, flat_int hy, KQ.dat R (.int _) h⟩
  · exact h.elim
theorem op2_int {f : Value → Value → Sem Value} {C C' : Int → Int → Prop} {g : Int → Int → Int} (hc : ∀ i j, C i j → C' i j) (ho : OpR X f (rI C' fun i j => .int (g i j))) : Op2 X f (intD C g) := by
  refine ⟨_, ho, ?_⟩
  intro rm fx σ H Γ s F A x y d e Q R hx hy h
  unfold intD at h
  split at h
  · exact ⟨_, _, flat_int hx, flat_int hy, hc _ _ h.1, KQ.dat R (.int _) h.2⟩
  · exact h.elim
theorem op2_no {f : Value → Value → Sem Value} : Op2 X f noD := ⟨fun _ _ _ _ => False, fun _ _ _ _ _ _ _ _ _ _ _ _ h => h.elim, fun _ _ _ _ _ _ _ _ _ _ _ _ _ _ _ _ h => h⟩
theorem op2_bin : ∀ o : Operator, Op2 X (binaryOp o) (opD o)
  | .Add => op2_add
  | .Sub => op2_sub
  | .Mult => op2_int (fun _ _ h => h) op_mul
  | .Mod => op2_int (fun _ _ h => h) op_mod
  | .FloorDiv => op2_int (fun _ _ h => h) op_fdiv
  | .Pow => op2_int (fun _ _ h => ⟨h.1, Int.le_trans h.2.1 (by decide), h.2.2⟩) op_pow
  | .MatMult => op2_no
  | .Div => op2_no
  | .LShift => op2_no
  | .RShift => op2_no
  | .BitOr => op2_no
  | .BitXor => op2_no
  | .BitAnd => op2_no

/-! ### comparisons -/
mutual
theorem Rp.dp {K : PySem.W.Frag} (fh : Sub F H) : ∀ {x : V} {d : D}, Rp F x d → d.canLay0 = true → Dp K H x d
  | _, _, .non, _ => .non
  | _, _, .bl b, _ => .bl b
  | _, _, .int i, _ => .int i
  | _, _, .str x, _ => .str x
  | _, _, .lst h r, c => .lst (.inl (fh.rd h)) (RpL.dp fh r (by simpa only [PyData.canLay0] using c))
  | _, _, .tup h r, c => .tup (.inl (.inl (fh _ _ h))) (RpL.dp fh r (by simpa only [PyData.canLay0] using c))
  | _, _, .dic _ _, c => by simp [PyData.canLay0] at c
theorem RpL.dp {K : PySem.W.Frag} (fh : Sub F H) : ∀ {x : List V} {d : List D}, RpL F x d → PyData.canLayAll0 d = true → DpAll K H x d
  | _, _, .nil, _ => .nil
  | _, _, .cons h r, c => by
    simp only [PyData.canLayAll0, Bool.and_eq_true] at c
    exact .cons (Rp.dp fh h c.1) (RpL.dp fh r c.2)
end
theorem Ro.dp {K : PySem.W.Frag} (fh : Sub F H) {x : V} {d : D} (h : Ro H F A x d) (c : SeqAt.shaped d = true) : Dp K H x d := by
  have c0 := SeqAt.canLay_of_shaped c
  rcases h with h | ⟨a, vs, ds, rfl, rfl, e3, _, e5⟩
  · exact h.dp fh c0
  · exact .lst (.inl (.inl e3)) (e5.dp fh (by simpa only [PyData.canLay0] using c0))
/-- a list that holds something, and [] -/
def rEqN (neg : Bool) : R2 := fun x y H Q => ∃ l b v vs, x = .ref l ∧ y = .ref b ∧ Rd H l (.lst (v :: vs)) ∧ Rd H b (.lst []) ∧ Q (.bl neg) H
theorem Rd.isList {pins : List (Addr × Obj)} {s : Shared} {a : Addr} {vs : List V} (I : Inv X pins σ H s) (h : Rd H a (.lst vs)) : ∃ its : List Value, Vals vs its ∧ s.heap.IsList a its.toArray := by
  obtain ⟨z, its, n, r, e⟩ := h.ok I.hok
  exact ⟨its, r, _, e, rfl, _, rfl⟩
theorem op_eqN (hu : X.A.units < cLine) : OpR X (compareOp .Eq) (rEqN false) := by
  intro pins s σ H x y v u Q I rx ry h
  obtain ⟨l, b, v, vs, rfl, rfl, h1, h2, q⟩ := h
  cases rx
  cases ry
  obtain ⟨its, r1, l1⟩ := Rd.isList I h1
  obtain ⟨its2, r2, l2⟩ := Rd.isList I h2
  refine SeqAt.eq_list_lengthsAt l1 l2 ?_ hu ⟨.bl false, H, I, rfl, q⟩
  have e1 := r1.length
  have e2 := r2.length
  rw [List.size_toArray, List.size_toArray, ← e1, ← e2]
  rfl
theorem op_neN (hu : X.A.units < cLine) : OpR X (compareOp .NotEq) (rEqN true) := by
  intro pins s σ H x y v u Q I rx ry h
  obtain ⟨l, b, v, vs, rfl, rfl, h1, h2, q⟩ := h
  cases rx
  cases ry
  obtain ⟨its, r1, l1⟩ := Rd.isList I h1
  obtain ⟨its2, r2, l2⟩ := Rd.isList I h2
  have e1 := r1.length
  have e2 := r2.length
  exact SeqAt.RcNeAt.lists_lengths l1 l2 (by rw [List.size_toArray, List.size_toArray, ← e1, ← e2]; rfl) hu X.prog X.w X.xe _ ⟨.bl true, H, I, rfl, q⟩
theorem eqv_int (i j : Int) : PyData.eqv (.int i) (.int j) = decide (i = j) := by
  unfold PyData.eqv
  exact (Bool.beq_eq_decide_eq i j)
theorem eqv_bool (i j : Bool) : PyData.eqv (.bool i) (.bool j) = decide (i = j) := by
  unfold PyData.eqv
  cases i <;> cases j <;> rfl
theorem shaped_int (i : Int) : SeqAt.shaped (.int i) = true := rfl
theorem shaped_bool (i : Bool) : SeqAt.shaped (.bool i) = true := rfl
/-- == by data: the test of a chain of rules -/
theorem op2_eqs {op : CmpOp} {neg : Bool} (h1 : OpR X (compareOp op) (fun x y H Q => ∃ d e, Dp X.K H x d ∧ Dp X.K H y e ∧ SeqAt.shaped d = true ∧ SeqAt.shaped e = true ∧ Q (.bl (if neg then !PyData.eqv d e else PyData.eqv d e)) H))
    (h2 : OpR X (compareOp op) (fun x y H Q => L2.scal x y = true ∧ Q (.bl (if neg then !decide (x = y) else decide (x = y))) H)) (h3 : OpR X (compareOp op) (rEqN neg)) :
    Op2 X (compareOp op) (fun x y k => eqD x y fun b => k (.dat (.bool (if neg then !b else b)))) := by
  refine ⟨_, h1.or (h2.or h3), ?_⟩
  intro rm fx σ H Γ s F A x y d e Q R hx hy h
  unfold eqD at h
  split at h
  · rename_i i j
    refine .inl ⟨_, _, hx.dp R.fh (shaped_int i), hy.dp R.fh (shaped_int j), shaped_int i, shaped_int j, ?_⟩
    rw [eqv_int]
    exact KQ.dat R (.bl _) h
  · rename_i i j
    refine .inl ⟨_, _, hx.dp R.fh (shaped_bool i), hy.dp R.fh (shaped_bool j), shaped_bool i, shaped_bool j, ?_⟩
    rw [eqv_bool]
    exact KQ.dat R (.bl _) h
  · rename_i i j
    rw [flat_str hx, flat_str hy]
    refine .inr (.inl ⟨rfl, ?_⟩)
    have e : decide (V.str i = V.str j) = decide (i = j) := by
      by_cases z : i = j
      · subst z; simp
      · rw [decide_eq_false z, decide_eq_false (fun q => z (V.str.inj q))]
    rw [e]
    exact KQ.dat R (.bl _) h
  · exact .inl ⟨_, _, hx.dp R.fh rfl, hy.dp R.fh rfl, rfl, rfl, KQ.dat R (.bl _) h⟩
  · exact .inl ⟨_, _, hx.dp R.fh rfl, hy.dp R.fh rfl, rfl, rfl, KQ.dat R (.bl _) h⟩
  · obtain ⟨a, vs, e1, q1, r1⟩ := hx.lst R.fh
    obtain ⟨b, ws, e2, q2, r2⟩ := hy.lst R.fh
    cases r2
    cases r1 with
    | cons r r' =>
      refine .inr (.inr ⟨a, b, _, _, e1, e2, q1, q2, ?_⟩)
      have : neg = (if neg = true then !false else false) := by cases neg <;> rfl
      rw [this]
      exact KQ.dat R (.bl _) h
  · exact .inl ⟨_, _, hx.dp R.fh h.1, hy.dp R.fh h.2.1, h.1, h.2.1, KQ.dat R (.bl _) h.2.2⟩
theorem op2_eq (hu : X.A.units + 64 < cLine) : Op2 X (compareOp .Eq) (cmpD .Eq) := op2_eqs (neg := false) (op_eqD hu) op_eq (op_eqN (by omega))
theorem op2_ne (hu : X.A.units + 64 < cLine) : Op2 X (compareOp .NotEq) (cmpD .NotEq) := op2_eqs (neg := true) (op_neD hu) op_ne (op_neN (by omega))
theorem op2_rel {f : Value → Value → Sem Value} {g : Int → Int → Bool} (ho : OpR X f (rI0 fun i j => .bl (g i j))) : Op2 X f (relD g) := by
  refine ⟨_, ho, ?_⟩
  intro rm fx σ H Γ s F A x y d e Q R hx hy h
  unfold relD at h
  split at h
  · exact ⟨_, _, flat_int hx, flat_int hy, KQ.dat R (.bl _) h⟩
  · exact h.elim
theorem Rp.flat {x : V} {d : D} (h : Rp F x d) (f : flatD d = true) : flatV x = true := by
  cases h <;> first | rfl | cases f
theorem RpL.flat : ∀ {xs : List V} {ds : List D}, RpL F xs ds → ds.all flatD = true → xs.all flatV = true
  | _, _, .nil, _ => rfl
  | _, _, .cons h r, f => by
    rw [List.all_cons, Bool.and_eq_true] at f ⊢
    exact ⟨h.flat f.1, r.flat f.2⟩
theorem eqV_eqv {x y : V} {d e : D} (hx : Rp F x d) (hy : Rp F y e) (fd : flatD d = true) (fe : flatD e = true) : eqV x y = PyData.eqv d e := by
  cases hx <;> first | cases fd | skip
  all_goals (cases hy <;> first | cases fe | skip)
  all_goals (unfold PyData.eqv; rfl)
theorem inV_inD {x : V} {d : D} (hx : Rp F x d) (fd : flatD d = true) : ∀ {xs : List V} {ds : List D}, RpL F xs ds → ds.all flatD = true → inV x xs = inD d ds
  | _, _, .nil, _ => rfl
  | _, _, .cons h r, f => by
    rw [List.all_cons, Bool.and_eq_true] at f
    have ih := inV_inD hx fd r f.2
    unfold inV at ih ⊢
    unfold inD at ih ⊢
    rw [List.any_cons, List.any_cons, ih, eqV_eqv h hx f.1 fd]
/-- x in (..), at any depth -/
def rInT (K : PySem.W.Frag) : R2 := fun x y H Q => ∃ d ds, Dp K H x d ∧ Dp K H y (.tuple ds) ∧ SeqAt.shaped d = true ∧ SeqAt.shaped (.tuple ds) = true ∧ Q (.bl (inD d ds)) H
theorem op_inT (hu : X.A.units + 65 < cLine) : OpR X (compareOp .In) (rInT X.K) := by
  intro pins s σ H x y v u Q I rx ry h
  obtain ⟨d, ds, hd, he, sd, se, q⟩ := h
  obtain ⟨as, r1⟩ := Dp.reads I d x v hd rx
  obtain ⟨bs, r2⟩ := Dp.reads I (.tuple ds) y u he ry
  exact SeqAt.in_tuple_reads r2 r1 (by simpa only [PyData.canLay0] using SeqAt.canLay_of_shaped se) (SeqAt.canLay_of_shaped sd) (room_in_shaped sd hu) ⟨.bl _, H, I, rfl, q⟩
theorem op2_mem {op : CmpOp} {neg : Bool} (ho : OpR X (compareOp op) (rIn X.K neg)) (hd : neg = false → OpR X (compareOp op) (rInT X.K)) : Op2 X (compareOp op) (memD neg) := by
  refine ⟨fun x y H Q => rIn X.K neg x y H Q ∨ (neg = false ∧ rInT X.K x y H Q), ?_, ?_⟩
  · intro pins s σ H x y v u Q I rx ry h
    rcases h with h | ⟨z, h⟩
    · exact ho pins s σ H x y v u Q I rx ry h
    · exact hd z pins s σ H x y v u Q I rx ry h
  intro rm fx σ H Γ s F A x y d e Q R hx hy h
  unfold memD at h
  split at h
  · obtain ⟨f1, f2, q⟩ := h
    obtain ⟨a, vs, e1, q1, r1⟩ := hy.lst R.fh
    have hx' := hx.flat (fun ds z => by rw [z] at f1; cases f1)
    refine .inl ⟨a, vs, e1, .inl (.inl q1), hx'.flat f1, r1.flat f2, ?_⟩
    rw [inV_inD hx' f1 r1 f2]
    exact KQ.dat R (.bl _) q
  · rcases h with ⟨f1, f2, q⟩ | ⟨z, s1, s2, q⟩
    · obtain ⟨a, vs, e1, q1, r1⟩ := hy.tup
      have hx' := hx.flat (fun ds z => by rw [z] at f1; cases f1)
      refine .inl ⟨a, vs, e1, .inr (.inl (.inl (R.fh _ _ q1))), hx'.flat f1, r1.flat f2, ?_⟩
      rw [inV_inD hx' f1 r1 f2]
      exact KQ.dat R (.bl _) q
    · exact .inr ⟨z, _, _, hx.dp R.fh s1, hy.dp R.fh s2, s1, s2, KQ.dat R (.bl _) q⟩
  · exact h.elim
theorem op2_cmp (hu : X.A.units + 65 < cLine) : ∀ o : CmpOp, Op2 X (compareOp o) (cmpD o)
  | .Eq => op2_eq (by omega)
  | .NotEq => op2_ne (by omega)
  | .Lt => op2_rel op_lt
  | .LtE => op2_rel op_le
  | .Gt => op2_rel op_gt
  | .GtE => op2_rel op_ge
  | .In => op2_mem op_in_seq fun _ => op_inT hu
  | .NotIn => op2_mem op_notIn_seq fun z => nomatch z
  | .Is => op2_no
  | .IsNot => op2_no

/-! ### built-in functions -/
abbrev RoL (H F : Hp) (A : rm.A) : List V → List D → Prop := Paired (Ro H F A)
def CallS (X : Cx) (f : Value) (g : List D → (Val → Prop) → Prop) : Prop :=
  ∃ r : List V → Hp → VK → Prop, CallR X f r ∧ ∀ (rm : RM) (fx : Fx rm) (σ : L2.St) (H : Hp) (Γ : Ctx) (s : rm.S) (F : Hp) (A : rm.A) (xs : List V) (ds : List D) (Q : VK), SR fx σ H Γ s F A → RoL H F A xs ds → g ds (KQ fx σ H F A Γ s Q) → r xs H Q
theorem RoL.one {xs : List V} {d : D} (h : RoL H F A xs [d]) : ∃ x, xs = [x] ∧ Ro H F A x d := by
  cases h with
  | cons a b => cases b; exact ⟨_, rfl, a⟩
theorem RoL.two {xs : List V} {d e : D} (h : RoL H F A xs [d, e]) : ∃ x y, xs = [x, y] ∧ Ro H F A x d ∧ Ro H F A y e := by
  cases h with
  | cons a b =>
    cases b with
    | cons b c => cases c; exact ⟨_, _, rfl, a, b⟩
theorem CallR.or {f : Value} {r r' : List V → Hp → VK → Prop} (h : CallR X f r) (h' : CallR X f r') : CallR X f (fun x H Q => r x H Q ∨ r' x H Q) := by
  intro pins s σ H xs us Q I rx q
  rcases q with q | q
  · exact h pins s σ H xs us Q I rx q
  · exact h' pins s σ H xs us Q I rx q
theorem cs_len : CallS X (.builtin "len") lenD := by
  refine ⟨_, CallR.or call_len_seq call_len, ?_⟩
  intro rm fx σ H Γ s F A xs ds Q R hxs h
  unfold lenD at h
  split at h
  · obtain ⟨x, rfl, hx⟩ := hxs.one
    obtain ⟨a, vs, e1, q1, r1⟩ := hx.lst R.fh
    exact .inl ⟨a, vs, by rw [e1], .inl (.inl q1), by rw [r1.length]; exact KQ.dat R (.int _) h⟩
  · obtain ⟨x, rfl, hx⟩ := hxs.one
    obtain ⟨a, vs, e1, q1, r1⟩ := hx.tup
    exact .inl ⟨a, vs, by rw [e1], .inr (.inl (.inl (R.fh _ _ q1))), by rw [r1.length]; exact KQ.dat R (.int _) h⟩
  · obtain ⟨x, rfl, hx⟩ := hxs.one
    rw [flat_str hx]
    exact .inr ⟨_, _, rfl, ⟨big_sz h.1, rfl⟩, KQ.dat R (.int _) h.2⟩
  · exact h.elim
theorem cs_int2 {n : String} {f : Int → Int → Int} (hc : CallR X (.builtin n) (fun xs H Q => ∃ i j, xs = [.int i, .int j] ∧ Q (.int (f i j)) H)) : CallS X (.builtin n) (int2D f) := by
  refine ⟨_, hc, ?_⟩
  intro rm fx σ H Γ s F A xs ds Q R hxs h
  unfold int2D at h
  split at h
  · obtain ⟨x, y, rfl, hx, hy⟩ := hxs.two
    rw [flat_int hx, flat_int hy]
    exact ⟨_, _, rfl, KQ.dat R (.int _) h⟩
  · exact h.elim
theorem Ro.ints {x : V} {ds : List D} {ns : List Int} (fh : Sub F H) (h : Ro H F A x (.list ds)) (e : intsD ds = some ns) : ∃ a, x = V.ref a ∧ Rd H a (.lst (ns.map V.int)) := by
  obtain ⟨a, vs, e1, q1, r1⟩ := h.lst fh
  rw [intsD_eq e] at r1
  rw [r1.of_ints] at q1
  exact ⟨a, e1, q1⟩
theorem cs_minL (hc : X.calm = true) : CallS X (.builtin "min") minLD := by
  refine ⟨_, cr_min hc, ?_⟩
  intro rm fx σ H Γ s F A xs ds Q R hxs h
  unfold minLD at h
  split at h
  · obtain ⟨x, rfl, hx⟩ := hxs.one
    obtain ⟨ns, e, hl, q⟩ := h
    obtain ⟨a, e1, q1⟩ := hx.ints R.fh e
    exact ⟨a, ns, by rw [e1], .inl q1, hl, fun m h1 h2 => KQ.dat R (.int _) (q m h1 h2)⟩
  · exact h.elim
theorem cs_maxL (hc : X.calm = true) : CallS X (.builtin "max") maxLD := by
  refine ⟨_, cr_max hc, ?_⟩
  intro rm fx σ H Γ s F A xs ds Q R hxs h
  unfold maxLD at h
  split at h
  · obtain ⟨x, rfl, hx⟩ := hxs.one
    obtain ⟨ns, e, hl, q⟩ := h
    obtain ⟨a, e1, q1⟩ := hx.ints R.fh e
    exact ⟨a, ns, by rw [e1], .inl q1, hl, fun m h1 h2 => KQ.dat R (.int _) (q m h1 h2)⟩
  · exact h.elim
theorem cs_sum (hc : X.calm = true) : CallS X (.builtin "sum") sumD := by
  refine ⟨_, cr_sum hc, ?_⟩
  intro rm fx σ H Γ s F A xs ds Q R hxs h
  unfold sumD at h
  split at h
  · obtain ⟨x, rfl, hx⟩ := hxs.one
    obtain ⟨ns, e, q⟩ := h
    obtain ⟨a, e1, q1⟩ := hx.ints R.fh e
    exact ⟨a, ns, by rw [e1], .inl q1, KQ.dat R (.int _) q⟩
  · exact h.elim
theorem cs_sorted : CallS X (.builtin "sorted") sortedD := by
  refine ⟨_, cr_sortedI, ?_⟩
  intro rm fx σ H Γ s F A xs ds Q R hxs h
  unfold sortedD at h
  split at h
  · obtain ⟨x, rfl, hx⟩ := hxs.one
    obtain ⟨ns, e, q⟩ := h
    obtain ⟨a, e1, q1⟩ := hx.ints R.fh e
    exact ⟨a, ns, by rw [e1], .inl q1, fun ns' p h1 h2 hp => KQ.mk R hp (RpL.ints ns') (q ns' h1 h2)⟩
  · exact h.elim
theorem cs_list : CallS X (.type "list") listD := by
  refine ⟨_, call_list_of, ?_⟩
  intro rm fx σ H Γ s F A xs ds Q R hxs h
  unfold listD at h
  split at h
  · obtain ⟨x, rfl, hx⟩ := hxs.one
    obtain ⟨a, vs, e1, q1, r1⟩ := hx.lst R.fh
    exact ⟨a, vs, by rw [e1], .inl (.inl q1), fun p hp => KQ.mk R hp r1 h⟩
  · obtain ⟨x, rfl, hx⟩ := hxs.one
    obtain ⟨a, vs, e1, q1, r1⟩ := hx.tup
    exact ⟨a, vs, by rw [e1], .inr (.inl (.inl (R.fh _ _ q1))), fun p hp => KQ.mk R hp r1 h⟩
  · exact h.elim
theorem cs_tuple : CallS X (.type "tuple") tupleD := by
  refine ⟨_, call_tuple_of, ?_⟩
  intro rm fx σ H Γ s F A xs ds Q R hxs h
  unfold tupleD at h
  split at h
  · obtain ⟨x, rfl, hx⟩ := hxs.one
    obtain ⟨a, vs, e1, q1, r1⟩ := hx.lst R.fh
    exact ⟨a, vs, by rw [e1], .inl ⟨.inl q1, fun p hp => KQ.mkT R hp r1 h⟩⟩
  · obtain ⟨x, rfl, hx⟩ := hxs.one
    obtain ⟨a, vs, e1, q1, r1⟩ := hx.tup
    subst e1
    exact ⟨a, vs, rfl, .inr ⟨.inl (.inl (R.fh _ _ q1)), KQ.dat R (.tup q1 r1) h⟩⟩
  · exact h.elim
theorem cs_abs : CallS X (.builtin "abs") absD := by
  refine ⟨_, call_abs, ?_⟩
  intro rm fx σ H Γ s F A xs ds Q R hxs h
  unfold absD at h
  split at h
  · obtain ⟨x, rfl, hx⟩ := hxs.one
    rw [flat_int hx]
    exact ⟨_, rfl, KQ.dat R (.int _) h⟩
  · exact h.elim
theorem cs_toInt : CallS X (.type "int") toIntD := by
  refine ⟨_, call_int1, ?_⟩
  intro rm fx σ H Γ s F A xs ds Q R hxs h
  unfold toIntD at h
  split at h
  · obtain ⟨x, rfl, hx⟩ := hxs.one
    rw [flat_int hx]
    exact .inl ⟨_, rfl, KQ.dat R (.int _) h⟩
  · obtain ⟨x, rfl, hx⟩ := hxs.one
    rw [flat_bool hx]
    exact .inr ⟨_, rfl, KQ.dat R (.int _) h⟩
  · exact h.elim
theorem cs_toStr : CallS X (.type "str") toStrD := by
  refine ⟨_, call_str_int, ?_⟩
  intro rm fx σ H Γ s F A xs ds Q R hxs h
  unfold toStrD at h
  split at h
  · obtain ⟨x, rfl, hx⟩ := hxs.one
    rw [flat_int hx]
    exact ⟨_, rfl, h.1, KQ.dat R (.str _) h.2⟩
  · exact h.elim
/-! isinstance: the type of data -/
def tyN : D → String
  | .none => "NoneType"
  | .bool _ => "bool"
  | .int _ => "int"
  | .str _ => "str"
  | .list _ => "list"
  | .tuple _ => "tuple"
  | .dict _ => "dict"
theorem Ro.ty {K : PySem.W.Frag} {x : V} {d : D} (R : SR fx σ H Γ s F A) (h : Ro H F A x d) : TyX K H x (.type (tyN d)) := by
  rcases h with h | ⟨a, vs, ds, rfl, rfl, e3, _, e5⟩
  · cases h with
    | non => exact .base .non
    | bl b => exact .base (.bl b)
    | int i => exact .base (.int i)
    | str x => exact .base (.str x)
    | lst h r =>
      rcases R.fh.rd h with h | ⟨o, h⟩
      · exact .base (.lst h)
      · exact .base (.frz h)
    | tup h r => exact .base (.tup (R.fh _ _ h))
    | dic h r => exact .base (.dK (R.fh _ _ h))
  · exact .base (.lst e3)
theorem kit_all {K : PySem.W.Frag} (d : D) :
    PySem.W.kitOne K (.type (tyN d)) (.type "int") = some (isIntD d) ∧ PySem.W.kitOne K (.type (tyN d)) (.type "bool") = some (isBoolD d) ∧ PySem.W.kitOne K (.type (tyN d)) (.type "list") = some (isListD d) ∧
    PySem.W.kitOne K (.type (tyN d)) (.type "tuple") = some (isTupD d) ∧ PySem.W.kitOne K (.type (tyN d)) (.type "str") = some (isStrD d) := by
  cases d with
  | none => exact ⟨kit_ty (show kitB "NoneType" "int" = some false by decide +kernel), kit_ty (show kitB "NoneType" "bool" = some false by decide +kernel), kit_ty (show kitB "NoneType" "list" = some false by decide +kernel), kit_ty (show kitB "NoneType" "tuple" = some false by decide +kernel), kit_ty (show kitB "NoneType" "str" = some false by decide +kernel)⟩
  | bool _ => exact ⟨kit_ty (show kitB "bool" "int" = some true by decide +kernel), kit_ty (show kitB "bool" "bool" = some true by decide +kernel), kit_ty (show kitB "bool" "list" = some false by decide +kernel), kit_ty (show kitB "bool" "tuple" = some false by decide +kernel), kit_ty (show kitB "bool" "str" = some false by decide +kernel)⟩
  | int _ => exact ⟨kit_ty (show kitB "int" "int" = some true by decide +kernel), kit_ty (show kitB "int" "bool" = some false by decide +kernel), kit_ty (show kitB "int" "list" = some false by decide +kernel), kit_ty (show kitB "int" "tuple" = some false by decide +kernel), kit_ty (show kitB "int" "str" = some false by decide +kernel)⟩
  | str _ => exact ⟨kit_ty (show kitB "str" "int" = some false by decide +kernel), kit_ty (show kitB "str" "bool" = some false by decide +kernel), kit_ty (show kitB "str" "list" = some false by decide +kernel), kit_ty (show kitB "str" "tuple" = some false by decide +kernel), kit_ty (show kitB "str" "str" = some true by decide +kernel)⟩
  | list _ => exact ⟨kit_ty (show kitB "list" "int" = some false by decide +kernel), kit_ty (show kitB "list" "bool" = some false by decide +kernel), kit_ty (show kitB "list" "list" = some true by decide +kernel), kit_ty (show kitB "list" "tuple" = some false by decide +kernel), kit_ty (show kitB "list" "str" = some false by decide +kernel)⟩
  | tuple _ => exact ⟨kit_ty (show kitB "tuple" "int" = some false by decide +kernel), kit_ty (show kitB "tuple" "bool" = some false by decide +kernel), kit_ty (show kitB "tuple" "list" = some false by decide +kernel), kit_ty (show kitB "tuple" "tuple" = some true by decide +kernel), kit_ty (show kitB "tuple" "str" = some false by decide +kernel)⟩
  | dict _ => exact ⟨kit_ty (show kitB "dict" "int" = some false by decide +kernel), kit_ty (show kitB "dict" "bool" = some false by decide +kernel), kit_ty (show kitB "dict" "list" = some false by decide +kernel), kit_ty (show kitB "dict" "tuple" = some false by decide +kernel), kit_ty (show kitB "dict" "str" = some false by decide +kernel)⟩
end Ac
namespace Ac
open PySem PySem.Spec PyProof.Rows L2

/-! ### shapes of expressions -/
/-- none of those that a list of arguments, a subscript or a loop would read otherwise -/
def shp : Expr → Bool
  | .Starred .. | .Set .. | .Slice .. | .SetComp .. | .DictComp .. | .GeneratorExp .. | .IfExp .. | .NamedExpr .. => false
  | _ => true
theorem star1 {e : Expr} {es : List Expr} {env : Env} (h : shp e = true) : starEach (e :: es) env = (false, eval e env) :: starEach es env := by
  cases e <;> first | rfl | cases h
def shpL (es : List Expr) : Bool := es.all shp
theorem stars {env : Env} {pos : Pos} : ∀ {es : List Expr}, shpL es = true → (backTo pos (starEach es env)).any (·.1) = false
  | [], _ => rfl
  | e :: es, h => by
    unfold shpL at h
    rw [List.all_cons, Bool.and_eq_true] at h
    rw [star1 h.1]
    have ih := stars (env := env) (pos := pos) (es := es) h.2
    unfold backTo at ih ⊢
    rw [List.map_cons, List.any_cons, ih]
    rfl
theorem fold1 {e : Expr} {env : Env} (h : shp e = true) : ∀ x, foldedSetIterable e env x = pure x := by
  cases e <;> first | (intro x; rfl) | cases h
theorem plain1 {e : Expr} (h : shp e = true) : PlainIx e := by
  cases e <;> first | (intro o i; rfl) | cases h
theorem mark1 {e : Expr} {op : CmpOp} (h : shp e = true) : behindInMarks op e = false := by
  cases e <;> first | rfl | cases h
def isComp : Expr → Bool
  | .ListComp .. => true
  | _ => false
theorem swap1 {e : Expr} {t : Option Expr} {l : Nat} {env : Env} (h : shp e = true) (hc : isComp e = false) : swapsWith e t l env = pure false := by
  cases e <;> first | rfl | exact Bool.noConfusion hc | exact Bool.noConfusion h
/-- read as a test by its value -/
def tst : Expr → Bool
  | .UnaryOp .Not .. | .BoolOp .. | .IfExp .. | .Compare .. => false
  | _ => true
theorem tst1 {e : Expr} {env : Env} (h : tst e = true) : ∀ whole, isTrue e env whole = (do let v ← whole; standAt e.pos; holding [v] (truthy v)) := by
  cases e with
  | UnaryOp op a p => cases op <;> first | (intro w; rfl) | cases h
  | BoolOp _ _ _ => cases h
  | IfExp _ _ _ _ => cases h
  | Compare _ _ _ _ => cases h
  | _ => intro w; rfl

/-! ### what a text's rules may lean on -/
structure Sx where
  N : List Str
  sc : Scope
  fb : Str → Bool
  bn : List Str
  cn : List (Str × Int)
theorem PE_imp {X : Cx} {e : Expr} {t t' : TE} (h : PE X e t) (hi : ∀ σ H Q, t' σ H Q → t σ H Q) : PE X e t' := ⟨fun pins s σ H Q I q => h.run pins s σ H Q I (hi σ H Q q)⟩
theorem PT_imp {X : Cx} {e : Expr} {t t' : TT} (h : PT X e t) (hi : ∀ σ H Q, t' σ H Q → t σ H Q) : PT X e t' := ⟨fun pins s σ H Q I q => h.run pins s σ H Q I (hi σ H Q q)⟩
theorem PW_imp {X : Cx} {e : Expr} {t t' : TT} (h : PW X e t) (hi : ∀ σ H Q, t' σ H Q → t σ H Q) : PW X e t' := ⟨fun wh pins s σ H Q I q => h.run wh pins s σ H Q I (hi σ H Q q)⟩
theorem PA_imp {X : Cx} {e : List Expr} {t t' : TA} (h : PA X e t) (hi : ∀ σ H Q, t' σ H Q → t σ H Q) : PA X e t' := ⟨fun pos pins s σ H Q I q => h.run pos pins s σ H Q I (hi σ H Q q)⟩
theorem PI_imp {X : Cx} {tg e : Expr} {t t' : TI} (h : PI X tg e t) (hi : ∀ σ H Q, t' σ H Q → t σ H Q) : PI X tg e t' := ⟨fun pins s σ H Q I q => h.run pins s σ H Q I (hi σ H Q q)⟩
theorem PI_or {X : Cx} {tg e : Expr} {t t' : TI} (h : PI X tg e t) (h' : PI X tg e t') : PI X tg e (fun σ H Q => t σ H Q ∨ t' σ H Q) := ⟨fun pins s σ H Q I q => q.elim (h.run pins s σ H Q I) (h'.run pins s σ H Q I)⟩
theorem PO_imp {X : Cx} {e : Option Expr} {t t' : TO} (h : PO X e t) (hi : ∀ σ H Q, t' σ H Q → t σ H Q) : PO X e t' := ⟨fun pins s σ H Q I q => h.run pins s σ H Q I (hi σ H Q q)⟩

section
variable {rm : RM} {X : Cx} {k : Nat} {t : Sx}

/-! ### readings -/
/-- what is wished of an exception: by its number, the slots and the heap where it is raised -/
abbrev WN := Nat → L2.St → Hp → Prop
def W0 : WN := fun _ _ _ => False
def XcOk (W : WN) (fx : Fx rm) (xc : Nat → Ctx → rm.S → Prop) : Prop := ∀ n Γ s σ H F A, SR fx σ H Γ s F A → xc n Γ s → W n σ H
theorem xk0 {fx : Fx rm} : XcOk W0 fx xn := fun _ _ _ _ _ _ _ _ h => h
def WXof (cl : Nat → Addr) (W : WN) : WX := fun cls d σ H => ∃ n, cls = .ref (cl n) ∧ d = none ∧ W n σ H
theorem tk0 {X : Cx} {cl : Nat → Addr} : Takes X (WXof cl W0) := takes0.imp fun _ _ _ _ ⟨_, _, _, h⟩ => h

def KE (fx : Fx rm) (σ : L2.St) (H F : Hp) (A : rm.A) (Q : VK) : Val → Ctx → rm.S → Prop := fun v Γ' s' => ∀ x H' F' A', SR fx σ H' Γ' s' F' A' → HX H A H' A' → Sub F F' → RV fx σ H' F' A' Γ' x v → Q x H'
def rdE (W : WN) (c : E rm.S) : TE := fun σ H Q => ∃ (fx : Fx rm) (Γ : Ctx) (s : rm.S) (F : Hp) (A : rm.A), SR fx σ H Γ s F A ∧ ∃ xc, XcOk W fx xc ∧ wE xc c Γ s (KE fx σ H F A Q)
/-- the value of an operand: of a name its own -/
def RoC (c : E rm.S) (σ : L2.St) (H F : Hp) (A : rm.A) (x : V) (d : D) : Prop := Ro H F A x d ∧ (match c with | .var i => σ[i]? = some (some x) | _ => Rp F x d)
def rdP (W : WN) (c : E rm.S) : TE := fun σ H Q => ∃ (fx : Fx rm) (Γ : Ctx) (s : rm.S) (F : Hp) (A : rm.A), SR fx σ H Γ s F A ∧ ∃ xc, XcOk W fx xc ∧
  opn c (wE xc c) Γ s fun d Γ' s' => ∀ x H' F' A', SR fx σ H' Γ' s' F' A' → HX H A H' A' → Sub F F' → RoC c σ H' F' A' x d → Q x H'
def rdT (W : WN) (c : E rm.S) : TT := fun σ H Q => ∃ (fx : Fx rm) (Γ : Ctx) (s : rm.S) (F : Hp) (A : rm.A), SR fx σ H Γ s F A ∧ ∃ xc, XcOk W fx xc ∧
  wT xc c Γ s fun b Γ' s' => ∀ H' F' A', SR fx σ H' Γ' s' F' A' → HX H A H' A' → Sub F F' → Q b H'
def ArgL (σ : L2.St) (H F : Hp) (A : rm.A) : Es rm.S → List V → List D → Prop
  | .nil, [], [] => True
  | .cons e r, x :: xs, d :: ds => RoC e σ H F A x d ∧ ArgL σ H F A r xs ds
  | _, _, _ => False
def rdA (W : WN) (c : Es rm.S) : TA := fun σ H Q => ∃ (fx : Fx rm) (Γ : Ctx) (s : rm.S) (F : Hp) (A : rm.A), SR fx σ H Γ s F A ∧ ∃ xc, XcOk W fx xc ∧
  wA xc c Γ s fun ds Γ' s' => ∀ xs H' F' A', SR fx σ H' Γ' s' F' A' → HX H A H' A' → Sub F F' → ArgL σ H' F' A' c xs ds → Q xs H'
def rdX (W : WN) (c : Es rm.S) : TA := fun σ H Q => ∃ (fx : Fx rm) (Γ : Ctx) (s : rm.S) (F : Hp) (A : rm.A), SR fx σ H Γ s F A ∧ ∃ xc, XcOk W fx xc ∧
  wX xc c Γ s fun ds Γ' s' => ∀ xs H' F' A', SR fx σ H' Γ' s' F' A' → HX H A H' A' → Sub F F' → RpL F' xs ds → Q xs H'
def RH (F : Hp) (A : rm.A) (x : V) : Val → Prop
  | .dat d => Rp F x d
  | .hdl k => rm.hd A k x
  | _ => False
abbrev RHL (F : Hp) (A : rm.A) : List V → List Val → Prop := Paired (RH F A)
theorem RH.mono {F F' : Hp} {A A' : rm.A} {x : V} {v : Val} (h : RH F A x v) (sb : Sub F F') (le : rm.le A A') : RH F' A' x v := by
  cases v with
  | dat d => exact Rp.mono sb h
  | hdl k => exact rm.le_hd le h
  | own _ => exact h
  | new _ => exact h
def rdV (W : WN) (c : Es rm.S) : TA := fun σ H Q => ∃ (fx : Fx rm) (Γ : Ctx) (s : rm.S) (F : Hp) (A : rm.A), SR fx σ H Γ s F A ∧ ∃ xc, XcOk W fx xc ∧
  wV xc c Γ s fun vs Γ' s' => ∀ xs H' F' A', SR fx σ H' Γ' s' F' A' → HX H A H' A' → Sub F F' → RHL F' A' xs vs → Q xs H'
def rdPart (W : WN) (c : Es rm.S) : TO := fun σ H Q => ∃ (fx : Fx rm) (Γ : Ctx) (s : rm.S) (F : Hp) (A : rm.A), SR fx σ H Γ s F A ∧ ∃ xc, XcOk W fx xc ∧
  wP xc c Γ s fun o Γ' s' => ∀ H' F' A', SR fx σ H' Γ' s' F' A' → HX H A H' A' → Sub F F' → Q o H'
def rdC (W : WN) (c : Es rm.S) : TT := fun σ H Q => ∃ (fx : Fx rm) (Γ : Ctx) (s : rm.S) (F : Hp) (A : rm.A), SR fx σ H Γ s F A ∧ ∃ xc, XcOk W fx xc ∧
  wC xc c Γ s fun o Γ' s' => ∀ H' F' A', SR fx σ H' Γ' s' F' A' → HX H A H' A' → Sub F F' → Q o H'
/-- what a walk gives, wherever what it walks still stands -/
def Yl (J : L2.It) (G F : Hp) (xs : List D) : Prop := ∀ (i : Nat) (H2 : Hp), Sub G H2 →
  (i < xs.length → J.go i H2 ∧ ∀ x H3, J.yld i H2 x H3 → ∃ d, xs[i]? = some d ∧ ((H3 = H2 ∧ Rp F x d) ∨ ∃ T vs ds, H2 T = none ∧ H3 = upd H2 T (.tup vs) ∧ x = V.ref T ∧ d = .tuple ds ∧ RpL F vs ds)) ∧ (i = xs.length → J.stop i H2)
end
end Ac
namespace Ac
open PySem PySem.Spec PyProof.Rows L2
section
variable {rm : RM} {X : Cx} {k : Nat} {t : Sx} {W : WN} {fx : Fx rm} {xc : Nat → Ctx → rm.S → Prop} {σ : L2.St} {H F : Hp} {Γ : Ctx} {s : rm.S} {A : rm.A}
theorem opn_nv {S : Type} {c : E S} {wa : Ctx → S → (Val → Ctx → S → Prop) → Prop} {Γ : Ctx} {s : S} {Q : D → Ctx → S → Prop} (h : ∀ i, c ≠ .var i) : opn c wa Γ s Q = wa Γ s fun v Γ' s' => asD v fun d => Q d Γ' s' := by
  cases c with
  | var i => exact absurd rfl (h i)
  | _ => rfl
theorem boolD_some {d : D} {k : Bool → Prop} (h : boolD d k) : ∃ b, d = .bool b ∧ k b := by
  cases d <;> first | exact ⟨_, rfl, h⟩ | exact h.elim
/-- an expression as an operand -/
theorem to_opn {c : E rm.S} {e : Expr} (h : PE X e (rdE W c)) (hv : ∀ i, c ≠ .var i) : PE X e (rdP W c) := by
  refine PE_imp h fun σ H Q q => ?_
  obtain ⟨fx, Γ, s, F, A, R, xc, xk, q⟩ := q
  rw [opn_nv hv] at q
  refine ⟨fx, Γ, s, F, A, R, xc, xk, wE_mono c (fun v Γ' s' q => ?_) q⟩
  intro x H' F' A' R' hx sb rv
  obtain ⟨d, F'', k, R'', sb', rp⟩ := R'.stay rv q
  refine k x H' F'' A' R'' hx (sb.trans sb') ⟨.inl rp, ?_⟩
  cases c with
  | var i => exact absurd rfl (hv i)
  | _ => exact rp
/-- a test by its value -/
theorem to_test {c : E rm.S} {e : Expr} (h : PE X e (rdP W c)) (ht : tst e = true) : PT X e (rdT W c) := by
  refine PT_imp (pt_val h (tst1 ht)) fun σ H Q q => ?_
  obtain ⟨fx, Γ, s, F, A, R, xc, xk, q⟩ := q
  refine ⟨fx, Γ, s, F, A, R, xc, xk, opnE_mono c (fun d Γ' s' q => ?_) q⟩
  intro x H' F' A' R' hx sb ro
  obtain ⟨b, rfl, q⟩ := boolD_some q
  exact ⟨b, flat_bool ro.1, q H' F' A' R' hx sb⟩
/-! ### names, constants -/
theorem n_varE {i : Nat} {x : Str} {p : Pos} (hx : PE X (.Name x p) (tVar i)) : PE X (.Name x p) (rdE W (.var i : E rm.S)) := by
  refine PE_imp hx fun σ H Q q => ?_
  obtain ⟨fx, Γ, s, F, A, R, xc, xk, q⟩ := q
  unfold wE at q
  split at q
  · rename_i d e
    obtain ⟨y, h1, h2⟩ := R.sl i _ e
    exact ⟨y, h1, q y H F A R (HX.refl H A) (Sub.refl F) h2⟩
  · rename_i xs e
    obtain ⟨a, vs, h1, h2, h3, h4, R'⟩ := R.frzOwn e
    exact ⟨_, h1, q _ H _ A R' (HX.refl H A) (upd_sub h3) (Rp.lst (.inl upd_same) (h4.mono (upd_sub h3)))⟩
  · rename_i n e
    obtain ⟨y, h1, h2⟩ := R.sl i _ e
    exact ⟨y, h1, q y H F A R (HX.refl H A) (Sub.refl F) h2⟩
  · exact q.elim
theorem n_varP {i : Nat} {x : Str} {p : Pos} (hx : PE X (.Name x p) (tVar i)) : PE X (.Name x p) (rdP W (.var i : E rm.S)) := by
  refine PE_imp hx fun σ H Q q => ?_
  obtain ⟨fx, Γ, s, F, A, R, xc, xk, q⟩ := q
  change rdO (look Γ i) _ at q
  cases e : look Γ i with
  | none => rw [e] at q; exact q.elim
  | some v =>
    rw [e] at q
    obtain ⟨y, h1, h2⟩ := R.sl i _ e
    cases v with
    | dat d => exact ⟨y, h1, q y H F A R (HX.refl H A) (Sub.refl F) ⟨.inl h2, h1⟩⟩
    | own xs =>
      obtain ⟨a, vs, e1, e2, e3, e4, e5, e6⟩ := h2
      exact ⟨y, h1, q y H F A R (HX.refl H A) (Sub.refl F) ⟨.inr ⟨a, vs, xs, e1, rfl, e2, e4, e6⟩, h1⟩⟩
    | new xs => exact q.elim
    | hdl n => exact q.elim
theorem n_cst {c : E rm.S} {e : Expr} {v : V} {d : D} (h : PE X e (tC v)) (hr : ∀ F, Rp F v d) (hw : ∀ xc Γ s Q, wE xc c Γ s Q = Q (.dat d) Γ s) : PE X e (rdE W c) := by
  refine PE_imp h fun σ H Q q => ?_
  obtain ⟨fx, Γ, s, F, A, R, xc, xk, q⟩ := q
  rw [hw] at q
  exact q v H F A R (HX.refl H A) (Sub.refl F) (hr F)
/-! ### operations -/
theorem KE.kq {fx : Fx rm} {σ : L2.St} {H F H2 F2 : Hp} {A A2 : rm.A} {Q : VK} {v : Val} {Γ2 : Ctx} {s2 : rm.S} (h : KE fx σ H F A Q v Γ2 s2) (hx : HX H A H2 A2) (sb : Sub F F2) : KQ fx σ H2 F2 A2 Γ2 s2 Q v :=
  fun z H' F' R' hx' sb' rv => h z H' F' A2 R' (hx.trans hx') (sb.trans sb') rv
theorem op_rd {ca cb : E rm.S} {f : Value → Value → Sem Value} {g : D → D → (Val → Prop) → Prop} {r : R2}
    (hr : ∀ (rm : RM) (fx : Fx rm) (σ : L2.St) (H : Hp) (Γ : Ctx) (s : rm.S) (F : Hp) (A : rm.A) (x y : V) (d e : D) (Q : VK), SR fx σ H Γ s F A → Ro H F A x d → Ro H F A y e → g d e (KQ fx σ H F A Γ s Q) → r x y H Q)
    (hm : ∀ {x y : D} {k k' : Val → Prop}, (∀ v, k v → k' v) → g x y k → g x y k') {Q : VK} (R : SR fx σ H Γ s F A) (xk : XcOk W fx xc)
    (h : opn ca (wE xc ca) Γ s fun x Γ1 s1 => opn cb (wE xc cb) Γ1 s1 fun y Γ2 s2 => g x y fun v => KE fx σ H F A Q v Γ2 s2) : tOp r (rdP W ca) (rdP W cb) σ H Q := by
  refine ⟨fx, Γ, s, F, A, R, xc, xk, opnE_mono ca (fun d Γ1 s1 h => ?_) h⟩
  intro x H1 F1 A1 R1 hx1 sb1 ro1
  refine ⟨fx, Γ1, s1, F1, A1, R1, xc, xk, opnE_mono cb (fun e Γ2 s2 h => ?_) h⟩
  intro y H2 F2 A2 R2 hx2 sb2 ro2
  exact hr rm fx σ H2 Γ2 s2 F2 A2 x y d e Q R2 (ro1.1.mono hx2 sb2) ro2.1 (hm (fun v q => q.kq (hx1.trans hx2) (sb1.trans sb2)) h)
theorem n_op {ca cb : E rm.S} {a b : Expr} {o : Operator} {p : Pos} (ha : PE X a (rdP W ca)) (hb : PE X b (rdP W cb)) : PE X (.BinOp a o b p) (rdE W (.op o ca cb)) := by
  obtain ⟨r, hr, hs⟩ := op2_bin (X := X) o
  refine PE_imp (pe_op hr ha hb) fun σ H Q q => ?_
  obtain ⟨fx, Γ, s, F, A, R, xc, xk, q⟩ := q
  unfold wE at q
  exact op_rd (f := binaryOp o) hs opD_mono R xk q
theorem n_cmp {ca cb : E rm.S} {a b : Expr} {o : CmpOp} {p : Pos} (hu : X.A.units + 65 < cLine) (ha : PE X a (rdP W ca)) (hb : PE X b (rdP W cb)) (hm : behindInMarks o b = false) : PE X (.Compare a [o] [b] p) (rdE W (.cmp o ca cb)) ∧ PT X (.Compare a [o] [b] p) (rdT W (.cmp o ca cb)) := by
  obtain ⟨r, hr, hs⟩ := op2_cmp (X := X) hu o
  constructor
  · refine PE_imp (pe_cmpR hr ha hb hm) fun σ H Q q => ?_
    obtain ⟨fx, Γ, s, F, A, R, xc, xk, q⟩ := q
    unfold wE at q
    exact op_rd (f := compareOp o) hs cmpD_mono R xk q
  · refine PT_imp (pt_cmpR hr ha hb hm) fun σ H Q q => ?_
    obtain ⟨fx, Γ, s, F, A, R, xc, xk, q⟩ := q
    change opn (.cmp o ca cb) _ Γ s _ at q
    rw [opn_nv (c := (.cmp o ca cb)) (fun i h => nomatch h)] at q
    unfold wE at q
    refine op_rd (f := compareOp o) hs cmpD_mono R xk (opnE_mono ca (fun d Γ1 s1 => opnE_mono cb fun e Γ2 s2 => cmpD_mono fun v q => ?_) q)
    intro x H' F' A' R' hx sb rv
    cases v with
    | dat d =>
      obtain ⟨b, rfl, q⟩ := boolD_some q
      cases rv
      exact ⟨_, rfl, q H' F' A' R' hx sb⟩
    | new xs => exact q.elim
    | own xs => exact q.elim
    | hdl n => exact q.elim
theorem n_neg {ca : E rm.S} {a : Expr} {p : Pos} (ha : PE X a (rdP W ca)) : PE X (.UnaryOp .USub a p) (rdE W (.neg ca)) := by
  refine PE_imp (pe_un un_neg ha) fun σ H Q q => ?_
  obtain ⟨fx, Γ, s, F, A, R, xc, xk, q⟩ := q
  unfold wE at q
  refine ⟨fx, Γ, s, F, A, R, xc, xk, opnE_mono ca (fun d Γ1 s1 h => ?_) q⟩
  intro x H1 F1 A1 R1 hx1 sb1 ro1
  unfold negX at h
  split at h
  · exact ⟨_, flat_int ro1.1, h _ H1 F1 A1 R1 hx1 sb1 (.int _)⟩
  · exact h.elim
theorem n_nt {ca : E rm.S} {a : Expr} {p : Pos} (ha : PE X a (rdP W ca)) (ht : PT X a (rdT W ca)) : PE X (.UnaryOp .Not a p) (rdE W (.nt ca)) ∧ PT X (.UnaryOp .Not a p) (rdT W (.nt ca)) := by
  constructor
  · refine PE_imp (pe_not ha) fun σ H Q q => ?_
    obtain ⟨fx, Γ, s, F, A, R, xc, xk, q⟩ := q
    unfold wE at q
    refine ⟨fx, Γ, s, F, A, R, xc, xk, opnE_mono ca (fun d Γ1 s1 h => ?_) q⟩
    intro x H1 F1 A1 R1 hx1 sb1 ro1
    obtain ⟨b, rfl, h⟩ := boolD_some h
    exact ⟨_, flat_bool ro1.1, h _ H1 F1 A1 R1 hx1 sb1 (.bl _)⟩
  · refine PT_imp (pt_not ht) fun σ H Q q => ?_
    obtain ⟨fx, Γ, s, F, A, R, xc, xk, q⟩ := q
    change opn (.nt ca) _ Γ s _ at q
    rw [opn_nv (c := (.nt ca)) (fun i h => nomatch h)] at q
    unfold wE at q
    refine ⟨fx, Γ, s, F, A, R, xc, xk, opnE_mono ca (fun d Γ1 s1 h => ?_) q⟩
    obtain ⟨b, rfl, h⟩ := boolD_some h
    exact h
theorem n_an {ca cb : E rm.S} {a b : Expr} {rest : List Expr} {p : Pos} (ha : PE X a (rdP W ca)) (hb : PE X (.BoolOp .And (b :: rest) p) (rdP W cb)) : PE X (.BoolOp .And (a :: b :: rest) p) (rdE W (.an ca cb)) := by
  refine PE_imp (pe_and ha hb) fun σ H Q q => ?_
  obtain ⟨fx, Γ, s, F, A, R, xc, xk, q⟩ := q
  unfold wE at q
  refine ⟨fx, Γ, s, F, A, R, xc, xk, opnE_mono ca (fun d Γ1 s1 h => ?_) q⟩
  intro x H1 F1 A1 R1 hx1 sb1 ro1
  obtain ⟨c, rfl, h⟩ := boolD_some h
  refine ⟨c, flat_bool ro1.1, ite_mono (fun h => ?_) (fun h => h _ H1 F1 A1 R1 hx1 sb1 (.bl _)) h⟩
  refine ⟨fx, Γ1, s1, F1, A1, R1, xc, xk, opnE_mono cb (fun e Γ2 s2 h => ?_) h⟩
  intro y H2 F2 A2 R2 hx2 sb2 ro2
  obtain ⟨c', rfl, h⟩ := boolD_some h
  exact h y H2 F2 A2 R2 (hx1.trans hx2) (sb1.trans sb2) (by rw [flat_bool ro2.1]; exact .bl _)
theorem n_or {ca cb : E rm.S} {a b : Expr} {rest : List Expr} {p : Pos} (ha : PE X a (rdP W ca)) (hb : PE X (.BoolOp .Or (b :: rest) p) (rdP W cb)) : PE X (.BoolOp .Or (a :: b :: rest) p) (rdE W (.or ca cb)) := by
  refine PE_imp (pe_or ha hb) fun σ H Q q => ?_
  obtain ⟨fx, Γ, s, F, A, R, xc, xk, q⟩ := q
  unfold wE at q
  refine ⟨fx, Γ, s, F, A, R, xc, xk, opnE_mono ca (fun d Γ1 s1 h => ?_) q⟩
  intro x H1 F1 A1 R1 hx1 sb1 ro1
  obtain ⟨c, rfl, h⟩ := boolD_some h
  refine ⟨c, flat_bool ro1.1, ite_mono (fun h => h _ H1 F1 A1 R1 hx1 sb1 (.bl _)) (fun h => ?_) h⟩
  refine ⟨fx, Γ1, s1, F1, A1, R1, xc, xk, opnE_mono cb (fun e Γ2 s2 h => ?_) h⟩
  intro y H2 F2 A2 R2 hx2 sb2 ro2
  obtain ⟨c', rfl, h⟩ := boolD_some h
  exact h y H2 F2 A2 R2 (hx1.trans hx2) (sb1.trans sb2) (by rw [flat_bool ro2.1]; exact .bl _)
theorem n_anT {ca cb : E rm.S} {a b : Expr} {rest : List Expr} {p : Pos} (ha : PT X a (rdT W ca)) (hb : PW X (.BoolOp .And (b :: rest) p) (rdT W cb)) : PW X (.BoolOp .And (a :: b :: rest) p) (rdT W (.an ca cb)) := by
  refine PW_imp (pw_and ha hb) fun σ H Q q => ?_
  obtain ⟨fx, Γ, s, F, A, R, xc, xk, q⟩ := q
  change opn (.an ca cb) _ Γ s _ at q
  rw [opn_nv (c := (.an ca cb)) (fun i h => nomatch h)] at q
  unfold wE at q
  refine ⟨fx, Γ, s, F, A, R, xc, xk, opnE_mono ca (fun d Γ1 s1 h => ?_) q⟩
  obtain ⟨c, rfl, h⟩ := boolD_some h
  intro H1 F1 A1 R1 hx1 sb1
  refine ite_mono (fun h => ?_) (fun h => h H1 F1 A1 R1 hx1 sb1) h
  refine ⟨fx, Γ1, s1, F1, A1, R1, xc, xk, opnE_mono cb (fun e Γ2 s2 h => ?_) h⟩
  obtain ⟨c', rfl, h⟩ := boolD_some h
  exact fun H2 F2 A2 R2 hx2 sb2 => h H2 F2 A2 R2 (hx1.trans hx2) (sb1.trans sb2)
theorem n_orT {ca cb : E rm.S} {a b : Expr} {rest : List Expr} {p : Pos} (ha : PT X a (rdT W ca)) (hb : PW X (.BoolOp .Or (b :: rest) p) (rdT W cb)) : PW X (.BoolOp .Or (a :: b :: rest) p) (rdT W (.or ca cb)) := by
  refine PW_imp (pw_or ha hb) fun σ H Q q => ?_
  obtain ⟨fx, Γ, s, F, A, R, xc, xk, q⟩ := q
  change opn (.or ca cb) _ Γ s _ at q
  rw [opn_nv (c := (.or ca cb)) (fun i h => nomatch h)] at q
  unfold wE at q
  refine ⟨fx, Γ, s, F, A, R, xc, xk, opnE_mono ca (fun d Γ1 s1 h => ?_) q⟩
  obtain ⟨c, rfl, h⟩ := boolD_some h
  intro H1 F1 A1 R1 hx1 sb1
  refine ite_mono (fun h => h H1 F1 A1 R1 hx1 sb1) (fun h => ?_) h
  refine ⟨fx, Γ1, s1, F1, A1, R1, xc, xk, opnE_mono cb (fun e Γ2 s2 h => ?_) h⟩
  obtain ⟨c', rfl, h⟩ := boolD_some h
  exact fun H2 F2 A2 R2 hx2 sb2 => h H2 F2 A2 R2 (hx1.trans hx2) (sb1.trans sb2)
theorem ch_rd {ca cb cc : E rm.S} {g g' : D → D → (Val → Prop) → Prop} {r r' : R2}
    (hr : ∀ (rm : RM) (fx : Fx rm) (σ : L2.St) (H : Hp) (Γ : Ctx) (s : rm.S) (F : Hp) (A : rm.A) (x y : V) (d e : D) (Q : VK), SR fx σ H Γ s F A → Ro H F A x d → Ro H F A y e → g d e (KQ fx σ H F A Γ s Q) → r x y H Q)
    (hr' : ∀ (rm : RM) (fx : Fx rm) (σ : L2.St) (H : Hp) (Γ : Ctx) (s : rm.S) (F : Hp) (A : rm.A) (x y : V) (d e : D) (Q : VK), SR fx σ H Γ s F A → Ro H F A x d → Ro H F A y e → g' d e (KQ fx σ H F A Γ s Q) → r' x y H Q)
    (hm : ∀ {x y : D} {k k' : Val → Prop}, (∀ v, k v → k' v) → g x y k → g x y k') (hm' : ∀ {x y : D} {k k' : Val → Prop}, (∀ v, k v → k' v) → g' x y k → g' x y k') {Q : VK} (R : SR fx σ H Γ s F A) (xk : XcOk W fx xc)
    (h : opn ca (wE xc ca) Γ s fun x Γ1 s1 => opn cb (wE xc cb) Γ1 s1 fun y Γ2 s2 => g x y fun v => asD v fun d => boolD d fun k => if k = true then opn cc (wE xc cc) Γ2 s2 fun z Γ3 s3 => g' y z fun v => KE fx σ H F A Q v Γ3 s3 else KE fx σ H F A Q (.dat (.bool false)) Γ2 s2) : tChain r r' (rdP W ca) (rdP W cb) (rdP W cc) σ H Q := by
  refine ⟨fx, Γ, s, F, A, R, xc, xk, opnE_mono ca (fun d Γ1 s1 h => ?_) h⟩
  intro x H1 F1 A1 R1 hx1 sb1 ro1
  refine ⟨fx, Γ1, s1, F1, A1, R1, xc, xk, opnE_mono cb (fun e Γ2 s2 h => ?_) h⟩
  intro y H2 F2 A2 R2 hx2 sb2 ro2
  refine hr rm fx σ H2 Γ2 s2 F2 A2 x y d e _ R2 (ro1.1.mono hx2 sb2) ro2.1 (hm (fun v q => ?_) h)
  intro z H3 F3 R3 hx3 sb3 rv
  cases v with
  | dat d' =>
    obtain ⟨kk, rfl, q⟩ := boolD_some q
    cases rv
    refine ⟨kk, rfl, ite_mono (fun q => ?_) (fun q => q _ H3 F3 A2 R3 ((hx1.trans hx2).trans hx3) ((sb1.trans sb2).trans sb3) (.bl _)) q⟩
    refine ⟨fx, Γ2, s2, F3, A2, R3, xc, xk, opnE_mono cc (fun e' Γ3 s3 h => ?_) q⟩
    intro w H4 F4 A4 R4 hx4 sb4 ro4
    exact hr' rm fx σ H4 Γ3 s3 F4 A4 y w e e' Q R4 ((ro2.1.mono hx3 sb3).mono hx4 sb4) ro4.1 (hm' (fun v q => q.kq (((hx1.trans hx2).trans hx3).trans hx4) (((sb1.trans sb2).trans sb3).trans sb4)) h)
  | new xs => exact q.elim
  | own xs => exact q.elim
  | hdl n => exact q.elim
theorem n_ch {ca cb cc : E rm.S} {a b c : Expr} {o o' : CmpOp} {p : Pos} (hu : X.A.units + 65 < cLine) (ha : PE X a (rdP W ca)) (hb : PE X b (rdP W cb)) (hc : PE X c (rdP W cc)) (hm : lastMarks [o, o'] [b, c] = false) :
    PE X (.Compare a [o, o'] [b, c] p) (rdE W (.ch o o' ca cb cc)) ∧ PT X (.Compare a [o, o'] [b, c] p) (rdT W (.ch o o' ca cb cc)) := by
  obtain ⟨r, hr, hs⟩ := op2_cmp (X := X) hu o
  obtain ⟨r', hr', hs'⟩ := op2_cmp (X := X) hu o'
  constructor
  · refine PE_imp (pe_chain hr hr' ha hb hc hm) fun σ H Q q => ?_
    obtain ⟨fx, Γ, s, F, A, R, xc, xk, q⟩ := q
    unfold wE at q
    exact ch_rd hs hs' cmpD_mono cmpD_mono R xk q
  · refine PT_imp (pt_chain hr hr' ha hb hc hm) fun σ H Q q => ?_
    obtain ⟨fx, Γ, s, F, A, R, xc, xk, q⟩ := q
    change opn (.ch o o' ca cb cc) _ Γ s _ at q
    rw [opn_nv (c := (.ch o o' ca cb cc)) (fun i h => nomatch h)] at q
    have q2 := wE_mono (.ch o o' ca cb cc) (Q' := KE fx σ H F A fun x H' => ∃ k, x = .bl k ∧ Q k H') (fun v Γ' s' q => by
      intro x H' F' A' R' hx sb rv
      cases v with
      | dat d =>
        obtain ⟨b, rfl, q⟩ := boolD_some q
        cases rv
        exact ⟨_, rfl, q H' F' A' R' hx sb⟩
      | new xs => exact q.elim
      | own xs => exact q.elim
      | hdl n => exact q.elim) q
    unfold wE at q2
    exact ch_rd hs hs' cmpD_mono cmpD_mono R xk q2
theorem isnone_iff {x : V} {d : D} (h : Ro H F A x d) : decide (x = .non) = noneD d := by
  rcases h with h | ⟨a, vs, ds, rfl, rfl, _⟩
  · cases h <;> rfl
  · rfl
theorem n_isn {ca : E rm.S} {a : Expr} {j : Nat} {p p' : Pos} (ha : PE X a (rdP W ca)) :
    (PE X (.Compare a [.Is] [.Constant .none j p'] p) (rdE W (.isn true ca)) ∧ PT X (.Compare a [.Is] [.Constant .none j p'] p) (rdT W (.isn true ca))) ∧
    (PE X (.Compare a [.IsNot] [.Constant .none j p'] p) (rdE W (.isn false ca)) ∧ PT X (.Compare a [.IsNot] [.Constant .none j p'] p) (rdT W (.isn false ca))) := by
  refine ⟨⟨PE_imp (pe_cmp (pc_isN ha)) fun σ H Q q => ?_, PT_imp (pt_cmp (pc_isN ha)) fun σ H Q q => ?_⟩, ⟨PE_imp (pe_cmp (pc_notN ha)) fun σ H Q q => ?_, PT_imp (pt_cmp (pc_notN ha)) fun σ H Q q => ?_⟩⟩
  · obtain ⟨fx, Γ, s, F, A, R, xc, xk, q⟩ := q
    unfold wE at q
    refine ⟨fx, Γ, s, F, A, R, xc, xk, opnE_mono ca (fun d Γ1 s1 h => ?_) q⟩
    intro x H1 F1 A1 R1 hx1 sb1 ro1
    rw [isnone_iff ro1.1]
    exact h _ H1 F1 A1 R1 hx1 sb1 (.bl _)
  · obtain ⟨fx, Γ, s, F, A, R, xc, xk, q⟩ := q
    change opn (.isn true ca) _ Γ s _ at q
    rw [opn_nv (c := (.isn true ca)) (fun i h => nomatch h)] at q
    unfold wE at q
    refine ⟨fx, Γ, s, F, A, R, xc, xk, opnE_mono ca (fun d Γ1 s1 h => ?_) q⟩
    intro x H1 F1 A1 R1 hx1 sb1 ro1
    refine ⟨_, rfl, ?_⟩
    rw [isnone_iff ro1.1]
    exact h H1 F1 A1 R1 hx1 sb1
  · obtain ⟨fx, Γ, s, F, A, R, xc, xk, q⟩ := q
    unfold wE at q
    refine ⟨fx, Γ, s, F, A, R, xc, xk, opnE_mono ca (fun d Γ1 s1 h => ?_) q⟩
    intro x H1 F1 A1 R1 hx1 sb1 ro1
    rw [isnone_iff ro1.1]
    exact h _ H1 F1 A1 R1 hx1 sb1 (.bl _)
  · obtain ⟨fx, Γ, s, F, A, R, xc, xk, q⟩ := q
    change opn (.isn false ca) _ Γ s _ at q
    rw [opn_nv (c := (.isn false ca)) (fun i h => nomatch h)] at q
    unfold wE at q
    refine ⟨fx, Γ, s, F, A, R, xc, xk, opnE_mono ca (fun d Γ1 s1 h => ?_) q⟩
    intro x H1 F1 A1 R1 hx1 sb1 ro1
    refine ⟨_, rfl, ?_⟩
    rw [isnone_iff ro1.1]
    exact h H1 F1 A1 R1 hx1 sb1
theorem n_isb {ca : E rm.S} {a : Expr} {j : Nat} {b : Bool} {p p' : Pos} (ha : PE X a (rdP W ca)) :
    (PE X (.Compare a [.Is] [.Constant (.bool b) j p'] p) (rdE W (.isb true b ca)) ∧ PT X (.Compare a [.Is] [.Constant (.bool b) j p'] p) (rdT W (.isb true b ca))) ∧
    (PE X (.Compare a [.IsNot] [.Constant (.bool b) j p'] p) (rdE W (.isb false b ca)) ∧ PT X (.Compare a [.IsNot] [.Constant (.bool b) j p'] p) (rdT W (.isb false b ca))) := by
  have e1 : ∀ c b : Bool, decide (c = b) = (if true = true then c == b else !(c == b)) := by decide
  have e2 : ∀ c b : Bool, (!decide (c = b)) = (if false = true then c == b else !(c == b)) := by decide
  refine ⟨⟨PE_imp (pe_cmpR op_isBl ha (pe_bl (b := b)) (nomark _)) fun σ H Q q => ?_, PT_imp (pt_cmpR op_isBl ha (pe_bl (b := b)) (nomark _)) fun σ H Q q => ?_⟩, ⟨PE_imp (pe_cmpR op_notBl ha (pe_bl (b := b)) (nomark _)) fun σ H Q q => ?_, PT_imp (pt_cmpR op_notBl ha (pe_bl (b := b)) (nomark _)) fun σ H Q q => ?_⟩⟩
  · obtain ⟨fx, Γ, s, F, A, R, xc, xk, q⟩ := q
    unfold wE at q
    refine ⟨fx, Γ, s, F, A, R, xc, xk, opnE_mono ca (fun d Γ1 s1 h => ?_) q⟩
    intro x H1 F1 A1 R1 hx1 sb1 ro1
    obtain ⟨c, rfl, h⟩ := boolD_some h
    refine ⟨_, b, flat_bool ro1.1, rfl, ?_⟩
    rw [e1]
    exact h _ H1 F1 A1 R1 hx1 sb1 (.bl _)
  · obtain ⟨fx, Γ, s, F, A, R, xc, xk, q⟩ := q
    change opn (.isb true b ca) _ Γ s _ at q
    rw [opn_nv (c := (.isb true b ca)) (fun i h => nomatch h)] at q
    unfold wE at q
    refine ⟨fx, Γ, s, F, A, R, xc, xk, opnE_mono ca (fun d Γ1 s1 h => ?_) q⟩
    intro x H1 F1 A1 R1 hx1 sb1 ro1
    obtain ⟨c, rfl, h⟩ := boolD_some h
    refine ⟨_, b, flat_bool ro1.1, rfl, _, rfl, ?_⟩
    rw [e1]
    exact h H1 F1 A1 R1 hx1 sb1
  · obtain ⟨fx, Γ, s, F, A, R, xc, xk, q⟩ := q
    unfold wE at q
    refine ⟨fx, Γ, s, F, A, R, xc, xk, opnE_mono ca (fun d Γ1 s1 h => ?_) q⟩
    intro x H1 F1 A1 R1 hx1 sb1 ro1
    obtain ⟨c, rfl, h⟩ := boolD_some h
    refine ⟨_, b, flat_bool ro1.1, rfl, ?_⟩
    rw [e2]
    exact h _ H1 F1 A1 R1 hx1 sb1 (.bl _)
  · obtain ⟨fx, Γ, s, F, A, R, xc, xk, q⟩ := q
    change opn (.isb false b ca) _ Γ s _ at q
    rw [opn_nv (c := (.isb false b ca)) (fun i h => nomatch h)] at q
    unfold wE at q
    refine ⟨fx, Γ, s, F, A, R, xc, xk, opnE_mono ca (fun d Γ1 s1 h => ?_) q⟩
    intro x H1 F1 A1 R1 hx1 sb1 ro1
    obtain ⟨c, rfl, h⟩ := boolD_some h
    refine ⟨_, b, flat_bool ro1.1, rfl, _, rfl, ?_⟩
    rw [e2]
    exact h H1 F1 A1 R1 hx1 sb1
end
end Ac
namespace Ac
open PySem PySem.Spec PyProof.Rows L2
/-! ### a def's promise where no repr is under way -/
structure FnG (P : Program) (w : World) (K : PySem.W.Frag) (mg : Str → Option Value) (base : Heap) (k : Nat) (f : Addr) (fd : FuncData) (ps : List Str) (sp : Sp) : Prop where
  len : ∀ vs H Q E, sp vs H Q E → vs.length = ps.length
  run : ∀ (A : Around) (ou : List Env) (s : Shared) (H : Hp) (ar : Args) (us : List Value) (vs : List V) (Q : VK) (E : XK), Room k A → A.guards = some [] → Env0 P w K mg base A ou s H → BindsTo s fd ar (ps.zip us) → Vals vs us → sp vs H Q E →
    codeAny (model P w) A (.call (.ref f) ar) (CR (L2.CX P w) ou P w H s Q E) s
theorem FnG.mono {P : Program} {w : World} {K : PySem.W.Frag} {mg : Str → Option Value} {base : Heap} {j k : Nat} {f : Addr} {fd : FuncData} {ps : List Str} {sp : Sp} (F : FnG P w K mg base j f fd ps sp) (h : j ≤ k) : FnG P w K mg base k f fd ps sp :=
  { len := F.len, run := fun A ou s H ar us vs Q E hr => F.run A ou s H ar us vs Q E (hr.mono h) }
section
variable {P : Program} {w : World} {K : PySem.W.Frag} {mg : Str → Option Value} {base : Heap} {k : Nat} {f : Addr} {x : Str} {st : Stmt} {fd : FuncData} {N ps : List Str} {sp : Sp}
/-- by its body -/
theorem fnG_of (F : Fun K x x st f fd) (S : FnScope N ps (defScope st)) (hlen : ∀ vs H Q E, sp vs H Q E → vs.length = ps.length)
    (hb : ∀ (cdv : Value) (A : Around) (ou : List Env) (s : Shared) (H : Hp) (vs : List V) (Q : VK) (E : XK), Room k (A.deeper (envOfC x (defScope st) s.heap.objs.size f cdv)) → A.guards = some [] → sp vs H Q E →
      ∃ t, PSs (cxOf (L2.CX P w) P w K mg base N x (defScope st) f cdv A ou s H E) (defBody st) t ∧ t { nx := fun _ H' => Q .non H', rt := Q } (L2.start N vs) H) : FnG P w K mg base (k + 1) f fd ps sp := by
  obtain ⟨oc, od, kV, doc, pm, an, cdv, ct, osl, rfl, lk, hcd⟩ := F.ex
  constructor
  · exact hlen
  intro A ou s H ar us vs Q E hr hgd e0 hbd rv hsp
  have hl := hlen vs H Q E hsp
  have hin : ∀ b o, base.get? b = some o → s.heap.get? b = some o := fun b o e => (e0.bs b o e).1
  have KX : K.In s.heap := e0.mod.kin.keeps hin
  have lim : s.heap.NoLimit := e0.mod.nolimit.keeps hin
  refine codeAny_call_function hr.depth (KX _ _ lk) rfl S.co S.gen rfl (PySem.W.codeRec_of KX hcd) (hbd _ _ _ _ ?_)
  refine wpAny_newFunctionEnv_cells S.kind (fun y hy => ?_) fun env he s1 x1 => ?_
  · rcases S.par y.1 (List.of_mem_zip hy).1 with q | q
    · exact Or.inl q
    · exact Or.inr ⟨q, PySem.W.cellsFrom_some _ _ _ (Or.inl q)⟩
  · subst he
    refine ⟨lim.keeps x1.toInCall.keep, codeAny_func ?_⟩
    obtain ⟨t, ht, hq⟩ := hb cdv A ou s H vs Q E (hr.deeper _) hgd hsp
    have I := inv_start (CX := L2.CX P w) (E := E) (mg := mg) S hr.hd e0 hl rv x1
    refine wpAny_mono (ht.run [] s1 (L2.start N vs) H _ I hq) (fun fl s' hs => ?_) fun _ _ z => z
    cases fl with
    | ret u =>
      obtain ⟨v, σ', H', J, rv', q⟩ := hs
      exact ⟨v, H', J.os, J.bare, J.base, J.hok, rv', q⟩
    | next =>
      obtain ⟨σ', H', J, q⟩ := hs
      exact ⟨V.non, H', J.os, J.bare, J.base, J.hok, rfl, q⟩
    | brk => exact hs.elim fun _ z => z.elim fun _ z => z.2.elim
    | cont => exact hs.elim fun _ z => z.elim fun _ z => z.2.elim
end
section
variable {X : Cx} {k : Nat} {f : Addr} {fd : FuncData} {ps : List Str} {sp : Sp} {E : L2.St → XK} {x : Str} {p pos : Pos} {e : Expr} {es : List Expr} {t : TA}
theorem runG {pins : List (Addr × Obj)} {σ : L2.St} {H : Hp} {s : Shared} {Q : VK} {us : List Value} {vs : List V} (F : FnG X.prog X.w X.K X.mg X.base k f fd ps sp) (hr : Room k X.A) (hgd : X.A.guards = some []) (hb : Binds X.K fd ps []) (hx : PassesAt (L2.CX X.prog X.w) X σ (E σ))
    (I : Inv X pins σ H s) (r : Vals vs us) (h : sp vs H Q (E σ)) : wpAny (model X.prog X.w) X.A (call (.ref f) us) (EP X pins σ Q) X.xe s := by
  have hl : us.length = ps.length := by rw [← r.length]; exact F.len _ _ _ _ h
  have hb' : BindsTo s fd ⟨us, []⟩ (ps.zip us) := by
    have z := hb s us I.kIn (by rw [List.append_nil]; exact hl)
    rw [List.append_nil] at z
    exact z
  refine wpAny_call (codeAny_mono (F.run X.A X.stack s H ⟨us, []⟩ us vs Q (E σ) hr hgd I.env0 hb' r h) fun r s' hq => ?_)
  match r, hq with
  | .error e, hq => exact hx pins H s e s' I hq
  | .ok (.ret u), hq => exact I.after hq
  | .ok .next, hq => exact hq.elim
  | .ok .brk, hq => exact hq.elim
  | .ok .cont, hq => exact hq.elim
theorem pe_callG (F : FnG X.prog X.w X.K X.mg X.base k f fd ps sp) (hr : Room k X.A) (hgd : X.A.guards = some []) (hg : Gl X x) (hm : X.mg x = some (.ref f)) (hk : PySem.W.keepIn X.K (.ref f) = true) (hb : Binds X.K fd ps []) (hx : ∀ σ, PassesAt (L2.CX X.prog X.w) X σ (E σ))
    (ha : PA X (e :: es) t) (hdb : (x == ("__debug__" : Str)) = false) (he : starEach (e :: es) X.env = (false, eval e X.env) :: starEach es X.env) (hpl : (backTo pos (starEach es X.env)).any (·.1) = false) :
    PE X (.Call (.Name x p) (e :: es) [] pos) (fun σ H Q => t σ H fun vs H1 => sp vs H1 Q (E σ)) := by
  constructor
  intro pins s σ H Q I h
  refine wpAny_Call_Name_kw (ld_glob I hg hm ?_ hdb)
  refine PySem.W.callWith_K (h₀ := X.base) I.ok.mod.kin hk (thn (ha.run pos pins s σ H _ I h) fun us s1 z => ?_) he hpl
  obtain ⟨vs, H1, I1, r, q⟩ := z
  exact ⟨I1.kIn, runG F hr hgd hb (hx σ) I1 r q⟩
theorem pe_callG0 (F : FnG X.prog X.w X.K X.mg X.base k f fd ps sp) (hr : Room k X.A) (hgd : X.A.guards = some []) (hg : Gl X x) (hm : X.mg x = some (.ref f)) (hk : PySem.W.keepIn X.K (.ref f) = true) (hb : Binds X.K fd ps []) (hx : ∀ σ, PassesAt (L2.CX X.prog X.w) X σ (E σ))
    (hdb : (x == ("__debug__" : Str)) = false) : PE X (.Call (.Name x p) [] [] pos) (fun σ H Q => sp [] H Q (E σ)) := by
  constructor
  intro pins s σ H Q I h
  exact wpAny_Call_Name_kw (ld_glob I hg hm (PySem.W.callWith_K0 I.kIn hk (runG (us := []) F hr hgd hb (hx σ) I .nil h)) hdb)
end
/-! ### the law's call -/
def oneH (a : Addr) (o : HO) : Hp := fun b => if b = a then some o else none
theorem oneH_some {a b : Addr} {o u : HO} (h : oneH a o b = some u) : b = a ∧ u = o := by
  unfold oneH at h
  split at h
  · exact ⟨‹_›, (Option.some.inj h).symm⟩
  · cases h
theorem oneH_none {a b : Addr} {o : HO} (h : b ≠ a) : oneH a o b = none := by
  unfold oneH
  rw [if_neg h]
theorem lawG {P : Program} {w : World} {K : PySem.W.Frag} {mg mb : Str → Option Value} {k : Nat} {fa a : Addr} {fd : FuncData} {x : Str} {sp : Sp} {s1 : Shared} {vs : List Value} {ns : List Int}
    (KX : K.In s1.heap) (g1 : s1.heap.Ns mainGlobals mg) (g2 : s1.heap.Ns builtinsNs mb) (g3 : ∀ y : Str, y ≠ "__name__" → mb y = bootBuiltins y) (lim : s1.heap.NoLimit) (gn : s1.gens = #[])
    (ha : s1.heap.get? a = some { cls := .type "list", data := .seq vs.toArray }) (hi : IntsAre vs ns) (hl : ns.length ≤ sizeLine) (hr : Room k callerA) (hK : K.lookup a = none) {mm : Str → Option Value} (hsm : s1.heap.Ns sysModules mm)
    (F : ∀ base : Heap, K.In base → base.Ns mainGlobals mg → (∃ o, base.get? sysModules = some o) → FnG P w K mg base k fa fd [x] sp) (bd : ∀ (s : Shared) (u : Value), BindsTo s fd ⟨[u], []⟩ [(x, u)])
    (hsp : ∀ H : Hp, Rd H a (.lst (ns.map V.int)) → sp [.ref a] H (fun v _ => v = .bl true) fun _ _ _ => False) :
    codeAny (model P w) callerA (.call (.ref fa) ⟨[.ref a], []⟩) (fun r s' => r = .ok (.ret (.bool true)) ∧ OldK s1.heap s'.heap ∧ s'.os = s1.os ∧ AllBare s'.gens) s1 := by
  let ob : Obj := { cls := .type "list", data := .seq vs.toArray }
  let H0 : Hp := oneH a (.frz ob (.lst (ns.map V.int)))
  have e0 : H0 a = some (.frz ob (.lst (ns.map V.int))) := if_pos rfl
  have hok : HOk P w H0 s1.heap := fun b u z => by
    obtain ⟨rfl, rfl⟩ := oneH_some z
    exact ⟨ha, by rw [List.length_map]; exact hl, vs, _, vals_ints hi, ha⟩
  have keepB : ∀ b o, s1.heap.get? b = some o → b ≠ a → (hidT s1.heap H0).get? b = some o := fun b o e n => hidT_get e (oneH_none n)
  have apart : ∀ (b : Addr) (o : Obj) (es : Array DictEntry) (ep : Nat), s1.heap.get? b = some o → o.data = .dict es ep → b ≠ a := fun b o es ep e d z => by
    subst z
    rw [ha] at e
    cases e
    cases d
  have nsB : ∀ {b : Addr} {m : Str → Option Value}, s1.heap.Ns b m → (hidT s1.heap H0).Ns b m := fun {b m} z => by
    obtain ⟨o, es, ep, e, d, r⟩ := z
    exact ⟨o, es, ep, keepB b o e (apart b o es ep e d), d, r⟩
  have hKb : K.In (hidT s1.heap H0) := fun b o e => keepB b o (KX b o e) fun z => by
    subst z
    rw [hK] at e
    cases e
  have hM : Mod K mg (hidT s1.heap H0) := { kin := hKb, glob := nsB g1, blt := ⟨mb, nsB g2, g3⟩, nolimit := by obtain ⟨mc, z1, z2⟩ := lim; exact ⟨mc, nsB z1, z2⟩ }
  have en : Env0 P w K mg (hidT s1.heap H0) callerA [] s1 H0 :=
    { frames := rfl, mod := hM, bs := fun b o e => of_hidT e, bsz := Nat.le_of_eq (hidT_size _ _), funs := trivial, frf := fun b hb => (nomatch hb), hok := hok, bare := .of_eq gn }
  have hsb : ∃ o, (hidT s1.heap H0).get? sysModules = some o := by obtain ⟨o, _, _, e, _⟩ := nsB hsm; exact ⟨o, e⟩
  refine codeAny_mono ((F _ hKb (nsB g1) hsb).run callerA [] s1 H0 ⟨[.ref a], []⟩ [.ref a] [.ref a] _ _ hr rfl en (bd s1 (.ref a)) (.cons rfl .nil) (hsp H0 (.inr ⟨_, e0⟩))) fun r s' hq => ?_
  match r, hq with
  | .error e, hq =>
    obtain ⟨_, _, _, _, _, _, _, _, _, _, _, _, z⟩ := hq
    exact z.elim
  | .ok (.ret u), hq =>
    obtain ⟨v, H', os, bare, un, hok', r', q⟩ := hq
    have q : v = V.bl true := q
    subst q
    obtain rfl : u = Value.bool true := r'
    refine ⟨rfl, OldK.of_keep fun b o e => ?_, os, bare⟩
    by_cases z : b = a
    · subst z
      rw [ha] at e
      cases e
      exact (hok' b _ (un.frzs b ob _ e0)).1
    · exact un.keep b o e (oneH_none z) (fun z => (nomatch z)) (fun z => (nomatch z))
  | .ok .next, hq => exact hq.elim
  | .ok .brk, hq => exact hq.elim
  | .ok .cont, hq => exact hq.elim
end Ac
namespace Ac
open PySem PySem.Spec PyProof.Rows L2
section
variable {rm : RM} {X : Cx} {k : Nat} {t : Sx} {W : WN} {fx : Fx rm} {xc : Nat → Ctx → rm.S → Prop} {σ : L2.St} {H F : Hp} {Γ : Ctx} {s : rm.S} {A : rm.A}
/-! ### items, slices -/
theorem ixD_at {xs : List D} {vs : List V} {i : Int} {K : D → Prop} (r : RpL F vs xs) (h : ixD xs i K) : ∃ d v, atI vs i = some v ∧ Rp F v d ∧ K d := by
  unfold ixD at h
  split at h
  · rename_i d e
    cases e1 : ixN xs.length i with
    | none => rw [e1] at e; cases e
    | some j =>
      rw [e1] at e
      obtain ⟨v, hv, rp⟩ := r.get (i := j) (y := d) e
      refine ⟨d, v, ?_, rp, h⟩
      unfold atI
      rw [r.length, e1]
      exact hv
  · exact h.elim
theorem n_ix {ca cb : E rm.S} {a b : Expr} {p : Pos} (ha : PE X a (rdP W ca)) (hb : PE X b (rdP W cb)) (hs : PlainIx b) : PE X (.Subscript a b p) (rdE W (.ix ca cb)) := by
  refine PE_imp (pe_ix ix_seq ha hb hs) fun σ H Q q => ?_
  obtain ⟨fx, Γ, s, F, A, R, xc, xk, q⟩ := q
  unfold wE at q
  refine op_rd (f := fun _ _ => pure .none) (g := fun x y k => ixX x y fun d => k (.dat d)) ?_ ?_ R xk q
  · intro rm fx σ H Γ s F A x y d e Q R hx hy h
    unfold ixX at h
    split at h
    · obtain ⟨a, vs, e1, q1, r1⟩ := hx.lst R.fh
      obtain ⟨d, v, h1, h2, h3⟩ := ixD_at r1 h
      exact .inl ⟨a, vs, _, v, e1, flat_int hy, .inl q1, h1, KQ.dat R h2 h3⟩
    · obtain ⟨a, vs, e1, q1, r1⟩ := hx.tup
      obtain ⟨d, v, h1, h2, h3⟩ := ixD_at r1 h
      exact .inr (.inl ⟨a, vs, _, v, e1, flat_int hy, .inl (.inl (R.fh _ _ q1)), h1, KQ.dat R h2 h3⟩)
    · exact h.elim
  · intro x y k k' hk h
    exact ixX_mono (fun d => hk _) h
theorem cut_rel {xs : List D} {vs : List V} {lo hi : Option Int} (r : RpL F vs xs) : RpL F (cutV vs lo hi) (cutD xs lo hi) := by
  unfold cutV cutD
  rw [r.length]
  exact (r.drop _).take _
theorem n_part0 : PO X none (rdPart W (.nil : Es rm.S)) := by
  refine PO_imp po_none fun σ H Q q => ?_
  obtain ⟨fx, Γ, s, F, A, R, xc, xk, q⟩ := q
  unfold wP at q
  exact q H F A R (HX.refl H A) (Sub.refl F)
theorem n_part1 {c : E rm.S} {r : Es rm.S} {e : Expr} (h : PE X e (rdP W c)) : PO X (some e) (rdPart W (.cons c r)) := by
  refine PO_imp (po_some h) fun σ H Q q => ?_
  obtain ⟨fx, Γ, s, F, A, R, xc, xk, q⟩ := q
  unfold wP at q
  refine ⟨fx, Γ, s, F, A, R, xc, xk, opnE_mono c (fun d Γ1 s1 h => ?_) q⟩
  intro x H1 F1 A1 R1 hx1 sb1 ro1
  unfold intX at h
  split at h
  · exact ⟨_, flat_int ro1.1, h H1 F1 A1 R1 hx1 sb1⟩
  · exact h.elim
theorem n_sl {ca : E rm.S} {cl ch : Es rm.S} {a : Expr} {lo hi : Option Expr} {p p2 : Pos} (ha : PE X a (rdP W ca)) (hl : PO X lo (rdPart W cl)) (hh : PO X hi (rdPart W ch)) : PE X (.Subscript a (.Slice lo hi none p2) p) (rdE W (.sl ca cl ch)) := by
  refine PE_imp (pe_slice sl_list ha hl hh) fun σ H Q q => ?_
  obtain ⟨fx, Γ, s, F, A, R, xc, xk, q⟩ := q
  unfold wE at q
  refine ⟨fx, Γ, s, F, A, R, xc, xk, opnE_mono ca (fun d Γ1 s1 q => ?_) q⟩
  intro x H1 F1 A1 R1 hx1 sb1 ro1
  refine ⟨fx, Γ1, s1, F1, A1, R1, xc, xk, wP_mono cl (fun l Γ2 s2 q => ?_) q⟩
  intro H2 F2 A2 R2 hx2 sb2
  refine ⟨fx, Γ2, s2, F2, A2, R2, xc, xk, wP_mono ch (fun h Γ3 s3 q => ?_) q⟩
  intro H3 F3 A3 R3 hx3 sb3
  unfold slX at q
  split at q
  · obtain ⟨a, vs, e1, q1, r1⟩ := ((ro1.1.mono hx2 sb2).mono hx3 sb3).lst R3.fh
    exact ⟨a, vs, e1, .inl q1, fun p hp => KQ.mk R3 hp (cut_rel r1) (q.kq ((hx1.trans hx2).trans hx3) ((sb1.trans sb2).trans sb3))⟩
  · exact q.elim
theorem n_rv {ca : E rm.S} {a : Expr} {kk : Nat} {p p1 p2 p3 : Pos} (ha : PE X a (rdP W ca)) : PE X (.Subscript a (.Slice none none (some (.UnaryOp .USub (.Constant (.int 1) kk p1) p2)) p3) p) (rdE W (.rv ca)) := by
  refine PE_imp (pe_revL ha) fun σ H Q q => ?_
  obtain ⟨fx, Γ, s, F, A, R, xc, xk, q⟩ := q
  unfold wE at q
  refine ⟨fx, Γ, s, F, A, R, xc, xk, opnE_mono ca (fun d Γ1 s1 q => ?_) q⟩
  intro x H1 F1 A1 R1 hx1 sb1 ro1
  unfold rvX at q
  split at q
  · obtain ⟨a, vs, e1, q1, r1⟩ := ro1.1.lst R1.fh
    exact ⟨a, vs, e1, .inl q1, fun p hp => KQ.mk R1 hp r1.reverse (q.kq hx1 sb1)⟩
  · exact q.elim
/-! ### arguments -/
theorem RoC.mono {c : E rm.S} {H' F' : Hp} {A' : rm.A} {x : V} {d : D} (h : RoC c σ H F A x d) (hx : HX H A H' A') (sb : Sub F F') : RoC c σ H' F' A' x d := by
  refine ⟨h.1.mono hx sb, ?_⟩
  have h2 := h.2
  cases c with
  | var i => exact h2
  | _ => exact Rp.mono sb h2
theorem n_a0 : PA X [] (rdA W (.nil : Es rm.S)) := by
  refine PA_imp pa_nil fun σ H Q q => ?_
  obtain ⟨fx, Γ, s, F, A, R, xc, xk, q⟩ := q
  unfold wA at q
  exact q [] H F A R (HX.refl H A) (Sub.refl F) trivial
theorem n_a1 {c : E rm.S} {r : Es rm.S} {e : Expr} {es : List Expr} (h : PE X e (rdP W c)) (hr : PA X es (rdA W r)) (hs : shp e = true) : PA X (e :: es) (rdA W (.cons c r)) := by
  refine PA_imp (pa_cons h hr (star1 hs)) fun σ H Q q => ?_
  obtain ⟨fx, Γ, s, F, A, R, xc, xk, q⟩ := q
  unfold wA at q
  refine ⟨fx, Γ, s, F, A, R, xc, xk, opnE_mono c (fun d Γ1 s1 q => ?_) q⟩
  intro x H1 F1 A1 R1 hx1 sb1 ro1
  refine ⟨fx, Γ1, s1, F1, A1, R1, xc, xk, wA_mono r (fun ds Γ2 s2 q => ?_) q⟩
  intro xs H2 F2 A2 R2 hx2 sb2 ar
  exact q (x :: xs) H2 F2 A2 R2 (hx1.trans hx2) (sb1.trans sb2) ⟨ro1.mono hx2 sb2, ar⟩
theorem n_x0 : PA X [] (rdX W (.nil : Es rm.S)) := by
  refine PA_imp pa_nil fun σ H Q q => ?_
  obtain ⟨fx, Γ, s, F, A, R, xc, xk, q⟩ := q
  unfold wX at q
  exact q [] H F A R (HX.refl H A) (Sub.refl F) .nil
theorem n_x1 {c : E rm.S} {r : Es rm.S} {e : Expr} {es : List Expr} (h : PE X e (rdE W c)) (hr : PA X es (rdX W r)) (hs : shp e = true) : PA X (e :: es) (rdX W (.cons c r)) := by
  refine PA_imp (pa_cons h hr (star1 hs)) fun σ H Q q => ?_
  obtain ⟨fx, Γ, s, F, A, R, xc, xk, q⟩ := q
  unfold wX at q
  refine ⟨fx, Γ, s, F, A, R, xc, xk, wE_mono c (fun v Γ1 s1 q => ?_) q⟩
  intro x H1 F1 A1 R1 hx1 sb1 rv
  obtain ⟨d, F1', q, R1', sb1', rp⟩ := R1.stay rv q
  refine ⟨fx, Γ1, s1, F1', A1, R1', xc, xk, wX_mono r (fun ds Γ2 s2 q => ?_) q⟩
  intro xs H2 F2 A2 R2 hx2 sb2 ar
  exact q (x :: xs) H2 F2 A2 R2 (hx1.trans hx2) ((sb1.trans sb1').trans sb2) (.cons (rp.mono sb2) ar)
theorem n_v0 : PA X [] (rdV W (.nil : Es rm.S)) := by
  refine PA_imp pa_nil fun σ H Q q => ?_
  obtain ⟨fx, Γ, s, F, A, R, xc, xk, q⟩ := q
  unfold wV at q
  exact q [] H F A R (HX.refl H A) (Sub.refl F) .nil
theorem n_v1 {c : E rm.S} {r : Es rm.S} {e : Expr} {es : List Expr} (h : PE X e (rdE W c)) (hr : PA X es (rdV W r)) (hs : shp e = true) : PA X (e :: es) (rdV W (.cons c r)) := by
  refine PA_imp (pa_cons h hr (star1 hs)) fun σ H Q q => ?_
  obtain ⟨fx, Γ, s, F, A, R, xc, xk, q⟩ := q
  unfold wV at q
  refine ⟨fx, Γ, s, F, A, R, xc, xk, wE_mono c (fun v Γ1 s1 q => ?_) q⟩
  intro x H1 F1 A1 R1 hx1 sb1 rv
  cases v with
  | dat d =>
    refine ⟨fx, Γ1, s1, F1, A1, R1, xc, xk, wV_mono r (fun ds Γ2 s2 q => ?_) q⟩
    intro xs H2 F2 A2 R2 hx2 sb2 ar
    exact q (x :: xs) H2 F2 A2 R2 (hx1.trans hx2) (sb1.trans sb2) (.cons (Rp.mono sb2 rv) ar)
  | new xs =>
    obtain ⟨d, F1', q, R1', sb1', rp⟩ := R1.stay (v := .new xs) (k := fun d => d = .list xs) rv rfl
    subst q
    rename_i q
    refine ⟨fx, Γ1, s1, F1', A1, R1', xc, xk, wV_mono r (fun ds Γ2 s2 q => ?_) q⟩
    intro xs H2 F2 A2 R2 hx2 sb2 ar
    exact q (x :: xs) H2 F2 A2 R2 (hx1.trans hx2) ((sb1.trans sb1').trans sb2) (.cons (Rp.mono sb2 rp) ar)
  | own xs => exact q.elim
  | hdl n =>
    refine ⟨fx, Γ1, s1, F1, A1, R1, xc, xk, wV_mono r (fun ds Γ2 s2 q => ?_) q⟩
    intro xs H2 F2 A2 R2 hx2 sb2 ar
    exact q (x :: xs) H2 F2 A2 R2 (hx1.trans hx2) (sb1.trans sb2) (.cons (rm.le_hd hx2.1 rv) ar)
/-! ### displays -/
theorem n_ls {cs : Es rm.S} {es : List Expr} {p : Pos} (h : PA X es (rdX W cs)) : PE X (.List es p) (rdE W (.ls cs)) := by
  refine PE_imp (pe_lst h) fun σ H Q q => ?_
  obtain ⟨fx, Γ, s, F, A, R, xc, xk, q⟩ := q
  unfold wE at q
  refine ⟨fx, Γ, s, F, A, R, xc, xk, wX_mono cs (fun ds Γ1 s1 q => ?_) q⟩
  intro xs H1 F1 A1 R1 hx1 sb1 ar
  exact ⟨by rw [ar.length]; exact big_sz q.1, fun p hp => KQ.mk R1 hp ar (q.2.kq hx1 sb1)⟩
theorem n_tp {cs : Es rm.S} {es : List Expr} {kk : Nat} {p : Pos} (h : PA X es (rdX W cs)) : PE X (.Tuple es kk p) (rdE W (.tp cs)) := by
  refine PE_imp (pe_tup h) fun σ H Q q => ?_
  obtain ⟨fx, Γ, s, F, A, R, xc, xk, q⟩ := q
  unfold wE at q
  refine ⟨fx, Γ, s, F, A, R, xc, xk, wX_mono cs (fun ds Γ1 s1 q => ?_) q⟩
  intro xs H1 F1 A1 R1 hx1 sb1 ar
  exact ⟨by rw [ar.length]; exact big_sz q.1, fun p hp => KQ.mkT R1 hp ar (q.2.kq hx1 sb1)⟩
theorem n_rep {cs : Es rm.S} {cb : E rm.S} {es : List Expr} {b : Expr} {p p2 : Pos} (h : PA X es (rdX W cs)) (hb : PE X b (rdP W cb)) : PE X (.BinOp (.List es p2) .Mult b p) (rdE W (.rep cs cb)) := by
  refine PE_imp (pe_op op_rep (pe_lst h) hb) fun σ H Q q => ?_
  obtain ⟨fx, Γ, s, F, A, R, xc, xk, q⟩ := q
  unfold wE at q
  refine ⟨fx, Γ, s, F, A, R, xc, xk, wX_mono cs (fun ds Γ1 s1 q => ?_) q⟩
  intro xs H1 F1 A1 R1 hx1 sb1 ar
  refine ⟨by rw [ar.length]; exact big_sz q.1, fun l hl => ?_⟩
  refine ⟨fx, Γ1, s1, F1, A1, R1.alloc hl, xc, xk, opnE_mono cb (fun e Γ2 s2 q => ?_) q.2⟩
  intro y H2 F2 A2 R2 hx2 sb2 ro2
  have hl2 := (hx2.2 l (.lst xs) upd_same (R1.nft hl)).1
  unfold repX at q
  split at q
  · rename_i j
    obtain ⟨⟨q0, q1, q2⟩, q3⟩ := q
    exact ⟨l, j, xs, rfl, flat_int ro2.1, hl2, by omega, by omega, by rw [ar.length]; exact big_sz q2, fun p hp => KQ.mk R2 hp ((ar.mono sb2).rep j.toNat) (q3.kq ((hx1.trans (R1.hx hl)).trans hx2) (sb1.trans sb2))⟩
  · exact q.elim
/-! ### built-in functions -/
theorem ArgL.roL : ∀ {cs : Es rm.S} {xs : List V} {ds : List D}, ArgL σ H F A cs xs ds → RoL H F A xs ds
  | .nil, [], [], _ => .nil
  | .cons e r, x :: xs, d :: ds, h => .cons h.1.1 (ArgL.roL h.2)
  | .nil, _ :: _, _, h => h.elim
  | .nil, [], _ :: _, h => h.elim
  | .cons _ _, [], _, h => h.elim
  | .cons _ _, _ :: _, [], h => h.elim
theorem cb_rd {b : BI} {cs : Es rm.S} {g : List D → (Val → Prop) → Prop} {r : List V → Hp → VK → Prop} (hb : biD b = g)
    (hr : ∀ (rm : RM) (fx : Fx rm) (σ : L2.St) (H : Hp) (Γ : Ctx) (s : rm.S) (F : Hp) (A : rm.A) (xs : List V) (ds : List D) (Q : VK), SR fx σ H Γ s F A → RoL H F A xs ds → g ds (KQ fx σ H F A Γ s Q) → r xs H Q)
    {Q : VK} (q : rdE W (.bi b cs) σ H Q) : tCB r (rdA W cs) σ H Q := by
  obtain ⟨fx, Γ, s, F, A, R, xc, xk, q⟩ := q
  unfold wE at q
  refine ⟨fx, Γ, s, F, A, R, xc, xk, wA_mono cs (fun ds Γ1 s1 q => ?_) q⟩
  intro xs H1 F1 A1 R1 hx1 sb1 ar
  refine hr rm fx σ H1 Γ1 s1 F1 A1 xs ds Q R1 ar.roL ?_
  rw [← hb]
  exact biD_mono (fun v q => q.kq hx1 sb1) q
theorem n_biB {b : BI} {cs : Es rm.S} {x : Str} {id : String} {e : Expr} {es : List Expr} {p p2 : Pos} (hc : CallS X (.builtin id) (biD b)) (hg : Gl X x) (hm : X.mg x = none) (hv : bootBuiltins x = some (.builtin id)) (ha : PA X (e :: es) (rdA W cs)) (hs : shpL (e :: es) = true)
    (hn : x ≠ "__name__") (hdb : (x == ("__debug__" : Str)) = false) : PE X (.Call (.Name x p2) (e :: es) [] p) (rdE W (.bi b cs)) := by
  obtain ⟨r, h1, h2⟩ := hc
  unfold shpL at hs
  rw [List.all_cons, Bool.and_eq_true] at hs
  exact PE_imp (pe_callB h1 hg hm hv ha hn hdb (star1 hs.1) (stars hs.2)) fun σ H Q q => cb_rd rfl h2 q
theorem n_biT {b : BI} {cs : Es rm.S} {x : Str} {T : String} {e : Expr} {es : List Expr} {p p2 : Pos} (hc : CallS X (.type T) (biD b)) (hg : Gl X x) (hm : X.mg x = none) (hv : bootBuiltins x = some (.type T)) (ha : PA X (e :: es) (rdA W cs)) (hs : shpL (e :: es) = true)
    (hn : x ≠ "__name__") (hdb : (x == ("__debug__" : Str)) = false) : PE X (.Call (.Name x p2) (e :: es) [] p) (rdE W (.bi b cs)) := by
  obtain ⟨r, h1, h2⟩ := hc
  unfold shpL at hs
  rw [List.all_cons, Bool.and_eq_true] at hs
  exact PE_imp (pe_callTy h1 hg hm hv ha hn hdb (star1 hs.1) (stars hs.2)) fun σ H Q q => cb_rd rfl h2 q
theorem n_isi {b : BI} {c : E rm.S} {T : String} {x : Str} {f : D → Bool} {e : Expr} {p p2 p3 : Pos} (hb : biD b = isD f) (hk : ∀ d, PySem.W.kitOne X.K (.type (tyN d)) (.type T) = some (f d)) (hg : Gl X "isinstance") (hm : X.mg "isinstance" = none) (he : PE X e (rdP W c)) (hs : shp e = true)
    (hT : PE X (.Name x p3) (tC (.ty T))) : PE X (.Call (.Name "isinstance" p2) [e, .Name x p3] [] p) (rdE W (.bi b (.cons c .nil))) := by
  refine PE_imp (pe_callB call_isi hg hm PyProof.Rows.boot_isinstance (pa_cons he (pa_cons hT pa_nil) (star1 hs)) (he := star1 hs)) fun σ H Q q => ?_
  obtain ⟨fx, Γ, s, F, A, R, xc, xk, q⟩ := q
  unfold wE wA at q
  rw [hb] at q
  refine ⟨fx, Γ, s, F, A, R, xc, xk, opnE_mono c (fun d Γ1 s1 q => ?_) q⟩
  intro x H1 F1 A1 R1 hx1 sb1 ro1
  unfold wA at q
  exact ⟨x, .ty T, _, _, _, rfl, .ty T, ro1.1.ty R1, hk d, q _ H1 F1 A1 R1 hx1 sb1 (.bl _)⟩
/-! ### calls of defs -/
def RVp (H H' F' : Hp) (x : V) : Val → Prop
  | .dat d => Rp F' x d
  | .new xs => ∃ p vs, x = .ref p ∧ H' p = some (.lst vs) ∧ F' p = none ∧ H p = none ∧ RpL F' vs xs
  | _ => False
/-- the promise of a def of plain data -/
def spP (cl : Nat → Addr) (φ : Summ) : Sp := fun vs H Q E => ∃ F ds, Sub F H ∧ RpL F vs ds ∧ φ.run ds (fun v => ∀ x H' F', Sub H H' → Sub F F' → Sub F' H' → (∀ a, H a ≠ none → F' a = F a) → RVp H H' F' x v → Q x H') (fun n => ∀ H', Sub H H' → E (.ref (cl n)) none H')
def GoodP (cl : Nat → Addr) (X : Cx) (k : Nat) (x : Str) (φ : Summ) : Prop := ∃ f fd ps, FnG X.prog X.w X.K X.mg X.base k f fd ps (spP cl φ) ∧ X.mg x = some (.ref f) ∧ PySem.W.keepIn X.K (.ref f) = true ∧ Binds X.K fd ps []
theorem argsOk_put {Γ : Ctx} {i : Nat} {ys : List D} (e : look Γ i = some (.own ys)) : ∀ r : Es rm.S, argsOk r Γ → argsOk r (put Γ i (some (.dat (.list ys))))
  | .nil, _ => trivial
  | .cons c r, h => by
    cases c with
    | var j =>
      have h' : (match look Γ j with | some (.dat _) => True | some (.own _) => True | _ => False) ∧ argsOk r Γ := h
      refine ⟨?_, argsOk_put e r h'.2⟩
      by_cases z : j = i
      · subst z
        rw [look_put_same (look_lt e)]
        trivial
      · rw [look_put_ne z]
        exact h'.1
    | _ => exact argsOk_put e r h
theorem ArgL_mono {F' : Hp} (sb : Sub F F') : ∀ {cs : Es rm.S} {xs : List V} {ds : List D}, ArgL σ H F A cs xs ds → ArgL σ H F' A cs xs ds
  | .nil, [], [], _ => trivial
  | .cons e r, x :: xs, d :: ds, h => ⟨h.1.mono (HX.refl H A) sb, ArgL_mono sb h.2⟩
  | .nil, _ :: _, _, h => h.elim
  | .nil, [], _ :: _, h => h.elim
  | .cons _ _, [], _, h => h.elim
  | .cons _ _, _ :: _, [], h => h.elim
/-- an own list that is handed in, put to what stays -/
theorem frzA_ok : ∀ {cs : Es rm.S} {Γ : Ctx} {F : Hp} {xs : List V} {ds : List D}, SR fx σ H Γ s F A → argsOk cs Γ → ArgL σ H F A cs xs ds → ∃ F', SR fx σ H (frzA cs Γ) s F' A ∧ Sub F F' ∧ RpL F' xs ds
  | .nil, Γ, F, [], [], R, _, _ => ⟨F, R, Sub.refl F, .nil⟩
  | .nil, _, _, _ :: _, _, _, _, h => h.elim
  | .nil, _, _, [], _ :: _, _, _, h => h.elim
  | .cons _ _, _, _, [], _, _, _, h => h.elim
  | .cons _ _, _, _, _ :: _, [], _, _, h => h.elim
  | .cons c r, Γ, F, x :: xs, d :: ds, R, ok, h => by
   cases c with
   | var i =>
    obtain ⟨⟨ro, hx⟩, h2⟩ := h
    have hx : σ[i]? = some (some x) := hx
    have ok' : (match look Γ i with | some (.dat _) => True | some (.own _) => True | _ => False) ∧ argsOk r Γ := ok
    cases e : look Γ i with
    | none => rw [e] at ok'; exact ok'.1.elim
    | some v =>
      cases v with
      | new xs => rw [e] at ok'; exact ok'.1.elim
      | hdl n => rw [e] at ok'; exact ok'.1.elim
      | dat d' =>
        have rp : Rp F x d := by
          rcases ro with ro | ⟨a, vs, ds', rfl, rfl, e3, _, e5⟩
          · exact ro
          · obtain ⟨y, h1, h3⟩ := R.sl i _ e
            rw [hx] at h1
            cases h1
            cases h3 with
            | lst q1 q2 =>
              rcases q1 with q1 | ⟨o, q1⟩
              · have z := R.fh _ _ q1
                rw [e3] at z
                cases z
                exact .lst (.inl q1) e5
              · have z := R.fh _ _ q1
                rw [e3] at z
                cases z
            | tup q1 q2 =>
              have z := R.fh _ _ q1
              rw [e3] at z
              cases z
            | dic q1 q2 =>
              have z := R.fh _ _ q1
              rw [e3] at z
              cases z
        have ez : frzV Γ i = Γ := by unfold frzV; rw [e]
        have ok2 : argsOk r Γ := ok'.2
        obtain ⟨F', R', sb, rl⟩ := frzA_ok (cs := r) R ok2 h2
        refine ⟨F', ?_, sb, .cons (rp.mono sb) rl⟩
        show SR fx σ H (frzA r (frzV Γ i)) s F' A
        rw [ez]
        exact R'
      | own ys =>
        obtain ⟨a, vs, h1, e2, e3, e6, R1⟩ := R.frzOwn e
        rw [hx] at h1
        cases h1
        have rp : Rp (upd F a (.lst vs)) (V.ref a) d := by
          rcases ro with ro | ⟨a', vs', ds', q1, rfl, q3, _, q5⟩
          · exact ro.mono (upd_sub e3)
          · cases q1
            rw [e2] at q3
            cases q3
            exact .lst (.inl upd_same) (q5.mono (upd_sub e3))
        have ez : frzV Γ i = put Γ i (some (.dat (.list ys))) := by unfold frzV; rw [e]
        have ok2 : argsOk r (put Γ i (some (.dat (.list ys)))) := argsOk_put e r ok'.2
        have h2' : ArgL σ H (upd F a (.lst vs)) A r xs ds := ArgL_mono (upd_sub e3) h2
        obtain ⟨F', R', sb, rl⟩ := frzA_ok (cs := r) R1 ok2 h2'
        refine ⟨F', ?_, (upd_sub e3).trans sb, .cons (rp.mono sb) rl⟩
        show SR fx σ H (frzA r (frzV Γ i)) s F' A
        rw [ez]
        exact R'
   | _ =>
    obtain ⟨⟨ro, hx⟩, h2⟩ := h
    obtain ⟨F', R', sb, rl⟩ := frzA_ok (cs := r) R ok h2
    exact ⟨F', R', sb, .cons (Rp.mono sb hx) rl⟩
theorem same_of {F' : Hp} {x : V} {v : Val} {H' : Hp} (h : RVp H H' F' x v) (sc : scalV v = true) (F2 : Hp) {A' : rm.A} {Γ' : Ctx} : RV fx σ H' F2 A' Γ' x v := by
  cases v with
  | dat d => cases h <;> first | exact .non | exact .bl _ | exact .int _ | exact .str _ | cases sc
  | _ => cases sc
/-- the state behind a call that has put things to the heap -/
theorem SR.grow (R : SR fx σ H Γ s F A) {H' : Hp} (hh : Sub H H') : SR fx σ H' Γ s F A where
  fh := R.fh.trans hh
  fz := R.fz
  f0 := R.f0
  lk := fun a o e => ⟨hh a o (R.lk a o e).1, (R.lk a o e).2⟩
  a0 := R.a0
  ok := rm.frame R.ok fun a ha => by
    cases e : H a with
    | none => exact absurd e (rm.ex R.ok ha)
    | some o => exact hh a o e
  ln := R.ln
  sl := fun i w e => by
    obtain ⟨z, e1, e2⟩ := R.sl i w e
    refine ⟨z, e1, ?_⟩
    cases w with
    | own ys => obtain ⟨a, vs, w1, w2, w3⟩ := e2; exact ⟨a, vs, w1, hh _ _ w2, w3⟩
    | _ => exact e2
  dj := R.dj
theorem SR.growF (Rc : SR fx σ H Γ s F A) {H' F' : Hp} (hh : Sub H H') (ff : Sub F F') (fh' : Sub F' H') (nf : ∀ a, H a ≠ none → F' a = F a) : SR fx σ H' Γ s F' A := by
  refine { fh := fh', fz := fun a o e n => ?_, f0 := Rc.f0.trans ff, lk := fun a o e => ?_, a0 := Rc.a0, ok := (Rc.grow hh).ok, ln := Rc.ln, sl := fun i w e => ?_, dj := Rc.dj }
  · have ne := rm.ex Rc.ok n
    rw [nf a ne] at e
    exact Rc.fz a o e n
  · obtain ⟨w1, w2, w3⟩ := Rc.lk a o e
    exact ⟨hh a o w1, (nf a (by rw [w1]; exact nofun)).trans w2, w3⟩
  · obtain ⟨z, e1, e2⟩ := Rc.sl i w e
    refine ⟨z, e1, ?_⟩
    cases w with
    | own ys =>
      obtain ⟨a, vs, w1, w2, w3, w4, w5, w6⟩ := e2
      exact ⟨a, vs, w1, hh _ _ w2, (nf a (by rw [w2]; exact nofun)).trans w3, w4, w5, w6.mono ff⟩
    | dat d => exact Rp.mono ff e2
    | _ => exact e2
/-- what a call of a plain def gives, in the state -/
theorem SR.called (R1 : SR fx σ H Γ s F A) {Γc : Ctx} {Fc H' F' : Hp} {x : V} {v : Val} (Rc : SR fx σ H Γc s Fc A) (hh : Sub H H') (ff : Sub Fc F') (fh' : Sub F' H') (nf : ∀ a, H a ≠ none → F' a = Fc a) (rv : RVp H H' F' x v) :
    SR fx σ H' Γc s F' A ∧ RV fx σ H' F' A Γc x v := by
  refine ⟨Rc.growF hh ff fh' nf, ?_⟩
  cases v with
  | dat d => exact rv
  | own ys => exact rv.elim
  | hdl n => exact rv.elim
  | new ys =>
    obtain ⟨a, vs, w1, w2, w3, w4, w5⟩ := rv
    refine ⟨a, vs, w1, w2, w3, R1.nft w4, R1.nL w4, w5, fun i zs e z => ?_⟩
    obtain ⟨z', e1, a', vs', g1, g2, _⟩ := Rc.sl i _ e
    rw [z] at e1
    cases e1
    cases g1
    rw [w4] at g2
    cases g2
theorem HX.grow {H H' : Hp} {A : rm.A} (hh : Sub H H') : HX H A H' A := ⟨rm.le_refl A, fun a o e n => ⟨hh a o e, n⟩⟩
theorem n_call {cl : Nat → Addr} {φ : Summ} {x : Str} {cs : Es rm.S} {e0 : Expr} {es : List Expr} {p p2 : Pos} (g : GoodP cl X k x φ) (hr : Room k X.A) (hgd : X.A.guards = some []) (hg : Gl X x) (tk : Takes X (WXof cl W)) (ha : PA X (e0 :: es) (rdA W cs)) (hs : shpL (e0 :: es) = true) (hdb : (x == ("__debug__" : Str)) = false) : PE X (.Call (.Name x p2) (e0 :: es) [] p) (rdE W (.call x φ cs)) := by
  obtain ⟨f, fd, ps, G, h1, h2, h3⟩ := g
  unfold shpL at hs
  rw [List.all_cons, Bool.and_eq_true] at hs
  refine PE_imp (pe_callG (E := fun σ => WE (WXof cl W) σ) G hr hgd hg h1 h2 h3 (fun σ => passAt tk σ) ha hdb (star1 hs.1) (stars hs.2)) fun σ H Q q => ?_
  obtain ⟨fx, Γ, s, F, A, R, xc, xk, q⟩ := q
  unfold wE at q
  refine ⟨fx, Γ, s, F, A, R, xc, xk, wA_mono cs (fun ds Γ1 s1 q => ?_) q⟩
  intro xs H1 F1 A1 R1 hx1 sb1 ar
  obtain ⟨Fc, Rc, sbc, rl⟩ := frzA_ok R1 q.1 ar
  refine ⟨Fc, ds, Rc.fh, rl, φ.mono (fun v q => ?_) (fun n q => ?_) q.2⟩
  · intro y H' F' hh ff fh' nf rv
    cases sv : scalV v with
    | true =>
      rw [if_pos sv] at q
      exact q y H' F1 A1 (R1.grow hh) (hx1.trans (HX.grow hh)) sb1 (same_of rv sv F1)
    | false =>
      rw [if_neg (by rw [sv]; exact Bool.false_ne_true)] at q
      obtain ⟨R2, rv2⟩ := R1.called Rc hh ff fh' nf rv
      exact q y H' F' A1 R2 (hx1.trans (HX.grow hh)) ((sb1.trans sbc).trans ff) rv2
  · intro H' hh
    exact ⟨n, rfl, rfl, xk n _ _ _ _ _ _ (Rc.grow hh) q⟩
theorem n_cal0 {cl : Nat → Addr} {φ : Summ} {x : Str} {p p2 : Pos} (g : GoodP cl X k x φ) (hr : Room k X.A) (hgd : X.A.guards = some []) (hg : Gl X x) (hdb : (x == ("__debug__" : Str)) = false) : PE X (.Call (.Name x p2) [] [] p) (rdE W (.cal0 x φ : E rm.S)) := by
  obtain ⟨f, fd, ps, G, h1, h2, h3⟩ := g
  refine PE_imp (pe_callG0 (E := fun σ => WE (WXof cl W0) σ) G hr hgd hg h1 h2 h3 (fun σ => passAt tk0 σ) hdb) fun σ H Q q => ?_
  obtain ⟨fx, Γ, s, F, A, R, xc, xk, q⟩ := q
  unfold wE at q
  refine ⟨F, [], R.fh, .nil, φ.mono (fun v q => ?_) (fun n q => q.elim) q⟩
  intro y H' F' hh ff fh' nf rv
  obtain ⟨R2, rv2⟩ := R.called R hh ff fh' nf rv
  exact q y H' F' A R2 (HX.grow hh) ff rv2
def RVe (H H' F' : Hp) (A' : rm.A) (x : V) : Val → Prop
  | .dat d => Rp F' x d
  | .new xs => ∃ p vs, x = .ref p ∧ H' p = some (.lst vs) ∧ F' p = none ∧ H p = none ∧ ¬ rm.ft A' p ∧ RpL F' vs xs
  | .hdl n => rm.hd A' n x
  | .own _ => False
/-- the promise of a def with a state -/
def spE (rm : RM) (cl : Nat → Addr) (φ : ESumm rm.S) : Sp := fun vs H Q E => ∃ (F : Hp) (A : rm.A) (s : rm.S) (ws : List Val), Sub F H ∧ (∀ a o, F a = some o → ¬ rm.ft A a) ∧ rm.ok A s H ∧ RHL F A vs ws ∧
  φ.run ws s (fun v s' => ∀ x H' F' A', HX H A H' A' → Sub F F' → Sub F' H' → (∀ a o, F' a = some o → ¬ rm.ft A' a) → (∀ a, H a ≠ none → ¬ rm.ft A a → F' a = F a) → rm.ok A' s' H' → RVe H H' F' A' x v → Q x H')
    (fun n s' => ∀ H' A', HX H A H' A' → rm.ok A' s' H' → E (.ref (cl n)) none H')
def GoodE (rm : RM) (cl : Nat → Addr) (X : Cx) (k : Nat) (x : Str) (φ : ESumm rm.S) : Prop := ∃ f fd ps, FnG X.prog X.w X.K X.mg X.base k f fd ps (spE rm cl φ) ∧ X.mg x = some (.ref f) ∧ PySem.W.keepIn X.K (.ref f) = true ∧ Binds X.K fd ps []
/-- the state behind a def with a state -/
theorem SR.after (R1 : SR fx σ H Γ s F A) {H' F' : Hp} {A' : rm.A} {s2 : rm.S} (hxx : HX H A H' A') (ff : Sub F F') (fh' : Sub F' H') (fz' : ∀ a o, F' a = some o → ¬ rm.ft A' a) (nf : ∀ a, H a ≠ none → ¬ rm.ft A a → F' a = F a) (okk : rm.ok A' s2 H') : SR fx σ H' Γ s2 F' A' := by
  refine { fh := fh', fz := fz', f0 := R1.f0.trans ff, lk := fun a o e => ?_, a0 := rm.le_trans R1.a0 hxx.1, ok := okk, ln := R1.ln, sl := fun i w e => ?_, dj := R1.dj }
  · obtain ⟨w1, w2, w3⟩ := R1.lk a o e
    obtain ⟨g1, g2⟩ := hxx.2 a o w1 w3
    exact ⟨g1, (nf a (by rw [w1]; exact nofun) w3).trans w2, g2⟩
  · obtain ⟨z, e1, e2⟩ := R1.sl i w e
    refine ⟨z, e1, ?_⟩
    cases w with
    | own ys =>
      obtain ⟨a, vs, w1, w2, w3, w4, w5, w6⟩ := e2
      obtain ⟨g1, g2⟩ := hxx.2 a _ w2 w4
      exact ⟨a, vs, w1, g1, (nf a (by rw [w2]; exact nofun) w4).trans w3, g2, w5, w6.mono ff⟩
    | dat d => exact Rp.mono ff e2
    | hdl n => exact rm.le_hd hxx.1 e2
    | new ys => exact e2
theorem SR.afterX (R1 : SR fx σ H Γ s F A) {H' : Hp} {A' : rm.A} {s2 : rm.S} (hxx : HX H A H' A') (okk : rm.ok A' s2 H') : SR fx σ H' Γ s2 F A' :=
  R1.after hxx (Sub.refl F) (fun a o e => (hxx.2 a o (R1.fh a o e) (R1.fz a o e)).1) (fun a o e => (hxx.2 a o (R1.fh a o e) (R1.fz a o e)).2) (fun _ _ _ => rfl) okk
theorem n_calE {cl : Nat → Addr} {φ : ESumm rm.S} {x : Str} {cs : Es rm.S} {e0 : Expr} {es : List Expr} {p p2 : Pos} (g : GoodE rm cl X k x φ) (hr : Room k X.A) (hgd : X.A.guards = some []) (hg : Gl X x) (tk : Takes X (WXof cl W)) (ha : PA X (e0 :: es) (rdV W cs)) (hs : shpL (e0 :: es) = true) (hdb : (x == ("__debug__" : Str)) = false) : PE X (.Call (.Name x p2) (e0 :: es) [] p) (rdE W (.calE x φ cs)) := by
  obtain ⟨f, fd, ps, G, h1, h2, h3⟩ := g
  unfold shpL at hs
  rw [List.all_cons, Bool.and_eq_true] at hs
  refine PE_imp (pe_callG (E := fun σ => WE (WXof cl W) σ) G hr hgd hg h1 h2 h3 (fun σ => passAt tk σ) ha hdb (star1 hs.1) (stars hs.2)) fun σ H Q q => ?_
  obtain ⟨fx, Γ, s, F, A, R, xc, xk, q⟩ := q
  unfold wE at q
  refine ⟨fx, Γ, s, F, A, R, xc, xk, wV_mono cs (fun vs Γ1 s1 q => ?_) q⟩
  intro xs H1 F1 A1 R1 hx1 sb1 ar
  refine ⟨F1, A1, s1, vs, R1.fh, R1.fz, R1.ok, ar, φ.mono (fun v s2 q => ?_) (fun n s2 q => ?_) q⟩
  · intro y H' F' A' hxx ff fh' fz' nf okk rv
    refine q y H' F' A' (R1.after hxx ff fh' fz' nf okk) (hx1.trans hxx) (sb1.trans ff) ?_
    cases v with
    | dat d => exact rv
    | own ys => exact rv.elim
    | hdl n => exact rv
    | new ys =>
      obtain ⟨a, vs, w1, w2, w3, w4, w5, w6⟩ := rv
      refine ⟨a, vs, w1, w2, w3, w5, R1.nL w4, w6, fun i zs e z => ?_⟩
      obtain ⟨z', e1, a', vs', g1, g2, _⟩ := R1.sl i _ e
      rw [z] at e1
      cases e1
      cases g1
      rw [w4] at g2
      cases g2
  · intro H' A' hxx okk
    exact ⟨n, rfl, rfl, xk n _ _ _ _ _ _ (R1.afterX hxx okk) q⟩
/-! ### methods of data; a list's pop -/
theorem n_d0 {p : Pos} : PE X (.Dict [] [] p) (rdE W (.d0 : E rm.S)) := by
  refine PE_imp pe_dnewK fun σ H Q q => ?_
  obtain ⟨fx, Γ, s, F, A, R, xc, xk, q⟩ := q
  unfold wE at q
  intro p hp
  exact q (.ref p) _ (upd F p (.dK [])) A (R.lay hp) (R.hx hp) (upd_sub (R.nF hp)) (Rp.dic upd_same .nil)
/-! ### what is walked -/
def rdI (W : WN) (it : It rm.S) : TI := fun σ H R => ∃ (fx : Fx rm) (Γ : Ctx) (s : rm.S) (F : Hp) (A : rm.A), SR fx σ H Γ s F A ∧ ∃ xc, XcOk W fx xc ∧
  wI xc it Γ s fun xs Γ' s' => ∀ J H' F' A' G, SR fx σ H' Γ' s' F' A' → HX H A H' A' → Sub F F' → (∀ a o, G a = some o → H' a = some o ∧ ¬ rm.ft A' a) → Yl J G F' xs → R J H'
def rdJ (W : WN) (it : It rm.S) : TI := fun σ H R => ∃ (fx : Fx rm) (Γ : Ctx) (s : rm.S) (F : Hp) (A : rm.A), SR fx σ H Γ s F A ∧ ∃ xc, XcOk W fx xc ∧
  wJ xc it Γ s fun xs Γ' s' => ∀ J H' F' A', SR fx σ H' Γ' s' F' A' → HX H A H' A' → Sub F F' → Yl J F' F' xs → R J H'
theorem sq_inj {K : PySem.W.Frag} {pins : List (Addr × Obj)} {sh : Shared} : True := trivial
/-- the one cell, and no more -/
def one (a : Addr) (o : HO) : Hp := fun b => if b = a then some o else none
theorem one_sub {a : Addr} {o : HO} {H : Hp} (h : H a = some o) : Sub (one a o) H := fun b u e => by
  unfold one at e
  split at e
  · rename_i z; subst z; cases e; exact h
  · cases e
theorem one_same {a : Addr} {o : HO} : one a o a = some o := by unfold one; rw [if_pos rfl]
theorem two_sub {G1 G2 H : Hp} (h1 : Sub G1 H) (h2 : Sub G2 H) : Sub (fun b => match G1 b with | some o => some o | none => G2 b) H := fun b u e => by
  dsimp only at e
  split at e
  · rename_i o z; cases e; exact h1 b _ z
  · exact h2 b u e
/-- a list as it is read in the heap, without the model -/
theorem rd_l {K : PySem.W.Frag} {a : Addr} {vs : List V} (h : Rd H a (.lst vs)) : SqL K H a vs := .inl h
end
end Ac
namespace Ac
open PySem PySem.Spec PyProof.Rows L2
section
variable {rm : RM} {X : Cx} {k : Nat} {t : Sx} {W : WN} {fx : Fx rm} {xc : Nat → Ctx → rm.S → Prop} {σ : L2.St} {H F : Hp} {Γ : Ctx} {s : rm.S} {A : rm.A}
/-- a list or a tuple is walked -/
def iSeq (K : PySem.W.Frag) (tl : TE) : TI := fun σ H R => tl σ H fun x H1 => (∃ a, x = .ref a ∧ (∃ xs, SqL K H1 a xs) ∧ R (Itl K a) H1) ∨ ∃ a, x = .ref a ∧ (∃ xs, SqT K H1 a xs) ∧ R (Itt K a) H1
theorem pi_seq {tg l : Expr} {tl : TE} (hl : PE X l tl) : PI X tg l (iSeq X.K tl) := by
  refine ⟨fun pins s σ H R I h => ?_⟩
  refine thn (hl.run pins s σ H _ I h) fun v s1 ⟨x, H1, I1, r1, q1⟩ => ?_
  have fp : ∀ b ∈ [s1.heap.objs.size], FpOk X pins H1 b := fun b hb => by
    have e : b = s1.heap.objs.size := by simpa using hb
    subst e
    exact I1.fpOk (Nat.le_refl _) (I1.hok.fresh (Nat.le_refl _))
  rcases q1 with ⟨a, rfl, ⟨xs, hq⟩, q⟩ | ⟨a, rfl, ⟨xs, hq⟩, q⟩
  · cases r1
    obtain ⟨its, rv, p, hz⟩ := I1.list hq
    refine wpAny_pyIter_list p.isList ?_
    exact ⟨s1.heap.objs.size, [s1.heap.objs.size], _, _, H1, rfl, I1.kept (t' := s1.toks) fun b o e => Heap.get?_push_of_some _ e, turn_list a _, ⟨_, Heap.get?_push_size _ rfl, rfl, rfl⟩, fp, q⟩
  · cases r1
    obtain ⟨its, rv, p, hz⟩ := I1.tuple hq
    refine wpAny_pyIter_tuple (show s1.heap.IsTuple a its.toArray from p) ?_
    exact ⟨s1.heap.objs.size, [s1.heap.objs.size], _, _, H1, rfl, I1.kept (t' := s1.toks) fun b o e => Heap.get?_push_of_some _ e, turn_tuple a _, ⟨_, Heap.get?_push_size _ rfl, rfl, rfl⟩, fp, q⟩
theorem lstD_some {d : D} {k : List D → Prop} (h : lstD d k) : ∃ xs, d = .list xs ∧ k xs := by
  cases d <;> first | exact ⟨_, rfl, h⟩ | exact h.elim
/-! ### yields -/
theorem get_lt {α : Type} {l : List α} {i : Nat} (h : i < l.length) : ∃ x, l[i]? = some x := ⟨l[i], List.getElem?_eq_getElem h⟩
theorem yl_list {K : PySem.W.Frag} {G : Hp} {a : Addr} {vs : List V} {ds : List D} (h : Rd G a (.lst vs)) (r : RpL F vs ds) : Yl (Itl K a) G F ds := fun i H2 sb => by
  have hq : SqL K H2 a vs := .inl (sb.rd h)
  refine ⟨fun hi => ?_, fun hi => ⟨vs, hq, by rw [r.length, hi]; exact Nat.le_refl _⟩⟩
  obtain ⟨v, hv⟩ := get_lt (l := vs) (i := i) (by rw [r.length]; exact hi)
  refine ⟨⟨vs, v, hq, hv⟩, fun x H3 y => ?_⟩
  obtain ⟨e, y⟩ := y
  obtain ⟨d, hd, rp⟩ := r.get' (y vs hq)
  exact ⟨d, hd, .inl ⟨e, rp⟩⟩
theorem yl_tup {K : PySem.W.Frag} {G : Hp} {a : Addr} {vs : List V} {ds : List D} (h : G a = some (.tup vs)) (r : RpL F vs ds) : Yl (Itt K a) G F ds := fun i H2 sb => by
  have hq : SqT K H2 a vs := .inl (.inl (sb _ _ h))
  refine ⟨fun hi => ?_, fun hi => ⟨vs, hq, by rw [r.length, hi]; exact Nat.le_refl _⟩⟩
  obtain ⟨v, hv⟩ := get_lt (l := vs) (i := i) (by rw [r.length]; exact hi)
  refine ⟨⟨vs, v, hq, hv⟩, fun x H3 y => ?_⟩
  obtain ⟨e, y⟩ := y
  obtain ⟨d, hd, rp⟩ := r.get' (y vs hq)
  exact ⟨d, hd, .inl ⟨e, rp⟩⟩
theorem yl_rng {G : Hp} {lo : Int} {n : Nat} {f : Nat → D} (hf : ∀ i, f i = .int (lo + (i : Nat))) : Yl (Itr lo n) G F ((List.range n).map f) := fun i H2 sb => by
  refine ⟨fun hi => ?_, fun hi => ?_⟩
  · rw [List.length_map, List.length_range] at hi
    refine ⟨hi, fun x H3 y => ?_⟩
    obtain ⟨e, rfl⟩ := y
    refine ⟨_, ?_, .inl ⟨e, .int _⟩⟩
    rw [List.getElem?_map, List.getElem?_range hi]
    show some (f i) = _
    rw [hf]
  · rw [List.length_map, List.length_range] at hi
    exact Nat.le_of_eq hi.symm
theorem yl_rngc {G : Hp} {lo c : Int} {n : Nat} : Yl (Itc lo c n) G F ((List.range n).map fun i => .int (lo + (i : Nat) * c)) := fun i H2 sb => by
  refine ⟨fun hi => ?_, fun hi => ?_⟩
  · rw [List.length_map, List.length_range] at hi
    refine ⟨hi, fun x H3 y => ?_⟩
    obtain ⟨e, rfl⟩ := y
    refine ⟨_, ?_, .inl ⟨e, .int _⟩⟩
    rw [List.getElem?_map, List.getElem?_range hi]
    rfl
  · rw [List.length_map, List.length_range] at hi
    exact Nat.le_of_eq hi.symm
theorem enumD_len (xs : List D) : (enumD xs).length = xs.length := by unfold enumD; rw [List.length_map, List.length_zipIdx]
theorem enumD_get {xs : List D} {i : Nat} {d : D} (h : xs[i]? = some d) : (enumD xs)[i]? = some (.tuple [.int (i : Nat), d]) := by
  unfold enumD
  rw [List.getElem?_map, List.getElem?_zipIdx, h]
  simp
theorem yl_enum {K : PySem.W.Frag} {G : Hp} {a : Addr} {vs : List V} {ds : List D} (h : Rd G a (.lst vs)) (r : RpL F vs ds) : Yl (Ite K a) G F (enumD ds) := fun i H2 sb => by
  have hq : SqL K H2 a vs := .inl (sb.rd h)
  refine ⟨fun hi => ?_, fun hi => ⟨vs, hq, by rw [r.length, hi, enumD_len]; exact Nat.le_refl _⟩⟩
  rw [enumD_len] at hi
  obtain ⟨v, hv⟩ := get_lt (l := vs) (i := i) (by rw [r.length]; exact hi)
  refine ⟨⟨vs, v, hq, hv⟩, fun x H3 y => ?_⟩
  obtain ⟨T, y, e1, e2, e3, e4⟩ := y
  obtain ⟨d, hd, rp⟩ := r.get' (e4 vs hq)
  exact ⟨_, enumD_get hd, .inr ⟨T, _, _, e2, e3, e1, rfl, .cons (.int _) (.cons rp .nil)⟩⟩
theorem zipD_get {xs ys : List D} {i : Nat} {d e : D} (h : xs[i]? = some d) (h2 : ys[i]? = some e) : (zipD xs ys)[i]? = some (.tuple [d, e]) := by
  unfold zipD
  rw [List.getElem?_map, List.getElem?_zip_eq_some (z := (d, e)) |>.mpr ⟨h, h2⟩]
  rfl
theorem zipD_len (xs ys : List D) : (zipD xs ys).length = min xs.length ys.length := by unfold zipD; rw [List.length_map, List.length_zip]
theorem yl_zip {K : PySem.W.Frag} {G : Hp} {a b : Addr} {vs ws : List V} {ds es : List D} (h : Rd G a (.lst vs)) (h2 : Rd G b (.lst ws)) (r : RpL F vs ds) (r2 : RpL F ws es) : Yl (Itz K a b) G F (zipD ds es) := fun i H2 sb => by
  have hq : SqL K H2 a vs := .inl (sb.rd h)
  have hq2 : SqL K H2 b ws := .inl (sb.rd h2)
  refine ⟨fun hi => ?_, fun hi => ⟨vs, ws, hq, hq2, ?_⟩⟩
  · rw [zipD_len] at hi
    obtain ⟨v, hv⟩ := get_lt (l := vs) (i := i) (by rw [r.length]; omega)
    obtain ⟨w, hw⟩ := get_lt (l := ws) (i := i) (by rw [r2.length]; omega)
    refine ⟨⟨vs, ws, v, w, hq, hq2, hv, hw⟩, fun x H3 y => ?_⟩
    obtain ⟨T, y, z, e1, e2, e3, e4, e5⟩ := y
    obtain ⟨d, hd, rp⟩ := r.get' (e4 vs hq)
    obtain ⟨d', hd', rp'⟩ := r2.get' (e5 ws hq2)
    exact ⟨_, zipD_get hd hd', .inr ⟨T, _, _, e2, e3, e1, rfl, .cons rp (.cons rp' .nil)⟩⟩
  · rw [zipD_len] at hi
    rw [r.length, r2.length]
    omega
theorem Ro.lstG {x : V} {ds : List D} (R : SR fx σ H Γ s F A) (h : Ro H F A x (.list ds)) : ∃ a vs G, x = V.ref a ∧ Rd G a (.lst vs) ∧ RpL F vs ds ∧ ∀ b o, G b = some o → H b = some o ∧ ¬ rm.ft A b := by
  rcases h with h | ⟨a, vs, ds', e1, e2, e3, e4, e5⟩
  · cases h with
    | lst h r => exact ⟨_, _, F, rfl, h, r, fun b o e => ⟨R.fh b o e, R.fz b o e⟩⟩
  · cases e2
    refine ⟨a, vs, one a (.lst vs), e1, .inl one_same, e5, fun b o e => ⟨one_sub e3 b o e, ?_⟩⟩
    unfold one at e
    split at e
    · rename_i z; subst z; exact e4
    · cases e
/-! ### walks in a comprehension -/
theorem n_iSeq {c : E rm.S} {e tg : Expr} (h : PE X e (rdP W c)) : PI X tg e (rdI W (.seq c)) := by
  refine PI_imp (pi_seq h) fun σ H R q => ?_
  obtain ⟨fx, Γ, s, F, A, R1, xc, xk, q⟩ := q
  unfold wI at q
  refine ⟨fx, Γ, s, F, A, R1, xc, xk, opnE_mono c (fun d Γ1 s1 q => ?_) q⟩
  intro x H1 F1 A1 R1 hx1 sb1 ro1
  unfold seqD at q
  split at q
  · obtain ⟨a, vs, G, e1, e2, e3, e4⟩ := ro1.1.lstG R1
    exact .inl ⟨a, e1, ⟨vs, .inl ((show Sub G H1 from fun b o e => (e4 b o e).1).rd e2)⟩, q _ H1 F1 A1 G R1 hx1 sb1 e4 (yl_list e2 e3)⟩
  · obtain ⟨a, vs, e1, e2, e3⟩ := ro1.1.tup
    exact .inr ⟨a, e1, ⟨vs, .inl (.inl (R1.fh _ _ e2))⟩, q _ H1 F1 A1 F1 R1 hx1 sb1 (fun b o e => ⟨R1.fh b o e, R1.fz b o e⟩) (yl_tup e2 e3)⟩
  · exact q.elim
theorem ArgL.cons' {c : E rm.S} {r : Es rm.S} {xs : List V} {ds : List D} (h : ArgL σ H F A (.cons c r) xs ds) : ∃ x xs' d ds', xs = x :: xs' ∧ ds = d :: ds' ∧ RoC c σ H F A x d ∧ ArgL σ H F A r xs' ds' := by
  cases xs with
  | nil => exact h.elim
  | cons x xs' =>
    cases ds with
    | nil => exact h.elim
    | cons d ds' => exact ⟨x, xs', d, ds', rfl, rfl, h.1, h.2⟩
theorem ArgL.nil' {xs : List V} {ds : List D} (h : ArgL σ H F A (.nil : Es rm.S) xs ds) : xs = [] ∧ ds = [] := by
  cases xs with
  | cons x xs' => exact h.elim
  | nil =>
    cases ds with
    | cons d ds' => exact h.elim
    | nil => exact ⟨rfl, rfl⟩
theorem ArgL.one {c : E rm.S} {xs : List V} {ds : List D} (h : ArgL σ H F A (.cons c .nil) xs ds) : ∃ x d, xs = [x] ∧ ds = [d] ∧ Ro H F A x d := by
  obtain ⟨x, xs, d, ds, rfl, rfl, h1, h⟩ := h.cons'
  obtain ⟨rfl, rfl⟩ := h.nil'
  exact ⟨x, d, rfl, rfl, h1.1⟩
theorem ArgL.two {c c2 : E rm.S} {xs : List V} {ds : List D} (h : ArgL σ H F A (.cons c (.cons c2 .nil)) xs ds) : ∃ x d y e, xs = [x, y] ∧ ds = [d, e] ∧ Ro H F A x d ∧ Ro H F A y e := by
  obtain ⟨x, xs, d, ds, rfl, rfl, h1, h⟩ := h.cons'
  obtain ⟨y, e, rfl, rfl, h2⟩ := h.one
  exact ⟨x, d, y, e, rfl, rfl, h1.1, h2⟩
theorem ArgL.three {c c2 c3 : E rm.S} {xs : List V} {ds : List D} (h : ArgL σ H F A (.cons c (.cons c2 (.cons c3 .nil))) xs ds) : ∃ x d y e z f, xs = [x, y, z] ∧ ds = [d, e, f] ∧ Ro H F A x d ∧ Ro H F A y e ∧ Ro H F A z f := by
  obtain ⟨x, xs, d, ds, rfl, rfl, h1, h⟩ := h.cons'
  obtain ⟨y, e, z, f, rfl, rfl, h2, h3⟩ := h.two
  exact ⟨x, d, y, e, z, f, rfl, rfl, h1.1, h2, h3⟩
/-- range(..), whatever follows -/
theorem rng1_rd {c : E rm.S} {R : L2.It → Hp → Prop} {Pq : List D → Ctx → rm.S → Prop} (R0 : SR fx σ H Γ s F A) (xk : XcOk W fx xc) (q : wA xc (.cons c .nil) Γ s fun ds Γ1 s1 => rngD ds fun xs => Pq xs Γ1 s1)
    (hp : ∀ xs Γ' s', Pq xs Γ' s' → ∀ J H' F' A', SR fx σ H' Γ' s' F' A' → HX H A H' A' → Sub F F' → (∀ G F2, Yl J G F2 xs) → R J H') : iRng1 (rdA W (.cons c .nil)) σ H R := by
  refine ⟨fx, Γ, s, F, A, R0, xc, xk, wA_mono _ (fun ds Γ1 s1 q => ?_) q⟩
  intro xs H1 F1 A1 R1 hx1 sb1 ar
  obtain ⟨x, d, rfl, rfl, ro⟩ := ar.one
  unfold rngD at q
  split at q
  · rename_i n z
    cases z
    exact ⟨n, by rw [flat_int ro], q.1.1, q.1.2, hp _ _ _ q.2 _ H1 F1 A1 R1 hx1 sb1 fun G F2 => yl_rng fun i => by rw [Int.zero_add]⟩
  · rename_i z; cases z
  · rename_i z; cases z
  · exact q.elim
theorem rng2_rd {c c2 : E rm.S} {R : L2.It → Hp → Prop} {Pq : List D → Ctx → rm.S → Prop} (R0 : SR fx σ H Γ s F A) (xk : XcOk W fx xc) (q : wA xc (.cons c (.cons c2 .nil)) Γ s fun ds Γ1 s1 => rngD ds fun xs => Pq xs Γ1 s1)
    (hp : ∀ xs Γ' s', Pq xs Γ' s' → ∀ J H' F' A', SR fx σ H' Γ' s' F' A' → HX H A H' A' → Sub F F' → (∀ G F2, Yl J G F2 xs) → R J H') : iRng2 (rdA W (.cons c (.cons c2 .nil))) σ H R := by
  refine ⟨fx, Γ, s, F, A, R0, xc, xk, wA_mono _ (fun ds Γ1 s1 q => ?_) q⟩
  intro xs H1 F1 A1 R1 hx1 sb1 ar
  obtain ⟨x, d, y, e, rfl, rfl, ro, ro2⟩ := ar.two
  unfold rngD at q
  split at q
  · rename_i z; cases z
  · rename_i n m z
    cases z
    exact ⟨n, m, by rw [flat_int ro, flat_int ro2], q.1, hp _ _ _ q.2 _ H1 F1 A1 R1 hx1 sb1 fun G F2 => yl_rng fun i => rfl⟩
  · rename_i z; cases z
  · exact q.elim
theorem rng3_rd {c c2 c3 : E rm.S} {R : L2.It → Hp → Prop} {Pq : List D → Ctx → rm.S → Prop} (R0 : SR fx σ H Γ s F A) (xk : XcOk W fx xc) (q : wA xc (.cons c (.cons c2 (.cons c3 .nil))) Γ s fun ds Γ1 s1 => rngD ds fun xs => Pq xs Γ1 s1)
    (hp : ∀ xs Γ' s', Pq xs Γ' s' → ∀ J H' F' A', SR fx σ H' Γ' s' F' A' → HX H A H' A' → Sub F F' → (∀ G F2, Yl J G F2 xs) → R J H') : iRng3 (rdA W (.cons c (.cons c2 (.cons c3 .nil)))) σ H R := by
  refine ⟨fx, Γ, s, F, A, R0, xc, xk, wA_mono _ (fun ds Γ1 s1 q => ?_) q⟩
  intro xs H1 F1 A1 R1 hx1 sb1 ar
  obtain ⟨x, d, y, e, z', f, rfl, rfl, ro, ro2, ro3⟩ := ar.three
  unfold rngD at q
  split at q
  · rename_i z; cases z
  · rename_i z; cases z
  · rename_i n m l z
    cases z
    obtain ⟨q0, q1, q2⟩ := q
    subst q0
    exact ⟨n, m, -1, (n - m).toNat, by rw [flat_int ro, flat_int ro2, flat_int ro3], RgC.neg q1.1 q1.2.1 q1.2.2.1 q1.2.2.2, hp _ _ _ q2 _ H1 F1 A1 R1 hx1 sb1 fun G F2 => yl_rngc⟩
  · exact q.elim
theorem nogc {H' : Hp} {A' : rm.A} : ∀ a o, (fun _ => none : Hp) a = some o → H' a = some o ∧ ¬ rm.ft A' a := fun a o e => nomatch e
theorem n_iEnu {c : E rm.S} {e : Expr} {elts : List Expr} {kk : Nat} {tp p p2 : Pos} (hg : Gl X "enumerate") (hm : X.mg "enumerate" = none) (h : PE X e (rdP W c)) (hs : shp e = true) : PI X (.Tuple elts kk tp) (.Call (.Name "enumerate" p2) [e] [] p) (rdI W (.enu c)) := by
  refine PI_imp (pi_enum hg hm (pa_cons h pa_nil (star1 hs)) (star1 hs)) fun σ H R q => ?_
  obtain ⟨fx, Γ, s, F, A, R1, xc, xk, q⟩ := q
  unfold wI at q
  refine ⟨fx, Γ, s, F, A, R1, xc, xk, opnE_mono c (fun d Γ1 s1 q => ?_) q⟩
  intro x H1 F1 A1 R1 hx1 sb1 ro1
  unfold lstD at q
  split at q
  · obtain ⟨a, vs, G, e1, e2, e3, e4⟩ := ro1.1.lstG R1
    exact ⟨a, vs, by rw [e1], .inl ((show Sub G H1 from fun b o e => (e4 b o e).1).rd e2), q _ H1 F1 A1 G R1 hx1 sb1 e4 (yl_enum e2 e3)⟩
  · exact q.elim
theorem n_iZip {c c2 : E rm.S} {e e2 : Expr} {elts : List Expr} {kk : Nat} {tp p p2 : Pos} (hg : Gl X "zip") (hm : X.mg "zip" = none) (h : PE X e (rdP W c)) (h2 : PE X e2 (rdP W c2)) (hs : shp e = true) (hs2 : shp e2 = true) : PI X (.Tuple elts kk tp) (.Call (.Name "zip" p2) [e, e2] [] p) (rdI W (.zip c c2)) := by
  refine PI_imp (pi_zip hg hm (pa_cons h (pa_cons h2 pa_nil (star1 hs2)) (star1 hs)) (star1 hs) (stars (by unfold shpL; rw [List.all_cons, hs2]; rfl))) fun σ H R q => ?_
  obtain ⟨fx, Γ, s, F, A, R1, xc, xk, q⟩ := q
  unfold wI at q
  refine ⟨fx, Γ, s, F, A, R1, xc, xk, opnE_mono c (fun d Γ1 s1 q => ?_) q⟩
  intro x H1 F1 A1 R1 hx1 sb1 ro1
  refine ⟨fx, Γ1, s1, F1, A1, R1, xc, xk, opnE_mono c2 (fun d2 Γ2 s2 q => ?_) q⟩
  intro y H2 F2 A2 R2 hx2 sb2 ro2
  obtain ⟨xs, ex, qx⟩ := lstD_some q
  obtain ⟨ys, ey, qy⟩ := lstD_some qx
  subst ex ey
  · obtain ⟨a, vs, G, e1, e2, e3, e4⟩ := (ro1.1.mono hx2 sb2).lstG R2
    obtain ⟨b, ws, G', f1, f2, f3, f4⟩ := ro2.1.lstG R2
    have s1 : Sub G H2 := fun b o e => (e4 b o e).1
    have s2 : Sub G' H2 := fun b o e => (f4 b o e).1
    have nx : ∀ b o, (fun b => match G b with | some o => some o | none => G' b : Hp) b = some o → H2 b = some o ∧ ¬ rm.ft A2 b := fun b o e => by
      dsimp only at e
      split at e
      · rename_i z; cases e; exact e4 b _ z
      · exact f4 b o e
    have g1 : Sub G (fun b => match G b with | some o => some o | none => G' b : Hp) := fun b o e => by dsimp only; rw [e]
    have g2 : Rd (fun b => match G b with | some o => some o | none => G' b : Hp) b (.lst ws) := by
      rcases f2 with f2 | ⟨o, f2⟩
      · cases z : G b with
        | none => left; dsimp only; rw [z]; exact f2
        | some o =>
          have h3 := s1 b o z
          rw [s2 _ _ f2] at h3
          cases h3
          left; dsimp only; rw [z]
      · cases z : G b with
        | none => right; exact ⟨o, by dsimp only; rw [z]; exact f2⟩
        | some o' =>
          have h3 := s1 b o' z
          rw [s2 _ _ f2] at h3
          cases h3
          right; exact ⟨o, by dsimp only; rw [z]⟩
    exact ⟨a, b, vs, ws, by rw [e1, f1], .inl (s1.rd e2), .inl (s2.rd f2), qy _ H2 F2 A2 _ R2 (hx1.trans hx2) (sb1.trans sb2) nx (yl_zip (g1.rd e2) g2 e3 f3)⟩
end
end Ac
namespace Ac
open PySem PySem.Spec PyProof.Rows L2
section
variable {rm : RM} {X : Cx} {k : Nat} {t : Sx} {W : WN} {fx : Fx rm} {xc : Nat → Ctx → rm.S → Prop} {σ : L2.St} {H F : Hp} {Γ : Ctx} {s : rm.S} {A : rm.A}
/-! ### slots wiped -/
theorem wipe_in {σ : L2.St} {i : Nat} : ∀ {vs : List Nat}, i ∈ vs → i < σ.length → (wipe σ vs)[i]? = some none
  | v :: vs, h, hl => by
    unfold wipe
    by_cases e : v = i
    · subst e
      rw [List.getElem?_set_self (by rw [wipe_length]; exact hl)]
    · rw [List.getElem?_set_ne e]
      exact wipe_in (by cases h with | head => exact absurd rfl e | tail _ h => exact h) hl
theorem wipe_ext {σ τ : L2.St} {vs : List Nat} (hl : σ.length = τ.length) (h : ∀ i, i ∉ vs → σ[i]? = τ[i]?) : wipe σ vs = wipe τ vs := by
  apply List.ext_getElem?
  intro i
  by_cases hi : i ∈ vs
  · by_cases hi2 : i < σ.length
    · rw [wipe_in hi hi2, wipe_in hi (by rw [← hl]; exact hi2)]
    · rw [List.getElem?_eq_none (by rw [wipe_length]; omega), List.getElem?_eq_none (by rw [wipe_length]; omega)]
  · rw [wipe_out hi, wipe_out hi, h i hi]
theorem wipe_set {σ : L2.St} {vs : List Nat} {i : Nat} {x : Option V} (h : i ∈ vs) : wipe (σ.set i x) vs = wipe σ vs :=
  wipe_ext (by rw [List.length_set]) fun j hj => by rw [List.getElem?_set_ne (fun e => hj (by rw [← e]; exact h))]
theorem wipe_wipe {σ : L2.St} {vs : List Nat} : wipe (wipe σ vs) vs = wipe σ vs := wipe_ext (wipe_length σ vs) fun i hi => wipe_out hi
theorem wipeG_length : ∀ {vs : List Nat} {Γ : Ctx}, (wipeG vs Γ).length = Γ.length
  | [], _ => rfl
  | v :: vs, Γ => by
    show (put (wipeG vs Γ) v none).length = _
    rw [put_length, wipeG_length]
theorem look_wipeG : ∀ {vs : List Nat} {Γ : Ctx} {i : Nat} {v : Val}, look (wipeG vs Γ) i = some v → i ∉ vs ∧ look Γ i = some v
  | [], _, _, _, h => ⟨nofun, h⟩
  | w :: vs, Γ, i, v, h => by
    have h' : look (put (wipeG vs Γ) w none) i = some v := h
    rcases look_put h' with ⟨_, z⟩ | ⟨ne, h2⟩
    · cases z
    · obtain ⟨h3, h4⟩ := look_wipeG h2
      exact ⟨fun m => by cases m with | head => exact ne rfl | tail _ m => exact h3 m, h4⟩
theorem SR.wipe (R : SR fx σ H Γ s F A) (vs : List Nat) : SR fx (L2.wipe σ vs) H (wipeG vs Γ) s F A where
  fh := R.fh
  fz := R.fz
  f0 := R.f0
  lk := R.lk
  a0 := R.a0
  ok := R.ok
  ln := by rw [wipeG_length, wipe_length]; exact R.ln
  sl := fun i v e => by
    obtain ⟨h1, h2⟩ := look_wipeG e
    obtain ⟨x, h3, h4⟩ := R.sl i v h2
    exact ⟨x, by rw [wipe_out h1]; exact h3, h4⟩
  dj := fun i j a xs ys e1 e2 s1 s2 => by
    obtain ⟨h1, h2⟩ := look_wipeG e1
    obtain ⟨h3, h4⟩ := look_wipeG e2
    rw [wipe_out h1] at s1
    rw [wipe_out h3] at s2
    exact R.dj i j a xs ys h2 h4 s1 s2
theorem backG_length {Γ0 : Ctx} : ∀ {vs : List Nat} {Γ : Ctx}, (backG Γ0 vs Γ).length = Γ.length
  | [], _ => rfl
  | v :: vs, Γ => by
    show (put (backG Γ0 vs Γ) v _).length = _
    rw [put_length, backG_length]
theorem look_backG {Γ0 : Ctx} : ∀ {vs : List Nat} {Γ : Ctx} {i : Nat} {v : Val}, look (backG Γ0 vs Γ) i = some v → (i ∈ vs ∧ look Γ0 i = some v ∧ ∀ xs, v ≠ .own xs) ∨ (i ∉ vs ∧ look Γ i = some v)
  | [], _, _, _, h => .inr ⟨nofun, h⟩
  | w :: vs, Γ, i, v, h => by
    have h' : look (put (backG Γ0 vs Γ) w (match look Γ0 w with | some (.own _) => none | v => v)) i = some v := h
    rcases look_put h' with ⟨e, z⟩ | ⟨ne, h2⟩
    · subst e
      left
      refine ⟨List.mem_cons_self, ?_⟩
      split at z
      · cases z
      · rename_i hn
        exact ⟨z, fun xs e => hn xs (by rw [z, e])⟩
    · rcases look_backG h2 with ⟨h3, h4⟩ | ⟨h3, h4⟩
      · exact .inl ⟨List.mem_cons_of_mem _ h3, h4⟩
      · exact .inr ⟨fun m => by cases m with | head => exact ne rfl | tail _ m => exact h3 m, h4⟩
/-- the names that were hidden are back -/
theorem SR.back {H1 F1 : Hp} {Γ1 : Ctx} {s1 : rm.S} {A1 : rm.A} {vs : List Nat} (R1 : SR fx σ H1 Γ1 s1 F1 A1) (R : SR fx (L2.wipe σ vs) H Γ s F A) (hx : HX H1 A1 H A) (sb : Sub F1 F) : SR fx σ H (backG Γ1 vs Γ) s F A where
  fh := R.fh
  fz := R.fz
  f0 := R.f0
  lk := R.lk
  a0 := R.a0
  ok := R.ok
  ln := by rw [backG_length, R.ln, wipe_length]
  sl := fun i v e => by
    rcases look_backG e with ⟨_, h2, h3⟩ | ⟨h1, h2⟩
    · obtain ⟨x, h4, h5⟩ := R1.sl i v h2
      refine ⟨x, h4, ?_⟩
      cases v with
      | dat d => exact Rp.mono sb h5
      | own xs => exact absurd rfl (h3 xs)
      | new xs => exact h5
      | hdl n => exact rm.le_hd hx.1 h5
    · obtain ⟨x, h4, h5⟩ := R.sl i v h2
      rw [wipe_out h1] at h4
      exact ⟨x, h4, h5⟩
  dj := fun i j a xs ys e1 e2 s1 s2 => by
    rcases look_backG e1 with ⟨_, _, h3⟩ | ⟨h1, h2⟩
    · exact absurd rfl (h3 xs)
    · rcases look_backG e2 with ⟨_, _, h3⟩ | ⟨h3, h4⟩
      · exact absurd rfl (h3 ys)
      · exact R.dj i j a xs ys h2 h4 (by rw [wipe_out h1]; exact s1) (by rw [wipe_out h3]; exact s2)
/-! ### a thing aside, that a loop fills -/
def fxL (fx : Fx rm) (p : Addr) (o : HO) : Fx rm := { fx with L := upd fx.L p o }
theorem SR.addL (R : SR fx σ H Γ s F A) {p : Addr} {o : HO} (hp : H p = some o) (hf : F p = none) (hz : ¬ rm.ft A p) (no : NoOwn σ Γ p) : SR (fxL fx p o) σ H Γ s F A where
  fh := R.fh
  fz := R.fz
  f0 := R.f0
  lk := fun a u e => by
    by_cases h : a = p
    · subst h
      have e' : upd fx.L a o a = some u := e
      rw [upd_same] at e'
      cases e'
      exact ⟨hp, hf, hz⟩
    · exact R.lk a u (by have e' : upd fx.L p o a = some u := e; rw [upd_ne h] at e'; exact e')
  a0 := R.a0
  ok := R.ok
  ln := R.ln
  sl := fun i v e => by
    obtain ⟨x, h1, h2⟩ := R.sl i v e
    refine ⟨x, h1, ?_⟩
    cases v with
    | own xs =>
      obtain ⟨a, vs, e1, e2, e3, e4, e5, e6⟩ := h2
      have h : a ≠ p := fun z => by rw [e1, z] at h1; exact no i xs e h1
      exact ⟨a, vs, e1, e2, e3, e4, by show upd fx.L p o a = none; rw [upd_ne h]; exact e5, e6⟩
    | _ => exact h2
  dj := R.dj
theorem SR.delL {p : Addr} {o : HO} (R : SR (fxL fx p o) σ H Γ s F A) (hl : fx.L p = none) : SR fx σ H Γ s F A where
  fh := R.fh
  fz := R.fz
  f0 := R.f0
  lk := fun a u e => R.lk a u (by
    show upd fx.L p o a = some u
    rw [upd_ne (fun z => by rw [z, hl] at e; cases e)]
    exact e)
  a0 := R.a0
  ok := R.ok
  ln := R.ln
  sl := fun i v e => by
    obtain ⟨x, h1, h2⟩ := R.sl i v e
    refine ⟨x, h1, ?_⟩
    cases v with
    | own xs =>
      obtain ⟨a, vs, e1, e2, e3, e4, e5, e6⟩ := h2
      refine ⟨a, vs, e1, e2, e3, e4, ?_, e6⟩
      have e5' : upd fx.L p o a = none := e5
      by_cases h : a = p
      · rw [h, upd_same] at e5'; cases e5'
      · rw [upd_ne h] at e5'; exact e5'
    | _ => exact h2
  dj := R.dj
theorem SR.lkP {p : Addr} {o : HO} (R : SR (fxL fx p o) σ H Γ s F A) : H p = some o ∧ F p = none ∧ ¬ rm.ft A p := R.lk p o (show upd fx.L p o p = some o from upd_same)
theorem SR.lkNo {p : Addr} {o : HO} (R : SR (fxL fx p o) σ H Γ s F A) : NoOwn σ Γ p := fun i ys e z => by
  obtain ⟨x, h1, a, vs, e1, e2, e3, e4, e5, e6⟩ := R.sl i _ e
  rw [z] at h1
  cases h1
  cases e1
  have e5' : upd fx.L p o p = none := e5
  rw [upd_same] at e5'
  cases e5'
/-- it is changed -/
theorem SR.chg {p : Addr} {o o' : HO} (R : SR (fxL fx p o) σ H Γ s F A) (hl : fx.L p = none) : SR (fxL fx p o') σ (upd H p o') Γ s F A := by
  obtain ⟨hp, hf, hz⟩ := R.lkP
  have no := R.lkNo
  have R0 := R.delL hl
  have R1 : SR fx σ (upd H p o') Γ s F A := {
    fh := fun a u e => by
      have h : a ≠ p := fun z => by rw [z, hf] at e; cases e
      rw [upd_ne h]
      exact R0.fh a u e
    fz := R0.fz
    f0 := R0.f0
    lk := fun a u e => by
      have h : a ≠ p := fun z => by rw [z, hl] at e; cases e
      rw [upd_ne h]
      exact R0.lk a u e
    a0 := R0.a0
    ok := rm.frame R0.ok fun q hq => upd_ne fun e => hz (by rw [← e]; exact hq)
    ln := R0.ln
    sl := fun i v e => by
      obtain ⟨x, h1, h2⟩ := R0.sl i v e
      refine ⟨x, h1, ?_⟩
      cases v with
      | own xs =>
        obtain ⟨a, vs, e1, e2, e3⟩ := h2
        have h : a ≠ p := fun z => by rw [e1, z] at h1; exact no i xs e h1
        exact ⟨a, vs, e1, by rw [upd_ne h]; exact e2, e3⟩
      | _ => exact h2
    dj := R0.dj }
  exact R1.addL upd_same hf hz no
/-! ### targets -/
def rdGs : List Nat → TGs
  | [] => gNil
  | i :: r => gCons (gName i) (rdGs r)
def rdG (K : PySem.W.Frag) : Tg → TG
  | .nm i => gName i
  | .tp is => gTup K is.length (rdGs is)
def tgIn : Tg → List Nat → Prop
  | .nm i, vs => i ∈ vs
  | .tp is, vs => ∀ i ∈ is, i ∈ vs
theorem putAll_rd : ∀ {is : List Nat} {ds : List D} {xs : List V} {σ : L2.St} {Γ : Ctx} {K : Ctx → Prop}, SR fx σ H Γ s F A → RpL F xs ds → putAll is ds Γ K →
    rdGs is xs σ H fun σ2 H2 => H2 = H ∧ (∀ vs, (∀ i ∈ is, i ∈ vs) → wipe σ2 vs = wipe σ vs) ∧ ∃ Γ2, K Γ2 ∧ SR fx σ2 H Γ2 s F A
  | [], [], _, σ, Γ, K, R, .nil, q => ⟨rfl, rfl, fun _ _ => rfl, Γ, q, R⟩
  | [], _ :: _, _, _, _, _, _, _, q => q.elim
  | _ :: _, [], _, _, _, _, _, _, q => q.elim
  | i :: is, d :: ds, _, σ, Γ, K, R, .cons (v := x) (vs := xs) h r, q => by
    refine ⟨x, xs, rfl, ?_⟩
    have ih := putAll_rd (is := is) (R.putD (i := i) h) r q
    show rdGs is xs (σ.set i (some x)) H _
    refine rdGs_mono is (fun σ2 H2 z => ?_) ih
    obtain ⟨z1, z2, z3⟩ := z
    exact ⟨z1, fun vs hv => (z2 vs fun j hj => hv j (List.mem_cons_of_mem _ hj)).trans (wipe_set (hv i List.mem_cons_self)), z3⟩
where
  rdGs_mono : ∀ (is : List Nat) {xs : List V} {σ : L2.St} {H : Hp} {Q Q' : L2.St → Hp → Prop}, (∀ σ H, Q σ H → Q' σ H) → rdGs is xs σ H Q → rdGs is xs σ H Q'
    | [], _, _, _, _, _, h, q => ⟨q.1, h _ _ q.2⟩
    | i :: is, _, _, _, _, _, h, ⟨v, r, e, q⟩ => ⟨v, r, e, rdGs_mono is h q⟩
theorem bindT_rd {K : PySem.W.Frag} {tg : Tg} {d : D} {x : V} {Kc : Ctx → Prop} (R : SR fx σ H Γ s F A) (h : Rp F x d) (q : bindT tg d Γ Kc) :
    rdG K tg x σ H fun σ2 H2 => H2 = H ∧ (∀ vs, tgIn tg vs → wipe σ2 vs = wipe σ vs) ∧ ∃ Γ2, Kc Γ2 ∧ SR fx σ2 H Γ2 s F A := by
  cases tg with
  | nm i => exact ⟨rfl, fun vs hv => wipe_set hv, _, q, R.putD h⟩
  | tp is =>
    cases h with
    | tup h1 r =>
      rename_i a vs ds
      have hl : vs.length = is.length := by
        rw [r.length]
        exact putAll_len q
      exact ⟨a, vs, rfl, .inl (.inl (R.fh _ _ h1)), hl, putAll_rd R r q⟩
    | _ => exact q.elim
where
  putAll_len : ∀ {is : List Nat} {ds : List D} {Γ : Ctx} {K : Ctx → Prop}, putAll is ds Γ K → ds.length = is.length
    | [], [], _, _, _ => rfl
    | [], _ :: _, _, _, q => q.elim
    | _ :: _, [], _, _, q => q.elim
    | _ :: is, _ :: ds, _, _, q => by rw [List.length_cons, List.length_cons, putAll_len (is := is) (ds := ds) q]
/-- what a walk has given, in the state -/
theorem SR.yield {H3 : Hp} {x : V} {d : D} (R : SR fx σ H Γ s F A) {F0 : Hp} (sb : Sub F0 F) (h : (H3 = H ∧ Rp F0 x d) ∨ ∃ T vs ds, H T = none ∧ H3 = upd H T (.tup vs) ∧ x = V.ref T ∧ d = .tuple ds ∧ RpL F0 vs ds) :
    ∃ F3, SR fx σ H3 Γ s F3 A ∧ HX H A H3 A ∧ Sub F F3 ∧ Rp F3 x d := by
  rcases h with ⟨rfl, h⟩ | ⟨T, vs, ds, h1, rfl, rfl, rfl, h⟩
  · exact ⟨F, R, HX.refl _ _, Sub.refl F, h.mono sb⟩
  · exact ⟨_, R.lay h1, R.hx h1, upd_sub (R.nF h1), .tup upd_same ((h.mono sb).mono (upd_sub (R.nF h1)))⟩
/-! ### a comprehension -/
theorem n_comp {own : List Nat} {tc : Tg} {it : It rm.S} {c : Es rm.S} {ce : E rm.S} {elt tg iter : Expr} {ifs : List Expr} {scope : Scope} {ol : List (Str × Nat)} {p : Pos} (hol : ol.map (·.2) = own) (hc : X.calm = true) (hN : X.N.Nodup)
    (hi : PI X tg iter (rdI W it)) (ok : BlkOk X.N X.env.scope scope ol)
    (hg : ∀ (s : Shared) (H : Hp) (C : Addr) (cl : List (Str × Addr)) (fp : List Addr), PG (X.blk s H scope (compEnvC scope cl C X.env) fp) tg (rdG X.K tc))
    (ht : ∀ (s : Shared) (H : Hp) (C : Addr) (cl : List (Str × Addr)) (fp : List Addr), PTs (X.blk s H scope (compEnvC scope cl C X.env) fp) ifs (rdC W0 c))
    (he : ∀ (s : Shared) (H : Hp) (C : Addr) (cl : List (Str × Addr)) (fp : List Addr), PE (X.blk s H scope (compEnvC scope cl C X.env) fp) elt (rdE W0 ce)) (hs : shp iter = true) (hin : tgIn tc own) :
    PE X (.ListComp elt [⟨tg, iter, ifs, 0⟩] scope p) (rdE W (.comp own tc it c ce)) ∧ ∀ σ H Q, rdE W (.comp own tc it c ce) σ H Q → tLc (rdI W it) (rdG X.K tc) (rdC W0 c) (rdE W0 ce) own σ H Q := by
  have key : ∀ σ H Q, rdE W (.comp own tc it c ce) σ H Q → tLc (rdI W it) (rdG X.K tc) (rdC W0 c) (rdE W0 ce) own σ H Q := by
    intro σ H Q q
    obtain ⟨fx, Γ, s, F, A, R, xc, xk, q⟩ := q
    unfold wE at q
    refine ⟨fx, Γ, s, F, A, R, xc, xk, wI_mono it (fun xs Γ1 s1 q => ?_) q⟩
    intro J H1 F1 A1 G R1 hx1 sb1 hG yl p hp
    obtain ⟨hbig, q⟩ := q
    have hlp := R1.nL hp
    refine ⟨fun i m H2 => m = xs.length - i ∧ i ≤ xs.length ∧ ∃ Γ2 s2 F2 A2 vs acc, SR (fxL fx p (.lst vs)) (wipe σ own) H2 Γ2 s2 F2 A2 ∧ HX H1 A1 H2 A2 ∧ Sub F1 F2 ∧ RpL F2 vs acc ∧ acc.length ≤ i ∧
      cLoop (fun x Γ s k => bindT tc x Γ fun Γ' => wC xn c Γ' s fun b Γ2 s2 => if b = true then wE xn ce Γ2 s2 (fun v Γ3 s3 => asD v fun d => k (some d) (wipeG own Γ3) s3) else k none (wipeG own Γ2) s2) (xs.drop i) Γ2 s2 acc
        (fun ys Γ' s' => KE fx σ H F A Q (.new ys) (backG Γ1 own Γ') s'), ⟨xs.length, rfl, Nat.zero_le _, wipeG own Γ1, s1, F1, A1, [], [], ?_, R1.hx hp, Sub.refl F1, .nil, Nat.le_refl _, q⟩, ?_⟩
    · exact ((R1.wipe own).alloc hp).addL upd_same (R1.nF hp) (R1.nft hp) ((R1.wipe own).noOwn hp)
    · rintro i m H2 ⟨rfl, hi, Γ2, s2, F2, A2, vs, acc, R2, hx2, sb2, rl, hal, q⟩
      have gs : Sub G H2 := fun b o e => (hx2.2 b o (hG b o e).1 (hG b o e).2).1
      by_cases hlt : i < xs.length
      · obtain ⟨x0, e0⟩ := get_lt (l := xs) hlt
        have ed : xs.drop i = x0 :: xs.drop (i + 1) := by
          rw [List.drop_eq_getElem_cons hlt]
          rw [List.getElem?_eq_getElem hlt] at e0
          rw [Option.some.inj e0]
        rw [ed] at q
        obtain ⟨go, yld⟩ := (yl i H2 gs).1 hlt
        refine .inr ⟨go, fun H' => ∃ Γ2 s2 F2 A2 vs acc, SR (fxL fx p (.lst vs)) (wipe σ own) H' Γ2 s2 F2 A2 ∧ HX H1 A1 H' A2 ∧ Sub F1 F2 ∧ RpL F2 vs acc ∧ acc.length ≤ i + 1 ∧
          cLoop (fun x Γ s k => bindT tc x Γ fun Γ' => wC xn c Γ' s fun b Γ2 s2 => if b = true then wE xn ce Γ2 s2 (fun v Γ3 s3 => asD v fun d => k (some d) (wipeG own Γ3) s3) else k none (wipeG own Γ2) s2) (xs.drop (i + 1)) Γ2 s2 acc
            (fun ys Γ' s' => KE fx σ H F A Q (.new ys) (backG Γ1 own Γ') s'), fun H' w => ⟨xs.length - (i + 1), by omega, rfl, hlt, w⟩, fun x H3 y => ?_⟩
        obtain ⟨d, hd, hy⟩ := yld x H3 y
        rw [e0] at hd
        cases hd
        obtain ⟨F3, R3, hx3, sb3, rp⟩ := R2.yield sb2 hy
        have q' : bindT tc x0 Γ2 _ := q
        have g := bindT_rd (K := X.K) R3 rp q'
        refine gmono tc (fun σ2 H4 z => ?_) g
        obtain ⟨rfl, wp, Γ3, q3, R4⟩ := z
        have ew : wipe σ2 own = wipe σ own := (wp own hin).trans wipe_wipe
        refine ⟨ew, ⟨_, Γ3, s2, F3, A2, R4, xn, xk0, wC_mono c (fun b Γ4 s4 q => ?_) q3⟩⟩
        intro H5 F5 A5 R5 hx5 sb5
        refine ite_mono (fun q => ?_) (fun q => ?_) q
        · refine ⟨_, Γ4, s4, F5, A5, R5, xn, xk0, wE_mono ce (fun v Γ6 s6 q => ?_) q⟩
          intro y6 H6 F6 A6 R6 hx6 sb6 rv
          obtain ⟨d, F7, q, R7, sb7, rp7⟩ := R6.stay rv q
          obtain ⟨w1, w2, w3⟩ := R7.lkP
          have hlen : vs.length < sizeLine := Nat.lt_of_lt_of_le (Nat.lt_of_le_of_lt (by rw [rl.length]; exact hal) hlt) (big_sz hbig)
          refine ⟨vs, w1, hlen, wipeG own Γ6, s6, F7, A6, vs ++ [y6], acc ++ [d], ?_, ?_, ?_, ?_, ?_, q⟩
          · have R8 := (R7.wipe own).chg (o' := .lst (vs ++ [y6])) hlp
            rw [ew] at R8
            exact R8
          · have z := ((hx2.trans hx3).trans hx5).trans hx6
            refine ⟨z.1, fun a o e n => ?_⟩
            obtain ⟨z1, z2⟩ := z.2 a o e n
            refine ⟨?_, z2⟩
            rw [upd_ne (fun z => by rw [z, hp] at e; cases e)]
            exact z1
          · exact (((sb2.trans sb3).trans sb5).trans sb6).trans sb7
          · exact (((((rl.mono sb3).mono sb5).mono sb6).mono sb7)).append (.cons rp7 .nil)
          · rw [List.length_append, List.length_singleton]; omega
        · refine ⟨wipeG own Γ4, s4, F5, A5, vs, acc, ?_, (hx2.trans hx3).trans hx5, (sb2.trans sb3).trans sb5, (rl.mono sb3).mono sb5, by omega, ?_⟩
          · have R8 := R5.wipe own
            rw [ew] at R8
            exact R8
          · have e3 : acc ++ (none : Option D).toList = acc := List.append_nil acc
            have q4 : cLoop _ (xs.drop (i + 1)) (wipeG own Γ4) s4 (acc ++ (none : Option D).toList) _ := q
            rw [e3] at q4
            exact q4
      · have e : i = xs.length := by omega
        subst e
        refine .inl ⟨(yl _ H2 gs).2 rfl, ?_⟩
        rw [List.drop_length] at q
        have q' : KE fx σ H F A Q (.new acc) (backG Γ1 own Γ2) s2 := q
        obtain ⟨w1, w2, w3⟩ := R2.lkP
        have no := R2.lkNo
        refine q' (V.ref p) H2 F2 A2 (R1.back (R2.delL hlp) hx2 sb2) (hx1.trans hx2) (sb1.trans sb2) ⟨p, vs, rfl, w1, w2, w3, hlp, rl, fun j ys ej z => ?_⟩
        rcases look_backG ej with ⟨_, _, h3⟩ | ⟨h1, h2⟩
        · exact h3 ys rfl
        · exact no j ys h2 (by rw [wipe_out h1]; exact z)
  refine ⟨?_, key⟩
  have h := pe_lc (own := ol) hc hN hi ok hg ht he (fold1 hs) (pos := p)
  rw [hol] at h
  exact PE_imp h key
where
  gmono {K : PySem.W.Frag} : ∀ (tc : Tg) {x : V} {σ : L2.St} {H : Hp} {Q Q' : L2.St → Hp → Prop}, (∀ σ H, Q σ H → Q' σ H) → rdG K tc x σ H Q → rdG K tc x σ H Q'
    | .nm i, _, _, _, _, _, h, q => h _ _ q
    | .tp is, _, _, _, _, _, h, ⟨a, xs, e1, e2, e3, q⟩ => ⟨a, xs, e1, e2, e3, putAll_rd.rdGs_mono is h q⟩
end
end Ac
namespace Ac
open PySem PySem.Spec PyProof.Rows L2
section
variable {rm : RM} {X : Cx} {k : Nat} {t : Sx} {W : WN} {fx : Fx rm} {xc : Nat → Ctx → rm.S → Prop} {σ : L2.St} {H F : Hp} {Γ : Ctx} {s : rm.S} {A : rm.A}
/-! ### statements -/
theorem PS_imp {X : Cx} {st : Stmt} {t t' : TS} (h : PS X st t) (hi : ∀ D σ H, t' D σ H → t D σ H) : PS X st t' := ⟨fun pins s σ H D I q => h.run pins s σ H D I (hi D σ H q)⟩
theorem PSs_imp {X : Cx} {st : List Stmt} {t t' : TS} (h : PSs X st t) (hi : ∀ D σ H, t' D σ H → t D σ H) : PSs X st t' := ⟨fun pins s σ H D I q => h.run pins s σ H D I (hi D σ H q)⟩
structure KOk (W : WN) (fx : Fx rm) (D : Ends) (K : Kn rm.S) : Prop where
  nx : ∀ Γ s σ H F A, SR fx σ H Γ s F A → K.nx Γ s → D.nx σ H
  rt : ∀ v x Γ s σ H F A, SR fx σ H Γ s F A → RV fx σ H F A Γ x v → K.rt v s → D.rt x H
  bk : ∀ Γ s σ H F A, SR fx σ H Γ s F A → K.bk Γ s → D.bk σ H
  ct : ∀ Γ s σ H F A, SR fx σ H Γ s F A → K.ct Γ s → D.ct σ H
  ex : XcOk W fx K.ex
def rd1 (W : WN) (c : St1 rm.S) : TS := fun D σ H => ∃ (fx : Fx rm) (Γ : Ctx) (s : rm.S) (F : Hp) (A : rm.A), SR fx σ H Γ s F A ∧ ∃ K, KOk W fx D K ∧ w1 c Γ s K
def rdS (W : WN) (c : Sm rm.S) : TS := fun D σ H => ∃ (fx : Fx rm) (Γ : Ctx) (s : rm.S) (F : Hp) (A : rm.A), SR fx σ H Γ s F A ∧ ∃ K, KOk W fx D K ∧ wS c Γ s K
def rdSs (W : WN) (c : Sms rm.S) : TS := fun D σ H => ∃ (fx : Fx rm) (Γ : Ctx) (s : rm.S) (F : Hp) (A : rm.A), SR fx σ H Γ s F A ∧ ∃ K, KOk W fx D K ∧ wSs c Γ s K
theorem n_one {st : Stmt} {c : St1 rm.S} (h : PS X st (rd1 W c)) : PS X st (rdS W (.one c)) := PS_imp h fun D σ H q => by
  obtain ⟨fx, Γ, s, F, A, R, K, ko, q⟩ := q
  unfold wS at q
  exact ⟨fx, Γ, s, F, A, R, K, ko, q⟩
theorem n_nil : PSs X [] (rdSs W (.nil : Sms rm.S)) := PSs_imp pss_nil fun D σ H q => by
  obtain ⟨fx, Γ, s, F, A, R, K, ko, q⟩ := q
  unfold wSs at q
  exact ko.nx _ _ _ _ _ _ R q
theorem n_cons {st : Stmt} {rest : List Stmt} {c : Sm rm.S} {r : Sms rm.S} (h : PS X st (rdS W c)) (hr : PSs X rest (rdSs W r)) : PSs X (st :: rest) (rdSs W (.cons c r)) := PSs_imp (pss_cons h hr) fun D σ H q => by
  obtain ⟨fx, Γ, s, F, A, R, K, ko, q⟩ := q
  unfold wSs at q
  exact ⟨fx, Γ, s, F, A, R, { K with nx := fun Γ' s' => wSs r Γ' s' K }, { nx := fun Γ s σ H F A R q => ⟨fx, Γ, s, F, A, R, K, ko, q⟩, rt := ko.rt, bk := ko.bk, ct := ko.ct, ex := ko.ex }, q⟩
/-! ### single statements -/
theorem swp1 {e : Expr} {x : Str} {p : Pos} {l : Nat} {env : Env} (h : shp e = true) (hc : isComp e = false) : swapsWith e (some (.Name x p)) l env = pure false := swap1 h hc
/-- a name that may be stored -/
def Sto (X : Cx) (x : Str) : Prop := Loc X.env.scope x ∧ (X.fn x = true ∨ X.env.scope.names.lookup x = some .local)
theorem n_asg {i : Nat} {x : Str} {c : E rm.S} {e : Expr} {p p2 : Pos} (hN : X.N.Nodup) (hi : X.N[i]? = some x) (hx : Sto X x) (he : PE X e (rdE W c)) (hsw : swapsWith e (some (.Name x p2)) p.line X.env = pure false) : PS X (.Assign [.Name x p2] e p) (rd1 W (.asg i c)) :=
  PS_imp (ps_set hN hi hx.1 he hsw hx.2) fun D σ H q => by
    obtain ⟨fx, Γ, s, F, A, R, K, ko, q⟩ := q
    dsimp only [w1] at q
    refine ⟨fx, Γ, s, F, A, R, K.ex, ko.ex, wE_mono c (fun v Γ' s' q => ?_) q⟩
    intro y H' F' A' R' hx sb rv
    exact ko.nx _ _ _ _ _ _ (R'.putV rv) q
def isTupE : Expr → Bool
  | .Tuple .. => true
  | _ => false
theorem swst {e : Expr} {ts : List Expr} {kk : Nat} {p : Pos} {env : Env} (h : isTupE e = false) : swappedStores [.Tuple ts kk p] e env = pure none := by
  cases e <;> first | rfl | cases h
theorem swso {e : Expr} {ts : List Expr} {kk : Nat} {p : Pos} {l : Nat} {env : Env} (h : shp e = true) (hc : isComp e = false) : swapsWithSole [.Tuple ts kk p] e l env = pure false := by
  cases e <;> first | rfl | exact Bool.noConfusion hc | exact Bool.noConfusion h
theorem n_pgs {xs : List Expr} {is : List Nat} (hN : X.N.Nodup) (h : Paired (fun (e : Expr) (i : Nat) => ∃ x p, e = .Name x p ∧ X.N[i]? = some x ∧ Sto X x) xs is) : PGs X xs (rdGs is) := by
  induction h with
  | nil => exact pgs_nil
  | cons a b ih =>
    obtain ⟨x, p, rfl, h1, h2⟩ := a
    exact pgs_cons (pg_name hN h1 h2.1 h2.2) ih
theorem asgE_len {env : Env} {xs : List Expr} {is : List Nat} (h : Paired (fun (e : Expr) (i : Nat) => ∃ x p, e = .Name x p ∧ X.N[i]? = some x ∧ Sto X x) xs is) : (assignEach xs env).length = is.length ∧ (assignEach xs env).findIdx? (·.1) = none := by
  induction h with
  | nil => exact ⟨rfl, rfl⟩
  | cons a b ih =>
    obtain ⟨x, p, rfl, h1, h2⟩ := a
    refine ⟨?_, ?_⟩
    · show (_ :: assignEach _ env).length = _
      rw [List.length_cons, List.length_cons, ih.1]
    · show ((false, _) :: assignEach _ env).findIdx? (·.1) = none
      rw [List.findIdx?_cons]
      show Option.map _ ((assignEach _ env).findIdx? (·.1)) = none
      rw [ih.2]
      rfl
abbrev NmOk (X : Cx) (xs : List Expr) (is : List Nat) : Prop := Paired (fun (e : Expr) (i : Nat) => ∃ x p, e = .Name x p ∧ X.N[i]? = some x ∧ Sto X x) xs is
theorem n_pgT {xs : List Expr} {is : List Nat} {kk : Nat} {p : Pos} (hc : X.calm = true) (hN : X.N.Nodup) (h : NmOk X xs is) : PG X (.Tuple xs kk p) (rdG X.K (.tp is)) :=
  pg_tup hc (n_pgs hN h) (asgE_len h).1 (asgE_len h).2
theorem n_asgT {xs : List Expr} {is : List Nat} {c : E rm.S} {e : Expr} {kk : Nat} {p p2 : Pos} (hc : X.calm = true) (hN : X.N.Nodup) (hn : NmOk X xs is) (he : PE X e (rdE W c)) (hs : shp e = true) (hcc : isComp e = false) (ht : isTupE e = false) : PS X (.Assign [.Tuple xs kk p2] e p) (rd1 W (.asgT is c)) :=
  PS_imp (ps_asg he (n_pgT hc hN hn) (swso hs hcc) (swst ht)) fun D σ H q => by
    obtain ⟨fx, Γ, s, F, A, R, K, ko, q⟩ := q
    dsimp only [w1] at q
    refine ⟨fx, Γ, s, F, A, R, K.ex, ko.ex, wE_mono c (fun v Γ' s' q => ?_) q⟩
    intro y H' F' A' R' hx sb rv
    obtain ⟨d, F'', q, R'', sb', rp⟩ := R'.stay rv q
    split at q
    · rename_i ds
      have q' : bindT (.tp is) (.tuple ds) Γ' fun Γ2 => K.nx Γ2 s' := q
      have g := bindT_rd (K := X.K) R'' rp q'
      refine n_comp.gmono (.tp is) (fun σ2 H2 z => ?_) g
      obtain ⟨rfl, _, Γ2, h1, h2⟩ := z
      exact ko.nx _ _ _ _ _ _ h2 h1
    · exact q.elim
theorem ownAt (R : SR fx σ H Γ s F A) {i : Nat} {xs : List D} (h : look Γ i = some (.own xs)) : ∃ a vs, σ[i]? = some (some (V.ref a)) ∧ H a = some (.lst vs) ∧ F a = none ∧ ¬ rm.ft A a ∧ fx.L a = none ∧ RpL F vs xs := by
  obtain ⟨x, h1, a, vs, rfl, e2, e3, e4, e5, e6⟩ := R.sl i _ h
  exact ⟨a, vs, h1, e2, e3, e4, e5, e6⟩
/-- a list of one's own is changed -/
theorem SR.chgOwn (R : SR fx σ H Γ s F A) {i : Nat} {xs ys : List D} {a : Addr} {vs ws : List V} (h : look Γ i = some (.own xs)) (hs : σ[i]? = some (some (V.ref a))) (r : RpL F ws ys) : SR fx σ (upd H a (.lst ws)) (Ac.put Γ i (some (.own ys))) s F A := by
  obtain ⟨a', vs', h1, e2, e3, e4, e5, e6⟩ := ownAt R h
  rw [hs] at h1
  cases h1
  exact {
    fh := fun b u e => by
      have hb : b ≠ a := fun z => by rw [z, e3] at e; cases e
      rw [upd_ne hb]; exact R.fh b u e
    fz := R.fz
    f0 := R.f0
    lk := fun b u e => by
      have hb : b ≠ a := fun z => by rw [z, e5] at e; cases e
      rw [upd_ne hb]; exact R.lk b u e
    a0 := R.a0
    ok := rm.frame R.ok fun q hq => upd_ne fun z => e4 (by rw [← z]; exact hq)
    ln := by rw [put_length]; exact R.ln
    sl := fun j w e => by
      rcases look_put e with ⟨rfl, z⟩ | ⟨ne, e'⟩
      · cases z
        exact ⟨_, hs, a, ws, rfl, upd_same, e3, e4, e5, r⟩
      · obtain ⟨y, q1, q2⟩ := R.sl j w e'
        refine ⟨y, q1, ?_⟩
        cases w with
        | dat d => exact q2
        | new xs => exact q2
        | hdl k => exact q2
        | own zs =>
          obtain ⟨b, us, rfl, w2, w3⟩ := q2
          have hb : b ≠ a := fun z => by
            rw [z] at q1
            exact ne (R.dj j i a zs xs e' h q1 hs)
          exact ⟨b, us, rfl, by rw [upd_ne hb]; exact w2, w3⟩
    dj := fun j l b zs us e1 e2 s1 s2 => by
      rcases look_put e1 with ⟨rfl, _⟩ | ⟨n1, e1'⟩
      · rcases look_put e2 with ⟨rfl, _⟩ | ⟨n2, e2'⟩
        · rfl
        · exact R.dj j l b xs us h e2' s1 s2
      · rcases look_put e2 with ⟨rfl, _⟩ | ⟨n2, e2'⟩
        · exact R.dj j l b zs xs e1' h s1 s2
        · exact R.dj j l b zs us e1' e2' s1 s2 }
theorem stars1 {env : Env} {pos : Pos} {es : List Expr} (h : shpL es = true) : (backTo pos (starEach es env)).all (fun x => !x.1) = true := by
  have := stars (env := env) (pos := pos) h
  rw [List.all_eq_not_any_not]
  rw [show (fun x : Bool × Sem Value => !!x.1) = (fun x => x.1) from funext fun x => Bool.not_not _, this]
  rfl
theorem few1 {e : Expr} {env : Env} {p : Pos} (hs : shp e = true) : ((backTo p (starEach [e] env)).all (fun x => !x.1) && (backToKw p (keywordEach [] env)).all (fun x => x.1.isSome) && decide ([e].length + ([] : List Keyword).length + (if ([] : List Keyword).isEmpty then 0 else 1) < 30)) = true := by
  rw [stars1 (es := [e]) (by unfold shpL; rw [List.all_cons, hs]; rfl)]
  rfl
theorem RV.un {F0 F2 : Hp} {A2 : rm.A} {x : V} {v : Val} (h : RV (rm := rm) ⟨fx.L, F0, fx.A0⟩ σ H F2 A2 Γ x v) : RV fx σ H F2 A2 Γ x v := by
  cases v <;> exact h
theorem n_app {i : Nat} {x : Str} {c : E rm.S} {e : Expr} {p p2 p3 p4 : Pos} (hv : PE X (.Name x p3) (tVar i)) (he : PE X e (rdE W c)) (hs : shp e = true) (hl : (p2.endLine == p4.line) = true) : PS X (.Expr (.Call (.Attribute (.Name x p3) "append" p2) [e] [] p4) p) (rd1 W (.app i c)) :=
  PS_imp (ps_expr (pe_bm PySem.F.plainAttrs_list PySem.F.slot_list_append PySem.F.type_list_append mt_append hv (pa_cons he pa_nil (star1 hs)) (hfew := few1 hs) (hline := hl) (hs := star1 hs))) fun D σ H q => by
    obtain ⟨fx, Γ, s, F, A, R, K, ko, q⟩ := q
    dsimp only [w1] at q
    split at q
    · rename_i xs hxs
      obtain ⟨a, vs, h1, e2, e3, e4, e5, e6⟩ := ownAt R hxs
      refine ⟨.ref a, h1, .inl ⟨rfl, _, SqL.of e2⟩, fx, Γ, s, F, A, R, K.ex, ko.ex, wE_mono c (fun v Γ' s' q => ?_) q⟩
      intro y H' F' A' R' hx sb rv
      obtain ⟨d, F'', q, R'', sb', rp⟩ := R'.stay rv q
      split at q
      · rename_i zs hzs
        obtain ⟨a', ws, g1, g2, g3, g4, g5, g6⟩ := ownAt R'' hzs
        rw [h1] at g1
        cases g1
        refine ⟨a, ws, y, rfl, rfl, g2, by rw [g6.length]; exact big_lt q.1, ?_⟩
        exact ko.nx _ _ _ _ _ _ (R''.chgOwn (vs := ws) hzs h1 (g6.append (.cons rp .nil))) q.2
      · exact q.elim
    · exact q.elim
theorem n_expr {c : E rm.S} {e : Expr} {p : Pos} (he : PE X e (rdE W c)) (hs : shp e = true) (hc : isComp e = false) : PS X (.Expr e p) (rd1 W (.expr c)) :=
  PS_imp (ps_expr he (swap1 hs hc)) fun D σ H q => by
    obtain ⟨fx, Γ, s, F, A, R, K, ko, q⟩ := q
    dsimp only [w1] at q
    refine ⟨fx, Γ, s, F, A, R, K.ex, ko.ex, wE_mono c (fun v Γ' s' q => ?_) q⟩
    intro y H' F' A' R' hx sb rv
    exact ko.nx _ _ _ _ _ _ R' q
theorem n_retV {i : Nat} {x : Str} {p p2 : Pos} (hv : PE X (.Name x p2) (tVar i)) : PS X (.Return (some (.Name x p2)) p) (rd1 W (.ret (.var i : E rm.S))) :=
  PS_imp (ps_ret hv) fun D σ H q => by
    obtain ⟨fx, Γ, s, F, A, R, K, ko, q⟩ := q
    change (match look Γ i with
      | some (.dat d) => K.rt (.dat d) s
      | some (.own xs) => K.rt (.new xs) s
      | some (.hdl k) => K.rt (.hdl k) s
      | _ => False) at q
    split at q
    · rename_i d hd
      obtain ⟨y, h1, h2⟩ := R.sl i _ hd
      exact ⟨y, h1, ko.rt (.dat d) _ _ _ _ _ _ _ R h2 q⟩
    · rename_i xs hxs
      obtain ⟨a, vs, h1, e2, e3, e4, e5, e6⟩ := ownAt R hxs
      refine ⟨_, h1, ko.rt (.new xs) _ _ _ _ _ _ _ (R.drop (i := i)) ⟨a, vs, rfl, e2, e3, e4, e5, e6, fun j ys ej z => ?_⟩ q⟩
      rcases look_put ej with ⟨_, q⟩ | ⟨ne, ej'⟩
      · cases q
      · exact ne (R.dj j i a ys xs ej' hxs z h1)
    · rename_i n hn
      obtain ⟨y, h1, h2⟩ := R.sl i _ hn
      exact ⟨y, h1, ko.rt (.hdl n) _ _ _ _ _ _ _ R h2 q⟩
    · exact q.elim
theorem n_ret {c : E rm.S} {e : Expr} {p : Pos} (he : PE X e (rdE W c)) (hv : ∀ i, c ≠ .var i) : PS X (.Return (some e) p) (rd1 W (.ret c)) :=
  PS_imp (ps_ret he) fun D σ H q => by
    obtain ⟨fx, Γ, s, F, A, R, K, ko, q⟩ := q
    have q' : wE K.ex c Γ s fun v _ s' => K.rt v s' := by
      cases c with
      | var i => exact absurd rfl (hv i)
      | _ => exact q
    refine ⟨fx, Γ, s, F, A, R, K.ex, ko.ex, wE_mono c (fun v Γ' s' q => ?_) q'⟩
    intro y H' F' A' R' hx sb rv
    exact ko.rt _ _ _ _ _ _ _ _ R' rv q
theorem n_brk {p : Pos} : PS X (.Break p) (rd1 W (.brk : St1 rm.S)) := PS_imp ps_break fun D σ H q => by
  obtain ⟨fx, Γ, s, F, A, R, K, ko, q⟩ := q
  exact ko.bk _ _ _ _ _ _ R q
theorem n_cnt {p : Pos} : PS X (.Continue p) (rd1 W (.cnt : St1 rm.S)) := PS_imp ps_continue fun D σ H q => by
  obtain ⟨fx, Γ, s, F, A, R, K, ko, q⟩ := q
  exact ko.ct _ _ _ _ _ _ R q
theorem n_pass {p : Pos} : PS X (.Pass p) (rd1 W (.nop : St1 rm.S)) := PS_imp ps_pass fun D σ H q => by
  obtain ⟨fx, Γ, s, F, A, R, K, ko, q⟩ := q
  exact ko.nx _ _ _ _ _ _ R q
theorem n_never {st : Stmt} : PS X st (rd1 W (.never : St1 rm.S)) := PS_imp ps_never fun D σ H q => by
  obtain ⟨fx, Γ, s, F, A, R, K, ko, q⟩ := q
  exact q
/-- what stays, as it stands now, is the ground -/
theorem SV.re {F0 : Hp} {x : V} {v : Val} (h : SV fx H F A x v) : SV (rm := rm) ⟨fx.L, F0, fx.A0⟩ H F A x v := by
  cases v <;> exact h
theorem SV.un {F0 : Hp} {x : V} {v : Val} (h : SV (rm := rm) ⟨fx.L, F0, fx.A0⟩ H F A x v) : SV fx H F A x v := by
  cases v <;> exact h
theorem SR.base (R : SR fx σ H Γ s F A) : SR (rm := rm) ⟨fx.L, F, fx.A0⟩ σ H Γ s F A where
  fh := R.fh
  fz := R.fz
  f0 := Sub.refl F
  lk := R.lk
  a0 := R.a0
  ok := R.ok
  ln := R.ln
  sl := fun i v e => let ⟨x, h1, h2⟩ := R.sl i v e; ⟨x, h1, h2.re⟩
  dj := R.dj
theorem SR.unbase {F0 : Hp} (R : SR (rm := rm) ⟨fx.L, F0, fx.A0⟩ σ H Γ s F A) (h : Sub fx.F0 F0) : SR fx σ H Γ s F A where
  fh := R.fh
  fz := R.fz
  f0 := h.trans R.f0
  lk := R.lk
  a0 := R.a0
  ok := R.ok
  ln := R.ln
  sl := fun i v e => let ⟨x, h1, h2⟩ := R.sl i v e; ⟨x, h1, h2.un⟩
  dj := R.dj
theorem n_aug {i : Nat} {x : Str} {c : E rm.S} {e : Expr} {o : Operator} {p p2 : Pos} (hN : X.N.Nodup) (hi : X.N[i]? = some x) (hx : Sto X x) (he : PE X e (rdP W c)) (ho : o = .Add ∨ o = .Sub) : PS X (.AugAssign (.Name x p2) o e p) (rd1 W (.aug i o c)) := by
  rcases ho with rfl | rfl
  · exact PS_imp (ps_aug hN hi hx.1 he ip_add hx.2) fun D σ H q => by
      obtain ⟨fx, Γ, s, F, A, R, K, ko, q⟩ := q
      dsimp only [w1] at q
      split at q
      · rename_i a ha
        obtain ⟨y, h1, h2⟩ := R.sl i _ ha
        cases h2
        refine ⟨_, h1, fx, Γ, s, F, A, R, K.ex, ko.ex, opnE_mono c (fun d Γ' s' q => ?_) q⟩
        intro z H' F' A' R' hx sb ro
        split at q
        · exact ⟨_, _, rfl, flat_int ro.1, ko.nx _ _ _ _ _ _ (R'.putD (.int _)) q⟩
        · exact q.elim
      · exact q.elim
  · exact PS_imp (ps_aug hN hi hx.1 he ip_sub hx.2) fun D σ H q => by
      obtain ⟨fx, Γ, s, F, A, R, K, ko, q⟩ := q
      dsimp only [w1] at q
      split at q
      · rename_i a ha
        obtain ⟨y, h1, h2⟩ := R.sl i _ ha
        cases h2
        refine ⟨_, h1, fx, Γ, s, F, A, R, K.ex, ko.ex, opnE_mono c (fun d Γ' s' q => ?_) q⟩
        intro z H' F' A' R' hx sb ro
        split at q
        · exact ⟨_, _, rfl, flat_int ro.1, ko.nx _ _ _ _ _ _ (R'.putD (.int _)) q⟩
        · exact q.elim
      · exact q.elim
/-! ### if, while, for -/
theorem n_ite {c : E rm.S} {e : Expr} {a b : List Stmt} {ca cb : Sms rm.S} {p : Pos} (hc : PT X e (rdT W c)) (ha : PSs X a (rdSs W ca)) (hb : PSs X b (rdSs W cb)) : PS X (.If e a b p) (rdS W (.ite c ca cb)) :=
  PS_imp (ps_if hc ha hb) fun D σ H q => by
    obtain ⟨fx, Γ, s, F, A, R, K, ko, q⟩ := q
    unfold wS at q
    refine ⟨fx, Γ, s, F, A, R, K.ex, ko.ex, opnE_mono c (fun d Γ' s' q => ?_) q⟩
    refine boolD_mono (fun b q => ?_) q
    intro H' F' A' R' hx sb
    exact ite_mono (fun q => ⟨fx, Γ', s', F', A', R', K, ko, q⟩) (fun q => ⟨fx, Γ', s', F', A', R', K, ko, q⟩) q
theorem n_whl {c : E rm.S} {e : Expr} {b : List Stmt} {cb : Sms rm.S} {p : Pos} (hp : PassesOwn (model X.prog X.w) X.A X.env X.xe) (hc : PT X e (rdT W c)) (hb : PSs X b (rdSs W cb)) : PS X (.While e b [] p) (rdS W (.whl c cb)) :=
  PS_imp (ps_while hp hc hb) fun D σ H q => by
    obtain ⟨fx, Γ, s, F, A, R, K, ko, q⟩ := q
    unfold wS at q
    obtain ⟨V, ⟨m0, v0⟩, turn⟩ := q
    refine ⟨fun m σ H => ∃ Γ s F A, SR fx σ H Γ s F A ∧ V m Γ s, ⟨m0, Γ, s, F, A, R, v0⟩, ?_⟩
    rintro m σ1 H1 ⟨Γ1, s1, F1, A1, R1, v1⟩
    refine ⟨fx, Γ1, s1, F1, A1, R1, K.ex, ko.ex, opnE_mono c (fun d Γ' s' q => ?_) (turn m Γ1 s1 v1)⟩
    refine boolD_mono (fun b q => ?_) q
    intro H' F' A' R' hx sb
    refine ite_mono (fun q => ?_) (fun q => ko.nx _ _ _ _ _ _ R' q) q
    refine ⟨fun σ H => ∃ m', m' < m ∧ ∃ Γ s F A, SR fx σ H Γ s F A ∧ V m' Γ s, fun σ' H' h => h, fx, Γ', s', F', A', R', _, ?_, q⟩
    exact { nx := fun Γ s σ H F A R ⟨m', h1, h2⟩ => ⟨m', h1, Γ, s, F, A, R, h2⟩, rt := ko.rt, bk := ko.nx, ct := fun Γ s σ H F A R ⟨m', h1, h2⟩ => ⟨m', h1, Γ, s, F, A, R, h2⟩, ex := ko.ex }
theorem n_for {tc : Tg} {it : It rm.S} {cb : Sms rm.S} {tg iter : Expr} {b : List Stmt} {p : Pos} (hp : PassesOwn (model X.prog X.w) X.A X.env X.xe) (hc : X.calm = true) (hi : PI X tg iter (rdJ W it)) (hg : PG X tg (rdG X.K tc)) (hb : PSs X b (rdSs W cb)) (hs : shp iter = true) : PS X (.For tg iter b [] p) (rdS W (.for tc it cb)) :=
  PS_imp (ps_for hp hc hi hg hb (fold1 hs)) fun D σ H q => by
    obtain ⟨fx, Γ, s, F, A, R, K, ko, q⟩ := q
    unfold wS at q
    refine ⟨fx, Γ, s, F, A, R, K.ex, ko.ex, wJ_mono it (fun xs Γ1 s1 q => ?_) q⟩
    intro J H1 F1 A1 R1 hx1 sb1 yl
    obtain ⟨hbig, q⟩ := q
    refine ⟨fun i m σ2 H2 => m = xs.length - i ∧ i ≤ xs.length ∧ ∃ Γ2 s2 F2 A2, SR fx σ2 H2 Γ2 s2 F2 A2 ∧ Sub F1 F2 ∧ fLoop (fun x Γ s K' => bindT tc x Γ fun Γ' => wSs cb Γ' s K') K (xs.drop i) Γ2 s2, ⟨xs.length, rfl, Nat.zero_le _, Γ1, s1, F1, A1, R1, Sub.refl F1, q⟩, ?_⟩
    rintro i m σ2 H2 ⟨rfl, hi, Γ2, s2, F2, A2, R2, sb2, q⟩
    have gs : Sub F1 H2 := sb2.trans R2.fh
    by_cases hlt : i < xs.length
    · obtain ⟨x0, e0⟩ := get_lt (l := xs) hlt
      have ed : xs.drop i = x0 :: xs.drop (i + 1) := by
        rw [List.drop_eq_getElem_cons hlt]
        rw [List.getElem?_eq_getElem hlt] at e0
        rw [Option.some.inj e0]
      rw [ed] at q
      obtain ⟨go, yld⟩ := (yl i H2 gs).1 hlt
      refine .inr ⟨go, fun σ' H' => ∃ Γ2 s2 F2 A2, SR fx σ' H' Γ2 s2 F2 A2 ∧ Sub F1 F2 ∧ fLoop (fun x Γ s K' => bindT tc x Γ fun Γ' => wSs cb Γ' s K') K (xs.drop (i + 1)) Γ2 s2, fun σ' H' w => ⟨xs.length - (i + 1), by omega, rfl, hlt, w⟩, fun x H3 y => ?_⟩
      obtain ⟨d, hd, hy⟩ := yld x H3 y
      rw [e0] at hd
      cases hd
      obtain ⟨F3, R3, hx3, sb3, rp⟩ := R2.yield sb2 hy
      have q' : bindT tc x0 Γ2 (fun Γ' => wSs cb Γ' s2 _) := q
      have g := bindT_rd (K := X.K) R3 rp q'
      refine n_comp.gmono tc (fun σ4 H4 z => ?_) g
      obtain ⟨rfl, _, Γ4, q4, R4⟩ := z
      refine ⟨⟨fx.L, F3, fx.A0⟩, Γ4, s2, F3, A2, R4.base, _, ?_, q4⟩
      exact {
        nx := fun Γ5 s5 σ5 H5 F5 A5 R5 q5 => ⟨Γ5, s5, F5, A5, R5.unbase (R4.f0), (sb2.trans sb3).trans R5.f0, q5⟩
        rt := fun v x Γ5 s5 σ5 H5 F5 A5 R5 rv q5 => ko.rt v x _ _ _ _ _ _ (R5.unbase R4.f0) rv.un q5
        bk := fun Γ5 s5 σ5 H5 F5 A5 R5 q5 => ko.nx _ _ _ _ _ _ (R5.unbase R4.f0) q5
        ct := fun Γ5 s5 σ5 H5 F5 A5 R5 q5 => ⟨Γ5, s5, F5, A5, R5.unbase (R4.f0), (sb2.trans sb3).trans R5.f0, q5⟩
        ex := fun n Γ5 s5 σ5 H5 F5 A5 R5 q5 => ko.ex n _ _ _ _ _ _ (R5.unbase R4.f0) q5 }
    · have e : i = xs.length := by omega
      subst e
      refine .inl ⟨(yl _ H2 gs).2 rfl, ?_⟩
      rw [List.drop_length] at q
      exact ko.nx _ _ _ _ _ _ R2 q
end
end Ac
namespace Ac
open PySem PySem.Spec PyProof.Rows L2
section
variable {rm : RM} {X : Cx} {k : Nat} {t : Sx} {W : WN} {fx : Fx rm} {xc : Nat → Ctx → rm.S → Prop} {σ : L2.St} {H F : Hp} {Γ : Ctx} {s : rm.S} {A : rm.A}
/-! ### what a for walks -/
theorem n_jSeq {c : E rm.S} {e tg : Expr} (h : PE X e (rdE W c)) : PI X tg e (rdJ W (.seq c)) := by
  refine PI_imp (pi_seq h) fun σ H R q => ?_
  obtain ⟨fx, Γ, s, F, A, R0, xc, xk, q⟩ := q
  unfold wJ at q
  refine ⟨fx, Γ, s, F, A, R0, xc, xk, wE_mono c (fun v Γ1 s1 q => ?_) q⟩
  intro x H1 F1 A1 R1 hx1 sb1 rv
  obtain ⟨d, F2, q, R2, sb2, rp⟩ := R1.stay rv q
  unfold seqD at q
  split at q
  · cases rp with
    | lst h1 r => exact .inl ⟨_, rfl, ⟨_, .inl (R2.fh.rd h1)⟩, q _ H1 F2 A1 R2 hx1 (sb1.trans sb2) (yl_list h1 r)⟩
  · cases rp with
    | tup h1 r => exact .inr ⟨_, rfl, ⟨_, .inl (.inl (R2.fh _ _ h1))⟩, q _ H1 F2 A1 R2 hx1 (sb1.trans sb2) (yl_tup h1 r)⟩
  · exact q.elim
theorem n_jRng1 {c : E rm.S} {e tg : Expr} {p p2 : Pos} (hg : Gl X "range") (hm : X.mg "range" = none) (ha : PA X [e] (rdA W (.cons c .nil))) (hs : shp e = true) : PI X tg (.Call (.Name "range" p2) [e] [] p) (rdJ W (.rng (.cons c .nil))) := by
  refine PI_imp (pi_range1 hg hm ha (star1 hs)) fun σ H R q => ?_
  obtain ⟨fx, Γ, s, F, A, R0, xc, xk, q⟩ := q
  unfold wJ at q
  exact rng1_rd R0 xk q fun xs Γ' s' h J H' F' A' R' hx sb yl => h J H' F' A' R' hx sb (yl _ _)
theorem n_jRng2 {c c2 : E rm.S} {e e2 tg : Expr} {p p2 : Pos} (hg : Gl X "range") (hm : X.mg "range" = none) (ha : PA X [e, e2] (rdA W (.cons c (.cons c2 .nil)))) (hs : shp e = true) (hs2 : shp e2 = true) : PI X tg (.Call (.Name "range" p2) [e, e2] [] p) (rdJ W (.rng (.cons c (.cons c2 .nil)))) := by
  refine PI_imp (pi_range2 hg hm ha (by rw [star1 hs, star1 hs2]; rfl) (by rw [star1 hs2]; rfl)) fun σ H R q => ?_
  obtain ⟨fx, Γ, s, F, A, R0, xc, xk, q⟩ := q
  unfold wJ at q
  exact rng2_rd R0 xk q fun xs Γ' s' h J H' F' A' R' hx sb yl => h J H' F' A' R' hx sb (yl _ _)
theorem n_jRng3 {c c2 c3 : E rm.S} {e e2 e3 tg : Expr} {p p2 : Pos} (hg : Gl X "range") (hm : X.mg "range" = none) (ha : PA X [e, e2, e3] (rdA W (.cons c (.cons c2 (.cons c3 .nil))))) (hs : shp e = true) (hs2 : shpL [e2, e3] = true) : PI X tg (.Call (.Name "range" p2) [e, e2, e3] [] p) (rdJ W (.rng (.cons c (.cons c2 (.cons c3 .nil))))) := by
  refine PI_imp (pi_range3 hg hm ha (star1 hs) (stars hs2)) fun σ H R q => ?_
  obtain ⟨fx, Γ, s, F, A, R0, xc, xk, q⟩ := q
  unfold wJ at q
  exact rng3_rd R0 xk q fun xs Γ' s' h J H' F' A' R' hx sb yl => h J H' F' A' R' hx sb (yl _ _)
theorem n_iRng1 {c : E rm.S} {e tg : Expr} {p p2 : Pos} (hg : Gl X "range") (hm : X.mg "range" = none) (ha : PA X [e] (rdA W (.cons c .nil))) (hs : shp e = true) : PI X tg (.Call (.Name "range" p2) [e] [] p) (rdI W (.rng (.cons c .nil))) := by
  refine PI_imp (pi_range1 hg hm ha (star1 hs)) fun σ H R q => ?_
  obtain ⟨fx, Γ, s, F, A, R0, xc, xk, q⟩ := q
  unfold wI at q
  exact rng1_rd R0 xk q fun xs Γ' s' h J H' F' A' R' hx sb yl => h J H' F' A' (fun _ => none) R' hx sb nogc (yl _ _)
theorem n_iRng2 {c c2 : E rm.S} {e e2 tg : Expr} {p p2 : Pos} (hg : Gl X "range") (hm : X.mg "range" = none) (ha : PA X [e, e2] (rdA W (.cons c (.cons c2 .nil)))) (hs : shp e = true) (hs2 : shp e2 = true) : PI X tg (.Call (.Name "range" p2) [e, e2] [] p) (rdI W (.rng (.cons c (.cons c2 .nil)))) := by
  refine PI_imp (pi_range2 hg hm ha (by rw [star1 hs, star1 hs2]; rfl) (by rw [star1 hs2]; rfl)) fun σ H R q => ?_
  obtain ⟨fx, Γ, s, F, A, R0, xc, xk, q⟩ := q
  unfold wI at q
  exact rng2_rd R0 xk q fun xs Γ' s' h J H' F' A' R' hx sb yl => h J H' F' A' (fun _ => none) R' hx sb nogc (yl _ _)
theorem n_iRng3 {c c2 c3 : E rm.S} {e e2 e3 tg : Expr} {p p2 : Pos} (hg : Gl X "range") (hm : X.mg "range" = none) (ha : PA X [e, e2, e3] (rdA W (.cons c (.cons c2 (.cons c3 .nil))))) (hs : shp e = true) (hs2 : shpL [e2, e3] = true) : PI X tg (.Call (.Name "range" p2) [e, e2, e3] [] p) (rdI W (.rng (.cons c (.cons c2 (.cons c3 .nil))))) := by
  refine PI_imp (pi_range3 hg hm ha (star1 hs) (stars hs2)) fun σ H R q => ?_
  obtain ⟨fx, Γ, s, F, A, R0, xc, xk, q⟩ := q
  unfold wI at q
  exact rng3_rd R0 xk q fun xs Γ' s' h J H' F' A' R' hx sb yl => h J H' F' A' (fun _ => none) R' hx sb nogc (yl _ _)
theorem n_jEnu {c : E rm.S} {e : Expr} {elts : List Expr} {kk : Nat} {tp p p2 : Pos} (hg : Gl X "enumerate") (hm : X.mg "enumerate" = none) (h : PE X e (rdE W c)) (hs : shp e = true) : PI X (.Tuple elts kk tp) (.Call (.Name "enumerate" p2) [e] [] p) (rdJ W (.enu c)) := by
  refine PI_imp (pi_enum hg hm (pa_cons h pa_nil (star1 hs)) (star1 hs)) fun σ H R q => ?_
  obtain ⟨fx, Γ, s, F, A, R0, xc, xk, q⟩ := q
  unfold wJ at q
  refine ⟨fx, Γ, s, F, A, R0, xc, xk, wE_mono c (fun v Γ1 s1 q => ?_) q⟩
  intro x H1 F1 A1 R1 hx1 sb1 rv
  obtain ⟨d, F2, q, R2, sb2, rp⟩ := R1.stay rv q
  unfold lstD at q
  split at q
  · cases rp with
    | lst h1 r => exact ⟨_, _, rfl, .inl (R2.fh.rd h1), q _ H1 F2 A1 R2 hx1 (sb1.trans sb2) (yl_enum h1 r)⟩
  · exact q.elim
theorem n_jZip {c c2 : E rm.S} {e e2 : Expr} {elts : List Expr} {kk : Nat} {tp p p2 : Pos} (hg : Gl X "zip") (hm : X.mg "zip" = none) (h : PE X e (rdE W c)) (h2 : PE X e2 (rdE W c2)) (hs : shp e = true) (hs2 : shp e2 = true) : PI X (.Tuple elts kk tp) (.Call (.Name "zip" p2) [e, e2] [] p) (rdJ W (.zip c c2)) := by
  refine PI_imp (pi_zip hg hm (pa_cons h (pa_cons h2 pa_nil (star1 hs2)) (star1 hs)) (star1 hs) (stars (by unfold shpL; rw [List.all_cons, hs2]; rfl))) fun σ H R q => ?_
  obtain ⟨fx, Γ, s, F, A, R0, xc, xk, q⟩ := q
  unfold wJ at q
  refine ⟨fx, Γ, s, F, A, R0, xc, xk, wE_mono c (fun v Γ1 s1 q => ?_) q⟩
  intro x H1 F1 A1 R1 hx1 sb1 rv
  obtain ⟨d, F2, q, R2, sb2, rp⟩ := R1.stay rv q
  refine ⟨fx, Γ1, s1, F2, A1, R2, xc, xk, wE_mono c2 (fun v2 Γ3 s3 q => ?_) q⟩
  intro y H3 F3 A3 R3 hx3 sb3 rv3
  obtain ⟨d4, F4, q, R4, sb4, rp4⟩ := R3.stay rv3 q
  unfold lstD at q
  split at q
  · split at q
    · cases rp with
      | lst h1 r =>
        cases rp4 with
        | lst h5 r5 => exact ⟨_, _, _, _, rfl, .inl (R4.fh.rd ((sb3.trans sb4).rd h1)), .inl (R4.fh.rd h5), q _ H3 F4 A3 R4 (hx1.trans hx3) (((sb1.trans sb2).trans sb3).trans sb4) (yl_zip ((sb3.trans sb4).rd h1) h5 ((r.mono sb3).mono sb4) r5)⟩
    · exact q.elim
  · exact q.elim
/-! ### name = [..] -/
theorem n_asgL {i : Nat} {y : Str} {own : List Nat} {tc : Tg} {it : It rm.S} {c : Es rm.S} {ce : E rm.S} {elt tg iter : Expr} {ifs : List Expr} {scope : Scope} {ol : List (Str × Nat)} {p p2 p3 : Pos} (hy : X.N[i]? = some y) (hyl : X.env.scope.names.lookup y = some .local)
    (hsw : swapsWith (.ListComp elt [⟨tg, iter, ifs, 0⟩] scope p) (some (.Name y p2)) p3.line X.env = pure true) (hol : ol.map (·.2) = own) (hc : X.calm = true) (hN : X.N.Nodup)
    (hi : PI X tg iter (rdI W it)) (ok : BlkOk X.N X.env.scope scope ol)
    (hg : ∀ (s : Shared) (H : Hp) (C : Addr) (cl : List (Str × Addr)) (fp : List Addr), PG (X.blk s H scope (compEnvC scope cl C X.env) fp) tg (rdG X.K tc))
    (ht : ∀ (s : Shared) (H : Hp) (C : Addr) (cl : List (Str × Addr)) (fp : List Addr), PTs (X.blk s H scope (compEnvC scope cl C X.env) fp) ifs (rdC W0 c))
    (he : ∀ (s : Shared) (H : Hp) (C : Addr) (cl : List (Str × Addr)) (fp : List Addr), PE (X.blk s H scope (compEnvC scope cl C X.env) fp) elt (rdE W0 ce)) (hs : shp iter = true) (hin : tgIn tc own) :
    PS X (.Assign [.Name y p2] (.ListComp elt [⟨tg, iter, ifs, 0⟩] scope p) p3) (rd1 W (.asgL i (.comp own tc it c ce))) := by
  have h := ps_setLc (own := ol) hc hN hy hyl hsw hi ok hg ht he (fold1 hs)
  rw [hol] at h
  refine PS_imp h fun D σ H q => ?_
  obtain ⟨fx, Γ, s, F, A, R, K, ko, q⟩ := q
  dsimp only [w1] at q
  refine (n_comp (p := p) hol hc hN hi ok hg ht he hs hin).2 σ H _ ⟨fx, Γ, s, F, A, R, K.ex, ko.ex, wE_mono _ (fun v Γ' s' q => ?_) q⟩
  intro y H' F' A' R' hx sb rv
  exact ko.nx _ _ _ _ _ _ (R'.putV rv) q
/-! ### xs[j] = e; xs.insert(j, e); raise -/
theorem asg_sub {o i : Expr} {p : Pos} {env : Env} (h : shp i = true) : ∀ v, assign (.Subscript o i p) env v = (do
      let ov ← holding [v] (eval o env)
      let iv ← holding [v, ov] (eval i env)
      standAt p
      holding [v, ov, iv] (setItem ov iv v)
      release [v, ov, iv] []) := by
  cases i <;> first | (intro v; rfl) | cases h
theorem swsub {e o i : Expr} {p : Pos} {l : Nat} {env : Env} (h : shp e = true) (hc : isComp e = false) : swapsWithSole [.Subscript o i p] e l env = pure false := by
  cases e <;> first | rfl | exact Bool.noConfusion hc | exact Bool.noConfusion h
theorem swsub2 {e o i : Expr} {p : Pos} {env : Env} (h : isTupE e = false) : swappedStores [.Subscript o i p] e env = pure none := by
  cases e <;> first | rfl | cases h
theorem n_setI {i : Nat} {x : Str} {cj c : E rm.S} {j e : Expr} {p p2 p3 : Pos} (hv : PE X (.Name x p3) (tVar i)) (hj : PE X j (rdP W cj)) (he : PE X e (rdE W c)) (hsj : shp j = true) (hs : shp e = true) (hc : isComp e = false) (ht : isTupE e = false) : PS X (.Assign [.Subscript (.Name x p3) j p2] e p) (rd1 W (.setI i cj c)) :=
  PS_imp (ps_asg he (pg_sub hv hj set_list (asg_sub hsj)) (swsub hs hc) (swsub2 ht)) fun D σ H q => by
    obtain ⟨fx, Γ, s, F, A, R, K, ko, q⟩ := q
    dsimp only [w1] at q
    refine ⟨fx, Γ, s, F, A, R, K.ex, ko.ex, wE_mono c (fun v Γ' s' q => ?_) q⟩
    intro y H' F' A' R' hx sb rv
    obtain ⟨d, F'', q, R'', sb', rp⟩ := R'.stay rv q
    split at q
    · rename_i xs hxs
      obtain ⟨a, vs, h1, e2, e3, e4, e5, e6⟩ := ownAt R'' hxs
      refine ⟨.ref a, h1, fx, Γ', s', F'', A', R'', K.ex, ko.ex, opnE_mono cj (fun z Γ2 s2 q => ?_) q⟩
      intro w H2 F2 A2 R2 hx2 sb2 ro
      split at q
      · rename_i zs n hzs
        split at q
        · rename_i m hm
          obtain ⟨a', ws, g1, g2, g3, g4, g5, g6⟩ := ownAt R2 hzs
          rw [h1] at g1
          cases g1
          refine ⟨a, ws, n, m, rfl, flat_int ro.1, g2, by rw [g6.length]; exact hm, ?_⟩
          exact ko.nx _ _ _ _ _ _ (R2.chgOwn (vs := ws) hzs h1 (g6.set (rp.mono sb2) m)) q
        · exact q.elim
      · exact q.elim
    · exact q.elim
theorem RpL.ins {x : V} {d : D} (h : Rp F x d) : ∀ {vs : List V} {ds : List D} {n : Nat}, RpL F vs ds → n ≤ ds.length → RpL F (vs.take n ++ [x] ++ vs.drop n) (ds.insertIdx n d)
  | vs, ds, 0, r, _ => by
    rw [List.insertIdx_zero]
    exact .cons h r
  | _, _, n + 1, .nil, hn => absurd hn (Nat.not_succ_le_zero n)
  | _, _, n + 1, .cons (v := v) (d := d') a b, hn => by
    rw [List.insertIdx_succ_cons]
    exact .cons a (RpL.ins h b (Nat.le_of_succ_le_succ hn))
theorem n_ins {i : Nat} {x : Str} {cj c : E rm.S} {j e : Expr} {p p2 p3 p4 : Pos} (hv : PE X (.Name x p3) (tVar i)) (hj : PE X j (rdP W cj)) (he : PE X e (rdE W c)) (hsj : shp j = true) (hs : shp e = true) (hl : (p2.endLine == p4.line) = true) : PS X (.Expr (.Call (.Attribute (.Name x p3) "insert" p2) [j, e] [] p4) p) (rd1 W (.ins i cj c)) :=
  PS_imp (ps_expr (pe_bm PySem.F.plainAttrs_list PySem.F.slot_list_insert PySem.F.type_list_insert mt_insert hv (pa_cons hj (pa_cons he pa_nil (star1 hs)) (star1 hsj)) (hfew := few2 hsj hs) (hline := hl) (hs := star1 hsj) (hplain := stars (by unfold shpL; rw [List.all_cons, hs]; rfl)))) fun D σ H q => by
    obtain ⟨fx, Γ, s, F, A, R, K, ko, q⟩ := q
    dsimp only [w1] at q
    split at q
    · rename_i xs hxs
      obtain ⟨a, vs, h1, e2, e3, e4, e5, e6⟩ := ownAt R hxs
      refine ⟨.ref a, h1, .inl ⟨rfl, _, SqL.of e2⟩, fx, Γ, s, F, A, R, K.ex, ko.ex, opnE_mono cj (fun z Γ1 s1 q => ?_) q⟩
      intro w H1 F1 A1 R1 hx1 sb1 ro
      refine ⟨fx, Γ1, s1, F1, A1, R1, K.ex, ko.ex, wE_mono c (fun v Γ' s' q => ?_) q⟩
      intro y H' F' A' R' hx sb rv
      obtain ⟨d, F'', q, R'', sb', rp⟩ := R'.stay rv q
      split at q
      · rename_i zs n hzs _ _
        obtain ⟨a', ws, g1, g2, g3, g4, g5, g6⟩ := ownAt R'' hzs
        rw [h1] at g1
        cases g1
        obtain ⟨q1, q2, q3, q4⟩ := q
        have hb := big_lt q1
        have hbig : zs.length < 100000 := q1
        refine ⟨a, ws, n, y, rfl, by rw [flat_int ro.1], g2, by rw [g6.length]; exact hb, q2, by omega, ?_⟩
        exact ko.nx _ _ _ _ _ _ (R''.chgOwn (vs := ws) hzs h1 (RpL.ins rp g6 (by omega))) q4
      · exact q.elim
    · exact q.elim
where
  few2 {e e2 : Expr} {env : Env} {p : Pos} (hs : shp e = true) (hs2 : shp e2 = true) : ((backTo p (starEach [e, e2] env)).all (fun x => !x.1) && (backToKw p (keywordEach [] env)).all (fun x => x.1.isSome) && decide ([e, e2].length + ([] : List Keyword).length + (if ([] : List Keyword).isEmpty then 0 else 1) < 30)) = true := by
    rw [stars1 (es := [e, e2]) (by unfold shpL; rw [List.all_cons, hs, List.all_cons, hs2]; rfl)]
    rfl
/-- the program's exceptions: by a name its number, its class -/
structure ExF (X : Cx) (x : Str) (C : Addr) : Prop where
  mg : X.mg x = some (.ref C)
  ex : PySem.W.excIn X.K C [.type "ValueError", .type "Exception", .type "BaseException", .type "object"] "ValueError.__new__" = true
  kp : PySem.W.keepIn X.K (.ref C) = true
  sb : PySem.W.subIn X.K (.ref C) (.type "BaseException") = some true
  ty : PySem.W.typeIn X.K (.ref C) = some (.type "type")
theorem n_raise {cl : Nat → Addr} {x m : Str} {n j : Nat} {p p2 p3 p4 : Pos} (hc : X.calm = true) (tk : Takes X (WXof cl W)) (f : ExF X x (cl n)) (hg : Gl X x) (hdb : (x == ("__debug__" : Str)) = false) : PS X (.Raise (some (.Call (.Name x p3) [.Constant (.str m) j p4] [] p2)) none p) (rd1 W (.raise x n : St1 rm.S)) :=
  PS_imp (ps_raise hc tk (pmk_own PySem.F.excBase_ValueError f.ex f.mg f.kp (raises_own f.sb f.ty) hg hdb)) fun D σ H q => by
    obtain ⟨fx, Γ, s, F, A, R, K, ko, q⟩ := q
    dsimp only [w1] at q
    exact ⟨n, rfl, rfl, ko.ex n _ _ _ _ _ _ R q⟩
end
end Ac
namespace Ac
open PySem PySem.Spec PyProof.Rows L2
/-! ### set(xs) of a list of ints; sorted and len of it -/
abbrev nSet (wd : World) : Obj := { cls := .type "set", dict := none, data := .set #[] 0 (.fresh 0 0 (!wd.params.followText "set-order")) }
section
variable {Pg : Program} {wd : World} {Ar : Around} {Ex : Value → Shared → Prop} {sh : Shared}
set_option maxHeartbeats 3200000 in
theorem set_listI {ad : Addr} {its : Array Value} (ns : List Int) {Q : Value → Shared → Prop} (nh : Ar.handled = none) (hl : sh.heap.IsList ad its) (hI : IntsAre its.toList ns) (hb : ns.length + 1 < scanBound)
    (fin : ∀ (hp : Heap) (tk c : Nat), SetR wd hp sh.heap.objs.size (fun j => decide (j ∈ ns)) c → c ≤ ns.length → (∀ b o, sh.heap.get? b = some o → hp.get? b = some o) → Q (.ref sh.heap.objs.size) { sh with heap := hp, toks := tk }) :
    wpAny (model Pg wd) Ar (call (.type "set") [.ref ad]) Q Ex sh := by
  have hsz : its.size = ns.length := by
    have q := IntsAre.length hI
    rw [Array.length_toList] at q
    exact q
  obtain ⟨c, tl, hmro⟩ := F.called_set.mro
  have hmade := F.called_set.made
  have hsub := F.called_set.sub
  refine wpAny_call (codeAny_of_tree ?_)
  show wpAny _ _ (callAny (.type "set") _) _ _ _
  refine wpAny_pure ⟨Code.quiet_builtin _ (by decide +kernel), codeAny_builtin F.entry_type_call ?_⟩
  rw [Around.under_plain (weight_type_call_type "set" [.ref ad] []) rfl]
  have c1 := F.called_set.notType
  have c2 := F.called_set.canCreate
  have ct := F.typeCall_set_1 (.ref ad)
  repeat (any_goals (first | assumption | wp_step))
  refine codeAny_mono (code_set_led1 (.ref ad) (E := Ex) (Q₁ := fun ob s1 => ob = .ref sh.heap.objs.size ∧ s1 = { sh with heap := sh.heap.push (nSet wd) }) ⟨rfl, rfl⟩) fun r s1 hr => ?_
  cases r with
  | error e => exact hr
  | ok fl =>
    cases fl with
    | ret ob =>
      obtain ⟨rfl, rfl⟩ := hr
      have hS : (sh.heap.push (nSet wd)).get? sh.heap.objs.size = some (nSet wd) := Heap.get?_push_size _ rfl
      have hT : Shared.TypeIs { sh with heap := sh.heap.push (nSet wd) } (.ref sh.heap.objs.size) "set" := ⟨_, hS, rfl⟩
      have il := F.called_set.init.lookup
      have ib := F.called_set.init.bind (.ref sh.heap.objs.size)
      repeat (any_goals (first | assumption | wp_step))
      refine codeAny_mono (codeAny_call_builtin (R := wants (fun r s2 => r = .none ∧ ∃ hp tk c, s2 = { sh with heap := hp, toks := tk } ∧ SetR wd hp sh.heap.objs.size (fun j => decide (j ∈ ns)) c ∧ c ≤ ns.length ∧
          (∀ b o, sh.heap.get? b = some o → hp.get? b = some o)) Ex) F.called_set.init.plain F.entry_set_init (check_set_init_1 hT ?_)) fun r2 s2 hr2 => ?_
      · obtain ⟨ol, e1, e2, nl, e3⟩ := hl
        obtain ⟨x1, x2, x3, x4⟩ := ol
        simp only at e2 e3
        subst e2
        subst e3
        have e4 : (sh.heap.push (nSet wd)).get? ad = some { cls := .type "list", dict := x2, data := .seq its nl, slots := x4 } := Heap.get?_push_of_some _ e1
        have b1 := F.sub_list_set
        have b2 := F.sub_list_frozenset
        have b3 : (Value.type "list" == Value.type "dict") = false := by decide
        have isl : (sh.heap.push (nSet wd)).IsList ad its := ⟨_, e4, rfl, nl, rfl⟩
        unfold Builtin.«set.__init__» noKeywords Builtin.Frozenset.updateFrom
        generalize hPI : pyIter = PI
        wp_walk
        subst hPI
        refine wpAny_pyIter_list isl ?_
        refine wpAny_bind (wpAny_runValue ?_)
        have lt0 : ad < sh.heap.objs.size := Heap.lt_size e1
        have nh3 : Ar.in1.in1.in1.handled = none := by simp [nh]
        have sz1 : (sh.heap.push (nSet wd)).objs.size = sh.heap.objs.size + 1 := Heap.size_push ..
        have ne1 : ad ≠ (sh.heap.push (nSet wd)).objs.size := by rw [sz1]; exact Nat.ne_of_lt (Nat.lt_succ_of_lt lt0)
        have nm : sh.heap.objs.size ∉ [(sh.heap.push (nSet wd)).objs.size, ad] := by
          rw [sz1]
          simp only [List.mem_cons, List.mem_singleton, List.not_mem_nil, or_false, not_or]
          exact ⟨Nat.ne_of_lt (Nat.lt_succ_self _), Nat.ne_of_gt lt0⟩
        have val : ∀ (i : Nat) (v : Value), its[i]? = some v → ∃ k t, ns[i]? = some k ∧ v = .int k t := fun i v hv => by
          have hi : i < ns.length := by rw [← hsz]; exact (Array.getElem?_eq_some_iff.mp hv).1
          obtain ⟨t, e⟩ := PyProof.Rows.IntsAre.int_at hI i v (by rw [Array.getElem?_toList]; exact hv)
          refine ⟨ns[i], t, List.getElem?_eq_getElem hi, ?_⟩
          rw [e, List.getD_eq_getElem?_getD, List.getElem?_eq_getElem hi] <;> rfl
        refine set_update_ints ((Walks.list nh3 _ ad ne1 its).toS) sh.heap.objs.size nm ns hsz hb val (its.size - 0) 0 _ (by omega) (Nat.zero_le _) ⟨⟨_, Heap.get?_push_size _ rfl, rfl, rfl⟩, (isl.push _)⟩ ?hS0 ?hR
        case hS0 =>
          exact ⟨0, Nat.le_refl 0, setR_new_at (Heap.get?_push_of_some _ hS)⟩
        case hR =>
          intro s3 c3 hm hc3 hS3
          obtain ⟨hp, g2, d2, tk2, o2⟩ := s3
          have eg : g2 = sh.gens := hm.gens
          have ed : d2 = sh.drawn := hm.drawn
          have eo : o2 = sh.os := hm.os
          subst eg
          subst ed
          subst eo
          show wpAny _ _ _ _ _ _
          refine wpAny_pure ?_
          show wpAny _ _ (ret Value.none) _ _ _
          rw [hsz] at hc3
          refine wpAny_pure ⟨rfl, hp, tk2, c3, rfl, hS3, hc3, fun b o e => ?_⟩
          have l0 : b < sh.heap.objs.size := Heap.lt_size e
          refine hm.heap b o ?_ (Heap.get?_push_of_some _ (Heap.get?_push_of_some _ e))
          rw [sz1]
          simp only [List.mem_cons, List.mem_singleton, List.not_mem_nil, or_false, not_or]
          exact ⟨Nat.ne_of_lt l0, Nat.ne_of_lt (Nat.lt_succ_of_lt l0)⟩
      · cases r2 with
        | error e => exact hr2
        | ok fl2 =>
          cases fl2 with
          | ret r =>
            obtain ⟨rfl, hp, tk, c3, rfl, hS3, hc3, hk3⟩ := hr2
            repeat (any_goals (first | assumption | wp_step))
            exact fin _ _ _ hS3 hc3 hk3
          | _ => exact hr2.elim
    | _ => exact hr.elim
end
section
variable {X : Cx}
/-- set(xs) -/
def rSetI (K : PySem.W.Frag) (w : World) : List V → Hp → VK → Prop := fun vs H Q => ∃ (a : Addr) (ns : List Int), vs = [V.ref a] ∧ SqL K H a (ns.map V.int) ∧ ns.length + 1 < scanBound ∧
  ∀ p c (ms : List Int), H p = none → ms.Nodup → (∀ j, j ∈ ms ↔ j ∈ ns) → ms.length = c → Q (.ref p) (upd H p (SetO w p (fun j => decide (j ∈ ns)) c))
theorem cr_setI (hc : X.calm = true) : CallR X (.type "set") (rSetI X.K X.w) := by
  intro pins s σ H xs us Q I r h
  obtain ⟨a, ns, rfl, hs, hb, q⟩ := h
  rw [Vals.ref1 r]
  obtain ⟨its, rv, pl, hz⟩ := I.list hs
  refine set_listI ns (I.ok.hd hc) pl.isList (by simpa using ints_of_vals rv) hb fun hp tk c hS hcn hk => ?_
  obtain ⟨o, es, ep, t, ho, hx, hd, g, nd, hm, hbb, hf, hn, _⟩ := id hS
  refine ⟨.ref _, upd H s.heap.objs.size (SetO X.w s.heap.objs.size (fun j => decide (j ∈ ns)) c), I.laid (t' := tk) hk (Nat.le_refl _) (setO_new hS), rfl, q _ _ (es.toList.map keyOf) (I.hok.fresh (Nat.le_refl _)) nd (fun j => ?_) ?_⟩
  · rw [← hm j, decide_eq_true_eq]
  · rw [List.length_map, Array.length_toList]; exact hn
end
end Ac
namespace Ac
open PySem PySem.Spec PyProof.Rows L2
/-! ### repr(x), at any depth -/
def SmB (h : Heap) : Prop := ∃ o, h.get? sysModules = some o
section
variable {X : Cx} {pins : List (Addr × Obj)} {σ : L2.St} {H : Hp} {s : Shared}
theorem ne_sys (I : Inv X pins σ H s) (sm : SmB X.base) {a : Addr} {o : HO} (h : H a = some o) : sysModules ≠ a := fun e => by
  obtain ⟨ob, hb⟩ := sm
  have := (I.bs _ _ hb).2
  rw [e, h] at this
  cases this
theorem rd_sys (I : Inv X pins σ H s) (sm : SmB X.base) {a : Addr} {u : HO} (h : Rd H a u) : sysModules ≠ a := by
  rcases h with h | ⟨o, h⟩ <;> exact ne_sys I sm h
mutual
theorem Rp.reads (I : Inv X pins σ H s) (sm : SmB X.base) : ∀ {v : V} {d : D} {u : Value}, Rp H v d → RelV v u → ∃ as, Reads s.heap u d as ∧ sysModules ∉ as
  | _, _, _, .non, r => by
    cases r
    exact ⟨_, Reads.none, List.not_mem_nil⟩
  | _, _, _, .bl b, r => by
    cases r
    exact ⟨_, Reads.bool b, List.not_mem_nil⟩
  | _, _, _, .int i, r => by
    obtain ⟨t, rfl⟩ := r
    exact ⟨_, Reads.int i t, List.not_mem_nil⟩
  | _, _, _, .str x, r => by
    obtain ⟨t, rfl⟩ := r
    exact ⟨_, Reads.str x t, List.not_mem_nil⟩
  | _, _, _, .lst h l, r => by
    cases r
    obtain ⟨its, rv, ⟨o, n, ho, hc, _, hd⟩, _⟩ := I.list (.inl h)
    obtain ⟨as, hr, hn⟩ := RpL.reads I sm l rv
    exact ⟨_, Reads.list ho hc hd hr, fun z => by
      rcases List.mem_cons.mp z with z | z
      · exact rd_sys I sm h z
      · exact hn z⟩
  | _, _, _, .tup h l, r => by
    cases r
    obtain ⟨its, rv, ⟨o, ho, hc, n, hd⟩, _⟩ := I.tuple (.inl (.inl h))
    obtain ⟨as, hr, hn⟩ := RpL.reads I sm l rv
    exact ⟨_, Reads.tuple ho hc hd hr, hn⟩
  | _, _, _, .dic h l, r => by
    cases r
    obtain ⟨_, _, vs, kv, o, es, ep, ho, hx, hd, _, hp, _⟩ := I.hok _ _ h
    obtain ⟨as, bs, h1, h2, h3⟩ := RpK.reads I sm l kv hp
    exact ⟨_, Reads.dict ho hx.1 hd h1 h2, fun z => by
      rcases List.mem_append.mp z with z | z
      · rcases List.mem_cons.mp z with z | z
        · exact ne_sys I sm h z
        · exact h3 (List.mem_append_left _ z)
      · exact h3 (List.mem_append_right _ z)⟩
theorem RpL.reads (I : Inv X pins σ H s) (sm : SmB X.base) : ∀ {vs : List V} {ds : List D} {us : List Value}, RpL H vs ds → Vals vs us → ∃ as, ReadsAll s.heap us ds as ∧ sysModules ∉ as
  | _, _, _, .nil, r => by
    cases r
    exact ⟨_, ReadsAll.nil, List.not_mem_nil⟩
  | _, _, _, .cons h l, r => by
    cases r with
    | cons r1 r2 =>
      obtain ⟨as, q1, n1⟩ := Rp.reads I sm h r1
      obtain ⟨bs, q2, n2⟩ := RpL.reads I sm l r2
      exact ⟨_, ReadsAll.cons q1 q2, fun z => (List.mem_append.mp z).elim n1 n2⟩
theorem RpK.reads (I : Inv X pins σ H s) (sm : SmB X.base) : ∀ {kvs : List (Key × V)} {ds : List (D × D)} {vs : List (Key × Value)} {es : List DictEntry}, RpK H kvs ds → KV kvs vs → Pairs (mixKind X.prog X.w) es vs →
    ∃ as bs, ReadsAll s.heap (es.map (·.key)) (ds.map (·.1)) as ∧ ReadsAll s.heap (es.map (·.val)) (ds.map (·.2)) bs ∧ sysModules ∉ as ++ bs
  | _, _, _, _, .nil, kv, hp => by
    cases kv
    cases hp
    exact ⟨_, _, ReadsAll.nil, ReadsAll.nil, List.not_mem_nil⟩
  | _, _, _, _, .cons h l, kv, hp => by
    cases kv with
    | cons k1 k2 =>
      cases hp with
      | cons p1 p2 p3 =>
        obtain ⟨e1, e2⟩ := k1
        dsimp only at e1 e2
        obtain ⟨as, q1, n1⟩ := Rp.reads I sm h e2
        obtain ⟨cs, bs, r1, r2, n2⟩ := RpK.reads I sm l k2 p3
        rw [← p2] at q1
        rw [← e1] at p1
        refine ⟨[] ++ cs, as ++ bs, ?_, ReadsAll.cons q1 r2, fun z => ?_⟩
        · refine ReadsAll.cons ?_ r1
          rcases keyIs_shape p1 with ⟨i, t, ek, ev⟩ | ⟨x, t, ek, ev⟩
          · dsimp only
            rw [ek, ev]; exact Reads.int i t
          · dsimp only
            rw [ek, ev]; exact Reads.str x t
        · rw [List.nil_append] at z
          rcases List.mem_append.mp z with z | z
          · exact n2 (List.mem_append_left _ z)
          · rcases List.mem_append.mp z with z | z
            · exact n1 z
            · exact n2 (List.mem_append_right _ z)
end
def rRepr : List V → Hp → VK → Prop := fun xs H Q => ∃ x d, xs = [x] ∧ Rp H x d ∧ okR d ∧ Q (.str d.shown) H
theorem cr_repr (hg : X.A.guards = some []) (hu : X.A.units + 65 < cLine) (sm : SmB X.base) : CallR X (.builtin "repr") rRepr := by
  intro pins s σ H xs us Q I r h
  obtain ⟨x, d, rfl, hx, ⟨h1, h2, h3⟩, q⟩ := h
  cases r with
  | cons r1 r2 =>
    cases r2
    obtain ⟨as, rd, hn⟩ := Rp.reads I sm hx r1
    cases rd with
    | none => exact PySem.P.repr_of_none ⟨.str _, H, I.tok _, ⟨_, rfl⟩, q⟩
    | bool b => exact PySem.P.repr_of_bool ⟨.str _, H, I.tok _, ⟨_, rfl⟩, q⟩
    | int i t => exact PySem.P.repr_of_int (of_decide_eq_true (by simpa [PyData.showable] using h1)) ⟨.str _, H, I.tok _, ⟨_, rfl⟩, q⟩
    | str x t => exact PySem.P.repr_of_str ⟨.str _, H, I.tok _, ⟨_, rfl⟩, q⟩ (hsz := h3)
    | list a b c e => exact repr_of_reads' (.list a b c e) h1 (fun _ => hn) hg (by omega) (fun _ _ e => e) (fun h' u tk hk => ⟨.str _, H, I.kept hk, ⟨_, rfl⟩, q⟩) h3
    | tuple a b c e => exact repr_of_reads' (.tuple a b c e) h1 (fun _ => hn) hg (by omega) (fun _ _ e => e) (fun h' u tk hk => ⟨.str _, H, I.kept hk, ⟨_, rfl⟩, q⟩) h3
    | dict a b c e f => exact repr_of_reads' (.dict a b c e f) h1 (fun _ => hn) hg (by omega) (fun _ _ e => e) (fun h' u tk hk => ⟨.str _, H, I.kept hk, ⟨_, rfl⟩, q⟩) h3
end
section
variable {X : Cx}
theorem cs_repr (hg : X.A.guards = some []) (hu : X.A.units + 65 < cLine) (sm : SmB X.base) : CallS X (.builtin "repr") reprD := by
  refine ⟨_, cr_repr hg hu sm, ?_⟩
  intro rm fx σ H Γ s F A xs ds Q R hxs h
  unfold reprD at h
  split at h
  · obtain ⟨x, rfl, hx⟩ := hxs.one
    refine ⟨x, _, rfl, ?_, h.1, KQ.dat R (.str _) h.2⟩
    rcases hx with hx | ⟨a, vs, ds, e1, e2, e3, _, e5⟩
    · exact hx.mono R.fh
    · rw [e1, e2]
      exact .lst (.inl e3) (e5.mono R.fh)
  · exact h.elim
end
end Ac
namespace Ac
open PySem PySem.Spec PyProof.Rows L2
section
variable {rm : RM} {X : Cx} {k : Nat} {t : Sx} {W : WN} {fx : Fx rm} {xc : Nat → Ctx → rm.S → Prop} {σ : L2.St} {H F : Hp} {Γ : Ctx} {s : rm.S} {A : rm.A}
/-! ### sorted(xs) of pairs -/
def keyP (F : Hp) : V → Int × Int
  | .ref t => match F t with
    | some (.tup [.int i, .int j]) => (i, j)
    | _ => (0, 0)
  | _ => (0, 0)
theorem RpL.pairs : ∀ {vs : List V} {xs : List D} {ps : List (Int × Int)}, RpL F vs xs → pairsD xs = some ps → vs.map (keyP F) = ps ∧ ∀ v ∈ vs, ∃ t, v = V.ref t ∧ F t = some (.tup [.int (keyP F v).1, .int (keyP F v).2])
  | _, [], ps, .nil, h => by cases h; exact ⟨rfl, fun v hv => nomatch hv⟩
  | _, d :: xs, ps, .cons (v := v) (vs := vs) h r, e => by
    unfold pairsD at e
    split at e
    · rename_i z; cases z
    · rename_i i j r' z
      cases z
      cases e1 : pairsD xs with
      | none => rw [e1] at e; cases e
      | some qs =>
        rw [e1] at e
        cases e
        obtain ⟨h1, h2⟩ := RpL.pairs r e1
        cases h with
        | tup ht hr =>
          rename_i a us
          cases hr with
          | cons g1 g2 =>
            cases g2 with
            | cons g2 g3 =>
              cases g3
              cases g1
              cases g2
              have hk : keyP F (.ref a) = (i, j) := by
                show (match F a with | some (.tup [.int i, .int j]) => (i, j) | _ => (0, 0)) = (i, j)
                rw [ht]
              refine ⟨?_, fun v hv => ?_⟩
              · rw [List.map_cons, hk, h1]
              · rcases List.mem_cons.mp hv with rfl | hv
                · rw [hk]; exact ⟨a, rfl, ht⟩
                · exact h2 v hv
    · cases e
theorem rpl_keys : ∀ {ys : List V}, (∀ v ∈ ys, ∃ t, v = V.ref t ∧ F t = some (.tup [.int (keyP F v).1, .int (keyP F v).2])) → RpL F ys ((ys.map (keyP F)).map pairD)
  | [], _ => .nil
  | y :: ys, h => by
    obtain ⟨t, e1, e2⟩ := h y List.mem_cons_self
    refine .cons ?_ (rpl_keys fun v hv => h v (List.mem_cons_of_mem _ hv))
    generalize keyP F y = q at e2
    subst e1
    exact .tup e2 (.cons (.int _) (.cons (.int _) .nil))
theorem cs_sortP : CallS X (.builtin "sorted") sortPD := by
  refine ⟨_, cr_sortedPO, ?_⟩
  intro rm fx σ H Γ s F A xs ds Q R hxs h
  unfold sortPD at h
  split at h
  · obtain ⟨x, rfl, hx⟩ := hxs.one
    obtain ⟨ps, e, q⟩ := h
    obtain ⟨a, vs, e1, q1, r1⟩ := hx.lst R.fh
    obtain ⟨h1, h2⟩ := r1.pairs e
    refine ⟨a, vs, keyP F, by rw [e1], .inl q1, fun v hv => ?_, fun ys p hs hb hp => ?_⟩
    · obtain ⟨t, g1, g2⟩ := h2 v hv
      exact ⟨t, g1, R.fh _ _ g2⟩
    · refine KQ.mk R hp (rpl_keys fun v hv => h2 v (hb.perm.mem_iff.mp hv)) (q _ (by rw [← h1]; exact hb.perm.map _) ?_)
      rw [List.pairwise_map]
      refine hs.imp fun {u v} huv => ?_
      have := SrtO.lexB_no.mp huv
      unfold lexLe
      omega
  · exact h.elim
/-! ### dict([(k, True) ..]) -/
theorem RpL.trues : ∀ {vs : List V} {ns : List Int}, RpL F vs (ns.map trueD) → ∃ ps : List Addr, vs = ps.map V.ref ∧ Paired (fun p n => F p = some (.tup [.int n, .bl true])) ps ns
  | _, [], .nil => ⟨[], rfl, .nil⟩
  | _, n :: ns, .cons h r => by
    obtain ⟨ps, e, q⟩ := RpL.trues r
    cases h with
    | tup ht hr =>
      rename_i a us
      cases hr with
      | cons g1 g2 =>
        cases g2 with
        | cons g2 g3 =>
          cases g3
          cases g1
          cases g2
          exact ⟨a :: ps, by rw [e]; rfl, .cons ht q⟩
def TrueK (ns : List Int) (kvs : List (Key × V)) : Prop := ∃ ms : List Int, kvs = ms.map (fun m => ((.inl m : Key), V.bl true)) ∧ ∀ m ∈ ms, m ∈ ns
theorem TrueK.put {ns : List Int} {kvs : List (Key × V)} {n : Int} (h : TrueK ns kvs) (hn : n ∈ ns) : TrueK ns (putK kvs (.inl n) (.bl true)) := by
  obtain ⟨ms, rfl, hm⟩ := h
  unfold putK
  split
  · refine ⟨ms, ?_, hm⟩
    rw [List.map_map]
    refine List.map_congr_left fun m _ => ?_
    dsimp only [Function.comp]
    split <;> rfl
  · refine ⟨ms ++ [n], by rw [List.map_append]; rfl, fun m hmm => ?_⟩
    rcases List.mem_append.mp hmm with hmm | hmm
    · exact hm m hmm
    · rw [List.mem_singleton.mp hmm]; exact hn
theorem TrueK.merge {ns : List Int} : ∀ {ms : List Int} {kvs : List (Key × V)}, TrueK ns kvs → (∀ m ∈ ms, m ∈ ns) → TrueK ns (mergeK kvs (ms.map fun m => ((.inl m : Key), V.bl true)))
  | [], _, h, _ => h
  | m :: ms, kvs, h, hm => TrueK.merge (ms := ms) (h.put (hm m List.mem_cons_self)) fun j hj => hm j (List.mem_cons_of_mem _ hj)
theorem rpk_trues : ∀ ms : List Int, RpK F (ms.map fun m => ((.inl m : Key), V.bl true)) (ms.map fun m => (PyData.int m, PyData.bool true))
  | [] => .nil
  | m :: ms => RpK.cons (k := .inl m) (.bl true) (rpk_trues ms)
theorem cs_dictP (hc : X.calm = true) : CallS X (.type "dict") dictPD := by
  refine ⟨_, call_dictP hc, ?_⟩
  intro rm fx σ H Γ s F A xs ds Q R hxs h
  unfold dictPD at h
  split at h
  · obtain ⟨x, rfl, hx⟩ := hxs.one
    obtain ⟨ns, rfl, q⟩ := h
    obtain ⟨a, vs, e1, q1, r1⟩ := hx.lst R.fh
    obtain ⟨ps, rfl, hp⟩ := r1.trues
    refine ⟨a, ps, ns.map (fun n => ((.inl n : Key), V.bl true)), by rw [e1], .inl q1, ?_, fun p hpn => ?_⟩
    · clear q q1 r1 hx hxs
      induction hp with
      | nil => exact .nil
      | cons a b ih => exact .cons (.inl (.inl (R.fh _ _ a))) ih
    · have hl := length_mergeK (ns.map (fun n => ((.inl n : Key), V.bl true))) []
      obtain ⟨ms, e, hm⟩ := TrueK.merge (ns := ns) (ms := ns) (kvs := []) ⟨[], rfl, fun m hm => nomatch hm⟩ fun m hm => hm
      rw [e] at hl ⊢
      rw [List.length_map, List.length_map, List.length_nil, Nat.zero_add] at hl
      exact q ms hl hm (.ref p) _ (upd F p _) (R.lay hpn) (R.hx hpn) (upd_sub (R.nF hpn)) (.dic upd_same (rpk_trues ms))
  · exact h.elim
/-! ### sets -/
theorem op_rd1 {c : E rm.S} {W : WN} {Q : VK} {K : V → Hp → Prop} (g : D → (Val → Prop) → Prop) (R : SR fx σ H Γ s F A) (xk : XcOk W fx xc) (q : opn c (wE xc c) Γ s fun x Γ1 s1 => g x fun v => KE fx σ H F A Q v Γ1 s1)
    (hk : ∀ x d H1 F1 A1 Γ1 s1, SR fx σ H1 Γ1 s1 F1 A1 → HX H A H1 A1 → Sub F F1 → Ro H1 F1 A1 x d → g d (fun v => KE fx σ H F A Q v Γ1 s1) → K x H1) : rdP W c σ H K :=
  ⟨fx, Γ, s, F, A, R, xc, xk, opnE_mono c (fun d Γ1 s1 q x H1 F1 A1 R1 hx1 sb1 ro1 => hk x d H1 F1 A1 Γ1 s1 R1 hx1 sb1 ro1.1 q) q⟩
theorem nodup_sub : ∀ {ms : List Int}, ms.Nodup → ∀ {ns : List Int}, (∀ m ∈ ms, m ∈ ns) → ms.length ≤ ns.length
  | [], _, _, _ => Nat.zero_le _
  | m :: ms, hn, ns, h => by
    have hm := h m List.mem_cons_self
    rw [List.nodup_cons] at hn
    have ih := nodup_sub hn.2 (ns := ns.erase m) fun j hj => (List.mem_erase_of_ne fun e => hn.1 (by rw [← e]; exact hj)).mpr (h j (List.mem_cons_of_mem _ hj))
    rw [List.length_erase_of_mem hm] at ih
    have := List.length_pos_of_mem hm
    rw [List.length_cons]
    omega
theorem nodup_len_le {ms : List Int} (hn : ms.Nodup) {ns : List Int} (h : ∀ m ∈ ms, m ∈ ns) : ms.length ≤ ns.length := nodup_sub hn h
theorem n_srtS {c : E rm.S} {e : Expr} {p p1 p2 p3 : Pos} (hc : X.calm = true) (hg : Gl X "sorted") (hm : X.mg "sorted" = none) (hg2 : Gl X "set") (hm2 : X.mg "set" = none) (he : PE X e (rdP W c)) (hs : shp e = true) : PE X (.Call (.Name "sorted" p) [.Call (.Name "set" p2) [e] [] p3] [] p1) (rdE W (.srtS c)) := by
  refine PE_imp (pe_callB (cr_sortedSet hc) hg hm PyProof.Rows.boot_sorted (pa_cons (pe_callTy (cr_setI hc) hg2 hm2 PyProof.Rows.boot_set (pa_cons he pa_nil (star1 hs)) (he := star1 hs)) pa_nil)) fun σ H Q q => ?_
  obtain ⟨fx, Γ, s, F, A, R, xc, xk, q⟩ := q
  unfold wE at q
  refine op_rd1 (fun x k => srtSX x k) R xk q fun x d H1 F1 A1 Γ1 s1 R1 hx1 sb1 ro q => ?_
  unfold srtSX at q
  split at q
  · obtain ⟨ns, e, hl, hb, q⟩ := q
    obtain ⟨a, e1, q1⟩ := ro.ints R1.fh e
    refine ⟨a, ns, by rw [e1], .inl q1, by unfold scanBound; omega, fun p c ms hp hnd hmem hlen => ⟨p, _, c, rfl, upd_same, ?_, fun ms' p' hs hmm hl' hp' => ?_⟩⟩
    · rcases hb with hb | hb
      · have := nodup_len_le hnd (ns := ns) fun m hm => (hmem m).mp hm
        omega
      · have := nodup_len_le hnd (ns := (List.range 63).map fun (i : Nat) => (i : Int)) fun m hm => by
          obtain ⟨h1, h2⟩ := hb m ((hmem m).mp hm)
          exact List.mem_map.mpr ⟨m.toNat, List.mem_range.mpr (by omega), by omega⟩
        rw [List.length_map, List.length_range] at this
        omega
    · have R2 : SR fx σ (upd H1 p (SetO X.w p (fun j => decide (j ∈ ns)) c)) Γ1 s1 F1 A1 := R1.alloc hp
      have := KQ.mk (Q := Q) R2 hp' (RpL.ints ms') ((q ms' hs fun j => by rw [hmm j, decide_eq_true_eq]).kq (hx1.trans (R1.hx hp)) sb1)
      exact this
  · exact q.elim
/-- len(xs) of a set -/
theorem cr_lenSet : CallR X (.builtin "len") (fun vs H Q => ∃ (a : Addr) (S : Int → Bool) (n : Nat), vs = [V.ref a] ∧ H a = some (SetO X.w a S n) ∧ Q (.int (n : Nat)) H) := by
  intro pins s σ H xs us Q I r h
  obtain ⟨a, S, n, rfl, ha, q⟩ := h
  rw [Vals.ref1 r]
  obtain ⟨o, es, ep, t, ho, hx, hd, g, nd, hm, hb, hf, hn, _⟩ := setO_get I ha
  have hb' : es.size < 4096 := hb
  refine call_len_set ho hx hd hf (by omega) ⟨.int n, H, I.tok _, ⟨_, by rw [hn]⟩, q⟩
theorem n_lenS {c : E rm.S} {e : Expr} {p p1 p2 p3 : Pos} (hc : X.calm = true) (hg : Gl X "len") (hm : X.mg "len" = none) (hg2 : Gl X "set") (hm2 : X.mg "set" = none) (he : PE X e (rdP W c)) (hs : shp e = true) : PE X (.Call (.Name "len" p) [.Call (.Name "set" p2) [e] [] p3] [] p1) (rdE W (.lenS c)) := by
  refine PE_imp (pe_callB cr_lenSet hg hm PySem.boot_len (pa_cons (pe_callTy (cr_setI hc) hg2 hm2 PyProof.Rows.boot_set (pa_cons he pa_nil (star1 hs)) (he := star1 hs)) pa_nil)) fun σ H Q q => ?_
  obtain ⟨fx, Γ, s, F, A, R, xc, xk, q⟩ := q
  unfold wE at q
  refine op_rd1 (fun x k => lenSX x k) R xk q fun x d H1 F1 A1 Γ1 s1 R1 hx1 sb1 ro q => ?_
  unfold lenSX at q
  split at q
  · obtain ⟨ns, e, hl, q⟩ := q
    obtain ⟨a, e1, q1⟩ := ro.ints R1.fh e
    refine ⟨a, ns, by rw [e1], .inl q1, by unfold scanBound; omega, fun p c ms hp hnd hmem hlen => ⟨p, _, c, rfl, upd_same, ?_⟩⟩
    subst hlen
    have R2 : SR fx σ (upd H1 p (SetO X.w p (fun j => decide (j ∈ ns)) ms.length)) Γ1 s1 F1 A1 := R1.alloc hp
    exact q ms hnd hmem _ _ F1 A1 R2 (hx1.trans (R1.hx hp)) sb1 (.int _)
  · exact q.elim
/-! ### list(range(n)) -/
theorem n_lr {c : E rm.S} {e : Expr} {p p1 p2 p3 : Pos} (hc : X.calm = true) (hg : Gl X "list") (hm : X.mg "list" = none) (hg2 : Gl X "range") (hm2 : X.mg "range" = none) (he : PE X e (rdP W c)) (hs : shp e = true) : PE X (.Call (.Name "list" p) [.Call (.Name "range" p2) [e] [] p3] [] p1) (rdE W (.lr (.cons c .nil))) := by
  refine PE_imp (pe_listRg hc hg hm (prg_1 hg2 hm2 he (star1 hs))) fun σ H Q q => ?_
  obtain ⟨fx, Γ, s, F, A, R, xc, xk, q⟩ := q
  unfold wE wA at q
  refine ⟨fx, Γ, s, F, A, R, xc, xk, opnE_mono c (fun d Γ1 s1 q x H1 F1 A1 R1 hx1 sb1 ro1 => ?_) q⟩
  unfold wA at q
  dsimp only at q
  unfold rngD at q
  split at q
  · rename_i n z
    cases z
    obtain ⟨⟨q1, q2⟩, q3, q4⟩ := q
    rw [List.length_map, List.length_range] at q3
    have hb : n.toNat ≤ 100000 := q3
    refine ⟨n, flat_int ro1.1, ⟨by omega, by omega, q1, q2, ?_⟩, fun p hp => ?_⟩
    · rw [Int.sub_zero]; exact Nat.le_trans hb (by decide)
    · refine KQ.mk R1 hp ?_ (q4.kq hx1 sb1)
      unfold rgV
      rw [Int.sub_zero]
      have e1 : (List.range n.toNat).map (fun i => V.int (0 + (i : Nat))) = ((List.range n.toNat).map (fun (i : Nat) => (i : Int))).map V.int := by
        rw [List.map_map]
        exact List.map_congr_left fun i _ => by dsimp only [Function.comp]; rw [Int.zero_add]
      have e2 : (List.range n.toNat).map (fun i => PyData.int (i : Nat)) = ((List.range n.toNat).map (fun (i : Nat) => (i : Int))).map PyData.int := by
        rw [List.map_map]
        rfl
      rw [e1, e2]
      exact RpL.ints _
  · rename_i z; cases z
  · rename_i z; cases z
  · exact q.elim
/-! ### xs.index(y), xs.pop(i) -/
theorem idx_spec : ∀ {ns : List Int} {y : Int} {j : Nat}, idxD ns y = some j → ns[j]? = some y ∧ ∀ m z, m < j → ns[m]? = some z → z ≠ y := by
  intro ns y j h
  unfold idxD at h
  obtain ⟨hj, h1, h2⟩ := List.findIdx?_eq_some_iff_getElem.mp h
  refine ⟨?_, fun m z hm hz => ?_⟩
  · rw [List.getElem?_eq_getElem hj, of_decide_eq_true h1]
  · have := h2 m hm
    obtain ⟨hl, hz⟩ := List.getElem?_eq_some_iff.mp hz
    rw [← hz]
    intro e
    exact this (decide_eq_true e)
theorem n_index {i : Nat} {c : E rm.S} {x : Str} {e : Expr} {p2 p3 p4 : Pos} (hv : PE X (.Name x p3) (rdP W (.var i : E rm.S))) (he : PE X e (rdP W c)) (hs : shp e = true) (hl : (p2.endLine == p4.line) = true) : PE X (.Call (.Attribute (.Name x p3) "index" p2) [e] [] p4) (rdE W (.mt .index (.var i) (.cons c .nil))) := by
  refine PE_imp (pe_bm PySem.F.plainAttrs_list PySem.F.slot_list_index PySem.F.type_list_index mt_index hv (pa_cons he pa_nil (star1 hs)) (hfew := few1 hs) (hline := hl) (hs := star1 hs)) fun σ H Q q => ?_
  obtain ⟨fx, Γ, s, F, A, R, xc, xk, q⟩ := q
  unfold wE at q
  refine ⟨fx, Γ, s, F, A, R, xc, xk, opnE_mono (.var i) (fun d Γ1 s1 q x H1 F1 A1 R1 hx1 sb1 ro1 => ?_) q⟩
  unfold lstD at q
  split at q
  · rename_i xs
    unfold wA at q
    obtain ⟨a, vs, e1, q1, r1⟩ := ro1.1.lst R1.fh
    subst e1
    refine ⟨.inl ⟨rfl, _, .inl q1⟩, fx, Γ1, s1, F1, A1, R1, xc, xk, opnE_mono c (fun d Γ2 s2 q y H2 F2 A2 R2 hx2 sb2 ro2 => ?_) q⟩
    unfold wA at q
    obtain ⟨a', vs', e1', q1', r1'⟩ := (ro1.1.mono hx2 sb2).lst R2.fh
    cases e1'
    dsimp only [mtD] at q
    unfold indexD at q
    split at q
    · rename_i xs' y z1 z2
      cases z1
      cases z2
      obtain ⟨ns, en, q⟩ := q
      rw [intsD_eq en] at r1'
      have ev := r1'.of_ints
      subst ev
      split at q
      · rename_i j hj
        obtain ⟨h1, h2⟩ := idx_spec hj
        have hy := flat_int ro2.1
        subst hy
        refine ⟨a, ns.map V.int, .int y, j, .int y, rfl, rfl, .inl q1', rfl, ?_, ?_, ?_, fun m z' hm hz => ?_, q _ H2 F2 A2 R2 (hx1.trans hx2) (sb1.trans sb2) (.int _)⟩
        · rw [List.all_map]
          exact List.all_eq_true.mpr fun _ _ => rfl
        · rw [List.getElem?_map, h1]; rfl
        · show (y == y) = true
          exact beq_self_eq_true y
        · rw [List.getElem?_map] at hz
          cases e3 : ns[m]? with
          | none => rw [e3] at hz; cases hz
          | some z =>
            rw [e3] at hz
            cases hz
            show (z == y) = false
            exact beq_eq_false_iff_ne.mpr (h2 m z hm e3)
      · exact q.elim
    · exact q.elim
  · exact q.elim
/-! ### expressions of a statement: a list of one's own may change in them -/
def KM (fx : Fx rm) (σ : L2.St) (F : Hp) (A : rm.A) (Q : VK) : Val → Ctx → rm.S → Prop := fun v Γ' s' => ∀ x H' F' A', SR fx σ H' Γ' s' F' A' → rm.le A A' → Sub F F' → RV fx σ H' F' A' Γ' x v → Q x H'
def rdM (W : WN) (c : E rm.S) : TE := fun σ H Q => ∃ (fx : Fx rm) (Γ : Ctx) (s : rm.S) (F : Hp) (A : rm.A), SR fx σ H Γ s F A ∧ ∃ xc, XcOk W fx xc ∧ wE xc c Γ s (KM fx σ F A Q)
theorem to_M {c : E rm.S} {e : Expr} (h : PE X e (rdE W c)) : PE X e (rdM W c) := PE_imp h fun σ H Q q => by
  obtain ⟨fx, Γ, s, F, A, R, xc, xk, q⟩ := q
  exact ⟨fx, Γ, s, F, A, R, xc, xk, wE_mono c (fun v Γ' s' q x H' F' A' R' hx sb rv => q x H' F' A' R' hx.1 sb rv) q⟩
/-! [e, 0], as a thing with a state -/
def HOk (rm : RM) (φ : ESumm rm.S) : Prop := ∀ (fx : Fx rm) (σ : L2.St) (H : Hp) (Γ : Ctx) (s : rm.S) (F : Hp) (A : rm.A) (x : V) (v : Val) (p : Addr) (Q : VK), SR fx σ H Γ s F A → RV fx σ H F A Γ x v → H p = none →
  φ.run [v] s (fun w s2 => KM fx σ F A Q w Γ s2) (fun _ _ => False) → Q (.ref p) (upd H p (.lst [x, .int 0]))
theorem n_asgH {φ : ESumm rm.S} {c : E rm.S} {i : Nat} {y : Str} {e : Expr} {kk : Nat} {p p2 p3 p4 : Pos} (h : HOk rm φ) (hN : X.N.Nodup) (hi : X.N[i]? = some y) (hy : Sto X y) (he : PE X e (rdE W c)) (hs : shp e = true) : PS X (.Assign [.Name y p4] (.List [e, .Constant (.int 0) kk p2] p) p3) (rd1 W (.asgH i φ c)) :=
  PS_imp (ps_set hN hi hy.1 (pe_lst (pa_cons he (pa_cons pe_int pa_nil) (star1 hs))) rfl hy.2) fun D σ H q => by
    obtain ⟨fx, Γ, s, F, A, R, K, ko, q⟩ := q
    dsimp only [w1] at q
    refine ⟨fx, Γ, s, F, A, R, K.ex, ko.ex, wE_mono c (fun v Γ' s' q x H1 F1 A1 R1 hx1 sb1 rv => ?_) q⟩
    refine ⟨by show 2 ≤ sizeLine; decide, fun p hp => ?_⟩
    exact h fx σ H1 Γ' s' F1 A1 x v p (fun y H' => D.nx (σ.set i (some y)) H') R1 rv hp (φ.mono (fun w s2 q y H2 F2 A2 R2 _ _ rv2 => ko.nx _ _ _ _ _ _ (R2.putV rv2) q) (fun _ _ z => z) q)
/-! xs.pop(i) -/
theorem RpL.era : ∀ {vs : List V} {ds : List D} (n : Nat), RpL F vs ds → RpL F (vs.eraseIdx n) (ds.eraseIdx n)
  | _, _, _, .nil => .nil
  | _, _, 0, .cons _ r => r
  | _, _, n + 1, .cons h r => .cons h (RpL.era n r)
theorem n_pop {i : Nat} {c : E rm.S} {x : Str} {e : Expr} {p2 p3 p4 : Pos} (hv : PE X (.Name x p3) (tVar i)) (he : PE X e (rdP W c)) (hs : shp e = true) (hl : (p2.endLine == p4.line) = true) : PE X (.Call (.Attribute (.Name x p3) "pop" p2) [e] [] p4) (rdM W (.pop i c)) := by
  refine ⟨fun pins sh σ H Q I q => ?_⟩
  refine (pe_bm PySem.F.plainAttrs_list PySem.F.slot_list_pop PySem.F.type_list_pop mt_popAt hv (pa_cons he pa_nil (star1 hs)) (hfew := few1 hs) (hline := hl) (hs := star1 hs)).run pins sh σ H Q I ?_
  obtain ⟨fx, Γ, s, F, A, R, xc, xk, q⟩ := q
  unfold wE popW at q
  split at q
  · rename_i xs hxs
    obtain ⟨a, vs, h1, e2, e3, e4, e5, e6⟩ := ownAt R hxs
    refine ⟨.ref a, h1, .inl ⟨rfl, _, SqL.of e2⟩, fx, Γ, s, F, A, R, xc, xk, opnE_mono c (fun d Γ1 s1 q y H1 F1 A1 R1 hx1 sb1 ro1 => ?_) q⟩
    split at q
    · rename_i zs j hzs
      obtain ⟨a', ws, g1, g2, g3, g4, g5, g6⟩ := ownAt R1 hzs
      rw [h1] at g1
      cases g1
      split at q
      · rename_i pr hpr
        obtain ⟨m, d⟩ := pr
        cases e7 : ixN zs.length j with
        | none => rw [e7] at hpr; cases hpr
        | some m' =>
          rw [e7] at hpr
          have hpr' : (zs[m']?.map fun d => (m', d)) = some (m, d) := hpr
          cases e8 : zs[m']? with
          | none => rw [e8] at hpr'; cases hpr'
          | some d' =>
            rw [e8] at hpr'
            cases hpr'
            obtain ⟨w1, w2, w3, w4⟩ := ixN_seq e7
            obtain ⟨v, hv1, hv2⟩ := g6.get e8
            obtain ⟨⟨b1, b2⟩, q⟩ := q
            refine ⟨a, ws, j, m, v, rfl, by rw [flat_int ro1.1], g2, ?_, ?_, by rw [g6.length]; exact w1, hv1, ?_⟩
            · omega
            · omega
            · exact q v _ F1 A1 (R1.chgOwn (vs := ws) hzs h1 (g6.era m)) hx1.1 sb1 hv2
      · exact q.elim
    · exact q.elim
  · exact q.elim
theorem n_asgM {i : Nat} {x : Str} {c : E rm.S} {e : Expr} {p p2 : Pos} (hN : X.N.Nodup) (hi : X.N[i]? = some x) (hx : Sto X x) (he : PE X e (rdM W c)) (hsw : swapsWith e (some (.Name x p2)) p.line X.env = pure false) : PS X (.Assign [.Name x p2] e p) (rd1 W (.asg i c)) :=
  PS_imp (ps_set hN hi hx.1 he hsw hx.2) fun D σ H q => by
    obtain ⟨fx, Γ, s, F, A, R, K, ko, q⟩ := q
    dsimp only [w1] at q
    refine ⟨fx, Γ, s, F, A, R, K.ex, ko.ex, wE_mono c (fun v Γ' s' q => ?_) q⟩
    intro y H' F' A' R' hx sb rv
    exact ko.nx _ _ _ _ _ _ (R'.putV rv) q
theorem n_retM {c : E rm.S} {e : Expr} {p : Pos} (he : PE X e (rdM W c)) (hv : ∀ i, c ≠ .var i) : PS X (.Return (some e) p) (rd1 W (.ret c)) :=
  PS_imp (ps_ret he) fun D σ H q => by
    obtain ⟨fx, Γ, s, F, A, R, K, ko, q⟩ := q
    have q' : wE K.ex c Γ s fun v _ s' => K.rt v s' := by
      cases c with
      | var i => exact absurd rfl (hv i)
      | _ => exact q
    refine ⟨fx, Γ, s, F, A, R, K.ex, ko.ex, wE_mono c (fun v Γ' s' q => ?_) q'⟩
    intro y H' F' A' R' hx sb rv
    exact ko.rt _ _ _ _ _ _ _ _ R' rv q
/-- (e, ..), the second one such -/
theorem n_tp2M {c c2 : E rm.S} {e e2 : Expr} {kk : Nat} {p : Pos} (h : PE X e (rdE W c)) (h2 : PE X e2 (rdM W c2)) (hs : shp e = true) (hs2 : shp e2 = true) : PE X (.Tuple [e, e2] kk p) (rdM W (.tp (.cons c (.cons c2 .nil)))) := by
  refine PE_imp (pe_tup (pa_cons h (pa_cons h2 pa_nil (star1 hs2)) (star1 hs))) fun σ H Q q => ?_
  obtain ⟨fx, Γ, s, F, A, R, xc, xk, q⟩ := q
  unfold wE wX at q
  refine ⟨fx, Γ, s, F, A, R, xc, xk, wE_mono c (fun v Γ1 s1 q => ?_) q⟩
  intro x H1 F1 A1 R1 hx1 sb1 rv
  obtain ⟨d, F1', q, R1', sb1', rp⟩ := R1.stay rv q
  unfold wX at q
  refine ⟨fx, Γ1, s1, F1', A1, R1', xc, xk, wE_mono c2 (fun v Γ2 s2 q => ?_) q⟩
  intro y H2 F2 A2 R2 le2 sb2 rv2
  obtain ⟨d2, F2', q, R2', sb2', rp2⟩ := R2.stay rv2 q
  unfold wX at q
  refine ⟨by show 2 ≤ sizeLine; decide, fun p hp => ?_⟩
  have sb := sb2.trans sb2'
  refine q.2 (.ref p) _ (upd F2' p (.tup [x, y])) A2 (R2'.lay hp) (rm.le_trans hx1.1 le2) ((((sb1.trans sb1').trans sb2).trans sb2').trans (upd_sub (R2'.nF hp))) (.tup upd_same ?_)
  exact .cons ((rp.mono sb).mono (upd_sub (R2'.nF hp))) (.cons (rp2.mono (upd_sub (R2'.nF hp))) .nil)
theorem SR.backM {H1 F1 : Hp} {Γ1 : Ctx} {s1 : rm.S} {A1 : rm.A} {vs : List Nat} (R1 : SR fx σ H1 Γ1 s1 F1 A1) (R : SR fx (L2.wipe σ vs) H Γ s F A) (le : rm.le A1 A) (sb : Sub F1 F) : SR fx σ H (backG Γ1 vs Γ) s F A where
  fh := R.fh
  fz := R.fz
  f0 := R.f0
  lk := R.lk
  a0 := R.a0
  ok := R.ok
  ln := by rw [backG_length, R.ln, wipe_length]
  sl := fun i v e => by
    rcases look_backG e with ⟨_, h2, h3⟩ | ⟨h1, h2⟩
    · obtain ⟨x, h4, h5⟩ := R1.sl i v h2
      refine ⟨x, h4, ?_⟩
      cases v with
      | dat d => exact Rp.mono sb h5
      | own xs => exact absurd rfl (h3 xs)
      | new xs => exact h5
      | hdl n => exact rm.le_hd le h5
    · obtain ⟨x, h4, h5⟩ := R.sl i v h2
      rw [wipe_out h1] at h4
      exact ⟨x, h4, h5⟩
  dj := fun i j a xs ys e1 e2 s1 s2 => by
    rcases look_backG e1 with ⟨_, _, h3⟩ | ⟨h1, h2⟩
    · exact absurd rfl (h3 xs)
    · rcases look_backG e2 with ⟨_, _, h3⟩ | ⟨h3, h4⟩
      · exact absurd rfl (h3 ys)
      · exact R.dj i j a xs ys h2 h4 (by rw [wipe_out h1]; exact s1) (by rw [wipe_out h3]; exact s2)
/-! [xs.pop(i) for ..] -/
theorem n_compM {own : List Nat} {tc : Tg} {it : It rm.S} {ip : Nat} {cp : E rm.S} {elt tg iter : Expr} {scope : Scope} {ol : List (Str × Nat)} {p : Pos} (hol : ol.map (·.2) = own) (hc : X.calm = true) (hN : X.N.Nodup)
    (hi : PI X tg iter (rdJ W it)) (ok : BlkOk X.N X.env.scope scope ol)
    (hg : ∀ (s : Shared) (H : Hp) (C : Addr) (cl : List (Str × Addr)) (fp : List Addr), PG (X.blk s H scope (compEnvC scope cl C X.env) fp) tg (rdG X.K tc))
    (he : ∀ (s : Shared) (H : Hp) (C : Addr) (cl : List (Str × Addr)) (fp : List Addr), PE (X.blk s H scope (compEnvC scope cl C X.env) fp) elt (rdM W0 (.pop ip cp))) (hs : shp iter = true) (hin : tgIn tc own) :
    PE X (.ListComp elt [⟨tg, iter, [], 0⟩] scope p) (rdM W (.compM own tc it ip cp)) ∧ ∀ σ H Q, rdM W (.compM own tc it ip cp) σ H Q → tLc (rdJ W it) (rdG X.K tc) (rdC W0 (.nil : Es rm.S)) (rdM W0 (.pop ip cp)) own σ H Q := by
  have key : ∀ σ H Q, rdM W (.compM own tc it ip cp) σ H Q → tLc (rdJ W it) (rdG X.K tc) (rdC W0 (.nil : Es rm.S)) (rdM W0 (.pop ip cp)) own σ H Q := by
    intro σ H Q q
    obtain ⟨fx, Γ, s, F, A, R, xc, xk, q⟩ := q
    unfold wE at q
    refine ⟨fx, Γ, s, F, A, R, xc, xk, wJ_mono it (fun xs Γ1 s1 q => ?_) q⟩
    intro J H1 F1 A1 R1 hx1 sb1 yl p hp
    obtain ⟨hbig, q⟩ := q
    have hlp := R1.nL hp
    refine ⟨fun i m H2 => m = xs.length - i ∧ i ≤ xs.length ∧ ∃ Γ2 s2 F2 A2 vs acc, SR (fxL fx p (.lst vs)) (wipe σ own) H2 Γ2 s2 F2 A2 ∧ rm.le A1 A2 ∧ Sub F1 F2 ∧ RpL F2 vs acc ∧ acc.length ≤ i ∧
      cLoop (fun x Γ s k => bindT tc x Γ fun Γ' => popW ip Γ' (fun k' => opn cp (wE xn cp) Γ' s k') fun v Γ3 s3 => asD v fun d => k (some d) (wipeG own Γ3) s3) (xs.drop i) Γ2 s2 acc
        (fun ys Γ' s' => KM fx σ F A Q (.new ys) (backG Γ1 own Γ') s'), ⟨xs.length, rfl, Nat.zero_le _, wipeG own Γ1, s1, F1, A1, [], [], ?_, rm.le_refl A1, Sub.refl F1, .nil, Nat.le_refl _, q⟩, ?_⟩
    · exact ((R1.wipe own).alloc hp).addL upd_same (R1.nF hp) (R1.nft hp) ((R1.wipe own).noOwn hp)
    · rintro i m H2 ⟨rfl, hi, Γ2, s2, F2, A2, vs, acc, R2, le2, sb2, rl, hal, q⟩
      have gs : Sub F1 H2 := sb2.trans R2.fh
      by_cases hlt : i < xs.length
      · obtain ⟨x0, e0⟩ := get_lt (l := xs) hlt
        have ed : xs.drop i = x0 :: xs.drop (i + 1) := by
          rw [List.drop_eq_getElem_cons hlt]
          rw [List.getElem?_eq_getElem hlt] at e0
          rw [Option.some.inj e0]
        rw [ed] at q
        obtain ⟨go, yld⟩ := (yl i H2 gs).1 hlt
        refine .inr ⟨go, fun H' => ∃ Γ2 s2 F2 A2 vs acc, SR (fxL fx p (.lst vs)) (wipe σ own) H' Γ2 s2 F2 A2 ∧ rm.le A1 A2 ∧ Sub F1 F2 ∧ RpL F2 vs acc ∧ acc.length ≤ i + 1 ∧
          cLoop (fun x Γ s k => bindT tc x Γ fun Γ' => popW ip Γ' (fun k' => opn cp (wE xn cp) Γ' s k') fun v Γ3 s3 => asD v fun d => k (some d) (wipeG own Γ3) s3) (xs.drop (i + 1)) Γ2 s2 acc
            (fun ys Γ' s' => KM fx σ F A Q (.new ys) (backG Γ1 own Γ') s'), fun H' w => ⟨xs.length - (i + 1), by omega, rfl, hlt, w⟩, fun x H3 y => ?_⟩
        obtain ⟨d, hd, hy⟩ := yld x H3 y
        rw [e0] at hd
        cases hd
        obtain ⟨F3, R3, hx3, sb3, rp⟩ := R2.yield sb2 hy
        have q' : bindT tc x0 Γ2 _ := q
        have g := bindT_rd (K := X.K) R3 rp q'
        refine n_comp.gmono tc (fun σ2 H4 z => ?_) g
        obtain ⟨rfl, wp, Γ3, q3, R4⟩ := z
        have ew : wipe σ2 own = wipe σ own := (wp own hin).trans wipe_wipe
        refine ⟨ew, ⟨_, Γ3, s2, F3, A2, R4, xn, xk0, ?_⟩⟩
        unfold wC
        intro H5 F5 A5 R5 hx5 sb5
        rw [if_pos rfl]
        refine ⟨_, Γ3, s2, F5, A5, R5, xn, xk0, ?_⟩
        unfold wE
        refine popW_mono (fun k k' hk => opnE_mono cp hk) (fun v Γ6 s6 q => ?_) q3
        intro y6 H6 F6 A6 R6 le6 sb6 rv
        obtain ⟨d, F7, q, R7, sb7, rp7⟩ := R6.stay rv q
        obtain ⟨w1, w2, w3⟩ := R7.lkP
        have hlen : vs.length < sizeLine := Nat.lt_of_lt_of_le (Nat.lt_of_le_of_lt (by rw [rl.length]; exact hal) hlt) (big_sz hbig)
        refine ⟨vs, w1, hlen, wipeG own Γ6, s6, F7, A6, vs ++ [y6], acc ++ [d], ?_, ?_, ?_, ?_, ?_, q⟩
        · have R8 := (R7.wipe own).chg (o' := .lst (vs ++ [y6])) hlp
          rw [ew] at R8
          exact R8
        · exact rm.le_trans (rm.le_trans (rm.le_trans le2 hx3.1) hx5.1) le6
        · exact (((sb2.trans sb3).trans sb5).trans sb6).trans sb7
        · exact (((((rl.mono sb3).mono sb5).mono sb6).mono sb7)).append (.cons rp7 .nil)
        · rw [List.length_append, List.length_singleton]; omega
      · have e : i = xs.length := by omega
        subst e
        refine .inl ⟨(yl _ H2 gs).2 rfl, ?_⟩
        rw [List.drop_length] at q
        have q' : KM fx σ F A Q (.new acc) (backG Γ1 own Γ2) s2 := q
        obtain ⟨w1, w2, w3⟩ := R2.lkP
        have no := R2.lkNo
        refine q' (V.ref p) H2 F2 A2 (R1.backM (R2.delL hlp) le2 sb2) (rm.le_trans hx1.1 le2) (sb1.trans sb2) ⟨p, vs, rfl, w1, w2, w3, hlp, rl, fun j ys ej z => ?_⟩
        rcases look_backG ej with ⟨_, _, h3⟩ | ⟨h1, h2⟩
        · exact h3 ys rfl
        · exact no j ys h2 (by rw [wipe_out h1]; exact z)
  refine ⟨?_, key⟩
  have h := pe_lc (own := ol) hc hN hi ok hg (fun s H C cl fp => pts_nilC (rm := rm)) he (fold1 hs) (pos := p)
  rw [hol] at h
  exact PE_imp h key
where
  pts_nilC {rm : RM} {X : Cx} : PTs X [] (rdC W0 (.nil : Es rm.S)) := ⟨fun pins s σ H Q I q => by
    obtain ⟨fx, Γ, s', F, A, R, xc, xk, q⟩ := q
    unfold wC at q
    exact pts_nil.run pins s σ H Q I (q H F A R (HX.refl H A) (Sub.refl F))⟩
theorem n_asgLM {i : Nat} {y : Str} {own : List Nat} {tc : Tg} {it : It rm.S} {ip : Nat} {cp : E rm.S} {elt tg iter : Expr} {scope : Scope} {ol : List (Str × Nat)} {p p2 p3 : Pos} (hy : X.N[i]? = some y) (hyl : X.env.scope.names.lookup y = some .local)
    (hsw : swapsWith (.ListComp elt [⟨tg, iter, [], 0⟩] scope p) (some (.Name y p2)) p3.line X.env = pure true) (hol : ol.map (·.2) = own) (hc : X.calm = true) (hN : X.N.Nodup)
    (hi : PI X tg iter (rdJ W it)) (ok : BlkOk X.N X.env.scope scope ol)
    (hg : ∀ (s : Shared) (H : Hp) (C : Addr) (cl : List (Str × Addr)) (fp : List Addr), PG (X.blk s H scope (compEnvC scope cl C X.env) fp) tg (rdG X.K tc))
    (he : ∀ (s : Shared) (H : Hp) (C : Addr) (cl : List (Str × Addr)) (fp : List Addr), PE (X.blk s H scope (compEnvC scope cl C X.env) fp) elt (rdM W0 (.pop ip cp))) (hs : shp iter = true) (hin : tgIn tc own) :
    PS X (.Assign [.Name y p2] (.ListComp elt [⟨tg, iter, [], 0⟩] scope p) p3) (rd1 W (.asgL i (.compM own tc it ip cp))) := by
  have h := ps_setLc (own := ol) hc hN hy hyl hsw hi ok hg (fun s H C cl fp => n_compM.pts_nilC (rm := rm)) he (fold1 hs)
  rw [hol] at h
  refine PS_imp h fun D σ H q => ?_
  obtain ⟨fx, Γ, s, F, A, R, K, ko, q⟩ := q
  dsimp only [w1] at q
  refine (n_compM (p := p) hol hc hN hi ok hg he hs hin).2 σ H _ ⟨fx, Γ, s, F, A, R, K.ex, ko.ex, wE_mono _ (fun v Γ' s' q => ?_) q⟩
  intro y H' F' A' R' hx sb rv
  exact ko.nx _ _ _ _ _ _ (R'.putV rv) q
end
end Ac
namespace Ac
open PySem PySem.Spec PyProof.Rows L2
/-! ### f((a, b), c): what is handed in is lent -/
section
variable {rm : RM} {X : Cx} {k : Nat} {W : WN} {fx : Fx rm} {σ : L2.St} {H F : Hp} {Γ : Ctx} {s : rm.S} {A : rm.A}
theorem scal_any {F F' : Hp} {v : V} {d : D} (h : Rp F v d) (sc : scal d = true) : Rp F' v d := by
  cases h <;> first | exact .non | exact .bl _ | exact .int _ | exact .str _ | cases sc
theorem scal_all {F F' : Hp} : ∀ {vs : List V} {ds : List D}, RpL F vs ds → ds.all scal = true → RpL F' vs ds
  | _, _, .nil, _ => .nil
  | _, _, .cons h r, sc => by
    rw [List.all_cons, Bool.and_eq_true] at sc
    exact .cons (scal_any h sc.1) (scal_all r sc.2)
/-- a name's thing, as it is read -/
theorem rd_var (R : SR fx σ H Γ s F A) {i : Nat} {q : D → Prop} (h : rdO (look Γ i) q) : ∃ y d, σ[i]? = some (some y) ∧ Ro H F A y d ∧ q d ∧ (match look Γ i with | some (.dat _) => True | some (.own _) => True | _ => False) := by
  cases e : look Γ i with
  | none => rw [e] at h; exact h.elim
  | some v =>
    rw [e] at h
    obtain ⟨y, h1, h2⟩ := R.sl i _ e
    cases v with
    | dat d => exact ⟨y, d, h1, .inl h2, h, trivial⟩
    | own xs =>
      obtain ⟨a, vs, e1, e2, e3, e4, e5, e6⟩ := h2
      exact ⟨y, .list xs, h1, .inr ⟨a, vs, xs, e1, rfl, e2, e4, e6⟩, h, trivial⟩
    | new xs => exact h.elim
    | hdl n => exact h.elim
theorem n_callT {cl : Nat → Addr} {φ : Summ} {x x1 x2 x3 : Str} {i j l : Nat} {kk : Nat} {p p1 p2 p3 p4 p5 : Pos} (g : GoodP cl X k x φ) (hr : Room k X.A) (hgd : X.A.guards = some []) (hg : Gl X x) (tk : Takes X (WXof cl W))
    (h1 : PE X (.Name x1 p1) (tVar i)) (h2 : PE X (.Name x2 p2) (tVar j)) (h3 : PE X (.Name x3 p3) (tVar l)) (hdb : (x == ("__debug__" : Str)) = false) :
    PE X (.Call (.Name x p4) [.Tuple [.Name x1 p1, .Name x2 p2] kk p5, .Name x3 p3] [] p) (rdE W (.callT x φ i j l : E rm.S)) := by
  obtain ⟨f, fd, ps, G, g1, g2, g3⟩ := g
  refine PE_imp (pe_callG (E := fun σ => WE (WXof cl W) σ) G hr hgd hg g1 g2 g3 (fun σ => passAt tk σ) (pa_cons (pe_tup (pa_cons h1 (pa_cons h2 pa_nil))) (pa_cons h3 pa_nil)) hdb rfl rfl) fun σ H Q q => ?_
  obtain ⟨fx, Γ, s, F, A, R, xc, xk, q⟩ := q
  unfold wE at q
  obtain ⟨y1, d1, s1, r1, q, o1⟩ := rd_var R q
  obtain ⟨y2, d2, s2, r2, q, o2⟩ := rd_var R q
  obtain ⟨y3, d3, s3, r3, q, o3⟩ := rd_var R q
  refine ⟨y1, s1, y2, s2, by show (2 : Nat) ≤ sizeLine; decide, fun t ht => ⟨y3, s3, ?_⟩⟩
  obtain ⟨Fc, Rc, sbc, rl⟩ := frzA_ok (cs := .cons (.var i) (.cons (.var j) (.cons (.var l) .nil))) (xs := [y1, y2, y3]) (ds := [d1, d2, d3]) R ⟨o1, o2, o3, trivial⟩ ⟨⟨r1, s1⟩, ⟨r2, s2⟩, ⟨r3, s3⟩, trivial⟩
  have hft : Fc t = none := Rc.nF ht
  cases rl with
  | cons a1 rl =>
    cases rl with
    | cons a2 rl =>
      cases rl with
      | cons a3 rl =>
        cases rl
        have sbt : Sub Fc (upd Fc t (.tup [y1, y2])) := upd_sub hft
        refine ⟨upd Fc t (.tup [y1, y2]), [.tuple [d1, d2], d3], (Rc.lay (o := .tup [y1, y2]) ht).fh, .cons (.tup upd_same (.cons (a1.mono sbt) (.cons (a2.mono sbt) .nil))) (.cons (a3.mono sbt) .nil), φ.mono (fun v q => ?_) (fun n z => z.elim) q⟩
        intro y H' F' hh ff fh' nf rv
        have hH : Sub H H' := fun a o e => hh a o (by rw [upd_ne (ne_of_none e ht)]; exact e)
        refine q.2 y H' F A (R.grow hH) (HX.grow hH) (Sub.refl F) ?_
        have sc := q.1
        cases v with
        | dat d => exact scal_any rv sc
        | own ys => exact rv.elim
        | hdl n => exact rv.elim
        | new ys =>
          obtain ⟨a, vs, e1, e2, e3, e4, e5⟩ := rv
          have ha : H a = none := by
            cases z : H a with
            | none => rfl
            | some o =>
              rw [upd_ne (ne_of_none z ht), z] at e4
              cases e4
          exact ⟨a, vs, e1, e2, R.nF ha, R.nft ha, R.nL ha, scal_all e5 sc, R.noOwn ha⟩
end
end Ac
namespace Ac
open PySem PySem.Spec PyProof.Rows L2

/-! ### the checker: PySem's tree is the one meant -/
def sVis (sc : Scope) (x : Str) : Bool := match sc.names.lookup x with
  | some .local => true
  | some .cell => true
  | some .free => true
  | _ => false
def sGl (sc : Scope) (x : Str) : Bool := match sc.names.lookup x with
  | some .globalImplicit => true
  | _ => false
def sSto (t : Sx) (x : Str) : Bool := match t.sc.names.lookup x with
  | some .local => true
  | some .cell => t.fb x
  | _ => false
def plainN (x : Str) : Bool := !(x == ("__debug__" : Str)) && !(x == ("__classdict__" : Str)) && !(decide (x = ("__name__" : Str)))
def hasB (t : Sx) (x : Str) : Bool := sGl t.sc x && decide (x ∈ t.bn) && plainN x
def chNm (t : Sx) (i : Nat) : Expr → Bool
  | .Name x _ => decide (t.N[i]? = some x) && sVis t.sc x && plainN x
  | _ => false
def chTn (t : Sx) : List Nat → List Expr → Bool
  | [], [] => true
  | i :: is, .Name x _ :: es => decide (t.N[i]? = some x) && sSto t x && chTn t is es
  | _, _ => false
def chTg (t : Sx) : Tg → Expr → Bool
  | .nm i, .Name x _ => decide (t.N[i]? = some x) && sSto t x
  | .tp is, .Tuple es _ _ => chTn t is es
  | _, _ => false
/-- a built-in of its own kind: a function, a type -/
def biN : BI → Option (Bool × String)
  | .len => some (false, "len") | .min2 => some (false, "min") | .max2 => some (false, "max") | .minL => some (false, "min") | .maxL => some (false, "max")
  | .sum => some (false, "sum") | .sorted => some (false, "sorted") | .list => some (true, "list") | .tuple => some (true, "tuple") | .abs => some (false, "abs")
  | .int => some (true, "int") | .str => some (true, "str") | .sortP => some (false, "sorted") | .repr => some (false, "repr") | .dictP => some (true, "dict") | _ => none
def biI : BI → Option String
  | .isint => some "int" | .isbool => some "bool" | .islist => some "list" | .istuple => some "tuple" | .isstr => some "str" | _ => none
def isOne {α : Type} : List α → Bool
  | [_] => true
  | _ => false
def esLen {S : Type} : Es S → Nat
  | .nil => 0
  | .cons _ r => esLen r + 1
/-- how many arguments -/
def biA : BI → Nat
  | .min2 => 2
  | .max2 => 2
  | _ => 1
def subT (t : Sx) (scope : Scope) : Sx := { t with sc := relS scope t.sc, fb := fun x => scope.names.lookup x == some .cell }
def ownOf (t : Sx) (own : List Nat) : List (Str × Nat) := own.filterMap fun i => (t.N[i]?).map fun x => (x, i)
def tgSub : Tg → List Nat → Bool
  | .nm i, vs => decide (i ∈ vs)
  | .tp is, vs => is.all fun i => decide (i ∈ vs)
section
variable {S : Type}
def isVarE : E S → Bool
  | .var _ => true
  | _ => false
mutual
def chE : E S → Sx → Expr → Bool
  | .var i => fun t e => chNm t i e
  | .non => fun _ e => match e with | .Constant .none _ _ => true | _ => false
  | .bl b => fun _ e => match e with | .Constant (.bool c) _ _ => decide (b = c) | _ => false
  | .int i => fun _ e => match e with | .Constant (.int j) _ _ => decide (i = j) | _ => false
  | .str x => fun _ e => match e with | .Constant (.str y) _ _ => decide (x = y) | _ => false
  | .glb x i => fun t e => match e with | .Name y _ => decide (x = y) && sGl t.sc x && decide (t.cn.lookup x = some i) && plainN x | _ => false
  | .op o a b => fun t e => match e with | .BinOp ea o' eb _ => decide (o = o') && chE a t ea && chE b t eb | _ => false
  | .neg a => fun t e => match e with | .UnaryOp .USub ea _ => chE a t ea | _ => false
  | .nt a => fun t e => match e with | .UnaryOp .Not ea _ => chE a t ea | _ => false
  | .an a b => fun t e => match e with | .BoolOp .And (ea :: eb :: r) _ => chE a t ea && (match r with | [] => chE b t eb | _ :: _ => chAn b t (eb :: r)) | _ => false
  | .or a b => fun t e => match e with | .BoolOp .Or (ea :: eb :: r) _ => chE a t ea && (match r with | [] => chE b t eb | _ :: _ => chOr b t (eb :: r)) | _ => false
  | .cmp o a b => fun t e => match e with | .Compare ea [o'] [eb] _ => decide (o = o') && chE a t ea && chE b t eb && shp eb | _ => false
  | .ch o o' a b c => fun t e => match e with | .Compare ea [p, p'] [eb, ec] _ => decide (o = p) && decide (o' = p') && chE a t ea && chE b t eb && chE c t ec && !(lastMarks [p, p'] [eb, ec]) | _ => false
  | .isn pz a => fun t e => match e with | .Compare ea [o] [.Constant .none _ _] _ => decide (o = if pz then CmpOp.Is else CmpOp.IsNot) && chE a t ea | _ => false
  | .isb pz b a => fun t e => match e with | .Compare ea [o] [.Constant (.bool c) _ _] _ => decide (o = if pz then CmpOp.Is else CmpOp.IsNot) && decide (b = c) && chE a t ea | _ => false
  | .ix a b => fun t e => match e with | .Subscript ea eb _ => chE a t ea && chE b t eb && shp eb | _ => false
  | .sl a lo hi => fun t e => match e with | .Subscript ea (.Slice l h none _) _ => chE a t ea && chP lo t l && chP hi t h | _ => false
  | .rv a => fun t e => match e with | .Subscript ea (.Slice none none (some (.UnaryOp .USub (.Constant (.int 1) _ _) _)) _) _ => chE a t ea | _ => false
  | .ls es => fun t e => match e with | .List xs _ => chEs es t xs | _ => false
  | .tp es => fun t e => match e with | .Tuple xs _ _ => chEs es t xs | _ => false
  | .rep es b => fun t e => match e with | .BinOp (.List xs _) .Mult eb _ => chEs es t xs && chE b t eb | _ => false
  | .comp own tg it c ce => fun t e => match e with
    | .ListComp elt [⟨tge, iter, ifs, z⟩] scope _ => decide (z = 0) && chI it t tge iter && blkC t.N t.sc scope (ownOf t own) && decide ((ownOf t own).map (·.2) = own) && chTg (subT t scope) tg tge && chC c (subT t scope) ifs && chE ce (subT t scope) elt && shp iter && tgSub tg own
    | _ => false
  | .call x _ es => fun t e => match e with | .Call (.Name y _) (e0 :: er) [] _ => decide (x = y) && sGl t.sc x && plainN x && chEs es t (e0 :: er) | _ => false
  | .cal0 x _ => fun t e => match e with | .Call (.Name y _) [] [] _ => decide (x = y) && sGl t.sc x && plainN x | _ => false
  | .calE x _ es => fun t e => match e with | .Call (.Name y _) (e0 :: er) [] _ => decide (x = y) && sGl t.sc x && plainN x && chEs es t (e0 :: er) | _ => false
  | .bi b es => fun t e => match e with
    | .Call (.Name y _) (e0 :: er) [] _ => (match biN b with
      | some (_, n) => decide (y = PySem.Str.ofString n) && hasB t y && chEs es t (e0 :: er) && decide (esLen es = biA b)
      | none => (match biI b, er with
        | some n, [.Name z _] => decide (y = ("isinstance" : Str)) && hasB t y && decide (z = PySem.Str.ofString n) && hasB t z && chEs es t [e0]
        | _, _ => false))
    | _ => false
  | .mt m a es => fun t e => match e with | .Call (.Attribute (.Name x p3) y p2) [e0] [] p4 => decide (y = ("index" : Str)) && isVarE a && chE a t (.Name x p3) && chEs es t [e0] && (p2.endLine == p4.line) | _ => false
  | .pop _ _ => fun _ _ => false
  | .d0 => fun _ e => match e with | .Dict [] [] _ => true | _ => false
  | .d1 _ _ => fun _ _ => false
  | .compM _ _ _ _ _ => fun _ _ => false
  | .srtS a => fun t e => match e with | .Call (.Name y _) [.Call (.Name z _) [e0] [] _] [] _ => decide (y = ("sorted" : Str)) && hasB t y && decide (z = ("set" : Str)) && hasB t z && chE a t e0 && shp e0 | _ => false
  | .lenS a => fun t e => match e with | .Call (.Name y _) [.Call (.Name z _) [e0] [] _] [] _ => decide (y = ("len" : Str)) && hasB t y && decide (z = ("set" : Str)) && hasB t z && chE a t e0 && shp e0 | _ => false
  | .lr es => fun t e => match e with | .Call (.Name y _) [.Call (.Name z _) [e0] [] _] [] _ => decide (y = ("list" : Str)) && hasB t y && decide (z = ("range" : Str)) && hasB t z && chEs es t [e0] | _ => false
  | .callT x _ i j k => fun t e => match e with | .Call (.Name y _) [.Tuple [.Name a pa, .Name b pb] _ _, .Name c pc] [] _ => decide (x = y) && sGl t.sc x && plainN x && chNm t i (.Name a pa) && chNm t j (.Name b pb) && chNm t k (.Name c pc) | _ => false
def chAn : E S → Sx → List Expr → Bool
  | .an a b => fun t es => match es with | ea :: eb :: r => chE a t ea && (match r with | [] => chE b t eb | _ :: _ => chAn b t (eb :: r)) | _ => false
  | _ => fun _ _ => false
def chOr : E S → Sx → List Expr → Bool
  | .or a b => fun t es => match es with | ea :: eb :: r => chE a t ea && (match r with | [] => chE b t eb | _ :: _ => chOr b t (eb :: r)) | _ => false
  | _ => fun _ _ => false
def chEs : Es S → Sx → List Expr → Bool
  | .nil => fun _ es => match es with | [] => true | _ => false
  | .cons a r => fun t es => match es with | e :: er => chE a t e && shp e && chEs r t er | _ => false
def chP : Es S → Sx → Option Expr → Bool
  | .nil => fun _ e => match e with | none => true | _ => false
  | .cons a _ => fun t e => match e with | some e => chE a t e | _ => false
def chC : Es S → Sx → List Expr → Bool
  | .nil => fun _ e => match e with | [] => true | _ => false
  | .cons a .nil => fun t e => match e with | [e] => chE a t e | _ => false
  | .cons _ (.cons _ _) => fun _ _ => false
def chI : It S → Sx → Expr → Expr → Bool
  | .seq a => fun t _ e => chE a t e
  | .rng es => fun t _ e => match e with | .Call (.Name y _) (e0 :: er) [] _ => decide (y = ("range" : Str)) && hasB t y && chEs es t (e0 :: er) && decide (esLen es ≤ 3) | _ => false
  | .enu a => fun t tg e => match tg, e with | .Tuple _ _ _, .Call (.Name y _) [e0] [] _ => decide (y = ("enumerate" : Str)) && hasB t y && chE a t e0 && shp e0 | _, _ => false
  | .zip a b => fun t tg e => match tg, e with | .Tuple _ _ _, .Call (.Name y _) [e0, e1] [] _ => decide (y = ("zip" : Str)) && hasB t y && chE a t e0 && chE b t e1 && shp e0 && shp e1 | _, _ => false
end
/-- xs.pop(i) -/
def chPop (i : Nat) (a : E S) (t : Sx) (e : Expr) : Bool := match e with
  | .Call (.Attribute (.Name x p3) m p2) [e0] [] p4 => decide (m = ("pop" : Str)) && chNm t i (.Name x p3) && chE a t e0 && shp e0 && (p2.endLine == p4.line)
  | _ => false
/-- [xs.pop(i) for ..] -/
def chCM (own : List Nat) (tg : Tg) (it : It S) (i : Nat) (a : E S) (t : Sx) (e : Expr) : Bool := match e with
  | .ListComp elt [⟨tge, iter, [], z⟩] scope _ => decide (z = 0) && chI it t tge iter && blkC t.N t.sc scope (ownOf t own) && decide ((ownOf t own).map (·.2) = own) && chTg (subT t scope) tg tge && chPop i a (subT t scope) elt && shp iter && tgSub tg own
  | _ => false
/-- an expression of a statement -/
def chM : E S → Sx → Expr → Bool
  | .pop i a, t, e => chPop i a t e
  | .compM own tg it i a, t, e => chCM own tg it i a t e
  | .tp (.cons c (.cons (.compM own tg it i a) .nil)), t, e => (match e with | .Tuple [e1, e2] _ _ => chE c t e1 && chCM own tg it i a t e2 && shp e1 | _ => false)
  | c, t, e => chE c t e
/-! what is asked of the defs that are called -/
mutual
def fnE (G : Str → Summ → Prop) (GE : Str → ESumm S → Prop) (GH : ESumm S → Prop) : E S → Prop
  | .var _ | .non | .bl _ | .int _ | .str _ | .glb _ _ | .d0 => True
  | .op _ a b | .an a b | .or a b | .cmp _ a b | .ix a b | .d1 a b => fnE G GE GH a ∧ fnE G GE GH b
  | .neg a | .nt a | .isn _ a | .isb _ _ a | .rv a | .pop _ a | .srtS a | .lenS a => fnE G GE GH a
  | .ch _ _ a b c => fnE G GE GH a ∧ fnE G GE GH b ∧ fnE G GE GH c
  | .sl a lo hi => fnE G GE GH a ∧ fnEs G GE GH lo ∧ fnEs G GE GH hi
  | .compM _ _ it _ a => fnI G GE GH it ∧ fnE G GE GH a
  | .ls es | .tp es | .lr es => fnEs G GE GH es
  | .rep es b => fnEs G GE GH es ∧ fnE G GE GH b
  | .comp _ _ it c e => fnI G GE GH it ∧ fnEs G GE GH c ∧ fnE G GE GH e
  | .call x φ es => G x φ ∧ fnEs G GE GH es
  | .cal0 x φ => G x φ
  | .callT x φ _ _ _ => G x φ
  | .calE x φ es => GE x φ ∧ fnEs G GE GH es
  | .bi _ es => fnEs G GE GH es
  | .mt _ a es => fnE G GE GH a ∧ fnEs G GE GH es
def fnEs (G : Str → Summ → Prop) (GE : Str → ESumm S → Prop) (GH : ESumm S → Prop) : Es S → Prop
  | .nil => True
  | .cons a r => fnE G GE GH a ∧ fnEs G GE GH r
def fnI (G : Str → Summ → Prop) (GE : Str → ESumm S → Prop) (GH : ESumm S → Prop) : It S → Prop
  | .seq a => fnE G GE GH a
  | .rng es => fnEs G GE GH es
  | .enu a => fnE G GE GH a
  | .zip a b => fnE G GE GH a ∧ fnE G GE GH b
end
end
end Ac
namespace Ac
open PySem PySem.Spec PyProof.Rows L2
structure XC (rm : RM) (X : Cx) (k : Nat) (t : Sx) (cl : Nat → Addr) (W : WN) (G : Str → Summ → Prop) (GE : Str → ESumm rm.S → Prop) (GH : ESumm rm.S → Prop) : Prop where
  calm : X.calm = true
  hN : X.N = t.N
  nd : t.N.Nodup
  hs : X.env.scope = t.sc
  hf : ∀ x, t.fb x = true → X.fn x = true
  bn : ∀ x ∈ t.bn, X.mg x = none
  cn : ∀ x i, t.cn.lookup x = some i → ∃ u, X.mg x = some (.int i u)
  room : Room k X.A
  gd : X.A.guards = some []
  sm : SmB X.base
  tk : Takes X (WXof cl W)
  gp : ∀ x φ, G x φ → GoodP cl X k x φ
  ge : ∀ x φ, GE x φ → GoodE rm cl X k x φ
  gh : ∀ φ, GH φ → HOk rm φ
section
variable {rm : RM} {X : Cx} {k : Nat} {t : Sx} {cl : Nat → Addr} {W : WN} {G : Str → Summ → Prop} {GE : Str → ESumm rm.S → Prop} {GH : ESumm rm.S → Prop}
theorem XC.blk (x : XC rm X k t cl W G GE GH) (s : Shared) (H : Hp) (scope : Scope) (cs : List (Str × Addr)) (C : Addr) (fp : List Addr) : XC rm (X.blk s H scope (compEnvC scope cs C X.env) fp) k (subT t scope) cl W0 G GE GH where
  calm := x.calm
  hN := x.hN
  nd := x.nd
  hs := by
    show relS scope X.env.scope = relS scope t.sc
    rw [x.hs]
  hf := fun _ h => h
  bn := x.bn
  cn := x.cn
  room := x.room
  gd := x.gd
  sm := x.sm
  tk := tk0
  gp := x.gp
  ge := x.ge
  gh := x.gh
theorem XC.vis (x : XC rm X k t cl W G GE GH) {y : Str} (h : sVis t.sc y = true) : Vis X.env.scope y := by
  unfold sVis at h
  rw [x.hs]
  split at h
  · exact .inl ‹_›
  · exact .inr (.inl ‹_›)
  · exact .inr (.inr ‹_›)
  · cases h
theorem XC.gl (x : XC rm X k t cl W G GE GH) {y : Str} (h : sGl t.sc y = true) : Gl X y := by
  unfold sGl at h
  show X.env.scope.names.lookup y = _
  rw [x.hs]
  split at h
  · assumption
  · cases h
theorem XC.sto (x : XC rm X k t cl W G GE GH) {y : Str} (h : sSto t y = true) : Sto X y := by
  unfold sSto at h
  unfold Sto L2.Loc
  rw [x.hs]
  split at h
  · exact ⟨.inl ‹_›, .inr ‹_›⟩
  · exact ⟨.inr ‹_›, .inl (x.hf _ h)⟩
  · cases h
theorem plain3 {y : Str} (h : plainN y = true) : (y == ("__debug__" : Str)) = false ∧ (y == ("__classdict__" : Str)) = false ∧ y ≠ "__name__" := by
  unfold plainN at h
  rw [Bool.and_eq_true, Bool.and_eq_true, Bool.not_eq_true', Bool.not_eq_true', Bool.not_eq_true', decide_eq_false_iff_not] at h
  exact ⟨h.1.1, h.1.2, h.2⟩
theorem XC.nm (x : XC rm X k t cl W G GE GH) {i : Nat} {e : Expr} (h : chNm t i e = true) : ∃ y p, e = .Name y p ∧ PE X e (tVar i) := by
  unfold chNm at h
  split at h
  · rename_i y p
    rw [Bool.and_eq_true, Bool.and_eq_true, decide_eq_true_eq] at h
    obtain ⟨⟨h1, h2⟩, h3⟩ := h
    exact ⟨y, p, rfl, pe_var (by rw [x.hN]; exact h1) (x.vis h2) (plain3 h3).1 (plain3 h3).2.1⟩
  · cases h
theorem XC.hasB (x : XC rm X k t cl W G GE GH) {y : Str} (h : hasB t y = true) : Gl X y ∧ X.mg y = none ∧ y ≠ "__name__" ∧ (y == ("__debug__" : Str)) = false := by
  unfold Ac.hasB at h
  rw [Bool.and_eq_true, Bool.and_eq_true, decide_eq_true_eq] at h
  exact ⟨x.gl h.1.1, x.bn y h.1.2, (plain3 h.2).2.2, (plain3 h.2).1⟩
theorem XC.hu (x : XC rm X k t cl W G GE GH) : X.A.units + 65 < cLine := by
  have := x.room.un
  omega
theorem both {c : E rm.S} {e : Expr} (h : PE X e (rdE W c)) (hv : ∀ i, c ≠ .var i) (ht : tst e = true) : PE X e (rdE W c) ∧ PT X e (rdT W c) := ⟨h, to_test (to_opn h hv) ht⟩
/-- .. as an operand -/
theorem XC.toP (x : XC rm X k t cl W G GE GH) {c : E rm.S} {e : Expr} (hc : chE c t e = true) (h : PE X e (rdE W c)) : PE X e (rdP W c) := by
  cases c with
  | var i =>
    unfold chE at hc
    obtain ⟨y, p, rfl, hv⟩ := x.nm hc
    exact n_varP hv
  | _ => exact to_opn h (fun i e => nomatch e)
theorem csB {b : BI} {T : Bool} {n : String} (hc : X.calm = true) (hg : X.A.guards = some []) (hu : X.A.units + 65 < cLine) (sm : SmB X.base) (h : biN b = some (T, n)) : CallS X (if T then .type n else .builtin n) (biD b) ∧ bootBuiltins (PySem.Str.ofString n) = some (if T then .type n else .builtin n) := by
  cases b <;> unfold biN at h <;> first | (cases h; done) | skip
  all_goals (obtain ⟨rfl, rfl⟩ := Prod.mk.inj (Option.some.inj h))
  · exact ⟨cs_len, PySem.boot_len⟩
  · exact ⟨cs_int2 (call_min2 hc), PyProof.Rows.boot_min⟩
  · exact ⟨cs_int2 (call_max2 hc), PyProof.Rows.boot_max⟩
  · exact ⟨cs_minL hc, PyProof.Rows.boot_min⟩
  · exact ⟨cs_maxL hc, PyProof.Rows.boot_max⟩
  · exact ⟨cs_sum hc, PyProof.Rows.boot_sum⟩
  · exact ⟨cs_sorted, PyProof.Rows.boot_sorted⟩
  · exact ⟨cs_list, PyProof.Rows.boot_list⟩
  · exact ⟨cs_tuple, PyProof.Rows.boot_tuple⟩
  · exact ⟨cs_abs, PyProof.Rows.boot_abs⟩
  · exact ⟨cs_toInt, PyProof.Rows.boot_int⟩
  · exact ⟨cs_toStr, PyProof.Rows.boot_str⟩
  · exact ⟨cs_sortP, PyProof.Rows.boot_sorted⟩
  · exact ⟨cs_dictP hc, PyProof.Rows.boot_dict⟩
  · exact ⟨cs_repr hg hu sm, PyProof.Rows.boot_repr⟩
theorem ciB {b : BI} {n : String} {K : PySem.W.Frag} (h : biI b = some n) : ∃ f, biD b = isD f ∧ (∀ d, PySem.W.kitOne K (.type (tyN d)) (.type n) = some (f d)) ∧ bootBuiltins (PySem.Str.ofString n) = some (.type n) := by
  cases b <;> unfold biI at h <;> first | (cases h; done) | skip
  all_goals (obtain rfl := Option.some.inj h)
  · exact ⟨_, rfl, fun d => (kit_all d).1, PyProof.Rows.boot_int⟩
  · exact ⟨_, rfl, fun d => (kit_all d).2.1, PyProof.Rows.boot_bool⟩
  · exact ⟨_, rfl, fun d => (kit_all d).2.2.1, PyProof.Rows.boot_list⟩
  · exact ⟨_, rfl, fun d => (kit_all d).2.2.2.1, PyProof.Rows.boot_tuple⟩
  · exact ⟨_, rfl, fun d => (kit_all d).2.2.2.2, PyProof.Rows.boot_str⟩
theorem tgS {tg : Tg} {vs : List Nat} (h : tgSub tg vs = true) : tgIn tg vs := by
  cases tg with
  | nm i => unfold tgSub at h; exact (of_decide_eq_true h : i ∈ vs)
  | tp is => unfold tgSub at h; exact fun i hi => of_decide_eq_true (List.all_eq_true.mp h i hi)
theorem XC.tn (x : XC rm X k t cl W G GE GH) : ∀ {is : List Nat} {es : List Expr}, chTn t is es = true → NmOk X es is
  | [], [], _ => .nil
  | [], _ :: _, h => by unfold chTn at h; cases h
  | _ :: _, [], h => by unfold chTn at h; cases h
  | i :: is, e :: es, h => by
    unfold chTn at h
    split at h
    · rename_i z; cases z
    · rename_i a1 a2 y p es' z1 z2
      cases z1
      cases z2
      rw [Bool.and_eq_true, Bool.and_eq_true, decide_eq_true_eq] at h
      exact .cons ⟨y, p, rfl, by rw [x.hN]; exact h.1.1, x.sto h.1.2⟩ (x.tn h.2)
    · cases h
theorem XC.tg (x : XC rm X k t cl W G GE GH) {tg : Tg} {e : Expr} (h : chTg t tg e = true) : PG X e (rdG X.K tg) := by
  unfold chTg at h
  split at h
  · rw [Bool.and_eq_true, decide_eq_true_eq] at h
    have s := x.sto h.2
    exact pg_name (by rw [x.hN]; exact x.nd) (by rw [x.hN]; exact h.1) s.1 s.2
  · exact n_pgT x.calm (by rw [x.hN]; exact x.nd) (x.tn h)
  · cases h
end
end Ac
namespace Ac
open PySem PySem.Spec PyProof.Rows L2
section
variable {rm : RM} {k : Nat} {cl : Nat → Addr} {G : Str → Summ → Prop} {GE : Str → ESumm rm.S → Prop} {GH : ESumm rm.S → Prop}
theorem n_c0 {X : Cx} {W : WN} : PTs X [] (rdC W (.nil : Es rm.S)) := ⟨fun pins s σ H Q I q => by
  obtain ⟨fx, Γ, s', F, A, R, xc, xk, q⟩ := q
  unfold wC at q
  exact pts_nil.run pins s σ H Q I (q H F A R (HX.refl H A) (Sub.refl F))⟩
theorem n_c1 {X : Cx} {W : WN} {c : E rm.S} {r : Es rm.S} {e : Expr} (h : PT X e (rdT W c)) : PTs X [e] (rdC W (.cons c r)) := ⟨fun pins s σ H Q I q => by
  obtain ⟨fx, Γ, s', F, A, R, xc, xk, q⟩ := q
  unfold wC at q
  exact (pts_one h).run pins s σ H Q I ⟨fx, Γ, s', F, A, R, xc, xk, q⟩⟩
theorem shpL_of : ∀ {cs : Es rm.S} {t : Sx} {es : List Expr}, chEs cs t es = true → shpL es = true
  | .nil, t, es, h => by
    unfold chEs at h
    split at h
    · rfl
    · cases h
  | .cons a r, t, es, h => by
    unfold chEs at h
    split at h
    · rw [Bool.and_eq_true, Bool.and_eq_true] at h
      unfold shpL
      rw [List.all_cons, h.1.2]
      exact shpL_of h.2
    · cases h
theorem esLen_of : ∀ {cs : Es rm.S} {t : Sx} {es : List Expr}, chEs cs t es = true → es.length = esLen cs
  | .nil, t, es, h => by
    unfold chEs at h
    split at h
    · rfl
    · cases h
  | .cons a r, t, es, h => by
    unfold chEs at h
    split at h
    · rw [Bool.and_eq_true, Bool.and_eq_true] at h
      unfold esLen
      rw [List.length_cons, esLen_of h.2]
    · cases h
theorem shp3 {e e2 e3 : Expr} (h : shpL [e, e2, e3] = true) : shp e = true ∧ shpL [e2, e3] = true := by
  unfold shpL at h ⊢
  rw [List.all_cons, Bool.and_eq_true] at h
  exact h
theorem shp2 {e e2 : Expr} (h : shpL [e, e2] = true) : shp e = true ∧ shp e2 = true := by
  unfold shpL at h
  rw [List.all_cons, List.all_cons, Bool.and_eq_true, Bool.and_eq_true] at h
  exact ⟨h.1, h.2.1⟩
theorem shp1 {e : Expr} (h : shpL [e] = true) : shp e = true := by
  unfold shpL at h
  rw [List.all_cons, Bool.and_eq_true] at h
  exact h.1
theorem rngI {X : Cx} {t : Sx} {W : WN} {tg e0 : Expr} {er : List Expr} {p p2 : Pos} (es : Es rm.S) (h : chEs es t (e0 :: er) = true) (ha : PA X (e0 :: er) (rdA W es)) (hg : Gl X "range") (hm : X.mg "range" = none) (h3 : esLen es ≤ 3) : PI X tg (.Call (.Name "range" p2) (e0 :: er) [] p) (rdI W (.rng es)) := by
  have sl := shpL_of h
  have ln := esLen_of h
  match es, er, h, ha, sl, ln, h3 with
  | .nil, _, _, _, _, ln, _ => cases ln
  | .cons a .nil, [], _, ha, sl, _, _ => exact n_iRng1 hg hm ha (shp1 sl)
  | .cons a (.cons b .nil), [e1], _, ha, sl, _, _ => exact n_iRng2 hg hm ha (shp2 sl).1 (shp2 sl).2
  | .cons a (.cons b (.cons c .nil)), [e1, e2], _, ha, sl, _, _ => exact n_iRng3 hg hm ha (shp3 sl).1 (shp3 sl).2
  | .cons a .nil, _ :: _, _, _, _, ln, _ => unfold esLen esLen at ln; simp at ln
  | .cons a (.cons b .nil), [], _, _, _, ln, _ => unfold esLen esLen esLen at ln; simp at ln
  | .cons a (.cons b .nil), _ :: _ :: _, _, _, _, ln, _ => unfold esLen esLen esLen at ln; simp at ln
  | .cons a (.cons b (.cons c .nil)), [], _, _, _, ln, _ => unfold esLen esLen esLen esLen at ln; simp at ln
  | .cons a (.cons b (.cons c .nil)), [_], _, _, _, ln, _ => unfold esLen esLen esLen esLen at ln; simp at ln
  | .cons a (.cons b (.cons c .nil)), _ :: _ :: _ :: _, _, _, _, ln, _ => unfold esLen esLen esLen esLen at ln; simp at ln
  | .cons a (.cons b (.cons c (.cons d r))), _, _, _, _, _, h3 => unfold esLen esLen esLen esLen at h3; omega
theorem rngJ {X : Cx} {t : Sx} {W : WN} {tg e0 : Expr} {er : List Expr} {p p2 : Pos} (es : Es rm.S) (h : chEs es t (e0 :: er) = true) (ha : PA X (e0 :: er) (rdA W es)) (hg : Gl X "range") (hm : X.mg "range" = none) (h3 : esLen es ≤ 3) : PI X tg (.Call (.Name "range" p2) (e0 :: er) [] p) (rdJ W (.rng es)) := by
  have sl := shpL_of h
  have ln := esLen_of h
  match es, er, h, ha, sl, ln, h3 with
  | .nil, _, _, _, _, ln, _ => cases ln
  | .cons a .nil, [], _, ha, sl, _, _ => exact n_jRng1 hg hm ha (shp1 sl)
  | .cons a (.cons b .nil), [e1], _, ha, sl, _, _ => exact n_jRng2 hg hm ha (shp2 sl).1 (shp2 sl).2
  | .cons a (.cons b (.cons c .nil)), [e1, e2], _, ha, sl, _, _ => exact n_jRng3 hg hm ha (shp3 sl).1 (shp3 sl).2
  | .cons a .nil, _ :: _, _, _, _, ln, _ => unfold esLen esLen at ln; simp at ln
  | .cons a (.cons b .nil), [], _, _, _, ln, _ => unfold esLen esLen esLen at ln; simp at ln
  | .cons a (.cons b .nil), _ :: _ :: _, _, _, _, ln, _ => unfold esLen esLen esLen at ln; simp at ln
  | .cons a (.cons b (.cons c .nil)), [], _, _, _, ln, _ => unfold esLen esLen esLen esLen at ln; simp at ln
  | .cons a (.cons b (.cons c .nil)), [_], _, _, _, ln, _ => unfold esLen esLen esLen esLen at ln; simp at ln
  | .cons a (.cons b (.cons c .nil)), _ :: _ :: _ :: _, _, _, _, ln, _ => unfold esLen esLen esLen esLen at ln; simp at ln
  | .cons a (.cons b (.cons c (.cons d r))), _, _, _, _, _, h3 => unfold esLen esLen esLen esLen at h3; omega
theorem own_ix {t : Sx} {own : List Nat} {scope : Scope} (h : blkC t.N t.sc scope (ownOf t own) = true) : BlkOk t.N t.sc scope (ownOf t own) := blkOk_by h
mutual
theorem sndE : ∀ (c : E rm.S) {X : Cx} {t : Sx} {W : WN} {e : Expr}, XC rm X k t cl W G GE GH → chE c t e = true → fnE G GE GH c → PE X e (rdE W c) ∧ PT X e (rdT W c)
  | .var i, X, t, W, e, x, h, _ => by
    unfold chE at h
    obtain ⟨y, p, rfl, hv⟩ := x.nm h
    exact ⟨n_varE hv, to_test (n_varP hv) rfl⟩
  | .non, X, t, W, e, x, h, _ => by
    unfold chE at h
    split at h
    · exact both (n_cst pe_non (fun F => .non) (fun xc Γ s Q => by unfold wE; rfl)) (fun i e => nomatch e) rfl
    · cases h
  | .bl b, X, t, W, e, x, h, _ => by
    unfold chE at h
    split at h
    · obtain rfl := of_decide_eq_true h
      exact both (n_cst pe_bl (fun F => .bl _) (fun xc Γ s Q => by unfold wE; rfl)) (fun i e => nomatch e) rfl
    · cases h
  | .int b, X, t, W, e, x, h, _ => by
    unfold chE at h
    split at h
    · obtain rfl := of_decide_eq_true h
      exact both (n_cst pe_int (fun F => .int _) (fun xc Γ s Q => by unfold wE; rfl)) (fun i e => nomatch e) rfl
    · cases h
  | .str b, X, t, W, e, x, h, _ => by
    unfold chE at h
    split at h
    · obtain rfl := of_decide_eq_true h
      exact both (n_cst pe_str (fun F => .str _) (fun xc Γ s Q => by unfold wE; rfl)) (fun i e => nomatch e) rfl
    · cases h
  | .glb y i, X, t, W, e, x, h, _ => by
    unfold chE at h
    split at h
    · simp only [Bool.and_eq_true, decide_eq_true_eq] at h
      obtain ⟨⟨⟨rfl, h2⟩, h3⟩, h4⟩ := h
      obtain ⟨u, hu⟩ := x.cn _ _ h3
      exact both (n_cst (pe_glob (v := .int i) (x.gl h2) hu ⟨u, rfl⟩ (plain3 h4).1) (fun F => .int i) (fun xc Γ s Q => by unfold wE; rfl)) (fun i e => nomatch e) rfl
    · cases h
  | .op o a b, X, t, W, e, x, h, f => by
    unfold chE at h
    unfold fnE at f
    split at h
    · simp only [Bool.and_eq_true, decide_eq_true_eq] at h
      obtain ⟨⟨rfl, h1⟩, h2⟩ := h
      exact both (n_op (x.toP h1 (sndE a x h1 f.1).1) (x.toP h2 (sndE b x h2 f.2).1)) (fun i e => nomatch e) rfl
    · cases h
  | .neg a, X, t, W, e, x, h, f => by
    unfold chE at h
    unfold fnE at f
    split at h
    · exact both (n_neg (x.toP h (sndE a x h f).1)) (fun i e => nomatch e) rfl
    · cases h
  | .nt a, X, t, W, e, x, h, f => by
    unfold chE at h
    unfold fnE at f
    split at h
    · have s := sndE a x h f
      exact n_nt (x.toP h s.1) s.2
    · cases h
  | .an a b, X, t, W, e, x, h, f => by
    unfold chE at h
    unfold fnE at f
    split at h
    · rename_i ea eb r p
      rw [Bool.and_eq_true] at h
      have s := sndE a x h.1 f.1
      split at h
      · have s2 := sndE b x h.2 f.2
        exact ⟨n_an (x.toP h.1 s.1) (pe_one (x.toP h.2 s2.1)), (n_anT s.2 (pw_and1 s2.2)).pt⟩
      · have s2 := sndAn b x h.2 f.2 p
        exact ⟨n_an (x.toP h.1 s.1) s2.1, (n_anT s.2 s2.2).pt⟩
    · cases h
  | .or a b, X, t, W, e, x, h, f => by
    unfold chE at h
    unfold fnE at f
    split at h
    · rename_i ea eb r p
      rw [Bool.and_eq_true] at h
      have s := sndE a x h.1 f.1
      split at h
      · have s2 := sndE b x h.2 f.2
        exact ⟨n_or (x.toP h.1 s.1) (pe_one (x.toP h.2 s2.1)), (n_orT s.2 (pw_or1 s2.2)).pt⟩
      · have s2 := sndOr b x h.2 f.2 p
        exact ⟨n_or (x.toP h.1 s.1) s2.1, (n_orT s.2 s2.2).pt⟩
    · cases h
  | .cmp o a b, X, t, W, e, x, h, f => by
    unfold chE at h
    unfold fnE at f
    split at h
    · simp only [Bool.and_eq_true, decide_eq_true_eq] at h
      obtain ⟨⟨⟨rfl, h1⟩, h2⟩, h3⟩ := h
      exact n_cmp x.hu (x.toP h1 (sndE a x h1 f.1).1) (x.toP h2 (sndE b x h2 f.2).1) (mark1 h3)
    · cases h
  | .ch o o' a b c, X, t, W, e, x, h, f => by
    unfold chE at h
    unfold fnE at f
    split at h
    · simp only [Bool.and_eq_true, decide_eq_true_eq] at h
      obtain ⟨⟨⟨⟨⟨rfl, rfl⟩, h1⟩, h2⟩, h3⟩, h4⟩ := h
      exact n_ch x.hu (x.toP h1 (sndE a x h1 f.1).1) (x.toP h2 (sndE b x h2 f.2.1).1) (x.toP h3 (sndE c x h3 f.2.2).1) (by rw [Bool.not_eq_true'] at h4; exact h4)
    · cases h
  | .isn pz a, X, t, W, e, x, h, f => by
    unfold chE at h
    unfold fnE at f
    split at h
    · simp only [Bool.and_eq_true, decide_eq_true_eq] at h
      obtain ⟨rfl, h1⟩ := h
      cases pz with
      | true => exact (n_isn (x.toP h1 (sndE a x h1 f).1)).1
      | false => exact (n_isn (x.toP h1 (sndE a x h1 f).1)).2
    · cases h
  | .isb pz b a, X, t, W, e, x, h, f => by
    unfold chE at h
    unfold fnE at f
    split at h
    · simp only [Bool.and_eq_true, decide_eq_true_eq] at h
      obtain ⟨⟨rfl, rfl⟩, h1⟩ := h
      cases pz with
      | true => exact (n_isb (x.toP h1 (sndE a x h1 f).1)).1
      | false => exact (n_isb (x.toP h1 (sndE a x h1 f).1)).2
    · cases h
  | .ix a b, X, t, W, e, x, h, f => by
    unfold chE at h
    unfold fnE at f
    split at h
    · simp only [Bool.and_eq_true] at h
      obtain ⟨⟨h1, h2⟩, h3⟩ := h
      exact both (n_ix (x.toP h1 (sndE a x h1 f.1).1) (x.toP h2 (sndE b x h2 f.2).1) (plain1 h3)) (fun i e => nomatch e) rfl
    · cases h
  | .sl a lo hi, X, t, W, e, x, h, f => by
    unfold chE at h
    unfold fnE at f
    split at h
    · simp only [Bool.and_eq_true] at h
      obtain ⟨⟨h1, h2⟩, h3⟩ := h
      exact both (n_sl (x.toP h1 (sndE a x h1 f.1).1) (sndPt lo x h2 f.2.1) (sndPt hi x h3 f.2.2)) (fun i e => nomatch e) rfl
    · cases h
  | .rv a, X, t, W, e, x, h, f => by
    unfold chE at h
    unfold fnE at f
    split at h
    · exact both (n_rv (x.toP h (sndE a x h f).1)) (fun i e => nomatch e) rfl
    · cases h
  | .ls es, X, t, W, e, x, h, f => by
    unfold chE at h
    unfold fnE at f
    split at h
    · exact both (n_ls (sndEs es x h f).2.1) (fun i e => nomatch e) rfl
    · cases h
  | .tp es, X, t, W, e, x, h, f => by
    unfold chE at h
    unfold fnE at f
    split at h
    · exact both (n_tp (sndEs es x h f).2.1) (fun i e => nomatch e) rfl
    · cases h
  | .rep es b, X, t, W, e, x, h, f => by
    unfold chE at h
    unfold fnE at f
    split at h
    · rw [Bool.and_eq_true] at h
      exact both (n_rep (sndEs es x h.1 f.1).2.1 (x.toP h.2 (sndE b x h.2 f.2).1)) (fun i e => nomatch e) rfl
    · cases h
  | .comp own tg it c ce, X, t, W, e, x, h, f => by
    unfold chE at h
    unfold fnE at f
    split at h
    · simp only [Bool.and_eq_true, decide_eq_true_eq] at h
      obtain ⟨⟨⟨⟨⟨⟨⟨⟨rfl, h1⟩, h2⟩, h3⟩, h4⟩, h5⟩, h6⟩, h7⟩, h8⟩ := h
      refine both (n_comp (ol := ownOf t own) h3 x.calm (by rw [x.hN]; exact x.nd) (sndI it x h1 f.1) (by rw [x.hN, x.hs]; exact own_ix h2) (fun s H C cs fp => (x.blk s H _ cs C fp).tg h4) (fun s H C cs fp => sndC c (x.blk s H _ cs C fp) h5 f.2.1) (fun s H C cs fp => (sndE ce (x.blk s H _ cs C fp) h6 f.2.2).1) h7 (tgS h8)).1 (fun i e => nomatch e) rfl
    · cases h
  | .call y φ es, X, t, W, e, x, h, f => by
    unfold chE at h
    unfold fnE at f
    split at h
    · simp only [Bool.and_eq_true, decide_eq_true_eq] at h
      obtain ⟨⟨⟨rfl, h1⟩, h2⟩, h3⟩ := h
      exact both (n_call (x.gp _ _ f.1) x.room x.gd (x.gl h1) x.tk (sndEs es x h3 f.2).1 (shpL_of h3) (plain3 h2).1) (fun i e => nomatch e) rfl
    · cases h
  | .cal0 y φ, X, t, W, e, x, h, f => by
    unfold chE at h
    unfold fnE at f
    split at h
    · simp only [Bool.and_eq_true, decide_eq_true_eq] at h
      obtain ⟨⟨rfl, h1⟩, h2⟩ := h
      exact both (n_cal0 (x.gp _ _ f) x.room x.gd (x.gl h1) (plain3 h2).1) (fun i e => nomatch e) rfl
    · cases h
  | .calE y φ es, X, t, W, e, x, h, f => by
    unfold chE at h
    unfold fnE at f
    split at h
    · simp only [Bool.and_eq_true, decide_eq_true_eq] at h
      obtain ⟨⟨⟨rfl, h1⟩, h2⟩, h3⟩ := h
      exact both (n_calE (x.ge _ _ f.1) x.room x.gd (x.gl h1) x.tk (sndEs es x h3 f.2).2.2 (shpL_of h3) (plain3 h2).1) (fun i e => nomatch e) rfl
    · cases h
  | .bi b es, X, t, W, e, x, h, f => by
    unfold chE at h
    unfold fnE at f
    split at h
    · split at h
      · rename_i T n hb
        simp only [Bool.and_eq_true, decide_eq_true_eq] at h
        obtain ⟨⟨⟨rfl, h1⟩, h2⟩, h3⟩ := h
        obtain ⟨g1, g2, g3, g4⟩ := x.hasB h1
        obtain ⟨q1, q2⟩ := csB (X := X) x.calm x.gd x.hu x.sm hb
        cases T with
        | true => exact both (n_biT q1 g1 g2 q2 (sndEs es x h2 f).1 (shpL_of h2) g3 g4) (fun i e => nomatch e) rfl
        | false => exact both (n_biB q1 g1 g2 q2 (sndEs es x h2 f).1 (shpL_of h2) g3 g4) (fun i e => nomatch e) rfl
      · split at h
        · rename_i n z p hb
          simp only [Bool.and_eq_true, decide_eq_true_eq] at h
          obtain ⟨⟨⟨⟨rfl, h1⟩, rfl⟩, h2⟩, h3⟩ := h
          obtain ⟨g1, g2, g3, g4⟩ := x.hasB h1
          obtain ⟨w1, w2, w3, w4⟩ := x.hasB h2
          obtain ⟨fn, q1, q2, q3⟩ := ciB (K := X.K) hb
          have sl := shpL_of h3
          have ln := esLen_of h3
          cases es with
          | nil => cases ln
          | cons a r =>
            cases r with
            | cons _ _ => unfold esLen esLen at ln; cases ln
            | nil =>
              unfold chEs at h3
              simp only [Bool.and_eq_true] at h3
              unfold fnEs at f
              exact both (n_isi q1 q2 g1 g2 (x.toP h3.1.1 (sndE a x h3.1.1 f.1).1) h3.1.2 (pe_bltn w1 w2 q3 rfl w3 w4)) (fun i e => nomatch e) rfl
        · cases h
    · cases h
  | .mt m a es, X, t, W, e, x, h, f => by
    unfold chE at h
    unfold fnE at f
    split at h
    · simp only [Bool.and_eq_true, decide_eq_true_eq] at h
      obtain ⟨⟨⟨⟨rfl, h0⟩, h1⟩, h2⟩, h4⟩ := h
      have hv := x.toP h1 (sndE a x h1 f.1).1
      have sl := shpL_of h2
      have ln := esLen_of h2
      cases es with
      | nil => cases ln
      | cons c r =>
        cases r with
        | cons _ _ => unfold esLen esLen at ln; cases ln
        | nil =>
          unfold chEs at h2
          simp only [Bool.and_eq_true] at h2
          unfold fnEs at f
          have hc := x.toP h2.1.1 (sndE c x h2.1.1 f.2.1).1
          cases a with
          | var i =>
            cases m
            exact both (n_index hv hc h2.1.2 h4) (fun i e => nomatch e) rfl
          | _ => cases h0
    · cases h
  | .pop _ _, X, t, W, e, x, h, f => by
    unfold chE at h
    cases h
  | .d0, X, t, W, e, x, h, _ => by
    unfold chE at h
    split at h
    · exact both n_d0 (fun i e => nomatch e) rfl
    · cases h
  | .d1 _ _, X, t, W, e, x, h, f => by
    unfold chE at h
    cases h
  | .compM _ _ _ _ _, X, t, W, e, x, h, f => by
    unfold chE at h
    cases h
  | .srtS a, X, t, W, e, x, h, f => by
    unfold chE at h
    unfold fnE at f
    split at h
    · simp only [Bool.and_eq_true, decide_eq_true_eq] at h
      obtain ⟨⟨⟨⟨⟨rfl, h1⟩, rfl⟩, h2⟩, h3⟩, h4⟩ := h
      obtain ⟨g1, g2, _, _⟩ := x.hasB h1
      obtain ⟨g3, g4, _, _⟩ := x.hasB h2
      exact both (n_srtS x.calm g1 g2 g3 g4 (x.toP h3 (sndE a x h3 f).1) h4) (fun i e => nomatch e) rfl
    · cases h
  | .lenS a, X, t, W, e, x, h, f => by
    unfold chE at h
    unfold fnE at f
    split at h
    · simp only [Bool.and_eq_true, decide_eq_true_eq] at h
      obtain ⟨⟨⟨⟨⟨rfl, h1⟩, rfl⟩, h2⟩, h3⟩, h4⟩ := h
      obtain ⟨g1, g2, _, _⟩ := x.hasB h1
      obtain ⟨g3, g4, _, _⟩ := x.hasB h2
      exact both (n_lenS x.calm g1 g2 g3 g4 (x.toP h3 (sndE a x h3 f).1) h4) (fun i e => nomatch e) rfl
    · cases h
  | .lr es, X, t, W, e, x, h, f => by
    unfold chE at h
    unfold fnE at f
    split at h
    · simp only [Bool.and_eq_true, decide_eq_true_eq] at h
      obtain ⟨⟨⟨⟨rfl, h1⟩, rfl⟩, h2⟩, h3⟩ := h
      obtain ⟨g1, g2, _, _⟩ := x.hasB h1
      obtain ⟨g3, g4, _, _⟩ := x.hasB h2
      have ln := esLen_of h3
      cases es with
      | nil => cases ln
      | cons c r =>
        cases r with
        | cons _ _ => unfold esLen esLen at ln; cases ln
        | nil =>
          unfold chEs at h3
          simp only [Bool.and_eq_true] at h3
          unfold fnEs at f
          exact both (n_lr x.calm g1 g2 g3 g4 (x.toP h3.1.1 (sndE c x h3.1.1 f.1).1) h3.1.2) (fun i e => nomatch e) rfl
    · cases h
  | .callT y φ i j l, X, t, W, e, x, h, f => by
    unfold chE at h
    unfold fnE at f
    split at h
    · simp only [Bool.and_eq_true, decide_eq_true_eq] at h
      obtain ⟨⟨⟨⟨⟨rfl, h1⟩, h2⟩, h3⟩, h4⟩, h5⟩ := h
      obtain ⟨_, _, e1, v1⟩ := x.nm h3
      obtain ⟨_, _, e2, v2⟩ := x.nm h4
      obtain ⟨_, _, e3, v3⟩ := x.nm h5
      exact both (n_callT (x.gp _ _ f) x.room x.gd (x.gl h1) x.tk v1 v2 v3 (plain3 h2).1) (fun i e => nomatch e) rfl
    · cases h
theorem sndAn : ∀ (c : E rm.S) {X : Cx} {t : Sx} {W : WN} {es : List Expr}, XC rm X k t cl W G GE GH → chAn c t es = true → fnE G GE GH c → ∀ p, PE X (.BoolOp .And es p) (rdP W c) ∧ PW X (.BoolOp .And es p) (rdT W c)
  | .an a b, X, t, W, e, x, h, f => fun p => by
    unfold chAn at h
    unfold fnE at f
    split at h
    · rename_i ea eb r
      rw [Bool.and_eq_true] at h
      have s := sndE a x h.1 f.1
      split at h
      · have s2 := sndE b x h.2 f.2
        exact ⟨to_opn (n_an (x.toP h.1 s.1) (pe_one (x.toP h.2 s2.1))) (fun i e => nomatch e), n_anT s.2 (pw_and1 s2.2)⟩
      · have s2 := sndAn b x h.2 f.2 p
        exact ⟨to_opn (n_an (x.toP h.1 s.1) s2.1) (fun i e => nomatch e), n_anT s.2 s2.2⟩
    · cases h
  | .var _, _, _, _, _, _, h, _ | .non, _, _, _, _, _, h, _ | .bl _, _, _, _, _, _, h, _ | .int _, _, _, _, _, _, h, _ | .str _, _, _, _, _, _, h, _ | .glb _ _, _, _, _, _, _, h, _ | .op _ _ _, _, _, _, _, _, h, _ | .neg _, _, _, _, _, _, h, _
  | .nt _, _, _, _, _, _, h, _ | .or _ _, _, _, _, _, _, h, _ | .cmp _ _ _, _, _, _, _, _, h, _ | .ch _ _ _ _ _, _, _, _, _, _, h, _ | .isn _ _, _, _, _, _, _, h, _ | .isb _ _ _, _, _, _, _, _, h, _ | .ix _ _, _, _, _, _, _, h, _ | .sl _ _ _, _, _, _, _, _, h, _
  | .rv _, _, _, _, _, _, h, _ | .ls _, _, _, _, _, _, h, _ | .tp _, _, _, _, _, _, h, _ | .rep _ _, _, _, _, _, _, h, _ | .comp _ _ _ _ _, _, _, _, _, _, h, _ | .call _ _ _, _, _, _, _, _, h, _ | .cal0 _ _, _, _, _, _, _, h, _ | .calE _ _ _, _, _, _, _, _, h, _
  | .bi _ _, _, _, _, _, _, h, _ | .mt _ _ _, _, _, _, _, _, h, _ | .pop _ _, _, _, _, _, _, h, _ | .d0, _, _, _, _, _, h, _ | .d1 _ _, _, _, _, _, _, h, _ | .compM _ _ _ _ _, _, _, _, _, _, h, _ | .srtS _, _, _, _, _, _, h, _ | .lenS _, _, _, _, _, _, h, _ | .lr _, _, _, _, _, _, h, _ | .callT _ _ _ _ _, _, _, _, _, _, h, _ => by unfold chAn at h; cases h
theorem sndOr : ∀ (c : E rm.S) {X : Cx} {t : Sx} {W : WN} {es : List Expr}, XC rm X k t cl W G GE GH → chOr c t es = true → fnE G GE GH c → ∀ p, PE X (.BoolOp .Or es p) (rdP W c) ∧ PW X (.BoolOp .Or es p) (rdT W c)
  | .or a b, X, t, W, e, x, h, f => fun p => by
    unfold chOr at h
    unfold fnE at f
    split at h
    · rename_i ea eb r
      rw [Bool.and_eq_true] at h
      have s := sndE a x h.1 f.1
      split at h
      · have s2 := sndE b x h.2 f.2
        exact ⟨to_opn (n_or (x.toP h.1 s.1) (pe_one (x.toP h.2 s2.1))) (fun i e => nomatch e), n_orT s.2 (pw_or1 s2.2)⟩
      · have s2 := sndOr b x h.2 f.2 p
        exact ⟨to_opn (n_or (x.toP h.1 s.1) s2.1) (fun i e => nomatch e), n_orT s.2 s2.2⟩
    · cases h
  | .var _, _, _, _, _, _, h, _ | .non, _, _, _, _, _, h, _ | .bl _, _, _, _, _, _, h, _ | .int _, _, _, _, _, _, h, _ | .str _, _, _, _, _, _, h, _ | .glb _ _, _, _, _, _, _, h, _ | .op _ _ _, _, _, _, _, _, h, _ | .neg _, _, _, _, _, _, h, _
  | .nt _, _, _, _, _, _, h, _ | .an _ _, _, _, _, _, _, h, _ | .cmp _ _ _, _, _, _, _, _, h, _ | .ch _ _ _ _ _, _, _, _, _, _, h, _ | .isn _ _, _, _, _, _, _, h, _ | .isb _ _ _, _, _, _, _, _, h, _ | .ix _ _, _, _, _, _, _, h, _ | .sl _ _ _, _, _, _, _, _, h, _
  | .rv _, _, _, _, _, _, h, _ | .ls _, _, _, _, _, _, h, _ | .tp _, _, _, _, _, _, h, _ | .rep _ _, _, _, _, _, _, h, _ | .comp _ _ _ _ _, _, _, _, _, _, h, _ | .call _ _ _, _, _, _, _, _, h, _ | .cal0 _ _, _, _, _, _, _, h, _ | .calE _ _ _, _, _, _, _, _, h, _
  | .bi _ _, _, _, _, _, _, h, _ | .mt _ _ _, _, _, _, _, _, h, _ | .pop _ _, _, _, _, _, _, h, _ | .d0, _, _, _, _, _, h, _ | .d1 _ _, _, _, _, _, _, h, _ | .compM _ _ _ _ _, _, _, _, _, _, h, _ | .srtS _, _, _, _, _, _, h, _ | .lenS _, _, _, _, _, _, h, _ | .lr _, _, _, _, _, _, h, _ | .callT _ _ _ _ _, _, _, _, _, _, h, _ => by unfold chOr at h; cases h
theorem sndEs : ∀ (c : Es rm.S) {X : Cx} {t : Sx} {W : WN} {es : List Expr}, XC rm X k t cl W G GE GH → chEs c t es = true → fnEs G GE GH c → PA X es (rdA W c) ∧ PA X es (rdX W c) ∧ PA X es (rdV W c)
  | .nil, X, t, W, es, x, h, _ => by
    unfold chEs at h
    split at h
    · exact ⟨n_a0, n_x0, n_v0⟩
    · cases h
  | .cons a r, X, t, W, es, x, h, f => by
    unfold chEs at h
    unfold fnEs at f
    split at h
    · rw [Bool.and_eq_true, Bool.and_eq_true] at h
      have s := sndE a x h.1.1 f.1
      have s2 := sndEs r x h.2 f.2
      exact ⟨n_a1 (x.toP h.1.1 s.1) s2.1 h.1.2, n_x1 s.1 s2.2.1 h.1.2, n_v1 s.1 s2.2.2 h.1.2⟩
    · cases h
theorem sndPt : ∀ (c : Es rm.S) {X : Cx} {t : Sx} {W : WN} {e : Option Expr}, XC rm X k t cl W G GE GH → chP c t e = true → fnEs G GE GH c → PO X e (rdPart W c)
  | .nil, X, t, W, es, x, h, _ => by
    unfold chP at h
    split at h
    · exact n_part0
    · cases h
  | .cons a r, X, t, W, es, x, h, f => by
    unfold chP at h
    unfold fnEs at f
    split at h
    · exact n_part1 (x.toP h (sndE a x h f.1).1)
    · cases h
theorem sndC : ∀ (c : Es rm.S) {X : Cx} {t : Sx} {W : WN} {es : List Expr}, XC rm X k t cl W G GE GH → chC c t es = true → fnEs G GE GH c → PTs X es (rdC W c)
  | .nil, X, t, W, es, x, h, _ => by
    unfold chC at h
    split at h
    · exact n_c0
    · cases h
  | .cons a .nil, X, t, W, es, x, h, f => by
    unfold chC at h
    unfold fnEs at f
    split at h
    · exact n_c1 (sndE a x h f.1).2
    · cases h
  | .cons _ (.cons _ _), X, t, W, es, x, h, f => by
    unfold chC at h
    cases h
theorem sndI : ∀ (c : It rm.S) {X : Cx} {t : Sx} {W : WN} {tg e : Expr}, XC rm X k t cl W G GE GH → chI c t tg e = true → fnI G GE GH c → PI X tg e (rdI W c)
  | .seq a, X, t, W, tg, e, x, h, f => by
    unfold chI at h
    unfold fnI at f
    exact n_iSeq (x.toP h (sndE a x h f).1)
  | .rng es, X, t, W, tg, e, x, h, f => by
    unfold chI at h
    unfold fnI at f
    split at h
    · simp only [Bool.and_eq_true, decide_eq_true_eq] at h
      obtain ⟨⟨⟨rfl, h1⟩, h2⟩, h3⟩ := h
      obtain ⟨g1, g2, g3, g4⟩ := x.hasB h1
      have s := (sndEs es x h2 f).1
      have sl := shpL_of h2
      exact rngI es h2 s g1 g2 h3
    · cases h
  | .enu a, X, t, W, tg, e, x, h, f => by
    unfold chI at h
    unfold fnI at f
    split at h
    · simp only [Bool.and_eq_true, decide_eq_true_eq] at h
      obtain ⟨⟨⟨rfl, h1⟩, h2⟩, h3⟩ := h
      obtain ⟨g1, g2, g3, g4⟩ := x.hasB h1
      exact n_iEnu g1 g2 (x.toP h2 (sndE a x h2 f).1) h3
    · cases h
  | .zip a b, X, t, W, tg, e, x, h, f => by
    unfold chI at h
    unfold fnI at f
    split at h
    · simp only [Bool.and_eq_true, decide_eq_true_eq] at h
      obtain ⟨⟨⟨⟨⟨rfl, h1⟩, h2⟩, h3⟩, h4⟩, h5⟩ := h
      obtain ⟨g1, g2, g3, g4⟩ := x.hasB h1
      exact n_iZip g1 g2 (x.toP h2 (sndE a x h2 f.1).1) (x.toP h3 (sndE b x h3 f.2).1) h4 h5
    · cases h
end
end
end Ac
namespace Ac
open PySem PySem.Spec PyProof.Rows L2
/-! ### the checker of statements -/
def swc (sc : Scope) (y : Str) (py p : Pos) (scope : Scope) : Bool := (if sc.kind.isAnnotationScope then ScopeKind.function else sc.kind) == .function && sc.names.lookup y == some .local && py.line == p.line && !(scope.names.any fun (n, k) => n == y && (k == .local || k == .cell))
theorem swc_of {env : Env} {y : Str} {py p : Pos} {scope : Scope} {elt : Expr} {gs : List Comprehension} {l : Nat} : swapsWith (.ListComp elt gs scope p) (some (.Name y py)) l env = pure (swc env.scope y py p scope) := rfl
def swok (sc : Scope) (y : Str) (py : Pos) (e : Expr) : Bool := match e with
  | .ListComp _ _ scope p => !(swc sc y py p scope)
  | e => shp e
section
variable {S : Type}
def ch1 : St1 S → Sx → Stmt → Bool
  | .nop, _, st => (match st with | .Pass _ => true | _ => false)
  | .asg i c, t, st => (match st with | .Assign [.Name x py] e _ => decide (t.N[i]? = some x) && sSto t x && chM c t e && swok t.sc x py e | _ => false)
  | .asgL i c, t, st => (match st with
    | .Assign [.Name x py] (.ListComp elt [⟨tge, iter, ifs, z⟩] scope p) _ => (match c with
      | .comp own tg it cc ce => decide (t.N[i]? = some x) && decide (t.sc.names.lookup x = some .local) && swc t.sc x py p scope &&
        decide (z = 0) && chI it t tge iter && blkC t.N t.sc scope (ownOf t own) && decide ((ownOf t own).map (·.2) = own) && chTg (subT t scope) tg tge && chC cc (subT t scope) ifs && chE ce (subT t scope) elt && shp iter && tgSub tg own
      | .compM own tg it ip a => decide (t.N[i]? = some x) && decide (t.sc.names.lookup x = some .local) && swc t.sc x py p scope &&
        decide (z = 0) && ifs.isEmpty && chI it t tge iter && blkC t.N t.sc scope (ownOf t own) && decide ((ownOf t own).map (·.2) = own) && chTg (subT t scope) tg tge && chPop ip a (subT t scope) elt && shp iter && tgSub tg own
      | _ => false)
    | _ => false)
  | .asgH i _ c, t, st => (match st with | .Assign [.Name x _] (.List [e, .Constant (.int 0) _ _] _) _ => decide (t.N[i]? = some x) && sSto t x && chE c t e && shp e | _ => false)
  | .asgT is c, t, st => (match st with | .Assign [.Tuple xs _ _] e _ => chTn t is xs && chE c t e && shp e && !(isComp e) && !(isTupE e) | _ => false)
  | .app i c, t, st => (match st with | .Expr (.Call (.Attribute e1 m p2) [e] [] p4) _ => chNm t i e1 && decide (m = ("append" : Str)) && chE c t e && shp e && (p2.endLine == p4.line) | _ => false)
  | .ins i j c, t, st => (match st with | .Expr (.Call (.Attribute e1 m p2) [e0, e] [] p4) _ => chNm t i e1 && decide (m = ("insert" : Str)) && chE j t e0 && chE c t e && shp e0 && shp e && (p2.endLine == p4.line) | _ => false)
  | .setI i j c, t, st => (match st with | .Assign [.Subscript e1 e0 _] e _ => chNm t i e1 && chE j t e0 && chE c t e && shp e0 && shp e && !(isComp e) && !(isTupE e) | _ => false)
  | .aug i o c, t, st => (match st with | .AugAssign (.Name x _) o' e _ => decide (t.N[i]? = some x) && sSto t x && decide (o = o') && chE c t e && (decide (o = .Add) || decide (o = .Sub)) | _ => false)
  | .expr c, t, st => (match st with | .Expr e _ => chE c t e && shp e && !(isComp e) | _ => false)
  | .ret c, t, st => (match st with | .Return (some e) _ => chM c t e | _ => false)
  | .brk, _, st => (match st with | .Break _ => true | _ => false)
  | .cnt, _, st => (match st with | .Continue _ => true | _ => false)
  | .never, _, _ => true
  | .raise x _, t, st => (match st with | .Raise (some (.Call (.Name y _) [.Constant (.str _) _ _] [] _)) none _ => decide (x = y) && sGl t.sc x && plainN x | _ => false)
mutual
def chS : Sm S → Sx → Stmt → Bool
  | .one s => fun t st => ch1 s t st
  | .ite c a b => fun t st => match st with | .If e sa sb _ => chE c t e && chSs a t sa && chSs b t sb | _ => false
  | .whl c b => fun t st => match st with | .While e sb [] _ => chE c t e && chSs b t sb | _ => false
  | .for tg it b => fun t st => match st with | .For tge iter sb [] _ => chTg t tg tge && chI it t tge iter && shp iter && chSs b t sb | _ => false
def chSs : Sms S → Sx → List Stmt → Bool
  | .nil => fun _ ss => match ss with | [] => true | _ => false
  | .cons a r => fun t ss => match ss with | s :: sr => chS a t s && chSs r t sr | _ => false
end
def fn1 (G : Str → Summ → Prop) (GE : Str → ESumm S → Prop) (GH : ESumm S → Prop) (GX : Str → Nat → Prop) : St1 S → Prop
  | .asg _ c | .asgL _ c | .asgT _ c | .app _ c | .aug _ _ c | .expr c | .ret c => fnE G GE GH c
  | .ins _ j c | .setI _ j c => fnE G GE GH j ∧ fnE G GE GH c
  | .asgH _ φ c => GH φ ∧ fnE G GE GH c
  | .raise x n => GX x n
  | _ => True
mutual
def fnS (G : Str → Summ → Prop) (GE : Str → ESumm S → Prop) (GH : ESumm S → Prop) (GX : Str → Nat → Prop) : Sm S → Prop
  | .one s => fn1 G GE GH GX s
  | .ite c a b => fnE G GE GH c ∧ fnSs G GE GH GX a ∧ fnSs G GE GH GX b
  | .whl c b => fnE G GE GH c ∧ fnSs G GE GH GX b
  | .for _ it b => fnI G GE GH it ∧ fnSs G GE GH GX b
def fnSs (G : Str → Summ → Prop) (GE : Str → ESumm S → Prop) (GH : ESumm S → Prop) (GX : Str → Nat → Prop) : Sms S → Prop
  | .nil => True
  | .cons a r => fnS G GE GH GX a ∧ fnSs G GE GH GX r
end
end
section
variable {rm : RM} {k : Nat} {cl : Nat → Addr} {G : Str → Summ → Prop} {GE : Str → ESumm rm.S → Prop} {GH : ESumm rm.S → Prop} {GX : Str → Nat → Prop}
theorem swok_of {X : Cx} {t : Sx} {W : WN} {y : Str} {py : Pos} {e : Expr} {l : Nat} (x : XC rm X k t cl W G GE GH) (h : swok t.sc y py e = true) : swapsWith e (some (.Name y py)) l X.env = pure false := by
  cases e with
  | ListComp elt gs scope p =>
    rw [swc_of, x.hs]
    change (!(swc t.sc y py p scope)) = true at h
    rw [Bool.not_eq_true'] at h
    rw [h]
  | _ => exact swap1 h rfl
theorem sndJ (c : It rm.S) {X : Cx} {t : Sx} {W : WN} {tg e : Expr} (x : XC rm X k t cl W G GE GH) (h : chI c t tg e = true) (f : fnI G GE GH c) : PI X tg e (rdJ W c) := by
  cases c with
  | seq a =>
    unfold chI at h
    unfold fnI at f
    exact n_jSeq (sndE a x h f).1
  | rng es =>
    unfold chI at h
    unfold fnI at f
    split at h
    · simp only [Bool.and_eq_true, decide_eq_true_eq] at h
      obtain ⟨⟨⟨rfl, h1⟩, h2⟩, h3⟩ := h
      obtain ⟨g1, g2, g3, g4⟩ := x.hasB h1
      exact rngJ es h2 (sndEs es x h2 f).1 g1 g2 h3
    · cases h
  | enu a =>
    unfold chI at h
    unfold fnI at f
    split at h
    · simp only [Bool.and_eq_true, decide_eq_true_eq] at h
      obtain ⟨⟨⟨rfl, h1⟩, h2⟩, h3⟩ := h
      obtain ⟨g1, g2, g3, g4⟩ := x.hasB h1
      exact n_jEnu g1 g2 (sndE a x h2 f).1 h3
    · cases h
  | zip a b =>
    unfold chI at h
    unfold fnI at f
    split at h
    · simp only [Bool.and_eq_true, decide_eq_true_eq] at h
      obtain ⟨⟨⟨⟨⟨rfl, h1⟩, h2⟩, h3⟩, h4⟩, h5⟩ := h
      obtain ⟨g1, g2, g3, g4⟩ := x.hasB h1
      exact n_jZip g1 g2 (sndE a x h2 f.1).1 (sndE b x h3 f.2).1 h4 h5
    · cases h
theorem sndPop {i : Nat} {a : E rm.S} {X : Cx} {t : Sx} {W : WN} {e : Expr} (x : XC rm X k t cl W G GE GH) (h : chPop i a t e = true) (f : fnE G GE GH a) : PE X e (rdM W (.pop i a)) := by
  unfold chPop at h
  split at h
  · simp only [Bool.and_eq_true, decide_eq_true_eq] at h
    obtain ⟨⟨⟨⟨rfl, h1⟩, h2⟩, h3⟩, h4⟩ := h
    obtain ⟨y, p, e1, hv⟩ := x.nm h1
    cases e1
    exact n_pop hv (x.toP h2 (sndE a x h2 f).1) h3 h4
  · cases h
theorem sndCM {own : List Nat} {tg : Tg} {it : It rm.S} {i : Nat} {a : E rm.S} {X : Cx} {t : Sx} {W : WN} {e : Expr} (x : XC rm X k t cl W G GE GH) (h : chCM own tg it i a t e = true) (f : fnE G GE GH (.compM own tg it i a)) : PE X e (rdM W (.compM own tg it i a)) := by
  unfold chCM at h
  unfold fnE at f
  split at h
  · simp only [Bool.and_eq_true, decide_eq_true_eq] at h
    obtain ⟨⟨⟨⟨⟨⟨⟨rfl, h1⟩, h2⟩, h3⟩, h4⟩, h5⟩, h7⟩, h8⟩ := h
    exact (n_compM (ol := ownOf t own) h3 x.calm (by rw [x.hN]; exact x.nd) (sndJ it x h1 f.1) (by rw [x.hN, x.hs]; exact own_ix h2) (fun s H C cs fp => (x.blk s H _ cs C fp).tg h4) (fun s H C cs fp => sndPop (x.blk s H _ cs C fp) h5 f.2) h7 (tgS h8)).1
  · cases h
theorem sndM (c : E rm.S) {X : Cx} {t : Sx} {W : WN} {e : Expr} (x : XC rm X k t cl W G GE GH) (h : chM c t e = true) (f : fnE G GE GH c) : PE X e (rdM W c) := by
  unfold chM at h
  split at h
  · unfold fnE at f
    exact sndPop x h f
  · exact sndCM x h f
  · split at h
    · simp only [Bool.and_eq_true] at h
      unfold fnE fnEs fnEs at f
      have h2 := sndCM x h.1.2 f.2.1
      refine n_tp2M (sndE _ x h.1.1 f.1).1 h2 h.2 ?_
      have h12 := h.1.2
      unfold chCM at h12
      split at h12
      · rfl
      · cases h12
    · cases h
  · exact to_M (sndE _ x h f).1
theorem snd1 (c : St1 rm.S) {X : Cx} {t : Sx} {W : WN} {st : Stmt} (x : XC rm X k t cl W G GE GH) (gx : ∀ y n, GX y n → ExF X y (cl n)) (h : ch1 c t st = true) (f : fn1 G GE GH GX c) : PS X st (rd1 W c) := by
  have nd : X.N.Nodup := by rw [x.hN]; exact x.nd
  cases c with
  | nop =>
    dsimp only [ch1] at h
    split at h
    · exact n_pass
    · cases h
  | asg i c =>
    dsimp only [ch1] at h
    dsimp only [fn1] at f
    split at h
    · simp only [Bool.and_eq_true, decide_eq_true_eq] at h
      obtain ⟨⟨⟨h1, h2⟩, h3⟩, h4⟩ := h
      exact n_asgM nd (by rw [x.hN]; exact h1) (x.sto h2) (sndM c x h3 f) (swok_of x h4)
    · cases h
  | asgL i c =>
    dsimp only [ch1] at h
    dsimp only [fn1] at f
    split at h
    · split at h
      · unfold fnE at f
        simp only [Bool.and_eq_true, decide_eq_true_eq] at h
        obtain ⟨⟨⟨⟨⟨⟨⟨⟨⟨⟨⟨w1, w2⟩, w3⟩, rfl⟩, h1⟩, h2⟩, h3⟩, h4⟩, h5⟩, h6⟩, h7⟩, h8⟩ := h
        exact n_asgL (ol := ownOf t _) (by rw [x.hN]; exact w1) (by rw [x.hs]; exact w2) (by rw [swc_of, x.hs, w3]) h3 x.calm nd (sndI _ x h1 f.1) (by rw [x.hN, x.hs]; exact own_ix h2) (fun s H C cs fp => (x.blk s H _ cs C fp).tg h4) (fun s H C cs fp => sndC _ (x.blk s H _ cs C fp) h5 f.2.1) (fun s H C cs fp => (sndE _ (x.blk s H _ cs C fp) h6 f.2.2).1) h7 (tgS h8)
      · rename_i ifs _ _ _ _ _ _ _ _ _ _
        unfold fnE at f
        simp only [Bool.and_eq_true, decide_eq_true_eq] at h
        obtain ⟨⟨⟨⟨⟨⟨⟨⟨⟨⟨⟨w1, w2⟩, w3⟩, rfl⟩, w4⟩, h1⟩, h2⟩, h3⟩, h4⟩, h5⟩, h7⟩, h8⟩ := h
        have w5 := List.isEmpty_iff.mp w4
        subst w5
        exact n_asgLM (ol := ownOf t _) (by rw [x.hN]; exact w1) (by rw [x.hs]; exact w2) (by rw [swc_of, x.hs, w3]) h3 x.calm nd (sndJ _ x h1 f.1) (by rw [x.hN, x.hs]; exact own_ix h2) (fun s H C cs fp => (x.blk s H _ cs C fp).tg h4) (fun s H C cs fp => sndPop (x.blk s H _ cs C fp) h5 f.2) h7 (tgS h8)
      · cases h
    · cases h
  | asgH i φ c =>
    dsimp only [ch1] at h
    dsimp only [fn1] at f
    split at h
    · simp only [Bool.and_eq_true, decide_eq_true_eq] at h
      obtain ⟨⟨⟨h1, h2⟩, h3⟩, h4⟩ := h
      exact n_asgH (x.gh _ f.1) nd (by rw [x.hN]; exact h1) (x.sto h2) (sndE c x h3 f.2).1 h4
    · cases h
  | asgT is c =>
    dsimp only [ch1] at h
    dsimp only [fn1] at f
    split at h
    · simp only [Bool.and_eq_true, Bool.not_eq_true'] at h
      obtain ⟨⟨⟨⟨h1, h2⟩, h3⟩, h4⟩, h5⟩ := h
      exact n_asgT x.calm nd (x.tn h1) (sndE c x h2 f).1 h3 h4 h5
    · cases h
  | app i c =>
    dsimp only [ch1] at h
    dsimp only [fn1] at f
    split at h
    · simp only [Bool.and_eq_true, decide_eq_true_eq] at h
      obtain ⟨⟨⟨⟨h1, rfl⟩, h2⟩, h3⟩, h4⟩ := h
      obtain ⟨y, p, rfl, hv⟩ := x.nm h1
      exact n_app hv (sndE c x h2 f).1 h3 h4
    · cases h
  | ins i j c =>
    dsimp only [ch1] at h
    dsimp only [fn1] at f
    split at h
    · simp only [Bool.and_eq_true, decide_eq_true_eq] at h
      obtain ⟨⟨⟨⟨⟨⟨h1, rfl⟩, h2⟩, h3⟩, h4⟩, h5⟩, h6⟩ := h
      obtain ⟨y, p, rfl, hv⟩ := x.nm h1
      exact n_ins hv (x.toP h2 (sndE j x h2 f.1).1) (sndE c x h3 f.2).1 h4 h5 h6
    · cases h
  | setI i j c =>
    dsimp only [ch1] at h
    dsimp only [fn1] at f
    split at h
    · simp only [Bool.and_eq_true, Bool.not_eq_true'] at h
      obtain ⟨⟨⟨⟨⟨⟨h1, h2⟩, h3⟩, h4⟩, h5⟩, h6⟩, h7⟩ := h
      obtain ⟨y, p, rfl, hv⟩ := x.nm h1
      exact n_setI hv (x.toP h2 (sndE j x h2 f.1).1) (sndE c x h3 f.2).1 h4 h5 h6 h7
    · cases h
  | aug i o c =>
    dsimp only [ch1] at h
    dsimp only [fn1] at f
    split at h
    · simp only [Bool.and_eq_true, decide_eq_true_eq, Bool.or_eq_true] at h
      obtain ⟨⟨⟨⟨h1, h2⟩, rfl⟩, h3⟩, h4⟩ := h
      exact n_aug nd (by rw [x.hN]; exact h1) (x.sto h2) (x.toP h3 (sndE c x h3 f).1) h4
    · cases h
  | expr c =>
    dsimp only [ch1] at h
    dsimp only [fn1] at f
    split at h
    · simp only [Bool.and_eq_true, Bool.not_eq_true'] at h
      exact n_expr (sndE c x h.1.1 f).1 h.1.2 h.2
    · cases h
  | ret c =>
    dsimp only [ch1] at h
    dsimp only [fn1] at f
    split at h
    · cases c with
      | var i =>
        unfold chM chE at h
        obtain ⟨y, p, rfl, hv⟩ := x.nm h
        exact n_retV hv
      | _ => exact n_retM (sndM _ x h f) (fun i e => nomatch e)
    · cases h
  | brk =>
    dsimp only [ch1] at h
    split at h
    · exact n_brk
    · cases h
  | cnt =>
    dsimp only [ch1] at h
    split at h
    · exact n_cnt
    · cases h
  | never => exact n_never
  | raise y n =>
    dsimp only [ch1] at h
    dsimp only [fn1] at f
    split at h
    · simp only [Bool.and_eq_true, decide_eq_true_eq] at h
      obtain ⟨⟨rfl, h1⟩, h2⟩ := h
      exact n_raise x.calm x.tk (gx _ _ f) (x.gl h1) (plain3 h2).1
    · cases h
mutual
theorem sndS : ∀ (c : Sm rm.S) {X : Cx} {t : Sx} {W : WN} {st : Stmt}, XC rm X k t cl W G GE GH → (∀ y n, GX y n → ExF X y (cl n)) → PassesOwn (model X.prog X.w) X.A X.env X.xe → chS c t st = true → fnS G GE GH GX c → PS X st (rdS W c)
  | .one s, X, t, W, st, x, gx, hp, h, f => by
    unfold chS at h
    unfold fnS at f
    exact n_one (snd1 s x gx h f)
  | .ite c a b, X, t, W, st, x, gx, hp, h, f => by
    unfold chS at h
    unfold fnS at f
    split at h
    · simp only [Bool.and_eq_true] at h
      exact n_ite (sndE c x h.1.1 f.1).2 (sndSs a x gx hp h.1.2 f.2.1) (sndSs b x gx hp h.2 f.2.2)
    · cases h
  | .whl c b, X, t, W, st, x, gx, hp, h, f => by
    unfold chS at h
    unfold fnS at f
    split at h
    · simp only [Bool.and_eq_true] at h
      exact n_whl hp (sndE c x h.1 f.1).2 (sndSs b x gx hp h.2 f.2)
    · cases h
  | .for tg it b, X, t, W, st, x, gx, hp, h, f => by
    unfold chS at h
    unfold fnS at f
    split at h
    · simp only [Bool.and_eq_true] at h
      exact n_for hp x.calm (sndJ it x h.1.1.2 f.1) (x.tg h.1.1.1) (sndSs b x gx hp h.2 f.2) h.1.2
    · cases h
theorem sndSs : ∀ (c : Sms rm.S) {X : Cx} {t : Sx} {W : WN} {st : List Stmt}, XC rm X k t cl W G GE GH → (∀ y n, GX y n → ExF X y (cl n)) → PassesOwn (model X.prog X.w) X.A X.env X.xe → chSs c t st = true → fnSs G GE GH GX c → PSs X st (rdSs W c)
  | .nil, X, t, W, st, x, gx, hp, h, f => by
    unfold chSs at h
    split at h
    · exact n_nil
    · cases h
  | .cons a r, X, t, W, st, x, gx, hp, h, f => by
    unfold chSs at h
    unfold fnSs at f
    split at h
    · simp only [Bool.and_eq_true] at h
      exact n_cons (sndS a x gx hp h.1 f.1) (sndSs r x gx hp h.2 f.2)
    · cases h
end
end
end Ac
namespace Ac
open PySem PySem.Spec PyProof.Rows L2
/-! ### a def by its tree -/
/-- the names at the entry -/
def entry (n : Nat) (vs : List Val) : Ctx := vs.map some ++ List.replicate (n - vs.length) none
theorem look_get : ∀ {Γ : Ctx} {i : Nat}, look Γ i = (Γ[i]?).bind id
  | [], _ => rfl
  | v :: r, 0 => by cases v <;> rfl
  | _ :: r, i + 1 => by
    show look r i = _
    rw [look_get (Γ := r)]
    rfl
theorem look_entry {n : Nat} {vs : List Val} {i : Nat} {v : Val} (h : look (entry n vs) i = some v) : vs[i]? = some v := by
  rw [look_get] at h
  unfold entry at h
  by_cases hi : i < vs.length
  · rw [List.getElem?_append_left (by simpa using hi), List.getElem?_map] at h
    cases e : vs[i]? with
    | none => rw [e] at h; cases h
    | some w => rw [e] at h; exact h
  · rw [List.getElem?_append_right (by simpa using hi), List.getElem?_replicate] at h
    split at h <;> cases h
theorem start_get {N : List Str} {vs : List V} {i : Nat} {x : V} (h : vs[i]? = some x) : (L2.start N vs)[i]? = some (some x) := by
  have hi : i < vs.length := (List.getElem?_eq_some_iff.mp h).1
  unfold L2.start
  rw [List.getElem?_append_left (by simpa using hi), List.getElem?_map, h]
  rfl
theorem entry_len {N : List Str} {vs : List V} {ws : List Val} (h : vs.length = ws.length) : (entry N.length ws).length = (L2.start N vs).length := by
  unfold entry L2.start
  rw [List.length_append, List.length_append, List.length_map, List.length_map, List.length_replicate, List.length_replicate, h]
def GoodP0 (cl : Nat → Addr) (P : Program) (w : World) (K : PySem.W.Frag) (mg : Str → Option Value) (base : Heap) (k : Nat) (x : Str) (φ : Summ) : Prop := ∃ f fd ps, FnG P w K mg base k f fd ps (spP cl φ) ∧ mg x = some (.ref f) ∧ PySem.W.keepIn K (.ref f) = true ∧ Binds K fd ps []
def GoodE0 (rm : RM) (cl : Nat → Addr) (P : Program) (w : World) (K : PySem.W.Frag) (mg : Str → Option Value) (base : Heap) (k : Nat) (x : Str) (φ : ESumm rm.S) : Prop := ∃ f fd ps, FnG P w K mg base k f fd ps (spE rm cl φ) ∧ mg x = some (.ref f) ∧ PySem.W.keepIn K (.ref f) = true ∧ Binds K fd ps []
theorem GoodP0.mono {cl : Nat → Addr} {P : Program} {w : World} {K : PySem.W.Frag} {mg : Str → Option Value} {base : Heap} {j k : Nat} {x : Str} {φ : Summ} (h : GoodP0 cl P w K mg base j x φ) (hk : j ≤ k) : GoodP0 cl P w K mg base k x φ :=
  let ⟨f, fd, ps, a, b⟩ := h; ⟨f, fd, ps, a.mono hk, b⟩
theorem GoodE0.mono {rm : RM} {cl : Nat → Addr} {P : Program} {w : World} {K : PySem.W.Frag} {mg : Str → Option Value} {base : Heap} {j k : Nat} {x : Str} {φ : ESumm rm.S} (h : GoodE0 rm cl P w K mg base j x φ) (hk : j ≤ k) : GoodE0 rm cl P w K mg base k x φ :=
  let ⟨f, fd, ps, a, b⟩ := h; ⟨f, fd, ps, a.mono hk, b⟩
structure ExF0 (K : PySem.W.Frag) (mg : Str → Option Value) (x : Str) (C : Addr) : Prop where
  mg : mg x = some (.ref C)
  ex : PySem.W.excIn K C [.type "ValueError", .type "Exception", .type "BaseException", .type "object"] "ValueError.__new__" = true
  kp : PySem.W.keepIn K (.ref C) = true
  sb : PySem.W.subIn K (.ref C) (.type "BaseException") = some true
  ty : PySem.W.typeIn K (.ref C) = some (.type "type")
/-- what a law's top has left: by names -/
structure Top (K : PySem.W.Frag) (mg : Str → Option Value) (base : Heap) (bn : List Str) (cn : List (Str × Int)) (GX : Str → Nat → Prop) (cl : Nat → Addr) : Prop where
  sm : SmB base
  bn : ∀ x ∈ bn, mg x = none
  cn : ∀ x i, cn.lookup x = some i → ∃ u, mg x = some (.int i u)
  gx : ∀ x n, GX x n → ExF0 K mg x (cl n)
section
variable {P : Program} {w : World} {K : PySem.W.Frag} {mg : Str → Option Value} {base : Heap} {cl : Nat → Addr} {bn : List Str} {cn : List (Str × Int)} {GX : Str → Nat → Prop}
def txt (N : List Str) (sc : Scope) (bn : List Str) (cn : List (Str × Int)) : Sx := ⟨N, sc, fun _ => true, bn, cn⟩
def fxP (H F : Hp) : Fx rm0 := ⟨fun a => match F a with | none => H a | some _ => none, F, ()⟩
theorem fxP_sub {H F : Hp} {σ : L2.St} {H' F' : Hp} {Γ : Ctx} {s : rm0.S} {A : rm0.A} (fh : Sub F H) (R : SR (fxP H F) σ H' Γ s F' A) : Sub H H' ∧ Sub F F' ∧ Sub F' H' ∧ ∀ a, H a ≠ none → F' a = F a := by
  refine ⟨fun a o e => ?_, R.f0, R.fh, fun a ha => ?_⟩
  · cases q : F a with
    | some u =>
      have := fh a u q
      rw [e] at this
      cases this
      exact R.fh _ _ (R.f0 a _ q)
    | none => exact (R.lk a o (by show (match F a with | none => H a | some _ => none) = some o; rw [q]; exact e)).1
  · cases q : F a with
    | some u => exact R.f0 a u q
    | none =>
      cases e : H a with
      | none => exact absurd e ha
      | some o => exact (R.lk a o (by show (match F a with | none => H a | some _ => none) = some o; rw [q]; exact e)).2.1
theorem fn_good {x : Str} {st : Stmt} {f : Addr} {fd : FuncData} {N ps : List Str} {k : Nat} {φ : Summ} {G : Str → Summ → Prop} (F : Fun K x x st f fd) (hm : mg x = some (.ref f)) (S : FnScope N ps (defScope st)) (hb : Binds K fd ps [])
    (T : Top K mg base bn cn GX cl) (gp : ∀ y ψ, G y ψ → GoodP0 cl P w K mg base k y ψ) (body : Sms rm0.S) (hc : chSs body (txt N (defScope st) bn cn) (defBody st) = true) (hf : fnSs G (fun _ _ => False) (fun _ => False) GX body)
    (hw : ∀ ds Q Y, φ.run ds Q Y → ds.length = ps.length ∧ wSs body (entry N.length (ds.map .dat)) () { nx := fun _ _ => Q (.dat .none), rt := fun v _ => Q v, ex := fun n _ _ => Y n }) : GoodP0 cl P w K mg base (k + 1) x φ := by
  refine ⟨f, fd, ps, fnG_of F S (fun vs H Q E h => ?_) (fun cdv A outer s H vs Q E hr hgd h => ?_), hm, F.kp, hb⟩
  · obtain ⟨F0, ds, fh, rl, q⟩ := h
    rw [rl.length]
    exact (hw ds _ _ q).1
  · obtain ⟨F0, ds, fh, rl, q⟩ := h
    obtain ⟨hl, q⟩ := hw ds _ _ q
    have tk : Takes (cxOf (L2.CX P w) P w K mg base N x (defScope st) f cdv A outer s H E) (fun cls d _ H => E cls d H) := takes_of rfl rfl rfl rfl
    have xx : XC rm0 (cxOf (L2.CX P w) P w K mg base N x (defScope st) f cdv A outer s H E) k (txt N (defScope st) bn cn) cl (fun n _ H' => E (.ref (cl n)) none H') G (fun _ _ => False) (fun _ => False) :=
      { calm := rfl, hN := rfl, nd := S.nd, hs := rfl, hf := fun _ _ => rfl, bn := T.bn, cn := T.cn, room := hr, gd := hgd, sm := T.sm, tk := tk.imp fun c d σ H ⟨n, e1, e2, h⟩ => (by rw [e1, e2]; exact h), gp := gp, ge := fun _ _ h => h.elim, gh := fun _ h => h.elim }
    refine ⟨_, sndSs body xx (fun y n h => let e := T.gx y n h; ⟨e.mg, e.ex, e.kp, e.sb, e.ty⟩) (passes_of rfl) hc hf, ?_⟩
    refine ⟨fxP H F0, entry N.length (ds.map .dat), (), F0, (), ?_, _, ?_, q⟩
    · exact {
        fh := fh
        fz := fun a o e n => n
        f0 := Sub.refl F0
        lk := fun a o e => by
          have e' : (match F0 a with | none => H a | some _ => none) = some o := e
          cases q : F0 a with
          | none => rw [q] at e'; exact ⟨e', rfl, fun n => n⟩
          | some u => rw [q] at e'; cases e'
        a0 := trivial
        ok := trivial
        ln := entry_len (by rw [List.length_map]; exact rl.length)
        sl := fun i v e => by
          have e' := look_entry e
          rw [List.getElem?_map] at e'
          cases q : ds[i]? with
          | none => rw [q] at e'; cases e'
          | some d =>
            rw [q] at e'
            cases e'
            obtain ⟨y, h1, h2⟩ := rl.get q
            exact ⟨y, start_get h1, h2⟩
        dj := fun i j a xs ys e1 e2 s1 s2 => by
          have e' := look_entry e1
          rw [List.getElem?_map] at e'
          cases q : ds[i]? with
          | none => rw [q] at e'; cases e'
          | some d => rw [q] at e'; cases e' }
    · exact {
        nx := fun Γ s σ H' F' A R q => by
          obtain ⟨h1, h2, h3, h4⟩ := fxP_sub fh R
          exact q .non H' F' h1 h2 h3 h4 Rp.non
        rt := fun v y Γ s σ H' F' A R rv q => by
          obtain ⟨h1, h2, h3, h4⟩ := fxP_sub fh R
          refine q y H' F' h1 h2 h3 h4 ?_
          cases v with
          | dat d => exact rv
          | own ys => exact rv.elim
          | hdl n => exact rv.elim
          | new ys =>
            obtain ⟨p, vs, e1, e2, e3, e4, e5, e6, _⟩ := rv
            refine ⟨p, vs, e1, e2, e3, ?_, e6⟩
            have e5' : (match F0 p with | none => H p | some _ => none) = none := e5
            cases q : F0 p with
            | none => rw [q] at e5'; exact e5'
            | some u => rw [h2 p u q] at e3; cases e3
        bk := fun Γ s σ H F A R q => q
        ct := fun Γ s σ H F A R q => q
        ex := fun n Γ s σ H' F' A R q => q H' (fxP_sub fh R).1 }
/-! ### a def with a state -/
noncomputable def fxE (rm : RM) (H F : Hp) (A : rm.A) : Fx rm := ⟨fun a => @ite _ (F a = none ∧ ¬ rm.ft A a) (Classical.propDecidable _) (H a) none, F, A⟩
theorem fxE_L {rm : RM} {H F : Hp} {A : rm.A} {a : Addr} {o : HO} (h : H a = some o) (hf : F a = none) (hn : ¬ rm.ft A a) : (fxE rm H F A).L a = some o := by
  unfold fxE
  show @ite _ (F a = none ∧ ¬ rm.ft A a) (Classical.propDecidable _) (H a) none = some o
  rw [if_pos ⟨hf, hn⟩]
  exact h
theorem fxE_of {rm : RM} {H F : Hp} {A : rm.A} {a : Addr} {o : HO} (h : (fxE rm H F A).L a = some o) : H a = some o ∧ F a = none ∧ ¬ rm.ft A a := by
  have h' : @ite _ (F a = none ∧ ¬ rm.ft A a) (Classical.propDecidable _) (H a) none = some o := h
  by_cases c : F a = none ∧ ¬ rm.ft A a
  · rw [if_pos c] at h'; exact ⟨h', c⟩
  · rw [if_neg c] at h'; cases h'
theorem fxE_sub {rm : RM} {H F : Hp} {A0 : rm.A} {σ : L2.St} {H' F' : Hp} {Γ : Ctx} {s : rm.S} {A : rm.A} (fh : Sub F H) (fz : ∀ a o, F a = some o → ¬ rm.ft A0 a) (R : SR (fxE rm H F A0) σ H' Γ s F' A) :
    HX H A0 H' A ∧ Sub F F' ∧ Sub F' H' ∧ (∀ a o, F' a = some o → ¬ rm.ft A a) ∧ ∀ a, H a ≠ none → ¬ rm.ft A0 a → F' a = F a := by
  refine ⟨⟨R.a0, fun a o e n => ?_⟩, R.f0, R.fh, R.fz, fun a ha n => ?_⟩
  · cases q : F a with
    | some u =>
      have := fh a u q
      rw [e] at this
      cases this
      exact ⟨R.fh _ _ (R.f0 a _ q), R.fz _ _ (R.f0 a _ q)⟩
    | none =>
      obtain ⟨h1, h2, h3⟩ := R.lk a o (fxE_L e q n)
      exact ⟨h1, h3⟩
  · cases q : F a with
    | some u => exact R.f0 a u q
    | none =>
      cases e : H a with
      | none => exact absurd e ha
      | some o => exact (R.lk a o (fxE_L e q n)).2.1
theorem RHL.get {rm : RM} {F : Hp} {A : rm.A} : ∀ {vs : List V} {ws : List Val} {i : Nat} {w : Val}, RHL F A vs ws → ws[i]? = some w → ∃ x, vs[i]? = some x ∧ RH F A x w
  | _, _, _, _, .nil, e => by simp at e
  | _, _, 0, _, .cons h _, e => by simp at e; subst e; exact ⟨_, rfl, h⟩
  | _, _, i + 1, y, .cons _ t, e => by
    obtain ⟨u, h1, h2⟩ := RHL.get (i := i) (w := y) t (by simpa using e)
    exact ⟨u, by simpa using h1, h2⟩
theorem fn_okE {rm : RM} {x : Str} {st : Stmt} {f : Addr} {fd : FuncData} {N ps : List Str} {k : Nat} {φ : ESumm rm.S} {G : Str → Summ → Prop} {GE : Str → ESumm rm.S → Prop} (F : Fun K x x st f fd) (S : FnScope N ps (defScope st))
    (T : Top K mg base bn cn GX cl) (gp : ∀ y ψ, G y ψ → GoodP0 cl P w K mg base k y ψ) (ge : ∀ y ψ, GE y ψ → GoodE0 rm cl P w K mg base k y ψ) (body : Sms rm.S) (hc : chSs body (txt N (defScope st) bn cn) (defBody st) = true) (hf : fnSs G GE (HOk rm) GX body)
    (hw : ∀ ws s Q Y, φ.run ws s Q Y → ws.length = ps.length ∧ wSs body (entry N.length ws) s { nx := fun _ s' => Q (.dat .none) s', rt := fun v s' => Q v s', ex := fun n _ s' => Y n s' }) : FnG P w K mg base (k + 1) f fd ps (spE rm cl φ) := by
  refine fnG_of F S (fun vs H Q E h => ?_) (fun cdv A outer s H vs Q E hr hgd h => ?_)
  · obtain ⟨F0, A0, s0, ws, fh, fz, ok, rl, q⟩ := h
    rw [Paired.length rl]
    exact (hw ws s0 _ _ q).1
  · obtain ⟨F0, A0, s0, ws, fh, fz, ok, rl, q⟩ := h
    obtain ⟨hl, q⟩ := hw ws s0 _ _ q
    have tk : Takes (cxOf (L2.CX P w) P w K mg base N x (defScope st) f cdv A outer s H E) (fun cls d _ H => E cls d H) := takes_of rfl rfl rfl rfl
    have xx : XC rm (cxOf (L2.CX P w) P w K mg base N x (defScope st) f cdv A outer s H E) k (txt N (defScope st) bn cn) cl (fun n _ H' => E (.ref (cl n)) none H') G GE (HOk rm) :=
      { calm := rfl, hN := rfl, nd := S.nd, hs := rfl, hf := fun _ _ => rfl, bn := T.bn, cn := T.cn, room := hr, gd := hgd, sm := T.sm, tk := tk.imp fun c d σ H ⟨n, e1, e2, h⟩ => (by rw [e1, e2]; exact h), gp := gp, ge := ge, gh := fun _ h => h }
    refine ⟨_, sndSs body xx (fun y n h => let e := T.gx y n h; ⟨e.mg, e.ex, e.kp, e.sb, e.ty⟩) (passes_of rfl) hc hf, ?_⟩
    refine ⟨fxE rm H F0 A0, entry N.length ws, s0, F0, A0, ?_, _, ?_, q⟩
    · exact {
        fh := fh
        fz := fz
        f0 := Sub.refl F0
        lk := fun a o e => fxE_of e
        a0 := rm.le_refl A0
        ok := ok
        ln := entry_len (Paired.length rl)
        sl := fun i v e => by
          have e' := look_entry e
          obtain ⟨y, h1, h2⟩ := RHL.get rl e'
          refine ⟨y, start_get h1, ?_⟩
          cases v with
          | dat d => exact h2
          | own _ => exact h2.elim
          | new _ => exact h2.elim
          | hdl n => exact h2
        dj := fun i j a xs ys e1 e2 s1 s2 => by
          have e' := look_entry e1
          obtain ⟨y, h1, h2⟩ := RHL.get rl e'
          exact h2.elim }
    · exact {
        nx := fun Γ s σ H' F' A R q => by
          obtain ⟨h1, h2, h3, h4, h5⟩ := fxE_sub fh fz R
          exact q .non H' F' A h1 h2 h3 h4 h5 R.ok Rp.non
        rt := fun v y Γ s σ H' F' A R rv q => by
          obtain ⟨h1, h2, h3, h4, h5⟩ := fxE_sub fh fz R
          refine q y H' F' A h1 h2 h3 h4 h5 R.ok ?_
          cases v with
          | dat d => exact rv
          | own ys => exact rv.elim
          | hdl n => exact rv
          | new ys =>
            obtain ⟨p, vs, e1, e2, e3, e4, e5, e6, _⟩ := rv
            refine ⟨p, vs, e1, e2, e3, ?_, e4, e6⟩
            cases q : H p with
            | none => rfl
            | some o =>
              have n1 : ¬ rm.ft A0 p := fun n => e4 (rm.le_ft R.a0 n)
              cases z : F0 p with
              | some u => rw [h2 p u z] at e3; cases e3
              | none => rw [fxE_L q z n1] at e5; cases e5
        bk := fun Γ s σ H F A R q => q
        ct := fun Γ s σ H F A R q => q
        ex := fun n Γ s σ H' F' A R q => q H' A (fxE_sub fh fz R).1 R.ok }
theorem fn_goodE {rm : RM} {x : Str} {st : Stmt} {f : Addr} {fd : FuncData} {N ps : List Str} {k : Nat} {φ : ESumm rm.S} {G : Str → Summ → Prop} {GE : Str → ESumm rm.S → Prop} (F : Fun K x x st f fd) (hm : mg x = some (.ref f)) (S : FnScope N ps (defScope st)) (hb : Binds K fd ps [])
    (T : Top K mg base bn cn GX cl) (gp : ∀ y ψ, G y ψ → GoodP0 cl P w K mg base k y ψ) (ge : ∀ y ψ, GE y ψ → GoodE0 rm cl P w K mg base k y ψ) (body : Sms rm.S) (hc : chSs body (txt N (defScope st) bn cn) (defBody st) = true) (hf : fnSs G GE (HOk rm) GX body)
    (hw : ∀ ws s Q Y, φ.run ws s Q Y → ws.length = ps.length ∧ wSs body (entry N.length ws) s { nx := fun _ s' => Q (.dat .none) s', rt := fun v s' => Q v s', ex := fun n _ s' => Y n s' }) : GoodE0 rm cl P w K mg base (k + 1) x φ :=
  ⟨f, fd, ps, fn_okE F S T gp ge body hc hf hw, hm, F.kp, hb⟩
end
end Ac
namespace Ac
open PySem PySem.Spec PyProof.Rows L2
/-! ### data of bounded depth; data whose == is = -/
def scalB : D → Bool
  | .none | .bool _ | .int _ => true
  | .str x => PyData.strOk x
  | _ => false
def okD : Nat → D → Bool
  | 0, d => scalB d
  | k + 1, d => (match d with
    | .list xs => xs.all (okD k)
    | .tuple xs => xs.all (okD k)
    | d => scalB d)
theorem okD_lay : ∀ (k : Nat) (d : D), okD k d = true → d.canLay0 = true ∧ d.depth ≤ k + 1
  | 0, d, h => by cases d <;> simp_all [okD, scalB, PyData.canLay0, PyData.depth]
  | k + 1, .list xs, h => by
    have h' : xs.all (okD k) = true := h
    have : ∀ ys : List D, ys.all (okD k) = true → PyData.canLayAll0 ys = true ∧ PyData.depthAll ys ≤ k + 1 := by
      intro ys
      induction ys with
      | nil => intro _; exact ⟨rfl, Nat.zero_le _⟩
      | cons y r ih =>
        intro h
        rw [List.all_cons, Bool.and_eq_true] at h
        have a := okD_lay k y h.1
        have b := ih h.2
        refine ⟨?_, ?_⟩
        · simp only [PyData.canLayAll0, Bool.and_eq_true]; exact ⟨a.1, b.1⟩
        · simp only [PyData.depthAll]; omega
    have t := this xs h'
    refine ⟨?_, ?_⟩
    · simp only [PyData.canLay0]; exact t.1
    · simp only [PyData.depth]; omega
  | k + 1, .tuple xs, h => by
    have h' : xs.all (okD k) = true := h
    have : ∀ ys : List D, ys.all (okD k) = true → PyData.canLayAll0 ys = true ∧ PyData.depthAll ys ≤ k + 1 := by
      intro ys
      induction ys with
      | nil => intro _; exact ⟨rfl, Nat.zero_le _⟩
      | cons y r ih =>
        intro h
        rw [List.all_cons, Bool.and_eq_true] at h
        have a := okD_lay k y h.1
        have b := ih h.2
        refine ⟨?_, ?_⟩
        · simp only [PyData.canLayAll0, Bool.and_eq_true]; exact ⟨a.1, b.1⟩
        · simp only [PyData.depthAll]; omega
    have t := this xs h'
    refine ⟨?_, ?_⟩
    · simp only [PyData.canLay0]; exact t.1
    · simp only [PyData.depth]; omega
  | k + 1, .none, h => by simp [PyData.canLay0, PyData.depth]
  | k + 1, .bool _, h => by simp [PyData.canLay0, PyData.depth]
  | k + 1, .int _, h => by simp [PyData.canLay0, PyData.depth]
  | k + 1, .str _, h => by
    have h' : PyData.strOk _ = true := h
    simp [PyData.canLay0, PyData.depth, h']
  | k + 1, .dict _, h => by cases h
theorem okD_shaped {k : Nat} {d : D} (h : okD k d = true) (hk : k ≤ 60) : SeqAt.shaped d = true := by
  obtain ⟨a, b⟩ := okD_lay k d h
  unfold SeqAt.shaped
  rw [a, Bool.true_and, decide_eq_true_eq]
  omega
mutual
def clean : D → Bool
  | .none | .int _ | .str _ => true
  | .list xs => cleanL xs
  | .tuple xs => cleanL xs
  | _ => false
def cleanL : List D → Bool
  | [] => true
  | x :: r => clean x && cleanL r
end
mutual
theorem eqv_clean : ∀ (x y : D), clean x = true → clean y = true → (PyData.eqv x y = true ↔ x = y)
  | .none, y, _, hy => by cases y <;> simp_all [PyData.eqv, clean]
  | .bool _, _, hx, _ => by simp [clean] at hx
  | .int i, y, _, hy => by cases y <;> simp_all [PyData.eqv, clean]
  | .str i, y, _, hy => by cases y <;> simp_all [PyData.eqv, clean]
  | .dict _, _, hx, _ => by simp [clean] at hx
  | .list xs, y, hx, hy => by
    cases y with
    | list ys =>
      simp only [clean] at hx hy
      simp only [PyData.eqv, PyData.list.injEq]
      exact eqvAll_clean xs ys hx hy
    | _ => simp_all [PyData.eqv, clean]
  | .tuple xs, y, hx, hy => by
    cases y with
    | tuple ys =>
      simp only [clean] at hx hy
      simp only [PyData.eqv, PyData.tuple.injEq]
      exact eqvAll_clean xs ys hx hy
    | _ => simp_all [PyData.eqv, clean]
theorem eqvAll_clean : ∀ (x y : List D), cleanL x = true → cleanL y = true → (PyData.eqvAll x y = true ↔ x = y)
  | [], [], _, _ => by simp [PyData.eqvAll]
  | [], _ :: _, _, _ => by simp [PyData.eqvAll]
  | _ :: _, [], _, _ => by simp [PyData.eqvAll]
  | x :: xs, y :: ys, hx, hy => by
    simp only [cleanL, Bool.and_eq_true] at hx hy
    simp only [PyData.eqvAll, Bool.and_eq_true, List.cons.injEq]
    rw [eqv_clean x y hx.1 hy.1, eqvAll_clean xs ys hx.2 hy.2]
end
theorem cleanL_all {xs : List D} (h : ∀ x ∈ xs, clean x = true) : cleanL xs = true := by
  induction xs with
  | nil => rfl
  | cons x r ih =>
    simp only [cleanL, Bool.and_eq_true]
    exact ⟨h x List.mem_cons_self, ih fun y hy => h y (List.mem_cons_of_mem _ hy)⟩
@[simp] theorem eqD_nil {xs : List D} {k : Bool → Prop} : eqD (.list xs) (.list []) k = k xs.isEmpty := by
  cases xs <;> rfl
/-- what is of bounded depth and clean -/
def okc (d : D) : Bool := okD 8 d && clean d
theorem eqD_okc {x y : D} {k : Bool → Prop} (hx : okc x = true) (hy : okc y = true) (h1 : x = y → k true) (h2 : x ≠ y → k false) : eqD x y k := by
  unfold okc at hx hy
  rw [Bool.and_eq_true] at hx hy
  have key : ∀ b, (b = true ↔ x = y) → k b := fun b hb => by
    cases b with
    | true => exact h1 (hb.mp rfl)
    | false => exact h2 fun e => Bool.noConfusion (hb.mpr e)
  have sx := okD_shaped hx.1 (by decide)
  have sy := okD_shaped hy.1 (by decide)
  have ev := eqv_clean x y hx.2 hy.2
  unfold eqD
  split
  · exact key _ (by rw [decide_eq_true_eq]; simp)
  · exact key _ (by rw [decide_eq_true_eq]; simp)
  · exact key _ (by rw [decide_eq_true_eq]; simp)
  · exact key _ (by simp)
  · exact key _ (by simp)
  · exact key _ (by simp)
  · exact ⟨sx, sy, key _ ev⟩
theorem okc_int (i : Int) : okc (.int i) = true := rfl
theorem okD_mono : ∀ {j k : Nat} {d : D}, okD j d = true → j ≤ k → okD k d = true
  | 0, 0, _, h, _ => h
  | 0, k + 1, d, h, _ => by cases d <;> first | rfl | exact h | cases h
  | j + 1, 0, _, _, hk => absurd hk (Nat.not_succ_le_zero j)
  | j + 1, k + 1, d, h, hk => by
    have hk' := Nat.le_of_succ_le_succ hk
    cases d with
    | list xs =>
      have h' : xs.all (okD j) = true := h
      exact List.all_eq_true.mpr fun x hx => okD_mono (List.all_eq_true.mp h' x hx) hk'
    | tuple xs =>
      have h' : xs.all (okD j) = true := h
      exact List.all_eq_true.mpr fun x hx => okD_mono (List.all_eq_true.mp h' x hx) hk'
    | dict _ => cases h
    | str _ => exact h
    | _ => rfl
/-! ### single steps, by rfl -/
theorem sv_i {i : Int} : scalV (.dat (.int i)) = true := rfl
theorem sv_b {i : Bool} : scalV (.dat (.bool i)) = true := rfl
theorem sv_s {i : Str} : scalV (.dat (.str i)) = true := rfl
theorem sv_0 : scalV (.dat .none) = true := rfl
theorem sv_l {xs : List D} : scalV (.dat (.list xs)) = false := rfl
theorem sv_t {xs : List D} : scalV (.dat (.tuple xs)) = false := rfl
theorem sv_d {xs : List (D × D)} : scalV (.dat (.dict xs)) = false := rfl
theorem sv_n {xs : List D} : scalV (.new xs) = false := rfl
section
variable {S : Type}
@[simp] theorem asD_d {d : D} {k : D → Prop} : asD (.dat d) k = k d := rfl
@[simp] theorem asD_n {xs : List D} {k : D → Prop} : asD (.new xs) k = k (.list xs) := rfl
@[simp] theorem rdO_d {d : D} {k : D → Prop} : rdO (some (.dat d)) k = k d := rfl
@[simp] theorem rdO_o {xs : List D} {k : D → Prop} : rdO (some (.own xs)) k = k (.list xs) := rfl
@[simp] theorem boolD_b {b : Bool} {k : Bool → Prop} : boolD (.bool b) k = k b := rfl
@[simp] theorem relD_i {f : Int → Int → Bool} {i j : Int} {k : Val → Prop} : relD f (.int i) (.int j) k = k (.dat (.bool (f i j))) := rfl
@[simp] theorem addD_i {i j : Int} {k : Val → Prop} : addD (.int i) (.int j) k = k (.dat (.int (i + j))) := rfl
@[simp] theorem addD_l {i j : List D} {k : Val → Prop} : addD (.list i) (.list j) k = (i.length + j.length ≤ big ∧ k (.new (i ++ j))) := rfl
@[simp] theorem subD_i {i j : Int} {k : Val → Prop} : subD (.int i) (.int j) k = k (.dat (.int (i - j))) := rfl
@[simp] theorem intD_i {C : Int → Int → Prop} {f : Int → Int → Int} {i j : Int} {k : Val → Prop} : intD C f (.int i) (.int j) k = (C i j ∧ k (.dat (.int (f i j)))) := rfl
@[simp] theorem lenD_l {xs : List D} {k : Val → Prop} : lenD [.list xs] k = k (.dat (.int xs.length)) := rfl
@[simp] theorem lenD_t {xs : List D} {k : Val → Prop} : lenD [.tuple xs] k = k (.dat (.int xs.length)) := rfl
@[simp] theorem isD_1 {f : D → Bool} {d : D} {k : Val → Prop} : isD f [d] k = k (.dat (.bool (f d))) := rfl
@[simp] theorem listD_l {xs : List D} {k : Val → Prop} : listD [.list xs] k = k (.new xs) := rfl
@[simp] theorem listD_t {xs : List D} {k : Val → Prop} : listD [.tuple xs] k = k (.new xs) := rfl
@[simp] theorem tupleD_l {xs : List D} {k : Val → Prop} : tupleD [.list xs] k = k (.dat (.tuple xs)) := rfl
@[simp] theorem int2D_i {f : Int → Int → Int} {i j : Int} {k : Val → Prop} : int2D f [.int i, .int j] k = k (.dat (.int (f i j))) := rfl
@[simp] theorem absD_i {i : Int} {k : Val → Prop} : absD [.int i] k = k (.dat (.int (if i < 0 then -i else i))) := rfl
@[simp] theorem toIntD_i {i : Int} {k : Val → Prop} : toIntD [.int i] k = k (.dat (.int i)) := rfl
@[simp] theorem toIntD_b {b : Bool} {k : Val → Prop} : toIntD [.bool b] k = k (.dat (.int (if b then 1 else 0))) := rfl
@[simp] theorem eqD_i {i j : Int} {k : Bool → Prop} : eqD (.int i) (.int j) k = k (decide (i = j)) := rfl
@[simp] theorem eqD_b {i j : Bool} {k : Bool → Prop} : eqD (.bool i) (.bool j) k = k (decide (i = j)) := rfl
@[simp] theorem eqD_s {i j : Str} {k : Bool → Prop} : eqD (.str i) (.str j) k = k (decide (i = j)) := rfl
@[simp] theorem rngD_1 {n : Int} {k : List D → Prop} : rngD [.int n] k = ((-(2 ^ 62) ≤ n ∧ n < 2 ^ 62) ∧ k ((List.range n.toNat).map fun i => .int (i : Nat))) := rfl
@[simp] theorem rngD_2 {a b : Int} {k : List D → Prop} : rngD [.int a, .int b] k = ((-(2 ^ 62) ≤ a ∧ a < 2 ^ 62 ∧ -(2 ^ 62) ≤ b ∧ b < 2 ^ 62) ∧ k ((List.range (b - a).toNat).map fun i => .int (a + (i : Nat)))) := rfl
@[simp] theorem seqD_l {xs : List D} {k : List D → Prop} : seqD (.list xs) k = k xs := rfl
@[simp] theorem seqD_t {xs : List D} {k : List D → Prop} : seqD (.tuple xs) k = k xs := rfl
@[simp] theorem lstD_l {xs : List D} {k : List D → Prop} : lstD (.list xs) k = k xs := rfl
@[simp] theorem ixX_l {xs : List D} {i : Int} {k : D → Prop} : ixX (.list xs) (.int i) k = ixD xs i k := rfl
@[simp] theorem ixX_t {xs : List D} {i : Int} {k : D → Prop} : ixX (.tuple xs) (.int i) k = ixD xs i k := rfl
@[simp] theorem negX_i {i : Int} {k : Val → Prop} : negX (.int i) k = k (.dat (.int (-i))) := rfl
@[simp] theorem slX_l {xs : List D} {l h : Option Int} {k : Val → Prop} : slX (.list xs) l h k = k (.new (cutD xs l h)) := rfl
@[simp] theorem rvX_l {xs : List D} {k : Val → Prop} : rvX (.list xs) k = k (.new xs.reverse) := rfl
@[simp] theorem repX_i {ds : List D} {j : Int} {k : Val → Prop} : repX ds (.int j) k = ((-100000 ≤ j ∧ j ≤ 100000 ∧ ds.length * j.toNat ≤ big) ∧ k (.new (List.replicate j.toNat ds).flatten)) := rfl
@[simp] theorem intX_i {i : Int} {k : Int → Prop} : intX (.int i) k = k i := rfl
@[simp] theorem look_0 {v : Option Val} {r : Ctx} : look (v :: r) 0 = v := rfl
@[simp] theorem look_s {v : Option Val} {r : Ctx} {i : Nat} : look (v :: r) (i + 1) = look r i := rfl
@[simp] theorem put_0 {v w : Option Val} {r : Ctx} : put (v :: r) 0 w = w :: r := rfl
@[simp] theorem put_s {v w : Option Val} {r : Ctx} {i : Nat} : put (v :: r) (i + 1) w = v :: put r i w := rfl
end
/-! ### summaries by functions -/
def Summ.pure (f : List D → Option (Val ⊕ Nat)) : Summ where
  run ds Q Y := match f ds with
    | some (.inl v) => Q v
    | some (.inr n) => Y n
    | none => False
  mono := fun {ds Q Q' Y Y'} h1 h2 q => by
    cases e : f ds with
    | none => rw [e] at q; exact q
    | some r =>
      rw [e] at q
      cases r with
      | inl v => exact h1 v q
      | inr n => exact h2 n q
def KQY (Q : Val → Prop) (Y : Nat → Prop) : Kn Unit := { nx := fun _ _ => Q (.dat .none), rt := fun v _ => Q v, ex := fun n _ _ => Y n }
/-- the tree keeps the summary: np parameters, nN names -/
def WOk (φ : Summ) (np nN : Nat) (body : Sms Unit) : Prop := ∀ ds Q Y, φ.run ds Q Y → ds.length = np ∧ wSs body (entry nN (ds.map .dat)) () (KQY Q Y)
theorem WOk.of {f : List D → Option (Val ⊕ Nat)} {np nN : Nat} {body : Sms Unit} (h : ∀ ds r, f ds = some r → ds.length = np ∧ ∀ Q Y, (match r with | .inl v => Q v | .inr n => Y n) → wSs body (entry nN (ds.map .dat)) () (KQY Q Y)) : WOk (Summ.pure f) np nN body := fun ds Q Y q => by
  have q' : (match f ds with
    | some (.inl v) => Q v
    | some (.inr n) => Y n
    | none => False) := q
  cases e : f ds with
  | none => rw [e] at q'; exact q'.elim
  | some r =>
    rw [e] at q'
    obtain ⟨h1, h2⟩ := h ds r e
    refine ⟨h1, h2 Q Y ?_⟩
    cases r <;> exact q'
/-! ### turns -/
theorem cLoop_pure {S : Type} {f : D → Ctx → S → (Option D → Ctx → S → Prop) → Prop} {g : D → Option D} {Γ : Ctx} {s : S} {k : List D → Ctx → S → Prop} : ∀ (xs acc : List D), (∀ x ∈ xs, ∀ k' : Option D → Ctx → S → Prop, k' (g x) Γ s → f x Γ s k') → k (acc ++ xs.filterMap g) Γ s → cLoop f xs Γ s acc k
  | [], acc, _, h => by
    rw [List.filterMap_nil, List.append_nil] at h
    exact h
  | x :: r, acc, hf, h => by
    refine hf x List.mem_cons_self _ (cLoop_pure r _ (fun y hy => hf y (List.mem_cons_of_mem _ hy)) ?_)
    rw [List.append_assoc]
    have e : (g x).toList ++ r.filterMap g = (x :: r).filterMap g := by
      cases e : g x with
      | none => rw [List.filterMap_cons_none e]; rfl
      | some y => rw [List.filterMap_cons_some e]; rfl
    rw [e]
    exact h
/-- an invariant over a list, by what is done and what is left -/
theorem fLoop_inv {S : Type} {f : D → Ctx → S → Kn S → Prop} {K : Kn S} (I : List D → List D → Ctx → S → Prop) (hnx : ∀ done Γ s, I done [] Γ s → K.nx Γ s)
    (hstep : ∀ done x r Γ s (K' : Kn S), I done (x :: r) Γ s → (∀ Γ' s', I (done ++ [x]) r Γ' s' → K'.nx Γ' s') → (∀ Γ' s', I (done ++ [x]) r Γ' s' → K'.ct Γ' s') → K'.bk = K.nx → K'.rt = K.rt → K'.ex = K.ex → f x Γ s K') :
    ∀ (xs done : List D) (Γ : Ctx) (s : S), I done xs Γ s → fLoop f K xs Γ s
  | [], done, Γ, s, h => hnx done Γ s h
  | x :: r, done, Γ, s, h => hstep done x r Γ s _ h (fun Γ' s' h' => fLoop_inv I hnx hstep r (done ++ [x]) Γ' s' h') (fun Γ' s' h' => fLoop_inv I hnx hstep r (done ++ [x]) Γ' s' h') rfl rfl rfl
/-! ### items -/
theorem ixD_nat {xs : List D} {i : Int} {j : Nat} {d : D} {k : D → Prop} (hi : i = (j : Int)) (h : xs[j]? = some d) : ixD xs i k = k d := by
  have hl : j < xs.length := (List.getElem?_eq_some_iff.mp h).1
  unfold ixD ixN
  rw [if_pos (show (0 : Int) ≤ i by omega), if_pos (show i < (xs.length : Nat) by omega)]
  have : i.toNat = j := by omega
  rw [this]
  show (match xs[j]? with | some d => k d | none => False) = k d
  rw [h]
@[simp] theorem ixD_0 {x : D} {r : List D} {k : D → Prop} : ixD (x :: r) 0 k = k x := ixD_nat (j := 0) rfl rfl
@[simp] theorem ixD_1 {x y : D} {r : List D} {k : D → Prop} : ixD (x :: y :: r) 1 k = k y := ixD_nat (j := 1) rfl rfl
@[simp] theorem ixD_2 {x y z : D} {r : List D} {k : D → Prop} : ixD (x :: y :: z :: r) 2 k = k z := ixD_nat (j := 2) rfl rfl
theorem ixD_map {α : Type} {f : α → D} {xs : List α} {i : Int} {k : D → Prop} (h0 : 0 ≤ i) (h1 : i < xs.length) : ixD (xs.map f) i k = k (f (xs[i.toNat]'(by omega))) :=
  ixD_nat (j := i.toNat) (by omega) (by rw [List.getElem?_map, List.getElem?_eq_getElem (by omega)]; rfl)
theorem ixD_last {xs : List D} {x : D} {k : D → Prop} : ixD (xs ++ [x]) (-1) k = k x := by
  unfold ixD ixN
  rw [if_neg (by decide), if_pos (by rw [List.length_append, List.length_singleton]; omega)]
  show (match (xs ++ [x])[(-1 + ((xs ++ [x]).length : Int)).toNat]? with | some d => k d | none => False) = k x
  have e : (-1 + ((xs ++ [x]).length : Int)).toNat = xs.length := by rw [List.length_append, List.length_singleton]; omega
  rw [e, List.getElem?_concat_length]
theorem qb {Q : Val → Prop} {x y : Bool} (h : Q (.dat (.bool x))) (e : x = true ↔ y = true) : Q (.dat (.bool y)) := by
  have : x = y := Bool.eq_iff_iff.mpr e
  rw [← this]
  exact h
/-! ### is_number, is_arc, is_ring -/
def isNumD (d : D) (b : Int) : Bool := match d with
  | .int i => decide (0 ≤ i) && decide (i < b)
  | _ => false
def Sis_number : Summ := Summ.pure fun ds => match ds with
  | [d, .int b] => some (.inl (.dat (.bool (isNumD d b))))
  | _ => none
def tris_number : Sms Unit :=
  (.cons (.one (.ret (.an (.bi .isint (.cons (.var 0) .nil)) (.an (.nt (.bi .isbool (.cons (.var 0) .nil))) (.ch .LtE .Lt (.int 0) (.var 0) (.var 1))))))
    .nil)

@[simp] theorem run_is_number {d : D} {b : Int} {Q : Val → Prop} {Y : Nat → Prop} : Sis_number.run [d, .int b] Q Y = Q (.dat (.bool (isNumD d b))) := rfl
theorem w_is_number : WOk Sis_number 2 2 tris_number := WOk.of fun ds r e => by
  split at e
  · rename_i d b
    cases e
    refine ⟨rfl, fun Q Y h => ?_⟩
    unfold tris_number
    simp only [wSs, wS, w1, wT, wE, wA, wX, wV, wP, wC, opn, rdO_d, rdO_o, asD_d, asD_n, KQY, entry, look, put, slotV, argsOk, frzA, frzV, sv_i, sv_b, sv_s, sv_0, sv_l, sv_t, sv_d, sv_n, List.map, List.length, List.replicate, List.cons_append, List.nil_append, Nat.sub_self, biD, isD_1, boolD_b, cmpD, relD_i, opD, addD_i, addD_l, subD_i, intD_i, lenD_l, lenD_t, listD_l, listD_t, tupleD_l, int2D_i, absD_i, toIntD_i, toIntD_b, eqD_i, eqD_b, eqD_s, rngD_1, rngD_2, seqD_l, seqD_t, lstD_l, ixX_l, ixX_t, negX_i, slX_l, rvX_l, repX_i, intX_i, ixD_0, ixD_1, ixD_2, true_and, and_true, ite_self]
    cases d with
    | int i =>
      simp only [isIntD, isBoolD, Bool.not_false, if_true, relD_i, asD_d, boolD_b]
      by_cases hc : 0 ≤ i
      · rw [if_pos (decide_eq_true hc)]
        exact qb h (by simp [isNumD, hc])
      · rw [if_neg (by simp [hc])]
        exact qb h (by simp [isNumD, hc])
    | _ => simpa [isIntD, isBoolD, isNumD] using h
  · cases e
def isArcD (d : D) (n : Int) : Bool := match d with
  | .tuple [s, .int m] => isNumD s n && decide (0 < m) && decide (m < n + 1)
  | _ => false
def Sis_arc : Summ := Summ.pure fun ds => match ds with
  | [d, .int n] => some (.inl (.dat (.bool (isArcD d n))))
  | _ => none
def tris_arc : Sms Unit :=
  (.cons (.ite (.or (.nt (.bi .istuple (.cons (.var 0) .nil))) (.cmp .NotEq (.bi .len (.cons (.var 0) .nil)) (.int 2)))
    (.cons (.one (.ret (.bl false)))
    .nil)
    .nil)
    (.cons (.one (.ret (.an (.call "is_number" Sis_number (.cons (.ix (.var 0) (.int 0)) (.cons (.var 1) .nil))) (.an (.call "is_number" Sis_number (.cons (.ix (.var 0) (.int 1)) (.cons (.op .Add (.var 1) (.int 1)) .nil))) (.cmp .Gt (.ix (.var 0) (.int 1)) (.int 0))))))
    .nil))

@[simp] theorem run_is_arc {d : D} {b : Int} {Q : Val → Prop} {Y : Nat → Prop} : Sis_arc.run [d, .int b] Q Y = Q (.dat (.bool (isArcD d b))) := rfl
theorem w_is_arc : WOk Sis_arc 2 2 tris_arc := WOk.of fun ds r e => by
  split at e
  · rename_i d b
    cases e
    refine ⟨rfl, fun Q Y h => ?_⟩
    unfold tris_arc
    simp only [wSs, wS, w1, wT, wE, wA, wX, wV, wP, wC, opn, rdO_d, rdO_o, asD_d, asD_n, KQY, entry, look, put, slotV, argsOk, frzA, frzV, sv_i, sv_b, sv_s, sv_0, sv_l, sv_t, sv_d, sv_n, List.map, List.length, List.replicate, List.cons_append, List.nil_append, Nat.sub_self, biD, isD_1, boolD_b, cmpD, relD_i, opD, addD_i, addD_l, subD_i, intD_i, lenD_l, lenD_t, listD_l, listD_t, tupleD_l, int2D_i, absD_i, toIntD_i, toIntD_b, eqD_i, eqD_b, eqD_s, rngD_1, rngD_2, seqD_l, seqD_t, lstD_l, ixX_l, ixX_t, negX_i, slX_l, rvX_l, repX_i, intX_i, ixD_0, ixD_1, ixD_2, true_and, and_true, ite_self, run_is_number]
    cases d with
    | tuple xs =>
      match xs with
      | [] => simpa [isTupD, isArcD] using h
      | [_] => simpa [isTupD, isArcD] using h
      | _ :: _ :: _ :: r =>
        have e : ¬ ((r.length : Int) + 1 + 1 + 1 = 2) := by omega
        simpa [isTupD, isArcD, e] using h
      | [s, m] =>
        simp only [isTupD, lenD_t, asD_d, boolD_b, eqD_i, ixD_0, ixD_1, List.length]
        cases m with
        | int i =>
          by_cases hs : isNumD s b = true
          · by_cases hi : isNumD (.int i) (b + 1) = true
            · simp [hs, hi]
              refine qb h ?_
              simp only [isNumD, Bool.and_eq_true, decide_eq_true_eq] at hi
              simp [isArcD, hs]
              omega
            · simp [hs, hi]
              refine qb h ?_
              simp [isNumD] at hi
              simp [isArcD, hs]
              omega
          · simp [hs]
            exact qb h (by simp [isArcD, hs])
        | _ => simpa [isArcD, isNumD] using h
    | _ => simpa [isTupD, isArcD] using h
  · cases e
end Ac
namespace Ac
open PySem PySem.Spec PyProof.Rows L2
def isRingD (d : D) : Bool := match d with
  | .tuple [.int n, .list xs] => decide (1 ≤ n) && decide (n ≤ 40) && decide (xs.length ≤ 20) && xs.all (isArcD · n)
  | _ => false
def Sis_ring : Summ := Summ.pure fun ds => match ds with
  | [d] => some (.inl (.dat (.bool (isRingD d))))
  | _ => none
def tris_ring_c1 : Es Unit :=
  (.cons (.nt (.call "is_arc" Sis_arc (.cons (.var 1) (.cons (.ix (.var 0) (.int 0)) .nil)))) .nil)
def tris_ring : Sms Unit :=
  (.cons (.ite (.or (.nt (.bi .istuple (.cons (.var 0) .nil))) (.cmp .NotEq (.bi .len (.cons (.var 0) .nil)) (.int 2)))
    (.cons (.one (.ret (.bl false)))
    .nil)
    .nil)
    (.cons (.ite (.or (.nt (.call "is_number" Sis_number (.cons (.ix (.var 0) (.int 0)) (.cons (.op .Add (.glb "MOST_PLACES" 40) (.int 1)) .nil)))) (.cmp .Eq (.ix (.var 0) (.int 0)) (.int 0)))
    (.cons (.one (.ret (.bl false)))
    .nil)
    .nil)
    (.cons (.ite (.or (.nt (.bi .islist (.cons (.ix (.var 0) (.int 1)) .nil))) (.cmp .Gt (.bi .len (.cons (.ix (.var 0) (.int 1)) .nil)) (.glb "MOST_ARCS" 20)))
    (.cons (.one (.ret (.bl false)))
    .nil)
    .nil)
    (.cons (.one (.ret (.cmp .Eq (.comp [1] (.nm 1) (.seq (.ix (.var 0) (.int 1))) tris_ring_c1 (.var 1)) (.ls .nil))))
    .nil))))

@[simp] theorem run_is_ring {d : D} {Q : Val → Prop} {Y : Nat → Prop} : Sis_ring.run [d] Q Y = Q (.dat (.bool (isRingD d))) := rfl
theorem filterMap_empty {α β : Type} {g : α → Option β} {xs : List α} : (xs.filterMap g).isEmpty = true ↔ ∀ x ∈ xs, g x = none := by
  rw [List.isEmpty_iff, List.filterMap_eq_nil_iff]
theorem big20 {n : Nat} (h : n ≤ 20) : n ≤ big := Nat.le_trans h (by decide)
theorem big40 {n : Nat} (h : n ≤ 40) : n ≤ big := Nat.le_trans h (by decide)
theorem w_is_ring : WOk Sis_ring 1 2 tris_ring := WOk.of fun ds r e => by
  split at e
  · rename_i d
    cases e
    refine ⟨rfl, fun Q Y h => ?_⟩
    unfold tris_ring
    simp only [wSs, wS, w1, wT, wE, wA, wX, wV, wP, wC, opn, rdO_d, rdO_o, asD_d, asD_n, KQY, entry, look, put, slotV, argsOk, frzA, frzV, sv_i, sv_b, sv_s, sv_0, sv_l, sv_t, sv_d, sv_n, List.map, List.length, List.replicate, List.cons_append, List.nil_append, Nat.sub_self, biD, isD_1, boolD_b, cmpD, relD_i, opD, addD_i, addD_l, subD_i, intD_i, lenD_l, lenD_t, listD_l, listD_t, tupleD_l, int2D_i, absD_i, toIntD_i, toIntD_b, eqD_i, eqD_b, eqD_s, rngD_1, rngD_2, seqD_l, seqD_t, lstD_l, ixX_l, ixX_t, negX_i, slX_l, rvX_l, repX_i, intX_i, ixD_0, ixD_1, ixD_2, true_and, and_true, ite_self, wI, run_is_number, wipeG, backG]
    cases d with
    | tuple xs =>
      match xs with
      | [] => simpa [isTupD, isRingD] using h
      | [_] => simpa [isTupD, isRingD] using h
      | _ :: _ :: _ :: r =>
        have e : ¬ ((r.length : Int) + 1 + 1 + 1 = 2) := by omega
        simpa [isTupD, isRingD, e] using h
      | [a, b] =>
        cases a with
        | int n =>
          by_cases hn : isNumD (.int n) 41 = true
          · simp only [isNumD, Bool.and_eq_true, decide_eq_true_eq] at hn
            by_cases h0 : n = 0
            · subst h0
              simp [isTupD, isNumD]
              exact qb h (by cases b <;> simp [isRingD])
            · have hn1 : n < 41 := hn.2
              cases b with
              | list xs =>
                by_cases hl : xs.length ≤ 20
                · have hl' : ¬ (20 < (xs.length : Int)) := by omega
                  simp [isTupD, isNumD, isListD, h0, hn.1, hn1, hl']
                  refine ⟨big20 hl, ?_⟩
                  refine cLoop_pure (g := fun x => if isArcD x n = true then none else some x) _ _ (fun x hx k' hk => ?_) ?_
                  · simp [bindT, tris_ring_c1, wipeG, wSs, wS, w1, wT, wE, wA, wX, wV, wP, wC, opn, rdO_d, rdO_o, asD_d, asD_n, KQY, entry, look, put, slotV, argsOk, frzA, frzV, sv_i, sv_b, sv_s, sv_0, sv_l, sv_t, sv_d, sv_n, List.map, List.length, List.replicate, List.cons_append, List.nil_append, Nat.sub_self, biD, isD_1, boolD_b, cmpD, relD_i, opD, addD_i, addD_l, subD_i, intD_i, lenD_l, lenD_t, listD_l, listD_t, tupleD_l, int2D_i, absD_i, toIntD_i, toIntD_b, eqD_i, eqD_b, eqD_s, rngD_1, rngD_2, seqD_l, seqD_t, lstD_l, ixX_l, ixX_t, negX_i, slX_l, rvX_l, repX_i, intX_i, ixD_0, ixD_1, ixD_2, true_and, and_true, ite_self]
                    by_cases ha : isArcD x n = true <;> simp_all
                  · simp only [List.nil_append, eqD_nil]
                    refine qb h ?_
                    rw [filterMap_empty]
                    simp [isRingD, hl]
                    intro _
                    omega
                · have hl' : 20 < (xs.length : Int) := by omega
                  simp [isTupD, isNumD, isListD, h0, hn.1, hn1, hl']
                  exact qb h (by simp [isRingD, hl])
              | _ =>
                simp [isTupD, isNumD, isListD, h0, hn.1, hn1]
                simpa [isRingD] using h
          · simp [isTupD, hn]
            refine qb h ?_
            simp only [isNumD, Bool.and_eq_true, decide_eq_true_eq] at hn
            cases b <;> simp [isRingD]
            omega
        | _ => simpa [isTupD, isRingD, isNumD] using h
    | _ => simpa [isTupD, isRingD] using h
  · cases e
/-! ### rings, plainly -/
def arcD (a : Int × Int) : D := .tuple [.int a.1, .int a.2]
def ringD (n : Int) (as : List (Int × Int)) : D := .tuple [.int n, .list (as.map arcD)]
def arcOk (n : Int) (a : Int × Int) : Prop := 0 ≤ a.1 ∧ a.1 < n ∧ 1 ≤ a.2 ∧ a.2 ≤ n
structure RingOk (n : Int) (as : List (Int × Int)) : Prop where
  n1 : 1 ≤ n
  n40 : n ≤ 40
  len : as.length ≤ 20
  arcs : ∀ a ∈ as, arcOk n a
theorem isArcD_iff {d : D} {n : Int} : isArcD d n = true ↔ ∃ a, d = arcD a ∧ arcOk n a := by
  constructor
  · intro h
    unfold isArcD at h
    split at h
    · rename_i s m
      rw [Bool.and_eq_true, Bool.and_eq_true, decide_eq_true_eq, decide_eq_true_eq] at h
      obtain ⟨⟨h1, h2⟩, h3⟩ := h
      unfold isNumD at h1
      split at h1
      · rename_i i
        rw [Bool.and_eq_true, decide_eq_true_eq, decide_eq_true_eq] at h1
        exact ⟨(i, m), rfl, h1.1, h1.2, h2, by show m ≤ n; omega⟩
      · cases h1
    · cases h
  · rintro ⟨⟨s, m⟩, rfl, h1, h2, h3, h4⟩
    have h1 : 0 ≤ s := h1
    have h2 : s < n := h2
    have h3 : 1 ≤ m := h3
    have h4 : m ≤ n := h4
    simp [isArcD, arcD, isNumD]
    omega
theorem arcs_of {xs : List D} {n : Int} (h : ∀ x ∈ xs, isArcD x n = true) : ∃ as : List (Int × Int), xs = as.map arcD ∧ ∀ a ∈ as, arcOk n a := by
  induction xs with
  | nil => exact ⟨[], rfl, fun a h => nomatch h⟩
  | cons x r ih =>
    obtain ⟨a, rfl, ha⟩ := isArcD_iff.mp (h x List.mem_cons_self)
    obtain ⟨as, rfl, has⟩ := ih fun y hy => h y (List.mem_cons_of_mem _ hy)
    exact ⟨a :: as, rfl, fun b hb => by cases hb with | head => exact ha | tail _ hb => exact has b hb⟩
theorem isRingD_iff {d : D} : isRingD d = true ↔ ∃ n as, d = ringD n as ∧ RingOk n as := by
  constructor
  · intro h
    unfold isRingD at h
    split at h
    · rename_i n xs
      simp only [Bool.and_eq_true, decide_eq_true_eq, List.all_eq_true] at h
      obtain ⟨⟨⟨h1, h2⟩, h3⟩, h4⟩ := h
      obtain ⟨as, rfl, has⟩ := arcs_of h4
      rw [List.length_map] at h3
      exact ⟨n, as, rfl, h1, h2, h3, has⟩
    · cases h
  · rintro ⟨n, as, rfl, h1, h2, h3, h4⟩
    simp only [isRingD, ringD, Bool.and_eq_true, decide_eq_true_eq, List.all_eq_true, List.length_map]
    refine ⟨⟨⟨h1, h2⟩, h3⟩, fun x hx => ?_⟩
    obtain ⟨a, ha, rfl⟩ := List.mem_map.mp hx
    exact isArcD_iff.mpr ⟨a, rfl, h4 a ha⟩
@[simp] theorem isRing_ringD {n : Int} {as : List (Int × Int)} (h : RingOk n as) : isRingD (ringD n as) = true := isRingD_iff.mpr ⟨n, as, rfl, h⟩
/-! ### summaries with a condition -/
def Summ.cond (f : List D → Option (Prop × (Val ⊕ Nat))) : Summ where
  run ds Q Y := match f ds with
    | some (p, .inl v) => p ∧ Q v
    | some (p, .inr n) => p ∧ Y n
    | none => False
  mono := fun {ds Q Q' Y Y'} h1 h2 q => by
    cases e : f ds with
    | none => rw [e] at q; exact q
    | some r =>
      rw [e] at q
      obtain ⟨p, r⟩ := r
      cases r with
      | inl v => exact ⟨q.1, h1 v q.2⟩
      | inr n => exact ⟨q.1, h2 n q.2⟩
theorem WOk.cond {f : List D → Option (Prop × (Val ⊕ Nat))} {np nN : Nat} {body : Sms Unit} (h : ∀ ds p r, f ds = some (p, r) → ds.length = np ∧ (p → ∀ Q Y, (match r with | .inl v => Q v | .inr n => Y n) → wSs body (entry nN (ds.map .dat)) () (KQY Q Y))) : WOk (Summ.cond f) np nN body := fun ds Q Y q => by
  have q' : (match f ds with
    | some (p, .inl v) => p ∧ Q v
    | some (p, .inr n) => p ∧ Y n
    | none => False) := q
  cases e : f ds with
  | none => rw [e] at q'; exact q'.elim
  | some r =>
    rw [e] at q'
    obtain ⟨p, r⟩ := r
    obtain ⟨h1, h2⟩ := h ds p r e
    refine ⟨h1, ?_⟩
    cases r with
    | inl v => exact h2 q'.1 Q Y q'.2
    | inr n => exact h2 q'.1 Q Y q'.2
/-! ### need_ring, need_number, need_place -/
def Sneed_ring : Summ := Summ.pure fun ds => match ds with
  | [d] => some (if isRingD d = true then .inl (.dat .none) else .inr 0)
  | _ => none
def trneed_ring : Sms Unit :=
  (.cons (.ite (.nt (.call "is_ring" Sis_ring (.cons (.var 0) .nil)))
    (.cons (.one (.raise "NoRing" 0))
    .nil)
    .nil)
    .nil)

@[simp] theorem run_need_ring {d : D} {Q : Val → Prop} {Y : Nat → Prop} : Sneed_ring.run [d] Q Y = (if isRingD d = true then Q (.dat .none) else Y 0) := by
  show (match some (if isRingD d = true then .inl (.dat .none) else .inr 0) with
    | some (Sum.inl v) => Q v
    | some (Sum.inr n) => Y n
    | none => False) = _
  split <;> split at * <;> simp_all
theorem w_need_ring : WOk Sneed_ring 1 1 trneed_ring := WOk.of fun ds r e => by
  split at e
  · rename_i d
    cases e
    refine ⟨rfl, fun Q Y h => ?_⟩
    unfold trneed_ring
    simp only [wSs, wS, w1, wT, wE, wA, wX, wV, wP, wC, opn, rdO_d, rdO_o, asD_d, asD_n, KQY, entry, look, put, slotV, argsOk, frzA, frzV, sv_i, sv_b, sv_s, sv_0, sv_l, sv_t, sv_d, sv_n, List.map, List.length, List.replicate, List.cons_append, List.nil_append, Nat.sub_self, biD, isD_1, boolD_b, cmpD, relD_i, opD, addD_i, addD_l, subD_i, intD_i, lenD_l, lenD_t, listD_l, listD_t, tupleD_l, int2D_i, absD_i, toIntD_i, toIntD_b, eqD_i, eqD_b, eqD_s, rngD_1, rngD_2, seqD_l, seqD_t, lstD_l, ixX_l, ixX_t, negX_i, slX_l, rvX_l, repX_i, intX_i, ixD_0, ixD_1, ixD_2, true_and, and_true, ite_self, run_is_ring]
    by_cases hd : isRingD d = true <;> simp_all
  · cases e
def Sneed_number : Summ := Summ.pure fun ds => match ds with
  | [.tuple [_, .list xs], d] => some (if isNumD d xs.length = true then .inl (.dat .none) else .inr 1)
  | _ => none
def trneed_number : Sms Unit :=
  (.cons (.ite (.nt (.call "is_number" Sis_number (.cons (.var 1) (.cons (.bi .len (.cons (.ix (.var 0) (.int 1)) .nil)) .nil))))
    (.cons (.one (.raise "NoArc" 1))
    .nil)
    .nil)
    .nil)

@[simp] theorem run_need_number {a d : D} {xs : List D} {Q : Val → Prop} {Y : Nat → Prop} : Sneed_number.run [.tuple [a, .list xs], d] Q Y = (if isNumD d xs.length = true then Q (.dat .none) else Y 1) := by
  show (match some (if isNumD d xs.length = true then .inl (.dat .none) else .inr 1) with
    | some (Sum.inl v) => Q v
    | some (Sum.inr n) => Y n
    | none => False) = _
  split <;> split at * <;> simp_all
theorem w_need_number : WOk Sneed_number 2 2 trneed_number := WOk.of fun ds r e => by
  split at e
  · rename_i a xs d
    cases e
    refine ⟨rfl, fun Q Y h => ?_⟩
    unfold trneed_number
    simp only [wSs, wS, w1, wT, wE, wA, wX, wV, wP, wC, opn, rdO_d, rdO_o, asD_d, asD_n, KQY, entry, look, put, slotV, argsOk, frzA, frzV, sv_i, sv_b, sv_s, sv_0, sv_l, sv_t, sv_d, sv_n, List.map, List.length, List.replicate, List.cons_append, List.nil_append, Nat.sub_self, biD, isD_1, boolD_b, cmpD, relD_i, opD, addD_i, addD_l, subD_i, intD_i, lenD_l, lenD_t, listD_l, listD_t, tupleD_l, int2D_i, absD_i, toIntD_i, toIntD_b, eqD_i, eqD_b, eqD_s, rngD_1, rngD_2, seqD_l, seqD_t, lstD_l, ixX_l, ixX_t, negX_i, slX_l, rvX_l, repX_i, intX_i, ixD_0, ixD_1, ixD_2, true_and, and_true, ite_self, run_is_number]
    by_cases hd : isNumD d xs.length = true <;> simp_all
  · cases e
def Sneed_place : Summ := Summ.pure fun ds => match ds with
  | [.tuple [.int n, _], d] => some (if isNumD d n = true then .inl (.dat .none) else .inr 2)
  | _ => none
def trneed_place : Sms Unit :=
  (.cons (.ite (.nt (.call "is_number" Sis_number (.cons (.var 1) (.cons (.ix (.var 0) (.int 0)) .nil))))
    (.cons (.one (.raise "NoPlace" 2))
    .nil)
    .nil)
    .nil)

@[simp] theorem run_need_place {a d : D} {n : Int} {Q : Val → Prop} {Y : Nat → Prop} : Sneed_place.run [.tuple [.int n, a], d] Q Y = (if isNumD d n = true then Q (.dat .none) else Y 2) := by
  show (match some (if isNumD d n = true then .inl (.dat .none) else .inr 2) with
    | some (Sum.inl v) => Q v
    | some (Sum.inr n) => Y n
    | none => False) = _
  split <;> split at * <;> simp_all
theorem w_need_place : WOk Sneed_place 2 2 trneed_place := WOk.of fun ds r e => by
  split at e
  · rename_i n a d
    cases e
    refine ⟨rfl, fun Q Y h => ?_⟩
    unfold trneed_place
    simp only [wSs, wS, w1, wT, wE, wA, wX, wV, wP, wC, opn, rdO_d, rdO_o, asD_d, asD_n, KQY, entry, look, put, slotV, argsOk, frzA, frzV, sv_i, sv_b, sv_s, sv_0, sv_l, sv_t, sv_d, sv_n, List.map, List.length, List.replicate, List.cons_append, List.nil_append, Nat.sub_self, biD, isD_1, boolD_b, cmpD, relD_i, opD, addD_i, addD_l, subD_i, intD_i, lenD_l, lenD_t, listD_l, listD_t, tupleD_l, int2D_i, absD_i, toIntD_i, toIntD_b, eqD_i, eqD_b, eqD_s, rngD_1, rngD_2, seqD_l, seqD_t, lstD_l, ixX_l, ixX_t, negX_i, slX_l, rvX_l, repX_i, intX_i, ixD_0, ixD_1, ixD_2, true_and, and_true, ite_self, run_is_number]
    by_cases hd : isNumD d n = true <;> simp_all
  · cases e
/-! ### places_in, holds, meet -/
/-- the places that an arc holds -/
def plc (n : Int) (a : Int × Int) : List Int := (List.range a.2.toNat).map fun k => (a.1 + (k : Nat)) % n
def Splaces_in : Summ := Summ.cond fun ds => match ds with
  | [.int n, .tuple [.int s, .int m]] => some (0 < n ∧ m ≤ 1000 ∧ -1000 ≤ m, .inl (.new ((plc n (s, m)).map .int)))
  | _ => none
def trplaces_in_e1 : E Unit :=
  (.op .Mod (.op .Add (.ix (.var 1) (.int 0)) (.var 2)) (.var 0))
def trplaces_in : Sms Unit :=
  (.cons (.one (.ret (.comp [2] (.nm 2) (.rng (.cons (.ix (.var 1) (.int 1)) .nil)) .nil trplaces_in_e1)))
    .nil)

@[simp] theorem run_places_in {n s m : Int} {Q : Val → Prop} {Y : Nat → Prop} : Splaces_in.run [.int n, .tuple [.int s, .int m]] Q Y = ((0 < n ∧ m ≤ 1000 ∧ -1000 ≤ m) ∧ Q (.new ((plc n (s, m)).map .int))) := rfl
theorem filterMap_some {α β : Type} {f : α → β} {xs : List α} : xs.filterMap (fun x => some (f x)) = xs.map f := by
  induction xs with
  | nil => rfl
  | cons x r ih => simp [List.filterMap_cons, ih]
theorem w_places_in : WOk Splaces_in 2 3 trplaces_in := WOk.cond fun ds p r e => by
  split at e
  · rename_i n s m
    cases e
    refine ⟨rfl, fun hp Q Y h => ?_⟩
    unfold trplaces_in
    simp only [wSs, wS, w1, wT, wE, wA, wX, wV, wP, wC, opn, rdO_d, rdO_o, asD_d, asD_n, KQY, entry, look, put, slotV, argsOk, frzA, frzV, sv_i, sv_b, sv_s, sv_0, sv_l, sv_t, sv_d, sv_n, List.map, List.length, List.replicate, List.cons_append, List.nil_append, Nat.sub_self, biD, isD_1, boolD_b, cmpD, relD_i, opD, addD_i, addD_l, subD_i, intD_i, lenD_l, lenD_t, listD_l, listD_t, tupleD_l, int2D_i, absD_i, toIntD_i, toIntD_b, eqD_i, eqD_b, eqD_s, rngD_1, rngD_2, seqD_l, seqD_t, lstD_l, ixX_l, ixX_t, negX_i, slX_l, rvX_l, repX_i, intX_i, ixD_0, ixD_1, ixD_2, true_and, and_true, ite_self, wI, wipeG, backG]
    refine ⟨by omega, ?_, ?_⟩
    · rw [List.length_map, List.length_range]
      unfold big
      omega
    · refine cLoop_pure (g := fun x => match x with | .int k => some (.int ((s + k) % n)) | _ => none) _ _ (fun x hx k' hk => ?_) ?_
      · obtain ⟨i, _, rfl⟩ := List.mem_map.mp hx
        simp [bindT, trplaces_in_e1, wipeG, wSs, wS, w1, wT, wE, wA, wX, wV, wP, wC, opn, rdO_d, rdO_o, asD_d, asD_n, KQY, entry, look, put, slotV, argsOk, frzA, frzV, sv_i, sv_b, sv_s, sv_0, sv_l, sv_t, sv_d, sv_n, List.map, List.length, List.replicate, List.cons_append, List.nil_append, Nat.sub_self, biD, isD_1, boolD_b, cmpD, relD_i, opD, addD_i, addD_l, subD_i, intD_i, lenD_l, lenD_t, listD_l, listD_t, tupleD_l, int2D_i, absD_i, toIntD_i, toIntD_b, eqD_i, eqD_b, eqD_s, rngD_1, rngD_2, seqD_l, seqD_t, lstD_l, ixX_l, ixX_t, negX_i, slX_l, rvX_l, repX_i, intX_i, ixD_0, ixD_1, ixD_2, true_and, and_true, ite_self]
        exact ⟨hp.1, hk⟩
      · rw [List.filterMap_map]
        simp only [List.nil_append, Function.comp_def, filterMap_some]
        simpa [plc, Function.comp_def] using h
  · cases e
def hld (n : Int) (a : Int × Int) (p : Int) : Bool := decide ((p - a.1) % n < a.2)
def Sholds : Summ := Summ.cond fun ds => match ds with
  | [.int n, .tuple [.int s, .int m], .int p] => some (0 < n, .inl (.dat (.bool (hld n (s, m) p))))
  | _ => none
def trholds : Sms Unit :=
  (.cons (.one (.ret (.cmp .Lt (.op .Mod (.op .Sub (.var 2) (.ix (.var 1) (.int 0))) (.var 0)) (.ix (.var 1) (.int 1)))))
    .nil)

@[simp] theorem run_holds {n s m p : Int} {Q : Val → Prop} {Y : Nat → Prop} : Sholds.run [.int n, .tuple [.int s, .int m], .int p] Q Y = (0 < n ∧ Q (.dat (.bool (hld n (s, m) p)))) := rfl
theorem w_holds : WOk Sholds 3 3 trholds := WOk.cond fun ds p r e => by
  split at e
  · cases e
    refine ⟨rfl, fun hp Q Y h => ?_⟩
    unfold trholds
    simp only [wSs, wS, w1, wT, wE, wA, wX, wV, wP, wC, opn, rdO_d, rdO_o, asD_d, asD_n, KQY, entry, look, put, slotV, argsOk, frzA, frzV, sv_i, sv_b, sv_s, sv_0, sv_l, sv_t, sv_d, sv_n, List.map, List.length, List.replicate, List.cons_append, List.nil_append, Nat.sub_self, biD, isD_1, boolD_b, cmpD, relD_i, opD, addD_i, addD_l, subD_i, intD_i, lenD_l, lenD_t, listD_l, listD_t, tupleD_l, int2D_i, absD_i, toIntD_i, toIntD_b, eqD_i, eqD_b, eqD_s, rngD_1, rngD_2, seqD_l, seqD_t, lstD_l, ixX_l, ixX_t, negX_i, slX_l, rvX_l, repX_i, intX_i, ixD_0, ixD_1, ixD_2, true_and, and_true, ite_self]
    exact ⟨hp, h⟩
  · cases e
def mtB (n : Int) (a b : Int × Int) : Bool := hld n a b.1 || hld n b a.1
def Smeet : Summ := Summ.cond fun ds => match ds with
  | [.int n, .tuple [.int s, .int m], .tuple [.int s', .int m']] => some (0 < n, .inl (.dat (.bool (mtB n (s, m) (s', m')))))
  | _ => none
def trmeet : Sms Unit :=
  (.cons (.one (.ret (.or (.call "holds" Sholds (.cons (.var 0) (.cons (.var 1) (.cons (.ix (.var 2) (.int 0)) .nil)))) (.call "holds" Sholds (.cons (.var 0) (.cons (.var 2) (.cons (.ix (.var 1) (.int 0)) .nil)))))))
    .nil)

@[simp] theorem run_meet {n s m s' m' : Int} {Q : Val → Prop} {Y : Nat → Prop} : Smeet.run [.int n, .tuple [.int s, .int m], .tuple [.int s', .int m']] Q Y = (0 < n ∧ Q (.dat (.bool (mtB n (s, m) (s', m'))))) := rfl
theorem w_meet : WOk Smeet 3 3 trmeet := WOk.cond fun ds p r e => by
  split at e
  · rename_i n s m s' m'
    cases e
    refine ⟨rfl, fun hp Q Y h => ?_⟩
    unfold trmeet
    simp only [wSs, wS, w1, wT, wE, wA, wX, wV, wP, wC, opn, rdO_d, rdO_o, asD_d, asD_n, KQY, entry, look, put, slotV, argsOk, frzA, frzV, sv_i, sv_b, sv_s, sv_0, sv_l, sv_t, sv_d, sv_n, List.map, List.length, List.replicate, List.cons_append, List.nil_append, Nat.sub_self, biD, isD_1, boolD_b, cmpD, relD_i, opD, addD_i, addD_l, subD_i, intD_i, lenD_l, lenD_t, listD_l, listD_t, tupleD_l, int2D_i, absD_i, toIntD_i, toIntD_b, eqD_i, eqD_b, eqD_s, rngD_1, rngD_2, seqD_l, seqD_t, lstD_l, ixX_l, ixX_t, negX_i, slX_l, rvX_l, repX_i, intX_i, ixD_0, ixD_1, ixD_2, true_and, and_true, ite_self, run_holds]
    refine ⟨hp, ?_⟩
    by_cases h1 : hld n (s, m) s' = true
    · simp [h1]
      exact qb h (by simp [mtB, h1])
    · simp [h1, hp]
      exact qb h (by simp [mtB, h1])
  · cases e
end Ac
namespace Ac
open PySem PySem.Spec PyProof.Rows L2
/-! ### drawn numbers: stores that change, of which nothing is told but what they are -/
inductive Kd where
  | deck (p : Addr) | pools (qs : List Addr) | pool | stB (p : Addr) | nums
def Kd.tag : Kd → Nat
  | .deck _ => 0 | .stB _ => 1 | .pool => 2 | .pools _ => 9 | .nums => 9
abbrev KA := Addr → Option Kd
def okK (A : KA) (H : Hp) (a : Addr) : Kd → Prop
  | .deck p => ∃ i : Int, H a = some (.lst [.ref p, .int i]) ∧ ∃ qs, A p = some (.pools qs)
  | .pools qs => H a = some (.lst (qs.map V.ref)) ∧ qs ≠ [] ∧ ∀ q ∈ qs, A q = some .pool
  | .pool => ∃ x y z : Int, H a = some (.lst [.int x, .int y, .int z])
  | .stB p => ∃ i : Int, H a = some (.lst [.ref p, .int i]) ∧ A p = some .nums
  | .nums => ∃ ns : List Int, ns ≠ [] ∧ H a = some (.lst (ns.map V.int))
theorem okK_some {A : KA} {H : Hp} {a : Addr} {k : Kd} (h : okK A H a k) : H a ≠ none := by
  cases k with
  | deck p => obtain ⟨_, h, _⟩ := h; rw [h]; exact nofun
  | pools qs => rw [h.1]; exact nofun
  | pool => obtain ⟨_, _, _, h⟩ := h; rw [h]; exact nofun
  | stB p => obtain ⟨_, h, _⟩ := h; rw [h]; exact nofun
  | nums => obtain ⟨_, _, h⟩ := h; rw [h]; exact nofun
theorem okK_same {A : KA} {H H' : Hp} {a : Addr} {k : Kd} (h : okK A H a k) (e : H' a = H a) : okK A H' a k := by
  cases k with
  | deck p => obtain ⟨i, h1, h2⟩ := h; exact ⟨i, by rw [e]; exact h1, h2⟩
  | pools qs => exact ⟨by rw [e]; exact h.1, h.2⟩
  | pool => obtain ⟨x, y, z, h⟩ := h; exact ⟨x, y, z, by rw [e]; exact h⟩
  | stB p => obtain ⟨i, h1, h2⟩ := h; exact ⟨i, by rw [e]; exact h1, h2⟩
  | nums => obtain ⟨ns, h1, h2⟩ := h; exact ⟨ns, h1, by rw [e]; exact h2⟩
theorem okK_le {A B : KA} {H : Hp} {a : Addr} {k : Kd} (le : ∀ a k, A a = some k → B a = some k) (h : okK A H a k) : okK B H a k := by
  cases k with
  | deck p => obtain ⟨i, h1, qs, h2⟩ := h; exact ⟨i, h1, qs, le _ _ h2⟩
  | pools qs => exact ⟨h.1, h.2.1, fun q hq => le _ _ (h.2.2 q hq)⟩
  | pool => exact h
  | stB p => obtain ⟨i, h1, h2⟩ := h; exact ⟨i, h1, le _ _ h2⟩
  | nums => exact h
def rmD : RM where
  S := Unit
  A := KA
  ok := fun A _ H => ∀ a k, A a = some k → okK A H a k
  ft := fun A a => A a ≠ none
  hd := fun A n v => ∃ a k, v = .ref a ∧ A a = some k ∧ k.tag = n
  le := fun A B => ∀ a k, A a = some k → B a = some k
  le_refl := fun _ _ _ h => h
  le_trans := fun h1 h2 a k h => h2 a k (h1 a k h)
  le_ft := fun {A B p} h e => by
    cases q : A p with
    | none => exact absurd q e
    | some k => rw [h p k q]; exact nofun
  le_hd := fun h ⟨a, k, h1, h2, h3⟩ => ⟨a, k, h1, h a k h2, h3⟩
  ex := fun {A s H p} h e => by
    cases q : A p with
    | none => exact absurd q e
    | some k => exact okK_some (h p k q)
  frame := fun {A s H H'} h e a k hk => okK_same (h a k hk) (e a (by rw [hk]; exact nofun))
/-- a list of the store is written -/
theorem okK_upd {A : KA} {H : Hp} {a : Addr} {o : HO} {k : Kd} (h : ∀ b j, A b = some j → okK A H b j) (hk : A a = some k) (hn : okK A (upd H a o) a k) : ∀ b j, A b = some j → okK A (upd H a o) b j := fun b j hb => by
  by_cases e : b = a
  · subst e
    rw [hk] at hb
    cases hb
    exact hn
  · exact okK_same (h b j hb) (upd_ne e)
/-- a new deck -/
def newDeck (A : KA) (d o : Addr) (qs : List Addr) : KA := fun b => if b = d then some (.deck o) else if b = o then some (.pools qs) else if b ∈ qs then some .pool else A b
theorem newDeck_none {A : KA} {H : Hp} {d o b : Addr} {qs : List Addr} {u : HO} (e : H b = some u) (n : ¬ rmD.ft A b) (hd : H d = none) (ho : H o = none) (hq : ∀ q ∈ qs, H q = none) : ¬ rmD.ft (newDeck A d o qs) b := by
  have h1 : b ≠ d := ne_of_none e hd
  have h2 : b ≠ o := ne_of_none e ho
  have h3 : b ∉ qs := fun z => by rw [hq b z] at e; cases e
  show ¬ (newDeck A d o qs b ≠ none)
  unfold newDeck
  rw [if_neg h1, if_neg h2, if_neg h3]
  exact n
/-- a number is drawn -/
def Etake (tag : Nat) : ESumm Unit where
  run vs s Q Y := match vs with
    | [.hdl t, .dat (.int m)] => t = tag ∧ (0 < m ∧ m < 1073741824) ∧ ∀ r, 0 ≤ r → r < m → Q (.dat (.int r)) ()
    | _ => False
  mono := fun {vs s Q Q' Y Y'} h1 h2 q => by
    split at q
    · exact ⟨q.1, q.2.1, fun r a b => h1 _ _ (q.2.2 r a b)⟩
    · exact q.elim
@[simp] theorem run_take {tag t : Nat} {m : Int} {Q : Val → Unit → Prop} {Y : Nat → Unit → Prop} : (Etake tag).run [.hdl t, .dat (.int m)] () Q Y = (t = tag ∧ (0 < m ∧ m < 1073741824) ∧ ∀ r, 0 ≤ r → r < m → Q (.dat (.int r)) ()) := rfl
def E_law_draw : ESumm Unit := Etake 0
def E_law_deck : ESumm Unit where
  run vs s Q Y := match vs with
    | [.dat (.list xs)] => ∃ ns : List Int, xs = ns.map PyData.int ∧ ns.length ≤ 63 ∧ Q (.hdl 0) ()
    | _ => False
  mono := fun {vs s Q Q' Y Y'} h1 h2 q => by
    split at q
    · obtain ⟨ns, e, h, q⟩ := q; exact ⟨ns, e, h, h1 _ _ q⟩
    · exact q.elim
end Ac
namespace Ac
open PySem PySem.Spec PyProof.Rows L2
/-! ### defs of a ring: what is none is refused -/
structure RF where
  run : Int → List (Int × Int) → List D → (Val → Prop) → (Nat → Prop) → Prop
  mono : ∀ {n as ds} {Q Q' : Val → Prop} {Y Y' : Nat → Prop}, (∀ v, Q v → Q' v) → (∀ k, Y k → Y' k) → run n as ds Q Y → run n as ds Q' Y'
def Summ.ring (np : Nat) (f : RF) : Summ where
  run ds Q Y := ds.length = np + 1 ∧ ∀ d r, ds = d :: r → (isRingD d = false → Y 0) ∧ ∀ n as, d = ringD n as → RingOk n as → f.run n as r Q Y
  mono := fun {ds Q Q' Y Y'} h1 h2 q => ⟨q.1, fun d r e => ⟨fun z => h2 0 ((q.2 d r e).1 z), fun n as z ok => f.mono h1 h2 ((q.2 d r e).2 n as z ok)⟩⟩
theorem ringD_inj {n m : Int} {as bs : List (Int × Int)} (h : ringD n as = ringD m bs) : n = m ∧ as = bs := by
  unfold ringD at h
  simp only [PyData.tuple.injEq, List.cons.injEq, PyData.int.injEq, PyData.list.injEq, and_true] at h
  refine ⟨h.1, ?_⟩
  have inj : ∀ (xs ys : List (Int × Int)), xs.map arcD = ys.map arcD → xs = ys := by
    intro xs
    induction xs with
    | nil => intro ys h; cases ys with | nil => rfl | cons y r => cases h
    | cons x r ih =>
      intro ys h
      cases ys with
      | nil => cases h
      | cons y s =>
        rw [List.map_cons, List.map_cons, List.cons.injEq] at h
        have e1 : x = y := by
          have := h.1
          unfold arcD at this
          simp only [PyData.tuple.injEq, List.cons.injEq, PyData.int.injEq, and_true] at this
          exact Prod.ext this.1 this.2
        rw [e1, ih s h.2]
  exact inj _ _ h.2
/-- a call with a ring -/
theorem ring_ok {np : Nat} {f : RF} {n : Int} {as : List (Int × Int)} {r : List D} {Q : Val → Prop} {Y : Nat → Prop} (hl : r.length = np) (ok : RingOk n as) (h : f.run n as r Q Y) : (Summ.ring np f).run (ringD n as :: r) Q Y := by
  refine ⟨by rw [List.length_cons, hl], fun d r' e => ?_⟩
  cases e
  refine ⟨fun e => ?_, fun m bs e _ => ?_⟩
  · rw [isRing_ringD ok] at e; cases e
  · obtain ⟨rfl, rfl⟩ := ringD_inj e
    exact h
theorem ring_bad {np : Nat} {f : RF} {d : D} {r : List D} {Q : Val → Prop} {Y : Nat → Prop} (hl : r.length = np) (bad : isRingD d = false) (h : Y 0) : (Summ.ring np f).run (d :: r) Q Y := by
  refine ⟨by rw [List.length_cons, hl], fun d r' e => ?_⟩
  cases e
  refine ⟨fun _ => h, fun m bs e ok => ?_⟩
  rw [e, isRing_ringD ok] at bad
  cases bad
/-- a def of a ring keeps its summary: the two cases -/
theorem WOk.ring {np nN : Nat} {f : RF} {body : Sms Unit} (hbad : ∀ d r (Q : Val → Prop) (Y : Nat → Prop), r.length = np → isRingD d = false → Y 0 → wSs body (entry nN ((d :: r).map .dat)) () (KQY Q Y))
    (hok : ∀ n as r (Q : Val → Prop) (Y : Nat → Prop), r.length = np → RingOk n as → f.run n as r Q Y → wSs body (entry nN ((ringD n as :: r).map .dat)) () (KQY Q Y)) : WOk (Summ.ring np f) (np + 1) nN body := fun ds Q Y h => by
  cases ds with
  | nil => cases h.1
  | cons d r =>
    have hl : r.length = np := Nat.succ.inj h.1
    refine ⟨h.1, ?_⟩
    obtain ⟨h0, h1⟩ := h.2 d r rfl
    cases hr : isRingD d with
    | false => exact hbad d r Q Y hl hr (h0 hr)
    | true =>
      obtain ⟨n, as, rfl, ok⟩ := isRingD_iff.mp hr
      exact hok n as r Q Y hl ok (h1 n as rfl ok)
theorem len1 {α : Type} {l : List α} (h : l.length = 1) : ∃ a, l = [a] := by
  match l, h with
  | [a], _ => exact ⟨a, rfl⟩
theorem len2 {α : Type} {l : List α} (h : l.length = 2) : ∃ a b, l = [a, b] := by
  match l, h with
  | [a, b], _ => exact ⟨a, b, rfl⟩
theorem arc_item {as : List (Int × Int)} {i : Nat} (hi : i < as.length) : (as.map arcD)[i]? = some (arcD as[i]) := by rw [List.getElem?_map, List.getElem?_eq_getElem hi]; rfl
/-- its tree: need_ring(ring) first -/
theorem isNum_iff {d : D} {b : Nat} : isNumD d b = true ↔ ∃ i : Nat, i < b ∧ d = .int i := by
  constructor
  · intro h
    unfold isNumD at h
    split at h
    · rename_i i
      rw [Bool.and_eq_true, decide_eq_true_eq, decide_eq_true_eq] at h
      exact ⟨i.toNat, by omega, by rw [Int.toNat_of_nonneg h.1]⟩
    · cases h
  · rintro ⟨i, hi, rfl⟩
    simp [isNumD]
    omega
theorem isNum_int {d : D} {b : Int} : isNumD d b = true ↔ ∃ i : Int, 0 ≤ i ∧ i < b ∧ d = .int i := by
  constructor
  · intro h
    unfold isNumD at h
    split at h
    · rename_i i
      rw [Bool.and_eq_true, decide_eq_true_eq, decide_eq_true_eq] at h
      exact ⟨i, h.1, h.2, rfl⟩
    · cases h
  · rintro ⟨i, h0, hi, rfl⟩
    simp [isNumD]
    omega
/-! ### places_of -/
def Fplaces_of : RF where
  run n as ds Q Y := match ds with
    | [a] => (isNumD a as.length = false → Y 1) ∧ ∀ (i : Nat) (h : i < as.length), a = .int i → Q (.new ((plc n as[i]).map .int))
    | _ => False
  mono := fun h1 h2 q => by
    split at q
    · exact ⟨fun e => h2 _ (q.1 e), fun i h e => h1 _ (q.2 i h e)⟩
    · exact q
def Splaces_of : Summ := Summ.ring 1 Fplaces_of
theorem call_places_of {n : Int} {as : List (Int × Int)} {i : Nat} {Q : Val → Prop} {Y : Nat → Prop} (ok : RingOk n as) (hi : i < as.length) (h : Q (.new ((plc n as[i]).map .int))) : Splaces_of.run [ringD n as, .int (i : Nat)] Q Y := by
  refine ring_ok rfl ok ⟨fun e => ?_, fun j hj e => ?_⟩
  · rw [isNum_iff.mpr ⟨i, hi, rfl⟩] at e; cases e
  · have : j = i := by cases e; rfl
    subst this
    exact h
def trplaces_of : Sms Unit :=
  (.cons (.one (.expr (.call "need_ring" Sneed_ring (.cons (.var 0) .nil))))
    (.cons (.one (.expr (.call "need_number" Sneed_number (.cons (.var 0) (.cons (.var 1) .nil)))))
    (.cons (.one (.ret (.call "places_in" Splaces_in (.cons (.ix (.var 0) (.int 0)) (.cons (.ix (.ix (.var 0) (.int 1)) (.var 1)) .nil)))))
    .nil)))

theorem w_places_of : WOk Splaces_of 2 2 trplaces_of := WOk.ring (fun d r Q Y hl hr h0 => by
    obtain ⟨a, rfl⟩ := len1 hl
    unfold trplaces_of
    simp only [wSs, wS, w1, wT, wE, wA, wX, wV, wP, wC, opn, rdO_d, rdO_o, asD_d, asD_n, KQY, entry, look, put, slotV, argsOk, frzA, frzV, sv_i, sv_b, sv_s, sv_0, sv_l, sv_t, sv_d, sv_n, List.map, List.length, List.replicate, List.cons_append, List.nil_append, Nat.sub_self, biD, isD_1, boolD_b, cmpD, relD_i, opD, addD_i, addD_l, subD_i, intD_i, lenD_l, lenD_t, listD_l, listD_t, tupleD_l, int2D_i, absD_i, toIntD_i, toIntD_b, eqD_i, eqD_b, eqD_s, rngD_1, rngD_2, seqD_l, seqD_t, lstD_l, ixX_l, ixX_t, negX_i, slX_l, rvX_l, repX_i, intX_i, ixD_0, ixD_1, ixD_2, true_and, and_true, ite_self, run_need_ring]
    simpa [hr] using h0) (fun n as r Q Y hl ok h => by
    obtain ⟨a, rfl⟩ := len1 hl
    obtain ⟨h2, h3⟩ := h
    unfold trplaces_of
    simp only [wSs, wS, w1, wT, wE, wA, wX, wV, wP, wC, opn, rdO_d, rdO_o, asD_d, asD_n, KQY, entry, look, put, slotV, argsOk, frzA, frzV, sv_i, sv_b, sv_s, sv_0, sv_l, sv_t, sv_d, sv_n, List.map, List.length, List.replicate, List.cons_append, List.nil_append, Nat.sub_self, biD, isD_1, boolD_b, cmpD, relD_i, opD, addD_i, addD_l, subD_i, intD_i, lenD_l, lenD_t, listD_l, listD_t, tupleD_l, int2D_i, absD_i, toIntD_i, toIntD_b, eqD_i, eqD_b, eqD_s, rngD_1, rngD_2, seqD_l, seqD_t, lstD_l, ixX_l, ixX_t, negX_i, slX_l, rvX_l, repX_i, intX_i, ixD_0, ixD_1, ixD_2, true_and, and_true, ite_self, run_need_ring, isRing_ringD ok]
    simp only [if_true, ringD, ixX_t, ixX_l, ixD_0, ixD_1, run_need_number, List.length_map]
    cases ha : isNumD a as.length with
    | false => simpa [ha] using h2 ha
    | true =>
      obtain ⟨i, hi, rfl⟩ := isNum_iff.mp ha
      have oki := ok.arcs _ (List.getElem_mem hi)
      have n1 := ok.n1
      have n40 := ok.n40
      simp only [if_true, ixX_l, ixX_t, ixD_nat (j := i) rfl (arc_item hi), arcD, run_places_in, argsOk, true_and, and_true, scalV, Bool.false_eq_true, if_false]
      refine ⟨⟨by omega, ?_, ?_⟩, h3 i hi rfl⟩
      · have := oki.2.2.2; omega
      · have := oki.2.2.1; omega)
/-! ### arcs_at, do_meet -/
def atB (n : Int) (as : List (Int × Int)) (p : Int) : List Nat := (List.range as.length).filter fun k => match as[k]? with | some a => hld n a p | none => false
def natD (k : Nat) : D := .int (k : Nat)
def Farcs_at : RF where
  run n as ds Q Y := match ds with
    | [a] => (isNumD a n = false → Y 2) ∧ ∀ p : Int, 0 ≤ p → p < n → a = .int p → Q (.new ((atB n as p).map natD))
    | _ => False
  mono := fun h1 h2 q => by
    split at q
    · exact ⟨fun e => h2 _ (q.1 e), fun p a b e => h1 _ (q.2 p a b e)⟩
    · exact q
def Sarcs_at : Summ := Summ.ring 1 Farcs_at
theorem call_arcs_at {n : Int} {as : List (Int × Int)} {p : Int} {Q : Val → Prop} {Y : Nat → Prop} (ok : RingOk n as) (h0 : 0 ≤ p) (h1 : p < n) (h : Q (.new ((atB n as p).map natD))) : Sarcs_at.run [ringD n as, .int p] Q Y := by
  refine ring_ok rfl ok ⟨fun e => ?_, fun j _ _ e => ?_⟩
  · rw [isNum_int.mpr ⟨p, h0, h1, rfl⟩] at e; cases e
  · cases e
    exact h
def trarcs_at_c1 : Es Unit :=
  (.cons (.call "holds" Sholds (.cons (.ix (.var 0) (.int 0)) (.cons (.var 3) (.cons (.var 1) .nil)))) .nil)
def trarcs_at : Sms Unit :=
  (.cons (.one (.expr (.call "need_ring" Sneed_ring (.cons (.var 0) .nil))))
    (.cons (.one (.expr (.call "need_place" Sneed_place (.cons (.var 0) (.cons (.var 1) .nil)))))
    (.cons (.one (.ret (.comp [2, 3] (.tp [2, 3]) (.enu (.ix (.var 0) (.int 1))) trarcs_at_c1 (.var 2))))
    .nil)))

/-- an enumerated list, filtered -/
theorem enum_filter {α β : Type} {f : α → D} {g : D → Option β} {p : Nat → α → Option β} (hg : ∀ k a, g (.tuple [.int (k : Nat), f a]) = p k a) : ∀ (as : List α) (i : Nat), ((as.zipIdx i).map fun q => PyData.tuple [.int (q.2 : Nat), f q.1]).filterMap g = (as.zipIdx i).filterMap fun q => p q.2 q.1
  | [], _ => rfl
  | a :: r, i => by
    rw [List.zipIdx_cons, List.map_cons, List.filterMap_cons, List.filterMap_cons, enum_filter hg r (i + 1), hg]
theorem enumD_map {α : Type} {f : α → D} (as : List α) : enumD (as.map f) = (as.zipIdx).map fun q => PyData.tuple [.int (q.2 : Nat), f q.1] := by
  unfold enumD
  rw [List.zipIdx_map, List.map_map]
  rfl
theorem zip_filter (n p : Int) : ∀ (as pre : List (Int × Int)), (as.zipIdx pre.length).filterMap (fun q => if hld n q.1 p = true then some (natD q.2) else none) = ((List.range' pre.length as.length).filter fun k => match (pre ++ as)[k]? with | some a => hld n a p | none => false).map natD
  | [], pre => rfl
  | a :: r, pre => by
    have ih := zip_filter n p r (pre ++ [a])
    rw [List.length_append, List.length_singleton] at ih
    rw [List.zipIdx_cons, List.filterMap_cons, ih, List.length_cons, List.range'_succ, List.filter_cons]
    have e : (pre ++ a :: r)[pre.length]? = some a := by rw [List.getElem?_append_right (Nat.le_refl _), Nat.sub_self]; rfl
    rw [e, List.append_assoc, List.singleton_append]
    by_cases h : hld n a p = true
    · simp [h]
    · simp [h]
theorem atB_zip (n p : Int) (as : List (Int × Int)) : (as.zipIdx).filterMap (fun q => if hld n q.1 p = true then some (natD q.2) else none) = (atB n as p).map natD := by
  have := zip_filter n p as []
  rw [List.nil_append] at this
  unfold atB
  rw [List.range_eq_range']
  exact this
theorem w_arcs_at : WOk Sarcs_at 2 4 trarcs_at := WOk.ring (fun d r Q Y hl hr h0 => by
    obtain ⟨a, rfl⟩ := len1 hl
    unfold trarcs_at
    simp only [wSs, wS, w1, wT, wE, wA, wX, wV, wP, wC, opn, rdO_d, rdO_o, asD_d, asD_n, KQY, entry, look, put, slotV, argsOk, frzA, frzV, sv_i, sv_b, sv_s, sv_0, sv_l, sv_t, sv_d, sv_n, List.map, List.length, List.replicate, List.cons_append, List.nil_append, Nat.sub_self, biD, isD_1, boolD_b, cmpD, relD_i, opD, addD_i, addD_l, subD_i, intD_i, lenD_l, lenD_t, listD_l, listD_t, tupleD_l, int2D_i, absD_i, toIntD_i, toIntD_b, eqD_i, eqD_b, eqD_s, rngD_1, rngD_2, seqD_l, seqD_t, lstD_l, ixX_l, ixX_t, negX_i, slX_l, rvX_l, repX_i, intX_i, ixD_0, ixD_1, ixD_2, true_and, and_true, ite_self, run_need_ring]
    simpa [hr] using h0) (fun n as r Q Y hl ok h => by
    obtain ⟨a, rfl⟩ := len1 hl
    obtain ⟨h2, h3⟩ := h
    unfold trarcs_at
    simp only [wSs, wS, w1, wT, wE, wA, wX, wV, wP, wC, opn, rdO_d, rdO_o, asD_d, asD_n, KQY, entry, look, put, slotV, argsOk, frzA, frzV, sv_i, sv_b, sv_s, sv_0, sv_l, sv_t, sv_d, sv_n, List.map, List.length, List.replicate, List.cons_append, List.nil_append, Nat.sub_self, biD, isD_1, boolD_b, cmpD, relD_i, opD, addD_i, addD_l, subD_i, intD_i, lenD_l, lenD_t, listD_l, listD_t, tupleD_l, int2D_i, absD_i, toIntD_i, toIntD_b, eqD_i, eqD_b, eqD_s, rngD_1, rngD_2, seqD_l, seqD_t, lstD_l, ixX_l, ixX_t, negX_i, slX_l, rvX_l, repX_i, intX_i, ixD_0, ixD_1, ixD_2, true_and, and_true, ite_self, run_need_ring, isRing_ringD ok]
    simp only [if_true, ringD, ixX_t, ixX_l, ixD_0, ixD_1, run_need_place]
    cases ha : isNumD a n with
    | false => simpa [ha] using h2 ha
    | true =>
      obtain ⟨p, h0, h1, rfl⟩ := isNum_int.mp ha
      have n1 := ok.n1
      simp only [if_true, ixX_l, ixX_t, wI, wSs, wS, w1, wT, wE, wA, wX, wV, wP, wC, opn, rdO_d, rdO_o, asD_d, asD_n, KQY, entry, look, put, slotV, argsOk, frzA, frzV, sv_i, sv_b, sv_s, sv_0, sv_l, sv_t, sv_d, sv_n, List.map, List.length, List.replicate, List.cons_append, List.nil_append, Nat.sub_self, biD, isD_1, boolD_b, cmpD, relD_i, opD, addD_i, addD_l, subD_i, intD_i, lenD_l, lenD_t, listD_l, listD_t, tupleD_l, int2D_i, absD_i, toIntD_i, toIntD_b, eqD_i, eqD_b, eqD_s, rngD_1, rngD_2, seqD_l, seqD_t, lstD_l, ixX_l, ixX_t, negX_i, slX_l, rvX_l, repX_i, intX_i, ixD_0, ixD_1, ixD_2, true_and, and_true, ite_self, wipeG, backG]
      refine ⟨?_, ?_⟩
      · rw [enumD_len, List.length_map]; exact big20 ok.len
      · refine cLoop_pure (g := fun x => match x with | .tuple [.int k, .tuple [.int s, .int m]] => if hld n (s, m) p = true then some (.int k) else none | _ => none) _ _ (fun x hx k' hk => ?_) ?_
        · rw [enumD_map] at hx
          obtain ⟨⟨b, i⟩, _, rfl⟩ := List.mem_map.mp hx
          have hk' : k' (if hld n b p = true then some (.int (i : Nat)) else none) _ _ := hk
          simp [bindT, putAll, trarcs_at_c1, wipeG, arcD, wSs, wS, w1, wT, wE, wA, wX, wV, wP, wC, opn, rdO_d, rdO_o, asD_d, asD_n, KQY, entry, look, put, slotV, argsOk, frzA, frzV, sv_i, sv_b, sv_s, sv_0, sv_l, sv_t, sv_d, sv_n, List.map, List.length, List.replicate, List.cons_append, List.nil_append, Nat.sub_self, biD, isD_1, boolD_b, cmpD, relD_i, opD, addD_i, addD_l, subD_i, intD_i, lenD_l, lenD_t, listD_l, listD_t, tupleD_l, int2D_i, absD_i, toIntD_i, toIntD_b, eqD_i, eqD_b, eqD_s, rngD_1, rngD_2, seqD_l, seqD_t, lstD_l, ixX_l, ixX_t, negX_i, slX_l, rvX_l, repX_i, intX_i, ixD_0, ixD_1, ixD_2, true_and, and_true, ite_self]
          refine ⟨by omega, ?_⟩
          by_cases hb : hld n b p = true
          · rw [if_pos hb] at hk'
            simpa [hb] using hk'
          · rw [if_neg hb] at hk'
            simpa [hb] using hk'
        · rw [List.nil_append, enumD_map, enum_filter (p := fun k a => if hld n a p = true then some (natD k) else none) (fun k a => rfl), atB_zip]
          exact h3 p h0 h1 rfl)
def Fdo_meet : RF where
  run n as ds Q Y := match ds with
    | [a, b] => (isNumD a as.length = false → Y 1) ∧ (isNumD a as.length = true → isNumD b as.length = false → Y 1) ∧ ∀ (i j : Nat) (hi : i < as.length) (hj : j < as.length), a = .int i → b = .int j → Q (.dat (.bool (mtB n as[i] as[j])))
    | _ => False
  mono := fun h1 h2 q => by
    split at q
    · exact ⟨fun e => h2 _ (q.1 e), fun e e' => h2 _ (q.2.1 e e'), fun i j h h' e e' => h1 _ (q.2.2 i j h h' e e')⟩
    · exact q
def Sdo_meet : Summ := Summ.ring 2 Fdo_meet
theorem call_do_meet {n : Int} {as : List (Int × Int)} {i j : Nat} {Q : Val → Prop} {Y : Nat → Prop} (ok : RingOk n as) (hi : i < as.length) (hj : j < as.length) (h : Q (.dat (.bool (mtB n as[i] as[j])))) : Sdo_meet.run [ringD n as, .int (i : Nat), .int (j : Nat)] Q Y := by
  refine ring_ok rfl ok ⟨fun e => ?_, fun _ e => ?_, fun i' j' _ _ e e' => ?_⟩
  · rw [isNum_iff.mpr ⟨i, hi, rfl⟩] at e; cases e
  · rw [isNum_iff.mpr ⟨j, hj, rfl⟩] at e; cases e
  · have e1 : i' = i := by cases e; rfl
    have e2 : j' = j := by cases e'; rfl
    subst e1 e2
    exact h
def trdo_meet : Sms Unit :=
  (.cons (.one (.expr (.call "need_ring" Sneed_ring (.cons (.var 0) .nil))))
    (.cons (.one (.expr (.call "need_number" Sneed_number (.cons (.var 0) (.cons (.var 1) .nil)))))
    (.cons (.one (.expr (.call "need_number" Sneed_number (.cons (.var 0) (.cons (.var 2) .nil)))))
    (.cons (.one (.ret (.call "meet" Smeet (.cons (.ix (.var 0) (.int 0)) (.cons (.ix (.ix (.var 0) (.int 1)) (.var 1)) (.cons (.ix (.ix (.var 0) (.int 1)) (.var 2)) .nil))))))
    .nil))))

theorem w_do_meet : WOk Sdo_meet 3 3 trdo_meet := WOk.ring (fun d r Q Y hl hr h0 => by
    obtain ⟨a, b, rfl⟩ := len2 hl
    unfold trdo_meet
    simp only [wSs, wS, w1, wT, wE, wA, wX, wV, wP, wC, opn, rdO_d, rdO_o, asD_d, asD_n, KQY, entry, look, put, slotV, argsOk, frzA, frzV, sv_i, sv_b, sv_s, sv_0, sv_l, sv_t, sv_d, sv_n, List.map, List.length, List.replicate, List.cons_append, List.nil_append, Nat.sub_self, biD, isD_1, boolD_b, cmpD, relD_i, opD, addD_i, addD_l, subD_i, intD_i, lenD_l, lenD_t, listD_l, listD_t, tupleD_l, int2D_i, absD_i, toIntD_i, toIntD_b, eqD_i, eqD_b, eqD_s, rngD_1, rngD_2, seqD_l, seqD_t, lstD_l, ixX_l, ixX_t, negX_i, slX_l, rvX_l, repX_i, intX_i, ixD_0, ixD_1, ixD_2, true_and, and_true, ite_self, run_need_ring]
    simpa [hr] using h0) (fun n as r Q Y hl ok h => by
    obtain ⟨a, b, rfl⟩ := len2 hl
    obtain ⟨h1, h2, h3⟩ := h
    unfold trdo_meet
    simp only [wSs, wS, w1, wT, wE, wA, wX, wV, wP, wC, opn, rdO_d, rdO_o, asD_d, asD_n, KQY, entry, look, put, slotV, argsOk, frzA, frzV, sv_i, sv_b, sv_s, sv_0, sv_l, sv_t, sv_d, sv_n, List.map, List.length, List.replicate, List.cons_append, List.nil_append, Nat.sub_self, biD, isD_1, boolD_b, cmpD, relD_i, opD, addD_i, addD_l, subD_i, intD_i, lenD_l, lenD_t, listD_l, listD_t, tupleD_l, int2D_i, absD_i, toIntD_i, toIntD_b, eqD_i, eqD_b, eqD_s, rngD_1, rngD_2, seqD_l, seqD_t, lstD_l, ixX_l, ixX_t, negX_i, slX_l, rvX_l, repX_i, intX_i, ixD_0, ixD_1, ixD_2, true_and, and_true, ite_self, run_need_ring, isRing_ringD ok]
    simp only [if_true, ringD, ixX_t, ixX_l, ixD_0, ixD_1, run_need_number, List.length_map]
    cases ha : isNumD a as.length with
    | false => simpa [ha] using h1 ha
    | true =>
      cases hb : isNumD b as.length with
      | false => simpa [ha, hb] using h2 ha hb
      | true =>
        obtain ⟨i, hi, rfl⟩ := isNum_iff.mp ha
        obtain ⟨j, hj, rfl⟩ := isNum_iff.mp hb
        have n1 := ok.n1
        simp only [if_true, ixX_l, ixX_t, ixD_nat (j := i) rfl (arc_item hi), ixD_nat (j := j) rfl (arc_item hj), arcD, run_meet, argsOk, true_and, and_true, scalV, scal]
        exact ⟨by omega, h3 i j hi hj rfl rfl⟩)
end Ac
namespace Ac
open PySem PySem.Spec PyProof.Rows L2
section
variable {S : Type}
structure KLe (K K' : Kn S) : Prop where
  nx : ∀ Γ s, K.nx Γ s → K'.nx Γ s
  rt : ∀ v s, K.rt v s → K'.rt v s
  bk : ∀ Γ s, K.bk Γ s → K'.bk Γ s
  ct : ∀ Γ s, K.ct Γ s → K'.ct Γ s
  ex : K'.ex = K.ex
theorem w1_mono {K K' : Kn S} (h : KLe K K') (c : St1 S) {Γ : Ctx} {s : S} (q : w1 c Γ s K) : w1 c Γ s K' := by
  cases c <;> dsimp only [w1] at q ⊢
  case nop => exact h.nx _ _ q
  case asg i e => rw [h.ex]; exact wE_mono e (fun v Γ' s' => h.nx _ _) q
  case asgL i e => rw [h.ex]; exact wE_mono e (fun v Γ' s' => h.nx _ _) q
  case asgH i φ e => rw [h.ex]; exact wE_mono e (fun v Γ' s' => φ.mono (fun w s2 => h.nx _ _) (fun _ _ z => z)) q
  case asgT is e =>
    rw [h.ex]
    refine wE_mono e (fun v Γ' s' => asD_mono fun d q => ?_) q
    split at q
    · exact putAll_mono (fun Γ2 => h.nx _ _) q
    · exact q.elim
  case app i e =>
    rw [h.ex]
    split at q
    · refine wE_mono e (fun v Γ' s' => asD_mono fun d q => ?_) q
      split at q
      · exact ⟨q.1, h.nx _ _ q.2⟩
      · exact q.elim
    · exact q.elim
  case ins i j e =>
    rw [h.ex]
    split at q
    · refine opnE_mono j (fun y Γ1 s1 => wE_mono e (fun v Γ' s' => asD_mono fun d q => ?_)) q
      split at q
      · exact ⟨q.1, q.2.1, q.2.2.1, h.nx _ _ q.2.2.2⟩
      · exact q.elim
    · exact q.elim
  case setI i j e =>
    rw [h.ex]
    refine wE_mono e (fun v Γ' s' => asD_mono fun d q => ?_) q
    split at q
    · refine opnE_mono j (fun y Γ2 s2 q => ?_) q
      split at q
      · split at q
        · exact h.nx _ _ q
        · exact q.elim
      · exact q.elim
    · exact q.elim
  case aug i o e =>
    rw [h.ex]
    split at q
    · refine opnE_mono e (fun y Γ' s' q => ?_) q
      split at q
      · split at q
        · exact h.nx _ _ q
        · exact h.nx _ _ q
        · exact q.elim
      · exact q.elim
    · exact q.elim
  case expr e => rw [h.ex]; exact wE_mono e (fun v Γ' s' => h.nx _ _) q
  case ret e =>
    cases e with
    | var i =>
      dsimp only at q ⊢
      split at q <;> first | exact h.rt _ _ q | exact q.elim
    | _ =>
      dsimp only at q ⊢
      rw [h.ex]
      exact wE_mono _ (fun v Γ' s' => h.rt _ _) q
  case brk => exact h.bk _ _ q
  case cnt => exact h.ct _ _ q
  case raise x n => rw [h.ex]; exact q
theorem fLoop_mono {f : D → Ctx → S → Kn S → Prop} (hf : ∀ (x : D) (Γ : Ctx) (s : S) (K K' : Kn S), KLe K K' → f x Γ s K → f x Γ s K') {K K' : Kn S} (h : KLe K K') : ∀ {xs : List D} {Γ : Ctx} {s : S}, fLoop f K xs Γ s → fLoop f K' xs Γ s
  | [], _, _, q => h.nx _ _ q
  | x :: r, _, _, q => by
    refine hf _ _ _ { K with nx := fun Γ' s' => fLoop f K r Γ' s', ct := fun Γ' s' => fLoop f K r Γ' s', bk := K.nx } _ ?_ q
    exact { nx := fun Γ s q => fLoop_mono hf h (xs := r) q, rt := h.rt, bk := h.nx, ct := fun Γ s q => fLoop_mono hf h (xs := r) q, ex := h.ex }
theorem wT_mono {xc : Nat → Ctx → S → Prop} {c : E S} {Γ : Ctx} {s : S} {Q Q' : Bool → Ctx → S → Prop} (h : ∀ b Γ s, Q b Γ s → Q' b Γ s) (q : wT xc c Γ s Q) : wT xc c Γ s Q' := opnE_mono c (fun d Γ1 s1 => boolD_mono fun b => h b Γ1 s1) q
theorem wJ_mono' {xc : Nat → Ctx → S → Prop} (it : It S) {Γ : Ctx} {s : S} {Q Q' : List D → Ctx → S → Prop} (h : ∀ v Γ' s', Q v Γ' s' → Q' v Γ' s') (q : wJ xc it Γ s Q) : wJ xc it Γ s Q' := by
  cases it with
  | seq e =>
    unfold wJ at q ⊢
    exact wE_mono e (fun v Γ1 s1 => asD_mono fun d => seqD_mono fun xs => h _ _ _) q
  | rng es =>
    unfold wJ at q ⊢
    exact wA_mono es (fun ds Γ1 s1 => rngD_mono fun xs => h _ _ _) q
  | enu e =>
    unfold wJ at q ⊢
    exact wE_mono e (fun v Γ1 s1 => asD_mono fun d => lstD_mono fun xs => h _ _ _) q
  | zip a b =>
    unfold wJ at q ⊢
    exact wE_mono a (fun v Γ1 s1 => asD_mono fun d q => wE_mono b (fun v Γ2 s2 => asD_mono fun d2 => lstD_mono fun xs => lstD_mono fun ys => h _ _ _) q) q
mutual
theorem wS_mono : ∀ (c : Sm S) {K K' : Kn S}, KLe K K' → ∀ {Γ : Ctx} {s : S}, wS c Γ s K → wS c Γ s K'
  | .one c, K, K', h, Γ, s, q => by
    unfold wS at q ⊢
    exact w1_mono h c q
  | .ite c a b, K, K', h, Γ, s, q => by
    unfold wS at q ⊢
    rw [h.ex]
    exact wT_mono (fun v Γ1 s1 => ite_mono (wSs_mono a h) (wSs_mono b h)) q
  | .whl c b, K, K', h, Γ, s, q => by
    unfold wS at q ⊢
    obtain ⟨V, h0, turn⟩ := q
    refine ⟨V, h0, fun m Γ s v => ?_⟩
    rw [h.ex]
    refine wT_mono (fun v Γ1 s1 q => ite_mono (fun q => ?_) (h.nx _ _) q) (turn m Γ s v)
    refine wSs_mono b (K := { K with nx := fun Γ' s' => ∃ m', m' < m ∧ V m' Γ' s', ct := fun Γ' s' => ∃ m', m' < m ∧ V m' Γ' s', bk := K.nx }) ?_ q
    exact { nx := fun _ _ z => z, rt := h.rt, bk := h.nx, ct := fun _ _ z => z, ex := rfl }
  | .for tg it b, K, K', h, Γ, s, q => by
    unfold wS at q ⊢
    rw [h.ex]
    exact wJ_mono' it (fun xs Γ1 s1 q => ⟨q.1, fLoop_mono (f := fun x Γ s K' => bindT tg x Γ fun Γ' => wSs b Γ' s K') (fun x Γ s K K' h q => bindT_mono (fun Γ' => wSs_mono b h) q) h q.2⟩) q
theorem wSs_mono : ∀ (c : Sms S) {K K' : Kn S}, KLe K K' → ∀ {Γ : Ctx} {s : S}, wSs c Γ s K → wSs c Γ s K'
  | .nil, K, K', h, Γ, s, q => by
    unfold wSs at q ⊢
    exact h.nx _ _ q
  | .cons a r, K, K', h, Γ, s, q => by
    unfold wSs at q ⊢
    refine wS_mono a (K := { K with nx := fun Γ' s' => wSs r Γ' s' K }) ?_ q
    exact { nx := fun Γ s => wSs_mono r h, rt := h.rt, bk := h.bk, ct := h.ct, ex := h.ex }
end
/-- one statement, what it reaches, the rest -/
theorem wSs_cut {a : Sm S} {r : Sms S} {Γ : Ctx} {s : S} {K : Kn S} (P : Ctx → S → Prop) (h1 : wS a Γ s { K with nx := P }) (h2 : ∀ Γ' s', P Γ' s' → wSs r Γ' s' K) : wSs (.cons a r) Γ s K := by
  unfold wSs
  refine wS_mono a (K := { K with nx := P }) ?_ h1
  exact { nx := fun Γ s => h2 Γ s, rt := fun _ _ z => z, bk := fun _ _ z => z, ct := fun _ _ z => z, ex := rfl }
end
end Ac
namespace Ac
open PySem PySem.Spec PyProof.Rows L2
/-! ### defs with a state -/
def KE2 (Q : Val → Unit → Prop) (Y : Nat → Unit → Prop) : Kn Unit := { nx := fun _ s' => Q (.dat .none) s', rt := fun v s' => Q v s', ex := fun n _ s' => Y n s' }
def WOkE (φ : ESumm Unit) (np nN : Nat) (body : Sms Unit) : Prop := ∀ ws s Q Y, φ.run ws s Q Y → ws.length = np ∧ wSs body (entry nN ws) s (KE2 Q Y)
theorem ixD_any {xs : List D} {i : Int} {k : D → Prop} (h0 : 0 ≤ i) (h1 : i < xs.length) (h : ∀ x ∈ xs, k x) : ixD xs i k := by
  have hl : i.toNat < xs.length := by omega
  rw [ixD_nat (j := i.toNat) (by omega) (List.getElem?_eq_getElem hl)]
  exact h _ (List.getElem_mem hl)
theorem arcOk_mod {n x m : Int} (hn : 0 < n) (h1 : 1 ≤ m) (h2 : m ≤ n) : arcOk n (x % n, m) := ⟨Int.emod_nonneg _ (by omega), Int.emod_lt_of_pos _ hn, h1, h2⟩
theorem notEmpty_iff {α : Type} {l : List α} : (!l.isEmpty) = true ↔ l ≠ [] := by cases l <;> simp
/-! ### the law itself -/
def Elaw : ESumm Unit where
  run vs s Q Y := match vs with
    | [.dat (.list xs)] => ∃ ns : List Int, xs = ns.map PyData.int ∧ ns.length ≤ 63 ∧ Q (.dat (.bool true)) ()
    | _ => False
  mono := fun {vs s Q Q' Y Y'} h1 h2 q => by
    split at q
    · obtain ⟨ns, e, h, q⟩ := q; exact ⟨ns, e, h, h1 _ _ q⟩
    · exact q.elim
theorem Elaw_run {vs : List Val} {s : Unit} {Q : Val → Unit → Prop} {Y : Nat → Unit → Prop} (h : Elaw.run vs s Q Y) : ∃ ns : List Int, vs = [.dat (.list (ns.map PyData.int))] ∧ ns.length ≤ 63 ∧ Q (.dat (.bool true)) () := by
  unfold Elaw at h
  dsimp only at h
  split at h
  · obtain ⟨ns, rfl, h1, h2⟩ := h; exact ⟨ns, rfl, h1, h2⟩
  · exact h.elim
/-! ### clean things -/
theorem okc_list {xs : List D} (h : ∀ x ∈ xs, okD 7 x = true ∧ clean x = true) : okc (.list xs) = true := by
  unfold okc
  rw [Bool.and_eq_true]
  refine ⟨List.all_eq_true.mpr fun x hx => (h x hx).1, ?_⟩
  simp only [clean]
  exact cleanL_all fun x hx => (h x hx).2
theorem okc_ints (ns : List Int) : okc (.list (ns.map .int)) = true := okc_list fun x hx => by
  obtain ⟨i, _, rfl⟩ := List.mem_map.mp hx
  exact ⟨rfl, rfl⟩
theorem okc_ring (n : Int) (as : List (Int × Int)) : okc (ringD n as) = true := by
  unfold okc ringD
  rw [Bool.and_eq_true]
  constructor
  · show ([PyData.int n, .list (as.map arcD)]).all (okD 7) = true
    rw [List.all_cons, List.all_cons]
    have : okD 7 (.list (as.map arcD)) = true := List.all_eq_true.mpr fun x hx => by
      obtain ⟨a, _, rfl⟩ := List.mem_map.mp hx
      rfl
    rw [this]
    rfl
  · simp only [clean, cleanL, Bool.and_true, Bool.true_and]
    exact cleanL_all fun x hx => by
      obtain ⟨a, _, rfl⟩ := List.mem_map.mp hx
      rfl
theorem eqD_self {x : D} {k : Bool → Prop} (hx : okc x = true) (h : k true) : eqD x x k := eqD_okc hx hx (fun _ => h) fun e => absurd rfl e
end Ac
namespace Ac
open PySem PySem.Spec PyProof.Rows L2
/-! ### arcs and places, plainly -/
theorem mem_plc {n : Int} {a : Int × Int} (ok : arcOk n a) {x : Int} : x ∈ plc n a ↔ 0 ≤ x ∧ x < n ∧ hld n a x = true := by
  obtain ⟨h0, h1, h2, h3⟩ := ok
  have hn : 0 < n := by omega
  unfold plc hld
  rw [List.mem_map]
  constructor
  · rintro ⟨k, hk, rfl⟩
    rw [List.mem_range] at hk
    refine ⟨Int.emod_nonneg _ (by omega), Int.emod_lt_of_pos _ hn, ?_⟩
    rw [decide_eq_true_eq]
    have e : ((a.1 + (k : Int)) % n - a.1) % n = (k : Int) := by
      rw [Int.emod_sub_emod]
      have : a.1 + (k : Int) - a.1 = k := by omega
      rw [this]
      exact Int.emod_eq_of_lt (by omega) (by omega)
    rw [e]
    omega
  · rintro ⟨g0, g1, g2⟩
    rw [decide_eq_true_eq] at g2
    have k0 := Int.emod_nonneg (x - a.1) (show n ≠ 0 by omega)
    refine ⟨((x - a.1) % n).toNat, by rw [List.mem_range]; omega, ?_⟩
    rw [Int.toNat_of_nonneg k0, Int.add_emod_emod]
    have : a.1 + (x - a.1) = x := by omega
    rw [this]
    exact Int.emod_eq_of_lt g0 g1
theorem plc_len {n : Int} {a : Int × Int} : (plc n a).length = a.2.toNat := by
  unfold plc
  rw [List.length_map, List.length_range]
theorem hld_start {n : Int} {a : Int × Int} (ok : arcOk n a) : hld n a a.1 = true := by
  unfold hld
  rw [decide_eq_true_eq, Int.sub_self, Int.zero_emod]
  have := ok.2.2.1
  omega
theorem mtB_iff {n : Int} {a b : Int × Int} (oa : arcOk n a) (ob : arcOk n b) : mtB n a b = true ↔ ∃ x, 0 ≤ x ∧ x < n ∧ hld n a x = true ∧ hld n b x = true := by
  have hn : 0 < n := by have := oa.1; have := oa.2.1; omega
  unfold mtB
  rw [Bool.or_eq_true]
  constructor
  · rintro (h | h)
    · exact ⟨b.1, ob.1, ob.2.1, h, hld_start ob⟩
    · exact ⟨a.1, oa.1, oa.2.1, hld_start oa, h⟩
  · rintro ⟨x, _, _, h1, h2⟩
    unfold hld at h1 h2 ⊢
    rw [decide_eq_true_eq] at h1 h2
    rw [decide_eq_true_eq, decide_eq_true_eq]
    have u0 := Int.emod_nonneg (x - a.1) (show n ≠ 0 by omega)
    have v0 := Int.emod_nonneg (x - b.1) (show n ≠ 0 by omega)
    have u1 := Int.emod_lt_of_pos (x - a.1) hn
    have v1 := Int.emod_lt_of_pos (x - b.1) hn
    by_cases hc : (x - a.1) % n ≤ (x - b.1) % n
    · right
      have e : (a.1 - b.1) % n = (x - b.1) % n - (x - a.1) % n := by
        have e1 : a.1 - b.1 = (x - b.1) - (x - a.1) := by omega
        rw [e1, Int.sub_emod]
        exact Int.emod_eq_of_lt (by omega) (by omega)
      rw [e]
      omega
    · left
      have e : (b.1 - a.1) % n = (x - a.1) % n - (x - b.1) % n := by
        have e1 : b.1 - a.1 = (x - a.1) - (x - b.1) := by omega
        rw [e1, Int.sub_emod]
        exact Int.emod_eq_of_lt (by omega) (by omega)
      rw [e]
      omega
theorem mtB_comm {n : Int} {a b : Int × Int} : mtB n a b = mtB n b a := by
  unfold mtB
  exact Bool.or_comm _ _
theorem mem_atB {n : Int} {as : List (Int × Int)} {p : Int} {k : Nat} : k ∈ atB n as p ↔ ∃ h : k < as.length, hld n as[k] p = true := by
  unfold atB
  rw [List.mem_filter, List.mem_range]
  constructor
  · rintro ⟨h, h2⟩
    rw [List.getElem?_eq_getElem h] at h2
    exact ⟨h, h2⟩
  · rintro ⟨h, h2⟩
    rw [List.getElem?_eq_getElem h]
    exact ⟨h, h2⟩
/-! ### more on meaning -/
theorem inD_ints {x : Int} : ∀ {ns : List Int}, inD (.int x) (ns.map .int) = decide (x ∈ ns)
  | [] => by simp [inD]
  | n :: r => by
    have ih := inD_ints (x := x) (ns := r)
    unfold inD at ih ⊢
    rw [List.map_cons, List.any_cons, ih, eqv_int]
    by_cases h : n = x
    · subst h; simp
    · simp [h, Ne.symm h]
theorem flat_ints {ns : List Int} : (ns.map PyData.int).all flatD = true := List.all_eq_true.mpr fun x hx => by
  obtain ⟨i, _, rfl⟩ := List.mem_map.mp hx
  rfl
theorem memD_ints {neg : Bool} {x : Int} {ns : List Int} {k : Val → Prop} : memD neg (.int x) (.list (ns.map .int)) k = k (.dat (.bool (if neg then !decide (x ∈ ns) else decide (x ∈ ns)))) := by
  show (flatD (.int x) = true ∧ (ns.map PyData.int).all flatD = true ∧ _) = _
  rw [inD_ints, flat_ints]
  simp [flatD]
theorem fLoop_all {S : Type} {f : D → Ctx → S → Kn S → Prop} {K : Kn S} (I : Ctx → S → Prop) : ∀ {xs : List D}, (∀ Γ s, I Γ s → K.nx Γ s) →
    (∀ x ∈ xs, ∀ Γ s (K' : Kn S), I Γ s → (∀ Γ' s', I Γ' s' → K'.nx Γ' s') → K'.rt = K.rt → K'.ex = K.ex → f x Γ s K') → ∀ {Γ : Ctx} {s : S}, I Γ s → fLoop f K xs Γ s
  | [], hnx, _, Γ, s, h => hnx Γ s h
  | x :: r, hnx, hst, Γ, s, h => hst x List.mem_cons_self Γ s _ h (fun Γ' s' h' => fLoop_all I (xs := r) hnx (fun y hy => hst y (List.mem_cons_of_mem _ hy)) h') rfl rfl
/-- a summary by cases -/
def Summ.ex {α : Type} (args : α → List D) (pre : α → Prop) (res : α → Val) : Summ where
  run ds Q _ := ∃ a, ds = args a ∧ pre a ∧ Q (res a)
  mono := fun h1 _ ⟨a, e, p, q⟩ => ⟨a, e, p, h1 _ q⟩
theorem WOk.ex {α : Type} {args : α → List D} {pre : α → Prop} {res : α → Val} {np nN : Nat} {body : Sms Unit} (h : ∀ a, pre a → (args a).length = np ∧ ∀ (Q : Val → Prop) (Y : Nat → Prop), Q (res a) → wSs body (entry nN ((args a).map .dat)) () (KQY Q Y)) : WOk (Summ.ex args pre res) np nN body := fun ds Q Y ⟨a, e, p, q⟩ => by
  subst e
  exact ⟨(h a p).1, (h a p).2 Q Y q⟩
theorem plc_big {n : Int} {as : List (Int × Int)} {a : Int × Int} (ok : RingOk n as) (h : a ∈ as) : (plc n a).length ≤ 40 := by
  rw [plc_len]
  have := (ok.arcs a h).2.2.2
  have := ok.n40
  omega
theorem filterMap_no {α β : Type} {xs : List α} : xs.filterMap (fun _ => (none : Option β)) = [] := by
  induction xs with
  | nil => rfl
  | cons x r ih => rw [List.filterMap_cons]; exact ih
/-- numbers picked -/
def pickN (q : Nat → Bool) : D → Option D
  | .int k => if q k.toNat = true then some (.int k) else none
  | _ => none
theorem filter_range {q : Nat → Bool} {m : Nat} : ((List.range m).map fun i => PyData.int (i : Nat)).filterMap (pickN q) = ((List.range m).filter q).map natD := by
  induction m with
  | zero => rfl
  | succ m ih =>
    rw [List.range_succ, List.map_append, List.filterMap_append, List.filter_append, List.map_append, ih]
    congr 1
    by_cases h : q m = true <;> simp [h, natD, pickN]
def pickI (q : Int → Bool) : D → Option D
  | .int k => if q k = true then some (.int k) else none
  | _ => none
theorem filter_ints {q : Int → Bool} {ns : List Int} : (ns.map PyData.int).filterMap (pickI q) = (ns.filter q).map PyData.int := by
  induction ns with
  | nil => rfl
  | cons n r ih =>
    rw [List.map_cons, List.filterMap_cons, List.filter_cons, ih]
    by_cases h : q n = true <;> simp [h, pickI]
def holdsAt (n : Int) (as : List (Int × Int)) (p : Int) (k : Nat) : Bool := match as[k]? with
  | some a => hld n a p
  | none => false
theorem atB_eq {n : Int} {as : List (Int × Int)} {p : Int} : atB n as p = (List.range as.length).filter (holdsAt n as p) := rfl
theorem natD_ints {ks : List Nat} : ks.map natD = (ks.map fun k : Nat => (k : Int)).map PyData.int := by
  rw [List.map_map]
  rfl
theorem atB_len {n : Int} {as : List (Int × Int)} {p : Int} : (atB n as p).length ≤ as.length := by
  unfold atB
  exact Nat.le_trans (List.length_filter_le _ _) (by rw [List.length_range]; exact Nat.le_refl _)
end Ac
namespace Ac
open PySem PySem.Spec PyProof.Rows L2
/-! ### rising lists -/
def inR (b : Int) : D → Bool
  | .int i => decide (0 ≤ i) && decide (i < b)
  | _ => false
def risN : List Int → Bool
  | [] => true
  | [_] => true
  | a :: b :: r => decide (a < b) && risN (b :: r)
theorem risN_iff : ∀ {ns : List Int}, risN ns = true ↔ ns.Pairwise (· < ·)
  | [] => by simp [risN]
  | [a] => by simp [risN]
  | a :: b :: r => by
    rw [risN, Bool.and_eq_true, decide_eq_true_eq, risN_iff (ns := b :: r), List.pairwise_cons (a := a)]
    constructor
    · rintro ⟨h1, h2⟩
      refine ⟨fun c hc => ?_, h2⟩
      rcases List.mem_cons.mp hc with rfl | hc
      · exact h1
      · exact Int.lt_trans h1 ((List.pairwise_cons.mp h2).1 c hc)
    · rintro ⟨h1, h2⟩
      exact ⟨h1 b List.mem_cons_self, h2⟩
def risD (d : D) (b : Int) : Bool := match d with
  | .list xs => xs.all (inR b) && (match intsD xs with | some ns => risN ns | none => false)
  | _ => false
theorem inR_ints {b : Int} : ∀ {xs : List D}, xs.all (inR b) = true → ∃ ns : List Int, xs = ns.map .int ∧ ∀ m ∈ ns, 0 ≤ m ∧ m < b
  | [], _ => ⟨[], rfl, fun m hm => nomatch hm⟩
  | x :: xs, h => by
    rw [List.all_cons, Bool.and_eq_true] at h
    obtain ⟨ns, rfl, hb⟩ := inR_ints h.2
    cases x with
    | int i =>
      have h1 : (decide (0 ≤ i) && decide (i < b)) = true := h.1
      rw [Bool.and_eq_true, decide_eq_true_eq, decide_eq_true_eq] at h1
      refine ⟨i :: ns, rfl, fun m hm => ?_⟩
      rcases List.mem_cons.mp hm with rfl | hm
      · exact h1
      · exact hb m hm
    | _ => cases h.1
theorem risD_ints {ns : List Int} {b : Int} : risD (.list (ns.map .int)) b = true ↔ (∀ m ∈ ns, 0 ≤ m ∧ m < b) ∧ ns.Pairwise (· < ·) := by
  unfold risD
  dsimp only
  rw [intsD_map, Bool.and_eq_true, risN_iff, List.all_map, List.all_eq_true]
  refine and_congr ⟨fun h m hm => ?_, fun h m hm => ?_⟩ Iff.rfl
  · have : (decide (0 ≤ m) && decide (m < b)) = true := h m hm
    rw [Bool.and_eq_true, decide_eq_true_eq, decide_eq_true_eq] at this
    exact this
  · show (decide (0 ≤ m) && decide (m < b)) = true
    rw [Bool.and_eq_true, decide_eq_true_eq, decide_eq_true_eq]
    exact h m hm
def bigL : D → Prop
  | .list xs => xs.length ≤ 90000
  | _ => True
def S_law_rising : Summ where
  run ds Q _ := ∃ d b, ds = [d, .int b] ∧ bigL d ∧ Q (.dat (.bool (risD d b)))
  mono := fun h1 _ ⟨d, b, e, hl, q⟩ => ⟨d, b, e, hl, h1 _ q⟩
theorem call_rising {d : D} {b : Int} {Q : Val → Prop} {Y : Nat → Prop} (hl : bigL d) (h : Q (.dat (.bool (risD d b)))) : S_law_rising.run [d, .int b] Q Y := ⟨d, b, rfl, hl, h⟩
def outR (b : Int) (d : D) : Option D := if inR b d = true then none else some d
def fallG (ns : List Int) : D → Option D
  | .int k => if ns.getD k.toNat 0 ≤ ns.getD (k - 1).toNat 0 then some (.int k) else none
  | _ => none
theorem fall_iff {ns : List Int} : (((List.range ((ns.length : Int) - 1).toNat).map fun i : Nat => PyData.int (1 + (i : Nat))).filterMap (fallG ns)).isEmpty = true ↔ ns.Pairwise (· < ·) := by
  rw [filterMap_empty]
  constructor
  · intro h
    rw [List.pairwise_iff_getElem]
    have step : ∀ i (hi : i + 1 < ns.length), ns[i] < ns[i + 1] := fun i hi => by
      have := h (.int (1 + (i : Nat))) (List.mem_map.mpr ⟨i, List.mem_range.mpr (by omega), rfl⟩)
      unfold fallG at this
      dsimp only at this
      have e1 : (1 + (i : Int)).toNat = i + 1 := by omega
      have e2 : (1 + (i : Int) - 1).toNat = i := by omega
      rw [e1, e2, List.getD_eq_getElem?_getD, List.getD_eq_getElem?_getD, List.getElem?_eq_getElem hi, List.getElem?_eq_getElem (by omega)] at this
      dsimp only [Option.getD] at this
      by_cases hc : ns[i + 1] ≤ ns[i]
      · rw [if_pos hc] at this; cases this
      · omega
    have all : ∀ d i (hi : i + d + 1 < ns.length), ns[i] < ns[i + d + 1] := by
      intro d
      induction d with
      | zero => intro i hi; exact step i hi
      | succ d ih =>
        intro i hi
        have h1 := ih i (by omega)
        have h2 := step (i + d + 1) (by omega)
        have e : i + (d + 1) + 1 = i + d + 1 + 1 := by omega
        simp only [e]
        omega
    intro i j hi hj hij
    have := all (j - i - 1) i (by omega)
    have e : i + (j - i - 1) + 1 = j := by omega
    simp only [e] at this
    exact this
  · intro h x hx
    obtain ⟨i, hi, rfl⟩ := List.mem_map.mp hx
    rw [List.mem_range] at hi
    unfold fallG
    dsimp only
    have e1 : (1 + (i : Int)).toNat = i + 1 := by omega
    have e2 : (1 + (i : Int) - 1).toNat = i := by omega
    rw [e1, e2, List.getD_eq_getElem?_getD, List.getD_eq_getElem?_getD, List.getElem?_eq_getElem (by omega), List.getElem?_eq_getElem (by omega)]
    dsimp only [Option.getD]
    have := List.pairwise_iff_getElem.mp h i (i + 1) (by omega) (by omega) (by omega)
    rw [if_neg (by omega)]
theorem sv_r {n : Int} {as : List (Int × Int)} : scalV (.dat (ringD n as)) = false := rfl
theorem ixR0 {n : Int} {as : List (Int × Int)} {k : D → Prop} : ixX (ringD n as) (.int 0) k = k (.int n) := by
  unfold ringD
  rw [ixX_t, ixD_0]
theorem ixR1 {n : Int} {as : List (Int × Int)} {k : D → Prop} : ixX (ringD n as) (.int 1) k = k (.list (as.map arcD)) := by
  unfold ringD
  rw [ixX_t, ixD_1]
/-! ### turns that may end a def -/
theorem fLoop_find {S α : Type} {f : D → Ctx → S → Kn S → Prop} {K : Kn S} {g : α → D} {p : α → Bool} {xs0 : List α} (I : Ctx → S → Prop) (hnx : xs0.all p = true → ∀ Γ s, I Γ s → K.nx Γ s)
    (hst : ∀ a ∈ xs0, ∀ Γ s (K' : Kn S), I Γ s → K'.rt = K.rt → K'.ex = K.ex → (p a = true → ∀ Γ' s', I Γ' s' → K'.nx Γ' s') → f (g a) Γ s K') :
    ∀ (xs done : List α), xs0 = done ++ xs → done.all p = true → ∀ (Γ : Ctx) (s : S), I Γ s → fLoop f K (xs.map g) Γ s
  | [], done, e, hd, Γ, s, h => hnx (by rw [e, List.append_nil]; exact hd) Γ s h
  | x :: r, done, e, hd, Γ, s, h => hst x (by rw [e]; simp) Γ s _ h rfl rfl fun hp Γ' s' h' => fLoop_find I hnx hst r (done ++ [x]) (by rw [e]; simp) (by rw [List.all_append, hd]; simp [hp]) Γ' s' h'
theorem fLoop_findA {S α : Type} {f : D → Ctx → S → Kn S → Prop} {K : Kn S} {g : α → D} {p : α → Bool} {xs : List α} (I : Ctx → S → Prop) (hnx : xs.all p = true → ∀ Γ s, I Γ s → K.nx Γ s)
    (hst : ∀ a ∈ xs, ∀ Γ s (K' : Kn S), I Γ s → K'.rt = K.rt → K'.ex = K.ex → (p a = true → ∀ Γ' s', I Γ' s' → K'.nx Γ' s') → f (g a) Γ s K') {Γ : Ctx} {s : S} (h : I Γ s) : fLoop f K (xs.map g) Γ s :=
  fLoop_find I hnx hst xs [] rfl rfl Γ s h
theorem all_false {α : Type} {p : α → Bool} {xs : List α} {a : α} (h : a ∈ xs) (hp : p a = false) : xs.all p = false := List.all_eq_false.mpr ⟨a, h, by rw [hp]; exact Bool.noConfusion⟩
/-- an invariant over things, by what is done and what is left -/
theorem fLoop_mp {S α : Type} {f : D → Ctx → S → Kn S → Prop} {K : Kn S} {g : α → D} (I : List α → List α → Ctx → S → Prop) (hnx : ∀ done Γ s, I done [] Γ s → K.nx Γ s)
    (hstep : ∀ done x r Γ s (K' : Kn S), I done (x :: r) Γ s → (∀ Γ' s', I (done ++ [x]) r Γ' s' → K'.nx Γ' s') → (∀ Γ' s', I (done ++ [x]) r Γ' s' → K'.ct Γ' s') → K'.bk = K.nx → K'.rt = K.rt → K'.ex = K.ex → f (g x) Γ s K') :
    ∀ (xs done : List α) (Γ : Ctx) (s : S), I done xs Γ s → fLoop f K (xs.map g) Γ s
  | [], done, Γ, s, h => hnx done Γ s h
  | x :: r, done, Γ, s, h => hstep done x r Γ s _ h (fun Γ' s' h' => fLoop_mp I hnx hstep r (done ++ [x]) Γ' s' h') (fun Γ' s' h' => fLoop_mp I hnx hstep r (done ++ [x]) Γ' s' h') rfl rfl rfl
/-- a comprehension over things -/
theorem cLoop_mp {S α : Type} {f : D → Ctx → S → (Option D → Ctx → S → Prop) → Prop} {g : α → D} {q : α → Option D} {Γ : Ctx} {s : S} {k : List D → Ctx → S → Prop} : ∀ (xs : List α) (acc : List D), (∀ x ∈ xs, ∀ k' : Option D → Ctx → S → Prop, k' (q x) Γ s → f (g x) Γ s k') → k (acc ++ xs.filterMap q) Γ s → cLoop f (xs.map g) Γ s acc k
  | [], acc, _, h => by
    rw [List.filterMap_nil, List.append_nil] at h
    exact h
  | x :: r, acc, hf, h => by
    refine hf x List.mem_cons_self _ (cLoop_mp r _ (fun y hy => hf y (List.mem_cons_of_mem _ hy)) ?_)
    rw [List.append_assoc]
    have e : (q x).toList ++ r.filterMap q = (x :: r).filterMap q := by
      cases e : q x with
      | none => rw [List.filterMap_cons_none e]; rfl
      | some y => rw [List.filterMap_cons_some e]; rfl
    rw [e]
    exact h
theorem fm_pick {α β : Type} {p : α → Bool} {f : α → β} : ∀ L : List α, (L.filterMap fun k => if p k = true then some (f k) else none) = (L.filter p).map f
  | [] => rfl
  | k :: L => by
    rw [List.filterMap_cons, fm_pick L, List.filter_cons]
    by_cases h : p k = true <;> simp [h]
theorem fm_drop {α β : Type} {p : α → Bool} {f : α → β} : ∀ L : List α, (L.filterMap fun k => if p k = true then none else some (f k)) = (L.filter fun k => !p k).map f
  | [] => rfl
  | k :: L => by
    rw [List.filterMap_cons, fm_drop L, List.filter_cons]
    by_cases h : p k = true <;> simp [h]
theorem fm_all {α β : Type} {f : α → β} : ∀ L : List α, (L.filterMap fun k => some (f k)) = L.map f
  | [] => rfl
  | k :: L => by rw [List.filterMap_cons, fm_all L]; rfl
theorem pairsD_map : ∀ ps : List (Int × Int), pairsD (ps.map pairD) = some ps
  | [] => rfl
  | p :: r => by
    show (pairsD (r.map pairD)).map ((p.1, p.2) :: ·) = _
    rw [pairsD_map r]
    rfl
theorem minL_mp {α : Type} {e : α → Int} {L : List α} {k : Val → Prop} (hne : L ≠ []) (h : ∀ j ∈ L, (∀ i ∈ L, e j ≤ e i) → k (.dat (.int (e j)))) : minLD [.list (L.map fun k => .int (e k))] k := by
  have el : (L.map fun k => PyData.int (e k)) = (L.map e).map .int := by rw [List.map_map]; rfl
  show ∃ ns, intsD (L.map fun k => PyData.int (e k)) = some ns ∧ 0 < ns.length ∧ ∀ m, m ∈ ns → (∀ y, y ∈ ns → m ≤ y) → k (.dat (.int m))
  refine ⟨L.map e, by rw [el]; exact intsD_map _, by rw [List.length_map]; exact List.length_pos_iff.mpr hne, fun m hm hy => ?_⟩
  obtain ⟨j, hj, rfl⟩ := List.mem_map.mp hm
  exact h j hj fun i hi => hy _ (List.mem_map.mpr ⟨i, hi, rfl⟩)
theorem idx_mp {α : Type} {e : α → Int} {L : List α} {y : Int} {k : Val → Prop} (hj : ∃ j ∈ L, e j = y) (h : ∀ (i : Nat) (hi : i < L.length), e L[i] = y → (∀ (j : Nat) (hj : j < i), e L[j] ≠ y) → k (.dat (.int (i : Nat)))) : mtD .index (.list (L.map fun k => .int (e k))) [.int y] k := by
  have el : (L.map fun k => PyData.int (e k)) = (L.map e).map .int := by rw [List.map_map]; rfl
  show ∃ ns, intsD (L.map fun k => PyData.int (e k)) = some ns ∧ (match idxD ns y with | some j => k (.dat (.int (j : Nat))) | none => False)
  refine ⟨L.map e, by rw [el]; exact intsD_map _, ?_⟩
  cases q : idxD (L.map e) y with
  | none =>
    unfold idxD at q
    rw [List.findIdx?_eq_none_iff] at q
    obtain ⟨j, hj, hy⟩ := hj
    have := q _ (List.mem_map.mpr ⟨j, hj, rfl⟩)
    rw [hy] at this
    simp at this
  | some i =>
    unfold idxD at q
    rw [List.findIdx?_eq_some_iff_getElem] at q
    obtain ⟨hi, h1, h2⟩ := q
    have hi' : i < L.length := by rw [List.length_map] at hi; exact hi
    refine h i hi' ?_ fun j hj => ?_
    · simpa using h1
    · have := h2 j hj
      simpa using this
theorem nodup_len {α : Type} [DecidableEq α] : ∀ {l P : List α}, l.Nodup → (∀ x ∈ l, x ∈ P) → l.length ≤ P.length
  | [], _, _, _ => Nat.zero_le _
  | x :: l, P, hn, h => by
    rw [List.nodup_cons] at hn
    have hx := h x List.mem_cons_self
    have := nodup_len (l := l) (P := P.erase x) hn.2 fun y hy => (List.mem_erase_of_ne (fun e : y = x => hn.1 (e ▸ hy))).mpr (h y (List.mem_cons_of_mem _ hy))
    rw [List.length_erase_of_mem hx] at this
    have := List.length_pos_of_mem hx
    rw [List.length_cons]
    omega
end Ac
namespace Ac
open PySem PySem.Spec PyProof.Rows L2
/-! ### a ring cut open behind a place: arcs as stretches of a line -/
def arcAt (as : List (Int × Int)) (k : Nat) : Int × Int := as.getD k (0, 1)
theorem arcAt_eq {as : List (Int × Int)} {k : Nat} (h : k < as.length) : arcAt as k = as[k] := by
  unfold arcAt
  rw [List.getD_eq_getElem?_getD, List.getElem?_eq_getElem h]
  rfl
def bI (n : Int) (as : List (Int × Int)) (x : Int) (k : Nat) : Int := ((arcAt as k).1 - x) % n
def eI (n : Int) (as : List (Int × Int)) (x : Int) (k : Nat) : Int := ((arcAt as k).1 - x) % n + (arcAt as k).2 - 1
def left0 (n : Int) (as : List (Int × Int)) (x : Int) : List Nat := (List.range as.length).filter fun k => !hld n (arcAt as k) x
theorem line {n x : Int} {a : Int × Int} (ok : arcOk n a) (h : hld n a x = false) : 1 ≤ (a.1 - x) % n ∧ (a.1 - x) % n + a.2 - 1 ≤ n - 1 := by
  obtain ⟨h0, h1, h2, h3⟩ := ok
  have hn : 0 < n := by omega
  unfold hld at h
  rw [decide_eq_false_iff_not] at h
  have b0 := Int.emod_nonneg (a.1 - x) (show n ≠ 0 by omega)
  have b1 := Int.emod_lt_of_pos (a.1 - x) hn
  have c0 := Int.emod_nonneg (x - a.1) (show n ≠ 0 by omega)
  have c1 := Int.emod_lt_of_pos (x - a.1) hn
  have e : x - a.1 = -(a.1 - x) := by omega
  by_cases hz : (a.1 - x) % n = 0
  · have : (x - a.1) % n = 0 := by
      rw [e]
      exact Int.emod_eq_zero_of_dvd (Int.dvd_neg.mpr (Int.dvd_of_emod_eq_zero hz))
    omega
  · have : (x - a.1) % n = n - (a.1 - x) % n := by
      have e2 : (x - a.1) % n = (n - (a.1 - x) % n) % n := by
        have : n - (a.1 - x) = x - a.1 + n := by omega
        rw [Int.sub_emod_emod, this, Int.add_emod_right]
      rw [e2]
      exact Int.emod_eq_of_lt (by omega) (by omega)
    omega
theorem hld_line {n x d : Int} {a : Int × Int} (ok : arcOk n a) (h : hld n a x = false) (d0 : 0 ≤ d) (d1 : d < n) : hld n a ((x + d) % n) = decide ((a.1 - x) % n ≤ d ∧ d ≤ (a.1 - x) % n + a.2 - 1) := by
  obtain ⟨l1, l2⟩ := line ok h
  obtain ⟨h0, h1, h2, h3⟩ := ok
  have hn : 0 < n := by omega
  have b1 := Int.emod_lt_of_pos (a.1 - x) hn
  unfold hld
  have e : ((x + d) % n - a.1) % n = (d - (a.1 - x) % n) % n := by
    rw [Int.emod_sub_emod, Int.sub_emod_emod]
    congr 1
    omega
  rw [e]
  by_cases hc : (a.1 - x) % n ≤ d
  · rw [Int.emod_eq_of_lt (by omega) (by omega)]
    rw [decide_eq_decide]
    omega
  · have : (d - (a.1 - x) % n) % n = d - (a.1 - x) % n + n := by
      rw [← Int.add_emod_right]
      exact Int.emod_eq_of_lt (by omega) (by omega)
    rw [this, decide_eq_decide]
    omega
/-! ### the greedy walk on a line -/
def IsSteps (b e : Nat → Int) : List Nat → List Nat → Prop
  | L, [] => L = []
  | L, k :: r => k ∈ L ∧ (∀ j ∈ L, e k ≤ e j) ∧ IsSteps b e (L.filter fun j => decide (e k < b j)) r
theorem IsSteps.uniq {b e : Nat → Int} : ∀ {r r' L : List Nat}, IsSteps b e L r → IsSteps b e L r' → r.map e = r'.map e
  | [], [], _, _, _ => rfl
  | [], k :: r, L, h, h' => by
    have h0 : L = [] := h
    rw [h0] at h'
    exact nomatch h'.1
  | k :: r, [], L, h, h' => by
    have h0 : L = [] := h'
    rw [h0] at h
    exact nomatch h.1
  | k :: r, k' :: r', L, h, h' => by
    have e1 : e k = e k' := by
      have := h.2.1 k' h'.1
      have := h'.2.1 k h.1
      omega
    have h2 := h.2.2
    have h3 := h'.2.2
    rw [← e1] at h3
    rw [List.map_cons, List.map_cons, e1, IsSteps.uniq h2 h3]
theorem min_ex {e : Nat → Int} : ∀ {L : List Nat}, L ≠ [] → ∃ k ∈ L, ∀ j ∈ L, e k ≤ e j
  | [], h => absurd rfl h
  | [k], _ => ⟨k, List.mem_cons_self, fun j hj => by rw [List.mem_singleton.mp hj]; exact Int.le_refl _⟩
  | k :: k2 :: L, _ => by
    obtain ⟨m, hm, hle⟩ := min_ex (e := e) (L := k2 :: L) (by simp)
    by_cases h : e k ≤ e m
    · exact ⟨k, List.mem_cons_self, fun j hj => by
        rcases List.mem_cons.mp hj with rfl | hj
        · exact Int.le_refl _
        · exact Int.le_trans h (hle j hj)⟩
    · exact ⟨m, List.mem_cons_of_mem _ hm, fun j hj => by
        rcases List.mem_cons.mp hj with rfl | hj
        · omega
        · exact hle j hj⟩
theorem filter_lt {L : List Nat} {p : Nat → Bool} {k : Nat} (h : k ∈ L) (hp : p k = false) : (L.filter p).length < L.length := by
  have h1 := List.length_filter_le p L
  rcases Nat.lt_or_ge (L.filter p).length L.length with h2 | h2
  · exact h2
  · have e : L.filter p = L := List.filter_eq_self.mpr (by
      have := List.length_filter_eq_length_iff.mp (Nat.le_antisymm h1 h2)
      exact this)
    have h3 := List.filter_eq_self.mp e k h
    rw [hp] at h3
    cases h3
theorem IsSteps.ex {b e : Nat → Int} (hbe : ∀ k, b k ≤ e k ∨ True) : ∀ (m : Nat) {L : List Nat}, L.length ≤ m → (∀ k ∈ L, b k ≤ e k) → ∃ r, IsSteps b e L r
  | 0, L, hm, _ => ⟨[], List.length_eq_zero_iff.mp (Nat.le_zero.mp hm)⟩
  | m + 1, L, hm, hL => by
    by_cases h : L = []
    · exact ⟨[], h⟩
    · obtain ⟨k, hk, hle⟩ := min_ex (e := e) h
      have hlt := filter_lt (p := fun j => decide (e k < b j)) hk (by rw [decide_eq_false_iff_not]; have := hL k hk; omega)
      obtain ⟨r, hr⟩ := IsSteps.ex hbe m (L := L.filter fun j => decide (e k < b j)) (by omega) fun j hj => hL j (List.mem_filter.mp hj).1
      exact ⟨k :: r, hk, hle, hr⟩
theorem IsSteps.mem {b e : Nat → Int} : ∀ {r L : List Nat}, IsSteps b e L r → ∀ k ∈ r, k ∈ L
  | [], _, _, k, hk => nomatch hk
  | k :: r, L, h, j, hj => by
    rcases List.mem_cons.mp hj with rfl | hj
    · exact h.1
    · exact (List.mem_filter.mp (IsSteps.mem h.2.2 j hj)).1
theorem IsSteps.len {b e : Nat → Int} : ∀ {r L : List Nat}, (∀ k ∈ L, b k ≤ e k) → IsSteps b e L r → r.length ≤ L.length
  | [], _, _, _ => Nat.zero_le _
  | k :: r, L, hL, h => by
    have hlt := filter_lt (p := fun j => decide (e k < b j)) h.1 (by rw [decide_eq_false_iff_not]; have := hL k h.1; omega)
    have ih := IsSteps.len (fun j hj => hL j (List.mem_filter.mp hj).1) h.2.2
    rw [List.length_cons]
    omega
/-- .. the first of those that end first -/
def IsStepsF (b e : Nat → Int) : List Nat → List Nat → Prop
  | L, [] => L = []
  | L, k :: r => k ∈ L ∧ (∀ j ∈ L, e k ≤ e j) ∧ (∀ j ∈ L, e j = e k → k ≤ j) ∧ IsStepsF b e (L.filter fun j => decide (e k < b j)) r
theorem IsStepsF.weak {b e : Nat → Int} : ∀ {r L : List Nat}, IsStepsF b e L r → IsSteps b e L r
  | [], _, h => h
  | _ :: _, _, h => ⟨h.1, h.2.1, h.2.2.2.weak⟩
theorem IsStepsF.uniq {b e : Nat → Int} : ∀ {r r' L : List Nat}, IsStepsF b e L r → IsStepsF b e L r' → r = r'
  | [], [], _, _, _ => rfl
  | [], k :: r, L, h, h' => by
    have h0 : L = [] := h
    rw [h0] at h'
    exact nomatch h'.1
  | k :: r, [], L, h, h' => by
    have h0 : L = [] := h'
    rw [h0] at h
    exact nomatch h.1
  | k :: r, k' :: r', L, h, h' => by
    have e1 : e k = e k' := by
      have := h.2.1 k' h'.1
      have := h'.2.1 k h.1
      omega
    have e2 : k = k' := Nat.le_antisymm (h.2.2.1 k' h'.1 e1.symm) (h'.2.2.1 k h.1 e1)
    subst e2
    rw [IsStepsF.uniq h.2.2.2 h'.2.2.2]
theorem min_exF {e : Nat → Int} : ∀ {L : List Nat}, L ≠ [] → ∃ k ∈ L, (∀ j ∈ L, e k ≤ e j) ∧ ∀ j ∈ L, e j = e k → k ≤ j
  | [], h => absurd rfl h
  | [k], _ => ⟨k, List.mem_cons_self, fun j hj => by rw [List.mem_singleton.mp hj]; exact Int.le_refl _, fun j hj _ => by rw [List.mem_singleton.mp hj]; exact Nat.le_refl _⟩
  | k :: k2 :: L, _ => by
    obtain ⟨m, hm, hle, hf⟩ := min_exF (e := e) (L := k2 :: L) (by simp)
    by_cases h : e k < e m ∨ (e k = e m ∧ k ≤ m)
    · exact ⟨k, List.mem_cons_self, fun j hj => by
        rcases List.mem_cons.mp hj with rfl | hj
        · exact Int.le_refl _
        · have := hle j hj; omega, fun j hj he => by
        rcases List.mem_cons.mp hj with rfl | hj
        · exact Nat.le_refl _
        · have h1 := hle j hj
          have h2 : e j = e m := by omega
          have := hf j hj h2
          omega⟩
    · exact ⟨m, List.mem_cons_of_mem _ hm, fun j hj => by
        rcases List.mem_cons.mp hj with rfl | hj
        · omega
        · exact hle j hj, fun j hj he => by
        rcases List.mem_cons.mp hj with rfl | hj
        · omega
        · exact hf j hj he⟩
theorem IsStepsF.ex {b e : Nat → Int} : ∀ (m : Nat) {L : List Nat}, L.length ≤ m → (∀ k ∈ L, b k ≤ e k) → ∃ r, IsStepsF b e L r
  | 0, L, hm, _ => ⟨[], List.length_eq_zero_iff.mp (Nat.le_zero.mp hm)⟩
  | m + 1, L, hm, hL => by
    by_cases h : L = []
    · exact ⟨[], h⟩
    · obtain ⟨k, hk, hle, hf⟩ := min_exF (e := e) h
      have hlt := filter_lt (p := fun j => decide (e k < b j)) hk (by rw [decide_eq_false_iff_not]; have := hL k hk; omega)
      obtain ⟨r, hr⟩ := IsStepsF.ex m (L := L.filter fun j => decide (e k < b j)) (by omega) fun j hj => hL j (List.mem_filter.mp hj).1
      exact ⟨k :: r, hk, hle, hf, hr⟩
/-! ### the same, of a ring -/
section
variable {n x : Int} {as : List (Int × Int)}
theorem RingOk.at (ok : RingOk n as) {k : Nat} (h : k < as.length) : arcOk n (arcAt as k) := by
  rw [arcAt_eq h]
  exact ok.arcs _ (List.getElem_mem h)
theorem mem_left0 {k : Nat} : k ∈ left0 n as x ↔ k < as.length ∧ hld n (arcAt as k) x = false := by
  unfold left0
  rw [List.mem_filter, List.mem_range, Bool.not_eq_true']
theorem left0_rng (ok : RingOk n as) {k : Nat} (h : k ∈ left0 n as x) : 1 ≤ bI n as x k ∧ bI n as x k ≤ eI n as x k ∧ eI n as x k ≤ n - 1 := by
  obtain ⟨h1, h2⟩ := mem_left0.mp h
  obtain ⟨l1, l2⟩ := line (ok.at h1) h2
  have := (ok.at h1).2.2.1
  unfold bI eI
  omega
theorem left0_len : (left0 n as x).length ≤ as.length := by
  unfold left0
  exact Nat.le_trans (List.length_filter_le _ _) (by rw [List.length_range]; exact Nat.le_refl _)
theorem left0_hld (ok : RingOk n as) {k : Nat} (h : k ∈ left0 n as x) {d : Int} (d0 : 0 ≤ d) (d1 : d < n) : hld n (arcAt as k) ((x + d) % n) = decide (bI n as x k ≤ d ∧ d ≤ eI n as x k) := by
  obtain ⟨h1, h2⟩ := mem_left0.mp h
  exact hld_line (ok.at h1) h2 d0 d1
/-- the steps of the walk from x -/
def IsWalk (n : Int) (as : List (Int × Int)) (x : Int) (r : List Nat) : Prop := IsSteps (bI n as x) (eI n as x) (left0 n as x) r
def IsWalkF (n : Int) (as : List (Int × Int)) (x : Int) (r : List Nat) : Prop := IsStepsF (bI n as x) (eI n as x) (left0 n as x) r
theorem IsWalkF.ex (ok : RingOk n as) : ∃ r, IsWalkF n as x r := IsStepsF.ex _ (Nat.le_refl _) fun k hk => (left0_rng ok hk).2.1
theorem left0_lt : (left0 n as x).Pairwise (· < ·) := List.Pairwise.filter _ List.pairwise_lt_range
theorem IsWalk.ex (ok : RingOk n as) : ∃ r, IsWalk n as x r := IsSteps.ex (fun _ => .inr trivial) _ (Nat.le_refl _) fun k hk => (left0_rng ok hk).2.1
def plK (n : Int) (as : List (Int × Int)) (x : Int) (k : Nat) : Int := (x + eI n as x k) % n
def stepD (n : Int) (as : List (Int × Int)) (x : Int) (k : Nat) : D := .tuple [.int (plK n as x k), .int (k : Nat)]
theorem walk_eq {r r' : List Nat} (h : IsWalk n as x r) (h' : IsWalk n as x r') : r.map (plK n as x) = r'.map (plK n as x) := by
  have := IsSteps.uniq h h'
  have e : ∀ l : List Nat, l.map (plK n as x) = (l.map (eI n as x)).map fun d => (x + d) % n := fun l => by rw [List.map_map]; rfl
  rw [e, e, this]
end
/-! ### numbers, picked and reckoned -/
def natG (f : Nat → Option D) : D → Option D
  | .int k => f k.toNat
  | _ => none
theorem natG_map {f : Nat → Option D} : ∀ L : List Nat, (L.map natD).filterMap (natG f) = L.filterMap f
  | [] => rfl
  | k :: L => by
    rw [List.map_cons, List.filterMap_cons, List.filterMap_cons, natG_map L]
    rfl
theorem filterMap_pick {p : Nat → Bool} {f : Nat → D} : ∀ L : List Nat, (L.filterMap fun k => if p k = true then some (f k) else none) = (L.filter p).map f
  | [] => rfl
  | k :: L => by
    rw [List.filterMap_cons, filterMap_pick L]
    by_cases h : p k = true
    · rw [if_pos h, List.filter_cons_of_pos h]
      rfl
    · rw [if_neg h, List.filter_cons_of_neg h]
theorem filterMap_all {f : Nat → D} : ∀ L : List Nat, (L.filterMap fun k => some (f k)) = L.map f
  | [] => rfl
  | k :: L => by rw [List.filterMap_cons, filterMap_all L]; rfl
theorem minLD_map {e : Nat → Int} {L : List Nat} {k : Val → Prop} (hne : L ≠ []) (h : ∀ j ∈ L, (∀ i ∈ L, e j ≤ e i) → k (.dat (.int (e j)))) : minLD [.list (L.map fun k => .int (e k))] k := by
  have el : (L.map fun k => PyData.int (e k)) = (L.map e).map .int := by rw [List.map_map]; rfl
  show ∃ ns, intsD (L.map fun k => PyData.int (e k)) = some ns ∧ 0 < ns.length ∧ ∀ m, m ∈ ns → (∀ y, y ∈ ns → m ≤ y) → k (.dat (.int m))
  refine ⟨L.map e, by rw [el]; exact intsD_map _, by rw [List.length_map]; exact List.length_pos_iff.mpr hne, fun m hm hy => ?_⟩
  obtain ⟨j, hj, rfl⟩ := List.mem_map.mp hm
  exact h j hj fun i hi => hy _ (List.mem_map.mpr ⟨i, hi, rfl⟩)
theorem index_map {e : Nat → Int} {L : List Nat} {j : Nat} {k : Val → Prop} (hj : j ∈ L) (h : ∀ (i : Nat) (hi : i < L.length), e L[i] = e j → k (.dat (.int (i : Nat)))) : mtD .index (.list (L.map fun k => .int (e k))) [.int (e j)] k := by
  have el : (L.map fun k => PyData.int (e k)) = (L.map e).map .int := by rw [List.map_map]; rfl
  show ∃ ns, intsD (L.map fun k => PyData.int (e k)) = some ns ∧ (match idxD ns (e j) with | some j => k (.dat (.int (j : Nat))) | none => False)
  refine ⟨L.map e, by rw [el]; exact intsD_map _, ?_⟩
  cases q : idxD (L.map e) (e j) with
  | none =>
    unfold idxD at q
    have := List.findIdx?_eq_none_iff.mp q (e j) (List.mem_map.mpr ⟨j, hj, rfl⟩)
    simp at this
  | some i =>
    have h1 := (idx_spec q).1
    rw [List.getElem?_map] at h1
    cases q2 : L[i]? with
    | none => rw [q2] at h1; cases h1
    | some j2 =>
      rw [q2] at h1
      obtain ⟨hi, h2⟩ := List.getElem?_eq_some_iff.mp q2
      exact h i hi (by rw [h2]; exact Option.some.inj h1)
/-! ### steps_from -/
def Ssteps_from : Summ where
  run ds Q _ := ∃ n as x, ds = [ringD n as, .int x] ∧ RingOk n as ∧ (0 ≤ x ∧ x < n) ∧ ∀ r, IsWalkF n as x r → Q (.new (r.map (stepD n as x)))
  mono := fun h1 _ ⟨n, as, x, e, ok, hx, q⟩ => ⟨n, as, x, e, ok, hx, fun r hr => h1 _ (q r hr)⟩
def trsteps_from_c1 : Es Unit :=
  (.cons (.nt (.call "holds" Sholds (.cons (.var 2) (.cons (.var 6) (.cons (.var 1) .nil))))) .nil)
def trsteps_from_e1 : E Unit :=
  (.op .Sub (.op .Add (.op .Mod (.op .Sub (.ix (.ix (.var 3) (.var 5)) (.int 0)) (.var 1)) (.var 2)) (.ix (.ix (.var 3) (.var 5)) (.int 1))) (.int 1))
def trsteps_from_c2 : Es Unit :=
  (.cons (.nt (.call "holds" Sholds (.cons (.var 2) (.cons (.ix (.var 3) (.var 5)) (.cons (.var 10) .nil))))) .nil)
def trsteps_from_b1 : Sms Unit :=
  (.cons (.one (.asgL 8 (.comp [5] (.nm 5) (.seq (.var 4)) .nil trsteps_from_e1)))
    (.cons (.one (.asg 9 (.ix (.var 4) (.mt .index (.var 8) (.cons (.bi .minL (.cons (.var 8) .nil)) .nil)))))
    (.cons (.one (.asg 10 (.op .Mod (.op .Add (.var 1) (.bi .minL (.cons (.var 8) .nil))) (.var 2))))
    (.cons (.one (.app 7 (.tp (.cons (.var 10) (.cons (.var 9) .nil)))))
    (.cons (.one (.asgL 4 (.comp [5] (.nm 5) (.seq (.var 4)) trsteps_from_c2 (.var 5))))
    .nil)))))
def trsteps_from : Sms Unit :=
  (.cons (.one (.asgT [2, 3] (.var 0)))
    (.cons (.one (.asgL 4 (.comp [5, 6] (.tp [5, 6]) (.enu (.var 3)) trsteps_from_c1 (.var 5))))
    (.cons (.one (.asg 7 (.ls .nil)))
    (.cons (.whl (.cmp .NotEq (.var 4) (.ls .nil))
    trsteps_from_b1)
    (.cons (.one (.ret (.var 7)))
    .nil)))))

theorem steps_b1 {n x : Int} {as : List (Int × Int)} {L acc : List Nat} {x5 x6 x8 x9 x10 : Option Val} {K : Kn Unit} {u : Unit} (ok : RingOk n as) (hx : 0 ≤ x ∧ x < n) (hne : L ≠ []) (hL : ∀ k ∈ L, k ∈ left0 n as x) (hlt : L.Pairwise (· < ·)) (hl : acc.length ≤ 20)
    (hK : ∀ (k : Nat) (x5 x6 x8 x9 x10 : Option Val), k ∈ L → (∀ j ∈ L, eI n as x k ≤ eI n as x j) → (∀ j ∈ L, eI n as x j = eI n as x k → k ≤ j) → K.nx [some (.dat (ringD n as)), some (.dat (.int x)), some (.dat (.int n)), some (.dat (.list (as.map arcD))), some (.own ((L.filter fun j => decide (eI n as x k < bI n as x j)).map natD)), x5, x6, some (.own ((acc ++ [k]).map (stepD n as x))), x8, x9, x10] u) (hlL : L.length ≤ 20) :
    wSs trsteps_from_b1 [some (.dat (ringD n as)), some (.dat (.int x)), some (.dat (.int n)), some (.dat (.list (as.map arcD))), some (.own (L.map natD)), x5, x6, some (.own (acc.map (stepD n as x))), x8, x9, x10] u K := by
  unfold trsteps_from_b1
  have n1 := ok.n1
  have n40 := ok.n40
  simp only [wSs, wS, w1, wT, wE, wA, wX, wV, wP, wC, opn, rdO_d, rdO_o, asD_d, asD_n, KQY, entry, look, put, slotV, argsOk, frzA, frzV, sv_i, sv_b, sv_s, sv_0, sv_l, sv_t, sv_d, sv_n, List.map, List.length, List.replicate, List.cons_append, List.nil_append, Nat.sub_self, biD, isD_1, boolD_b, cmpD, relD_i, opD, addD_i, addD_l, subD_i, intD_i, lenD_l, lenD_t, listD_l, listD_t, tupleD_l, int2D_i, absD_i, toIntD_i, toIntD_b, eqD_i, eqD_b, eqD_s, rngD_1, rngD_2, seqD_l, seqD_t, lstD_l, ixX_l, ixX_t, negX_i, slX_l, rvX_l, repX_i, intX_i, ixD_0, ixD_1, ixD_2, true_and, and_true, ite_self, wI, wipeG, backG]
  refine ⟨by rw [List.length_map]; unfold big; omega, ?_⟩
  refine cLoop_pure (g := natG fun k => some (.int (eI n as x k))) _ [] ?_ ?_
  · intro y hy k' hk
    obtain ⟨k, hkL, rfl⟩ := List.mem_map.mp hy
    have hk1 := (mem_left0.mp (hL k hkL)).1
    unfold trsteps_from_e1
    simp only [bindT, natD, wSs, wS, w1, wT, wE, wA, wX, wV, wP, wC, opn, rdO_d, rdO_o, asD_d, asD_n, KQY, entry, look, put, slotV, argsOk, frzA, frzV, sv_i, sv_b, sv_s, sv_0, sv_l, sv_t, sv_d, sv_n, List.map, List.length, List.replicate, List.cons_append, List.nil_append, Nat.sub_self, biD, isD_1, boolD_b, cmpD, relD_i, opD, addD_i, addD_l, subD_i, intD_i, lenD_l, lenD_t, listD_l, listD_t, tupleD_l, int2D_i, absD_i, toIntD_i, toIntD_b, eqD_i, eqD_b, eqD_s, rngD_1, rngD_2, seqD_l, seqD_t, lstD_l, ixX_l, ixX_t, negX_i, slX_l, rvX_l, repX_i, intX_i, ixD_0, ixD_1, ixD_2, true_and, and_true, ite_self]
    rw [ixD_nat (j := k) rfl (arc_item hk1)]
    simp only [arcD, wSs, wS, w1, wT, wE, wA, wX, wV, wP, wC, opn, rdO_d, rdO_o, asD_d, asD_n, KQY, entry, look, put, slotV, argsOk, frzA, frzV, sv_i, sv_b, sv_s, sv_0, sv_l, sv_t, sv_d, sv_n, List.map, List.length, List.replicate, List.cons_append, List.nil_append, Nat.sub_self, biD, isD_1, boolD_b, cmpD, relD_i, opD, addD_i, addD_l, subD_i, intD_i, lenD_l, lenD_t, listD_l, listD_t, tupleD_l, int2D_i, absD_i, toIntD_i, toIntD_b, eqD_i, eqD_b, eqD_s, rngD_1, rngD_2, seqD_l, seqD_t, lstD_l, ixX_l, ixX_t, negX_i, slX_l, rvX_l, repX_i, intX_i, ixD_0, ixD_1, ixD_2, true_and, and_true, ite_self]
    refine ⟨by omega, ?_⟩
    rw [ixD_nat (j := k) rfl (arc_item hk1)]
    simp only [arcD, wSs, wS, w1, wT, wE, wA, wX, wV, wP, wC, opn, rdO_d, rdO_o, asD_d, asD_n, KQY, entry, look, put, slotV, argsOk, frzA, frzV, sv_i, sv_b, sv_s, sv_0, sv_l, sv_t, sv_d, sv_n, List.map, List.length, List.replicate, List.cons_append, List.nil_append, Nat.sub_self, biD, isD_1, boolD_b, cmpD, relD_i, opD, addD_i, addD_l, subD_i, intD_i, lenD_l, lenD_t, listD_l, listD_t, tupleD_l, int2D_i, absD_i, toIntD_i, toIntD_b, eqD_i, eqD_b, eqD_s, rngD_1, rngD_2, seqD_l, seqD_t, lstD_l, ixX_l, ixX_t, negX_i, slX_l, rvX_l, repX_i, intX_i, ixD_0, ixD_1, ixD_2, true_and, and_true, ite_self]
    have hk2 : k' (some (.int (eI n as x k))) _ _ := hk
    unfold eI at hk2
    rw [arcAt_eq hk1] at hk2
    exact hk2
  · rw [List.nil_append, natG_map, filterMap_all]
    simp only [wSs, wS, w1, wT, wE, wA, wX, wV, wP, wC, opn, rdO_d, rdO_o, asD_d, asD_n, KQY, entry, look, put, slotV, argsOk, frzA, frzV, sv_i, sv_b, sv_s, sv_0, sv_l, sv_t, sv_d, sv_n, List.map, List.length, List.replicate, List.cons_append, List.nil_append, Nat.sub_self, biD, isD_1, boolD_b, cmpD, relD_i, opD, addD_i, addD_l, subD_i, intD_i, lenD_l, lenD_t, listD_l, listD_t, tupleD_l, int2D_i, absD_i, toIntD_i, toIntD_b, eqD_i, eqD_b, eqD_s, rngD_1, rngD_2, seqD_l, seqD_t, lstD_l, ixX_l, ixX_t, negX_i, slX_l, rvX_l, repX_i, intX_i, ixD_0, ixD_1, ixD_2, true_and, and_true, ite_self]
    refine minLD_map hne fun j hj hmin => ?_
    simp only [wSs, wS, w1, wT, wE, wA, wX, wV, wP, wC, opn, rdO_d, rdO_o, asD_d, asD_n, KQY, entry, look, put, slotV, argsOk, frzA, frzV, sv_i, sv_b, sv_s, sv_0, sv_l, sv_t, sv_d, sv_n, List.map, List.length, List.replicate, List.cons_append, List.nil_append, Nat.sub_self, biD, isD_1, boolD_b, cmpD, relD_i, opD, addD_i, addD_l, subD_i, intD_i, lenD_l, lenD_t, listD_l, listD_t, tupleD_l, int2D_i, absD_i, toIntD_i, toIntD_b, eqD_i, eqD_b, eqD_s, rngD_1, rngD_2, seqD_l, seqD_t, lstD_l, ixX_l, ixX_t, negX_i, slX_l, rvX_l, repX_i, intX_i, ixD_0, ixD_1, ixD_2, true_and, and_true, ite_self]
    refine idx_mp ⟨j, hj, rfl⟩ fun i hi hei hfirst => ?_
    simp only [wSs, wS, w1, wT, wE, wA, wX, wV, wP, wC, opn, rdO_d, rdO_o, asD_d, asD_n, KQY, entry, look, put, slotV, argsOk, frzA, frzV, sv_i, sv_b, sv_s, sv_0, sv_l, sv_t, sv_d, sv_n, List.map, List.length, List.replicate, List.cons_append, List.nil_append, Nat.sub_self, biD, isD_1, boolD_b, cmpD, relD_i, opD, addD_i, addD_l, subD_i, intD_i, lenD_l, lenD_t, listD_l, listD_t, tupleD_l, int2D_i, absD_i, toIntD_i, toIntD_b, eqD_i, eqD_b, eqD_s, rngD_1, rngD_2, seqD_l, seqD_t, lstD_l, ixX_l, ixX_t, negX_i, slX_l, rvX_l, repX_i, intX_i, ixD_0, ixD_1, ixD_2, true_and, and_true, ite_self]
    rw [ixD_nat (j := i) rfl (by rw [List.getElem?_map, List.getElem?_eq_getElem hi]; rfl)]
    have hiL := List.getElem_mem hi
    have hfi : ∀ j2 ∈ L, eI n as x j2 = eI n as x L[i] → L[i] ≤ j2 := fun j2 hj2 e => by
      obtain ⟨i2, hi2, rfl⟩ := List.mem_iff_getElem.mp hj2
      rcases Nat.lt_or_ge i2 i with h | h
      · exact absurd (e.trans hei) (hfirst i2 h)
      · rcases Nat.lt_or_eq_of_le h with h | h
        · exact Nat.le_of_lt (List.pairwise_iff_getElem.mp hlt i i2 hi hi2 h)
        · subst h; exact Nat.le_refl _
    generalize L[i] = k at hei hiL hfi
    refine minLD_map hne fun j2 hj2 hmin2 => ?_
    have e2 : eI n as x j2 = eI n as x k := by
      have := hmin j2 hj2
      have := hmin2 j hj
      omega
    rw [e2]
    have hr := left0_rng ok (hL k hiL)
    simp only [natD, wSs, wS, w1, wT, wE, wA, wX, wV, wP, wC, opn, rdO_d, rdO_o, asD_d, asD_n, KQY, entry, look, put, slotV, argsOk, frzA, frzV, sv_i, sv_b, sv_s, sv_0, sv_l, sv_t, sv_d, sv_n, List.map, List.length, List.replicate, List.cons_append, List.nil_append, Nat.sub_self, biD, isD_1, boolD_b, cmpD, relD_i, opD, addD_i, addD_l, subD_i, intD_i, lenD_l, lenD_t, listD_l, listD_t, tupleD_l, int2D_i, absD_i, toIntD_i, toIntD_b, eqD_i, eqD_b, eqD_s, rngD_1, rngD_2, seqD_l, seqD_t, lstD_l, ixX_l, ixX_t, negX_i, slX_l, rvX_l, repX_i, intX_i, ixD_0, ixD_1, ixD_2, true_and, and_true, ite_self, wI, wipeG, backG]
    refine ⟨by omega, by unfold big; decide, by rw [List.length_map]; unfold big; omega, by rw [List.length_map]; unfold big; omega, ?_⟩
    refine cLoop_pure (g := natG fun j => if decide (eI n as x k < bI n as x j) = true then some (natD j) else none) _ [] ?_ ?_
    · intro y hy k' hk
      obtain ⟨j3, hj3, rfl⟩ := List.mem_map.mp hy
      have hk1 := (mem_left0.mp (hL j3 hj3)).1
      unfold trsteps_from_c2
      simp only [bindT, natD, wSs, wS, w1, wT, wE, wA, wX, wV, wP, wC, opn, rdO_d, rdO_o, asD_d, asD_n, KQY, entry, look, put, slotV, argsOk, frzA, frzV, sv_i, sv_b, sv_s, sv_0, sv_l, sv_t, sv_d, sv_n, List.map, List.length, List.replicate, List.cons_append, List.nil_append, Nat.sub_self, biD, isD_1, boolD_b, cmpD, relD_i, opD, addD_i, addD_l, subD_i, intD_i, lenD_l, lenD_t, listD_l, listD_t, tupleD_l, int2D_i, absD_i, toIntD_i, toIntD_b, eqD_i, eqD_b, eqD_s, rngD_1, rngD_2, seqD_l, seqD_t, lstD_l, ixX_l, ixX_t, negX_i, slX_l, rvX_l, repX_i, intX_i, ixD_0, ixD_1, ixD_2, true_and, and_true, ite_self]
      rw [ixD_nat (j := j3) rfl (arc_item hk1)]
      simp only [arcD, wSs, wS, w1, wT, wE, wA, wX, wV, wP, wC, opn, rdO_d, rdO_o, asD_d, asD_n, KQY, entry, look, put, slotV, argsOk, frzA, frzV, sv_i, sv_b, sv_s, sv_0, sv_l, sv_t, sv_d, sv_n, List.map, List.length, List.replicate, List.cons_append, List.nil_append, Nat.sub_self, biD, isD_1, boolD_b, cmpD, relD_i, opD, addD_i, addD_l, subD_i, intD_i, lenD_l, lenD_t, listD_l, listD_t, tupleD_l, int2D_i, absD_i, toIntD_i, toIntD_b, eqD_i, eqD_b, eqD_s, rngD_1, rngD_2, seqD_l, seqD_t, lstD_l, ixX_l, ixX_t, negX_i, slX_l, rvX_l, repX_i, intX_i, ixD_0, ixD_1, ixD_2, true_and, and_true, ite_self, run_holds]
      have hh := left0_hld ok (hL j3 hj3) (d := eI n as x k) (by omega) (by omega)
      rw [arcAt_eq hk1] at hh
      have hle := hmin j3 hj3
      rw [hh]
      refine ⟨by omega, ?_⟩
      have hk2 : k' (if decide (eI n as x k < bI n as x j3) = true then some (natD j3) else none) _ _ := hk
      by_cases hc : eI n as x k < bI n as x j3
      · have hb : (!decide (bI n as x j3 ≤ eI n as x k ∧ eI n as x k ≤ eI n as x j3)) = true := by simp; omega
        rw [if_pos (decide_eq_true hc)] at hk2
        simp only [hb, if_true, if_pos]
        exact hk2
      · have hb : (!decide (bI n as x j3 ≤ eI n as x k ∧ eI n as x k ≤ eI n as x j3)) = false := by simp; omega
        rw [if_neg (by simp [hc])] at hk2
        simp only [hb, Bool.false_eq_true, if_false]
        exact hk2
    · rw [List.nil_append, natG_map, filterMap_pick]
      have := fun a b c d e => hK k a b c d e hiL (fun j' hj' => by
        have := hmin j' hj'
        omega) hfi
      simp only [List.map_append] at this
      exact this _ _ _ _ _
theorem zip_pick {p : Int × Int → Bool} : ∀ (as pre : List (Int × Int)), (as.zipIdx pre.length).filterMap (fun q => if p q.1 = true then some (natD q.2) else none) = ((List.range' pre.length as.length).filter fun k => p (arcAt (pre ++ as) k)).map natD
  | [], pre => rfl
  | a :: r, pre => by
    have ih := zip_pick (p := p) r (pre ++ [a])
    rw [List.length_append, List.length_singleton] at ih
    rw [List.zipIdx_cons, List.filterMap_cons, ih, List.length_cons, List.range'_succ, List.filter_cons]
    have e : arcAt (pre ++ a :: r) pre.length = a := by
      unfold arcAt
      rw [List.getD_eq_getElem?_getD, List.getElem?_append_right (Nat.le_refl _), Nat.sub_self]
      rfl
    rw [e, List.append_assoc, List.singleton_append]
    by_cases h : p a = true
    · simp [h]
    · simp [h]
def leftG (n x : Int) : D → Option D
  | .tuple [.int k, .tuple [.int s, .int m]] => if (!hld n (s, m) x) = true then some (.int k) else none
  | _ => none
theorem left_zip {n x : Int} {as : List (Int × Int)} : (as.zipIdx).filterMap (leftG n x ∘ fun q => PyData.tuple [.int (q.2 : Nat), arcD q.1]) = (left0 n as x).map natD := by
  have h := zip_pick (p := fun a => !hld n a x) as []
  rw [List.nil_append, List.length_nil, ← List.range_eq_range'] at h
  exact h
theorem w_steps_from : WOk Ssteps_from 2 11 trsteps_from := fun ds Q Y h => by
  obtain ⟨n, as, x, rfl, ok, hx, h⟩ := h
  refine ⟨rfl, ?_⟩
  have n1 := ok.n1
  unfold trsteps_from
  simp only [wSs, wS, w1, wT, wE, wA, wX, wV, wP, wC, opn, rdO_d, rdO_o, asD_d, asD_n, KQY, entry, look, put, slotV, argsOk, frzA, frzV, sv_i, sv_b, sv_s, sv_0, sv_l, sv_t, sv_d, sv_n, List.map, List.length, List.replicate, List.cons_append, List.nil_append, Nat.sub_self, biD, isD_1, boolD_b, cmpD, relD_i, opD, addD_i, addD_l, subD_i, intD_i, lenD_l, lenD_t, listD_l, listD_t, tupleD_l, int2D_i, absD_i, toIntD_i, toIntD_b, eqD_i, eqD_b, eqD_s, rngD_1, rngD_2, seqD_l, seqD_t, lstD_l, ixX_l, ixX_t, negX_i, slX_l, rvX_l, repX_i, intX_i, ixD_0, ixD_1, ixD_2, true_and, and_true, ite_self, ringD, putAll, wI, wipeG, backG]
  refine ⟨by rw [enumD_len, List.length_map]; exact big20 ok.len, ?_⟩
  rw [enumD_map]
  refine cLoop_pure (g := leftG n x) _ [] ?_ ?_
  · intro y hy k' hk
    obtain ⟨q, hq, rfl⟩ := List.mem_map.mp hy
    unfold trsteps_from_c1
    simp only [bindT, putAll, arcD, wSs, wS, w1, wT, wE, wA, wX, wV, wP, wC, opn, rdO_d, rdO_o, asD_d, asD_n, KQY, entry, look, put, slotV, argsOk, frzA, frzV, sv_i, sv_b, sv_s, sv_0, sv_l, sv_t, sv_d, sv_n, List.map, List.length, List.replicate, List.cons_append, List.nil_append, Nat.sub_self, biD, isD_1, boolD_b, cmpD, relD_i, opD, addD_i, addD_l, subD_i, intD_i, lenD_l, lenD_t, listD_l, listD_t, tupleD_l, int2D_i, absD_i, toIntD_i, toIntD_b, eqD_i, eqD_b, eqD_s, rngD_1, rngD_2, seqD_l, seqD_t, lstD_l, ixX_l, ixX_t, negX_i, slX_l, rvX_l, repX_i, intX_i, ixD_0, ixD_1, ixD_2, true_and, and_true, ite_self, run_holds]
    refine ⟨by omega, ?_⟩
    simp only [leftG, arcD] at hk
    cases hc : hld n (q.1.1, q.1.2) x with
    | true =>
      rw [hc] at hk
      simp only [Bool.not_true, Bool.false_eq_true, if_false, if_true] at hk ⊢
      exact hk
    | false =>
      rw [hc] at hk
      simp only [Bool.not_false, if_true] at hk ⊢
      exact hk
  · rw [List.nil_append, List.filterMap_map, left_zip]
    simp only [wSs, wS, w1, wT, wE, wA, wX, wV, wP, wC, opn, rdO_d, rdO_o, asD_d, asD_n, KQY, entry, look, put, slotV, argsOk, frzA, frzV, sv_i, sv_b, sv_s, sv_0, sv_l, sv_t, sv_d, sv_n, List.map, List.length, List.replicate, List.cons_append, List.nil_append, Nat.sub_self, biD, isD_1, boolD_b, cmpD, relD_i, opD, addD_i, addD_l, subD_i, intD_i, lenD_l, lenD_t, listD_l, listD_t, tupleD_l, int2D_i, absD_i, toIntD_i, toIntD_b, eqD_i, eqD_b, eqD_s, rngD_1, rngD_2, seqD_l, seqD_t, lstD_l, ixX_l, ixX_t, negX_i, slX_l, rvX_l, repX_i, intX_i, ixD_0, ixD_1, ixD_2, true_and, and_true, ite_self]
    refine ⟨by unfold big; decide, ?_⟩
    refine ⟨fun m Γ _ => ∃ (L acc : List Nat) (x5 x6 x8 x9 x10 : Option Val), Γ = [some (.dat (ringD n as)), some (.dat (.int x)), some (.dat (.int n)), some (.dat (.list (as.map arcD))), some (.own (L.map natD)), x5, x6, some (.own (acc.map (stepD n as x))), x8, x9, x10] ∧ m = L.length ∧ (∀ k ∈ L, k ∈ left0 n as x) ∧ L.Pairwise (· < ·) ∧ acc.length + L.length ≤ 20 ∧ ∀ r, IsStepsF (bI n as x) (eI n as x) L r → IsWalkF n as x (acc ++ r), ⟨_, left0 n as x, [], _, _, _, _, _, rfl, rfl, fun k hk => hk, left0_lt, ?_, fun r hr => hr⟩, ?_⟩
    · have := left0_len (n := n) (as := as) (x := x)
      have := ok.len
      simp
      omega
    · rintro m Γ u ⟨L, acc, x5, x6, x8, x9, x10, rfl, rfl, hL, hpw, hl, hr⟩
      simp only [wSs, wS, w1, wT, wE, wA, wX, wV, wP, wC, opn, rdO_d, rdO_o, asD_d, asD_n, KQY, entry, look, put, slotV, argsOk, frzA, frzV, sv_i, sv_b, sv_s, sv_0, sv_l, sv_t, sv_d, sv_n, List.map, List.length, List.replicate, List.cons_append, List.nil_append, Nat.sub_self, biD, isD_1, boolD_b, cmpD, relD_i, opD, addD_i, addD_l, subD_i, intD_i, lenD_l, lenD_t, listD_l, listD_t, tupleD_l, int2D_i, absD_i, toIntD_i, toIntD_b, eqD_i, eqD_b, eqD_s, rngD_1, rngD_2, seqD_l, seqD_t, lstD_l, ixX_l, ixX_t, negX_i, slX_l, rvX_l, repX_i, intX_i, ixD_0, ixD_1, ixD_2, true_and, and_true, ite_self, eqD_nil]
      refine ⟨by unfold big; decide, ?_⟩
      by_cases he : L = []
      · subst he
        simp only [List.map_nil, List.isEmpty_nil, Bool.not_true, Bool.false_eq_true, if_false, look]
        have := h acc (by have := hr [] rfl; rwa [List.append_nil] at this)
        exact this
      · have e1 : (!(L.map natD).isEmpty) = true := by rw [notEmpty_iff]; simpa using he
        have hpos : 0 < L.length := List.length_pos_iff.mpr he
        simp only [e1, if_true]
        refine steps_b1 ok hx he hL hpw (by omega) (fun k y5 y6 y8 y9 y10 hk hmin hfi => ?_) (by omega)
        have hlt := filter_lt (p := fun j => decide (eI n as x k < bI n as x j)) hk (by rw [decide_eq_false_iff_not]; have := left0_rng ok (hL k hk); omega)
        refine ⟨(L.filter fun j => decide (eI n as x k < bI n as x j)).length, hlt, _, acc ++ [k], y5, y6, y8, y9, y10, rfl, rfl, fun j hj => hL j (List.mem_filter.mp hj).1, hpw.filter _, ?_, fun r hr' => ?_⟩
        · rw [List.length_append, List.length_singleton]; omega
        · rw [List.append_assoc]
          exact hr (k :: r) ⟨hk, hmin, hfi, hr'⟩
theorem call_stepsF {n x : Int} {as : List (Int × Int)} {Q : Val → Prop} {Y : Nat → Prop} (ok : RingOk n as) (hx : 0 ≤ x ∧ x < n) (h : ∀ r, IsWalkF n as x r → Q (.new (r.map (stepD n as x)))) : Ssteps_from.run [ringD n as, .int x] Q Y := ⟨n, as, x, rfl, ok, hx, h⟩
theorem call_steps {n x : Int} {as : List (Int × Int)} {Q : Val → Prop} {Y : Nat → Prop} (ok : RingOk n as) (hx : 0 ≤ x ∧ x < n) (h : ∀ r, IsWalk n as x r → Q (.new (r.map (stepD n as x)))) : Ssteps_from.run [ringD n as, .int x] Q Y := ⟨n, as, x, rfl, ok, hx, fun r hr => h r (IsStepsF.weak hr)⟩
/-! ### next_place, walk_from -/
def nextD (n : Int) (as : List (Int × Int)) (x : Int) : List Nat → D
  | [] => .none
  | k :: _ => .int (plK n as x k)
def Fnext_place : RF where
  run n as ds Q Y := match ds with
    | [a] => (isNumD a n = false → Y 2) ∧ ∀ p : Int, 0 ≤ p → p < n → a = .int p → ∀ r, IsWalk n as p r → Q (.dat (nextD n as p r))
    | _ => False
  mono := fun h1 h2 q => by
    split at q
    · exact ⟨fun e => h2 _ (q.1 e), fun p a b e r hr => h1 _ (q.2 p a b e r hr)⟩
    · exact q
def Snext_place : Summ := Summ.ring 1 Fnext_place
theorem call_next_place {n : Int} {as : List (Int × Int)} {p : Int} {Q : Val → Prop} {Y : Nat → Prop} (ok : RingOk n as) (h0 : 0 ≤ p) (h1 : p < n) (h : ∀ r, IsWalk n as p r → Q (.dat (nextD n as p r))) : Snext_place.run [ringD n as, .int p] Q Y := by
  refine ring_ok rfl ok ⟨fun e => ?_, fun j _ _ e => ?_⟩
  · rw [isNum_int.mpr ⟨p, h0, h1, rfl⟩] at e; cases e
  · cases e
    exact h
theorem walk_big {n x : Int} {as : List (Int × Int)} {r : List Nat} (ok : RingOk n as) (h : IsWalk n as x r) : r.length ≤ 20 := by
  have h1 := IsSteps.len (fun k hk => (left0_rng ok hk).2.1) h
  have h2 := left0_len (n := n) (as := as) (x := x)
  have := ok.len
  omega
def trnext_place_b1 : Sms Unit :=
  (.cons (.one (.ret (.var 2)))
    .nil)
def trnext_place : Sms Unit :=
  (.cons (.one (.expr (.call "need_ring" Sneed_ring (.cons (.var 0) .nil))))
    (.cons (.one (.expr (.call "need_place" Sneed_place (.cons (.var 0) (.cons (.var 1) .nil)))))
    (.cons (.for (.tp [2, 3]) (.seq (.call "steps_from" Ssteps_from (.cons (.var 0) (.cons (.var 1) .nil))))
    trnext_place_b1)
    (.cons (.one (.ret .non))
    .nil))))

theorem w_next_place : WOk Snext_place 2 4 trnext_place := WOk.ring (fun d r Q Y hl hr h0 => by
    obtain ⟨a, rfl⟩ := len1 hl
    unfold trnext_place
    simp only [wSs, wS, w1, wT, wE, wA, wX, wV, wP, wC, opn, rdO_d, rdO_o, asD_d, asD_n, KQY, entry, look, put, slotV, argsOk, frzA, frzV, sv_i, sv_b, sv_s, sv_0, sv_l, sv_t, sv_d, sv_n, List.map, List.length, List.replicate, List.cons_append, List.nil_append, Nat.sub_self, biD, isD_1, boolD_b, cmpD, relD_i, opD, addD_i, addD_l, subD_i, intD_i, lenD_l, lenD_t, listD_l, listD_t, tupleD_l, int2D_i, absD_i, toIntD_i, toIntD_b, eqD_i, eqD_b, eqD_s, rngD_1, rngD_2, seqD_l, seqD_t, lstD_l, ixX_l, ixX_t, negX_i, slX_l, rvX_l, repX_i, intX_i, ixD_0, ixD_1, ixD_2, true_and, and_true, ite_self, run_need_ring]
    simpa [hr] using h0) (fun n as r Q Y hl ok h => by
    obtain ⟨a, rfl⟩ := len1 hl
    obtain ⟨h2, h3⟩ := h
    unfold trnext_place
    simp only [wSs, wS, w1, wT, wE, wA, wX, wV, wP, wC, opn, rdO_d, rdO_o, asD_d, asD_n, KQY, entry, look, put, slotV, argsOk, frzA, frzV, sv_i, sv_b, sv_s, sv_0, sv_l, sv_t, sv_d, sv_n, List.map, List.length, List.replicate, List.cons_append, List.nil_append, Nat.sub_self, biD, isD_1, boolD_b, cmpD, relD_i, opD, addD_i, addD_l, subD_i, intD_i, lenD_l, lenD_t, listD_l, listD_t, tupleD_l, int2D_i, absD_i, toIntD_i, toIntD_b, eqD_i, eqD_b, eqD_s, rngD_1, rngD_2, seqD_l, seqD_t, lstD_l, ixX_l, ixX_t, negX_i, slX_l, rvX_l, repX_i, intX_i, ixD_0, ixD_1, ixD_2, true_and, and_true, ite_self, run_need_ring, isRing_ringD ok]
    simp only [if_true, ringD, run_need_place]
    cases ha : isNumD a n with
    | false => simpa [ha] using h2 ha
    | true =>
      obtain ⟨p, p0, p1, rfl⟩ := isNum_int.mp ha
      simp only [if_true, wSs, wS, w1, wT, wE, wA, wX, wV, wP, wC, opn, rdO_d, rdO_o, asD_d, asD_n, KQY, entry, look, put, slotV, argsOk, frzA, frzV, sv_i, sv_b, sv_s, sv_0, sv_l, sv_t, sv_d, sv_n, List.map, List.length, List.replicate, List.cons_append, List.nil_append, Nat.sub_self, biD, isD_1, boolD_b, cmpD, relD_i, opD, addD_i, addD_l, subD_i, intD_i, lenD_l, lenD_t, listD_l, listD_t, tupleD_l, int2D_i, absD_i, toIntD_i, toIntD_b, eqD_i, eqD_b, eqD_s, rngD_1, rngD_2, seqD_l, seqD_t, lstD_l, ixX_l, ixX_t, negX_i, slX_l, rvX_l, repX_i, intX_i, ixD_0, ixD_1, ixD_2, true_and, and_true, ite_self, wJ]
      refine call_steps ok ⟨p0, p1⟩ fun r hr => ?_
      have hb := walk_big ok hr
      simp only [Bool.false_eq_true, if_false, wSs, wS, w1, wT, wE, wA, wX, wV, wP, wC, opn, rdO_d, rdO_o, asD_d, asD_n, KQY, entry, look, put, slotV, argsOk, frzA, frzV, sv_i, sv_b, sv_s, sv_0, sv_l, sv_t, sv_d, sv_n, List.map, List.length, List.replicate, List.cons_append, List.nil_append, Nat.sub_self, biD, isD_1, boolD_b, cmpD, relD_i, opD, addD_i, addD_l, subD_i, intD_i, lenD_l, lenD_t, listD_l, listD_t, tupleD_l, int2D_i, absD_i, toIntD_i, toIntD_b, eqD_i, eqD_b, eqD_s, rngD_1, rngD_2, seqD_l, seqD_t, lstD_l, ixX_l, ixX_t, negX_i, slX_l, rvX_l, repX_i, intX_i, ixD_0, ixD_1, ixD_2, true_and, and_true, ite_self, List.length_map]
      refine ⟨by unfold big; omega, ?_⟩
      have h4 := h3 p p0 p1 rfl r hr
      cases r with
      | nil => exact h4
      | cons k r =>
        unfold trnext_place_b1
        simp only [List.map_cons, fLoop, bindT, stepD, putAll, wSs, wS, w1, wT, wE, wA, wX, wV, wP, wC, opn, rdO_d, rdO_o, asD_d, asD_n, KQY, entry, look, put, slotV, argsOk, frzA, frzV, sv_i, sv_b, sv_s, sv_0, sv_l, sv_t, sv_d, sv_n, List.map, List.length, List.replicate, List.cons_append, List.nil_append, Nat.sub_self, biD, isD_1, boolD_b, cmpD, relD_i, opD, addD_i, addD_l, subD_i, intD_i, lenD_l, lenD_t, listD_l, listD_t, tupleD_l, int2D_i, absD_i, toIntD_i, toIntD_b, eqD_i, eqD_b, eqD_s, rngD_1, rngD_2, seqD_l, seqD_t, lstD_l, ixX_l, ixX_t, negX_i, slX_l, rvX_l, repX_i, intX_i, ixD_0, ixD_1, ixD_2, true_and, and_true, ite_self]
        exact h4)
def Fwalk_from : RF where
  run n as ds Q Y := match ds with
    | [a] => (isNumD a n = false → Y 2) ∧ ∀ p : Int, 0 ≤ p → p < n → a = .int p → ∀ r, IsWalk n as p r → Q (.new ((p :: r.map (plK n as p)).map .int))
    | _ => False
  mono := fun h1 h2 q => by
    split at q
    · exact ⟨fun e => h2 _ (q.1 e), fun p a b e r hr => h1 _ (q.2 p a b e r hr)⟩
    · exact q
def Swalk_from : Summ := Summ.ring 1 Fwalk_from
theorem call_walk_from {n : Int} {as : List (Int × Int)} {p : Int} {Q : Val → Prop} {Y : Nat → Prop} (ok : RingOk n as) (h0 : 0 ≤ p) (h1 : p < n) (h : ∀ r, IsWalk n as p r → Q (.new ((p :: r.map (plK n as p)).map .int))) : Swalk_from.run [ringD n as, .int p] Q Y := by
  refine ring_ok rfl ok ⟨fun e => ?_, fun j _ _ e => ?_⟩
  · rw [isNum_int.mpr ⟨p, h0, h1, rfl⟩] at e; cases e
  · cases e
    exact h
def fstG : D → Option D
  | .tuple [a, _] => some a
  | _ => none
theorem fst_steps {n x : Int} {as : List (Int × Int)} : ∀ r : List Nat, (r.map (stepD n as x)).filterMap fstG = (r.map (plK n as x)).map .int
  | [] => rfl
  | k :: r => by
    rw [List.map_cons, List.filterMap_cons, fst_steps r]
    rfl
def trwalk_from : Sms Unit :=
  (.cons (.one (.expr (.call "need_ring" Sneed_ring (.cons (.var 0) .nil))))
    (.cons (.one (.expr (.call "need_place" Sneed_place (.cons (.var 0) (.cons (.var 1) .nil)))))
    (.cons (.one (.ret (.op .Add (.ls (.cons (.var 1) .nil)) (.comp [2, 3] (.tp [2, 3]) (.seq (.call "steps_from" Ssteps_from (.cons (.var 0) (.cons (.var 1) .nil)))) .nil (.var 2)))))
    .nil)))

theorem w_walk_from : WOk Swalk_from 2 4 trwalk_from := WOk.ring (fun d r Q Y hl hr h0 => by
    obtain ⟨a, rfl⟩ := len1 hl
    unfold trwalk_from
    simp only [wSs, wS, w1, wT, wE, wA, wX, wV, wP, wC, opn, rdO_d, rdO_o, asD_d, asD_n, KQY, entry, look, put, slotV, argsOk, frzA, frzV, sv_i, sv_b, sv_s, sv_0, sv_l, sv_t, sv_d, sv_n, List.map, List.length, List.replicate, List.cons_append, List.nil_append, Nat.sub_self, biD, isD_1, boolD_b, cmpD, relD_i, opD, addD_i, addD_l, subD_i, intD_i, lenD_l, lenD_t, listD_l, listD_t, tupleD_l, int2D_i, absD_i, toIntD_i, toIntD_b, eqD_i, eqD_b, eqD_s, rngD_1, rngD_2, seqD_l, seqD_t, lstD_l, ixX_l, ixX_t, negX_i, slX_l, rvX_l, repX_i, intX_i, ixD_0, ixD_1, ixD_2, true_and, and_true, ite_self, run_need_ring]
    simpa [hr] using h0) (fun n as r Q Y hl ok h => by
    obtain ⟨a, rfl⟩ := len1 hl
    obtain ⟨h2, h3⟩ := h
    unfold trwalk_from
    simp only [wSs, wS, w1, wT, wE, wA, wX, wV, wP, wC, opn, rdO_d, rdO_o, asD_d, asD_n, KQY, entry, look, put, slotV, argsOk, frzA, frzV, sv_i, sv_b, sv_s, sv_0, sv_l, sv_t, sv_d, sv_n, List.map, List.length, List.replicate, List.cons_append, List.nil_append, Nat.sub_self, biD, isD_1, boolD_b, cmpD, relD_i, opD, addD_i, addD_l, subD_i, intD_i, lenD_l, lenD_t, listD_l, listD_t, tupleD_l, int2D_i, absD_i, toIntD_i, toIntD_b, eqD_i, eqD_b, eqD_s, rngD_1, rngD_2, seqD_l, seqD_t, lstD_l, ixX_l, ixX_t, negX_i, slX_l, rvX_l, repX_i, intX_i, ixD_0, ixD_1, ixD_2, true_and, and_true, ite_self, run_need_ring, isRing_ringD ok]
    simp only [if_true, ringD, run_need_place]
    cases ha : isNumD a n with
    | false => simpa [ha] using h2 ha
    | true =>
      obtain ⟨p, p0, p1, rfl⟩ := isNum_int.mp ha
      simp only [if_true, wSs, wS, w1, wT, wE, wA, wX, wV, wP, wC, opn, rdO_d, rdO_o, asD_d, asD_n, KQY, entry, look, put, slotV, argsOk, frzA, frzV, sv_i, sv_b, sv_s, sv_0, sv_l, sv_t, sv_d, sv_n, List.map, List.length, List.replicate, List.cons_append, List.nil_append, Nat.sub_self, biD, isD_1, boolD_b, cmpD, relD_i, opD, addD_i, addD_l, subD_i, intD_i, lenD_l, lenD_t, listD_l, listD_t, tupleD_l, int2D_i, absD_i, toIntD_i, toIntD_b, eqD_i, eqD_b, eqD_s, rngD_1, rngD_2, seqD_l, seqD_t, lstD_l, ixX_l, ixX_t, negX_i, slX_l, rvX_l, repX_i, intX_i, ixD_0, ixD_1, ixD_2, true_and, and_true, ite_self, wI, wipeG, backG]
      refine ⟨by unfold big; decide, call_steps ok ⟨p0, p1⟩ fun r hr => ?_⟩
      have hb := walk_big ok hr
      simp only [Bool.false_eq_true, if_false, wSs, wS, w1, wT, wE, wA, wX, wV, wP, wC, opn, rdO_d, rdO_o, asD_d, asD_n, KQY, entry, look, put, slotV, argsOk, frzA, frzV, sv_i, sv_b, sv_s, sv_0, sv_l, sv_t, sv_d, sv_n, List.map, List.length, List.replicate, List.cons_append, List.nil_append, Nat.sub_self, biD, isD_1, boolD_b, cmpD, relD_i, opD, addD_i, addD_l, subD_i, intD_i, lenD_l, lenD_t, listD_l, listD_t, tupleD_l, int2D_i, absD_i, toIntD_i, toIntD_b, eqD_i, eqD_b, eqD_s, rngD_1, rngD_2, seqD_l, seqD_t, lstD_l, ixX_l, ixX_t, negX_i, slX_l, rvX_l, repX_i, intX_i, ixD_0, ixD_1, ixD_2, true_and, and_true, ite_self, List.length_map]
      refine ⟨by unfold big; omega, ?_⟩
      refine cLoop_pure (g := fstG) _ [] ?_ ?_
      · intro y hy k' hk
        obtain ⟨q, hq, rfl⟩ := List.mem_map.mp hy
        simp only [bindT, stepD, putAll, wSs, wS, w1, wT, wE, wA, wX, wV, wP, wC, opn, rdO_d, rdO_o, asD_d, asD_n, KQY, entry, look, put, slotV, argsOk, frzA, frzV, sv_i, sv_b, sv_s, sv_0, sv_l, sv_t, sv_d, sv_n, List.map, List.length, List.replicate, List.cons_append, List.nil_append, Nat.sub_self, biD, isD_1, boolD_b, cmpD, relD_i, opD, addD_i, addD_l, subD_i, intD_i, lenD_l, lenD_t, listD_l, listD_t, tupleD_l, int2D_i, absD_i, toIntD_i, toIntD_b, eqD_i, eqD_b, eqD_s, rngD_1, rngD_2, seqD_l, seqD_t, lstD_l, ixX_l, ixX_t, negX_i, slX_l, rvX_l, repX_i, intX_i, ixD_0, ixD_1, ixD_2, true_and, and_true, ite_self, if_true]
        exact hk
      · rw [List.nil_append, fst_steps]
        refine ⟨by rw [List.length_map, List.length_map]; unfold big; omega, ?_⟩
        exact h3 p p0 p1 rfl r hr)
/-! ### items of a range, as they come -/
theorem range_item {f : Nat → D} {m : Nat} {done r : List D} {y : D} (h : done ++ y :: r = (List.range m).map f) : done.length < m ∧ y = f done.length := by
  have hl := congrArg List.length h
  simp at hl
  have hi : done.length < m := by omega
  refine ⟨hi, ?_⟩
  have e : (done ++ y :: r)[done.length]? = some y := by rw [List.getElem?_append_right (Nat.le_refl _), Nat.sub_self]; rfl
  rw [h, List.getElem?_map, List.getElem?_range hi] at e
  exact (Option.some.inj e).symm
theorem plc_last {n : Int} {a : Int × Int} (h : 1 ≤ a.2) : ∃ pre, plc n a = pre ++ [(a.1 + a.2 - 1) % n] := by
  refine ⟨(List.range (a.2.toNat - 1)).map fun k => (a.1 + (k : Nat)) % n, ?_⟩
  unfold plc
  have e : a.2.toNat = (a.2.toNat - 1) + 1 := by omega
  conv => lhs; rw [e, List.range_succ, List.map_append]
  have e2 : a.1 + ((a.2.toNat - 1 : Nat) : Int) = a.1 + a.2 - 1 := by omega
  simp only [List.map_cons, List.map_nil]
  rw [e2]
/-- the ends of the arcs that do not hold a place -/
def endsL (n : Int) (as : List (Int × Int)) (x : Int) : List Int := (as.filter fun a => !hld n a x).map fun a => (a.1 + a.2 - 1) % n
theorem mem_endsL {n x v : Int} {as : List (Int × Int)} (ok : RingOk n as) : v ∈ endsL n as x ↔ ∃ k ∈ left0 n as x, v = plK n as x k := by
  unfold endsL
  rw [List.mem_map]
  have e : ∀ a : Int × Int, (x + ((a.1 - x) % n + a.2 - 1)) % n = (a.1 + a.2 - 1) % n := fun a => by
    have e1 : x + ((a.1 - x) % n + a.2 - 1) = (a.1 - x) % n + (x + a.2 - 1) := by omega
    rw [e1, Int.emod_add_emod]
    congr 1
    omega
  constructor
  · rintro ⟨a, ha, rfl⟩
    obtain ⟨h1, h2⟩ := List.mem_filter.mp ha
    obtain ⟨k, hk, rfl⟩ := List.mem_iff_getElem.mp h1
    refine ⟨k, mem_left0.mpr ⟨hk, ?_⟩, ?_⟩
    · rw [arcAt_eq hk]; simpa using h2
    · unfold plK eI
      rw [arcAt_eq hk, e]
  · rintro ⟨k, hk, rfl⟩
    obtain ⟨h1, h2⟩ := mem_left0.mp hk
    refine ⟨as[k], List.mem_filter.mpr ⟨List.getElem_mem h1, ?_⟩, ?_⟩
    · rw [arcAt_eq h1] at h2; rw [h2]; rfl
    · unfold plK eI
      rw [arcAt_eq h1, e]
theorem place_inj {n x d d' : Int} (h0 : 0 ≤ d) (h1 : d < n) (g0 : 0 ≤ d') (g1 : d' < n) (h : (x + d) % n = (x + d') % n) : d = d' := by
  have e : ((x + d) % n - x) % n = ((x + d') % n - x) % n := by rw [h]
  rw [Int.emod_sub_emod, Int.emod_sub_emod] at e
  have e1 : x + d - x = d := by omega
  have e2 : x + d' - x = d' := by omega
  rw [e1, e2, Int.emod_eq_of_lt h0 h1, Int.emod_eq_of_lt g0 g1] at e
  exact e
theorem mem_ends_d {n x d : Int} {as : List (Int × Int)} (ok : RingOk n as) (d0 : 0 ≤ d) (d1 : d < n) : (x + d) % n ∈ endsL n as x ↔ ∃ k ∈ left0 n as x, eI n as x k = d := by
  rw [mem_endsL ok]
  constructor
  · rintro ⟨k, hk, e⟩
    have hr := left0_rng ok hk
    exact ⟨k, hk, (place_inj d0 d1 (by omega) (by omega) e).symm⟩
  · rintro ⟨k, hk, e⟩
    exact ⟨k, hk, by unfold plK; rw [e]⟩
end Ac
namespace Ac
open PySem PySem.Spec PyProof.Rows L2
/-! ### stretches of a line: the walk by them alone -/
theorem as_range {as : List (Int × Int)} : as = (List.range as.length).map (arcAt as) := by
  refine List.ext_getElem (by rw [List.length_map, List.length_range]) fun i h1 h2 => ?_
  rw [List.getElem_map, List.getElem_range, arcAt_eq h1]
theorem arcs_map {α : Type} {as : List (Int × Int)} {f : Int × Int → α} : as.map f = (List.range as.length).map fun k => f (arcAt as k) := by
  conv => lhs; rw [as_range (as := as)]
  rw [List.map_map]
  rfl
def ivOf (n x : Int) (a : Int × Int) : Int × Int := ((a.1 - x) % n, (a.1 - x) % n + a.2 - 1)
def ivs (n : Int) (as : List (Int × Int)) (x : Int) : List (Int × Int) := (as.filter fun a => !hld n a x).map (ivOf n x)
def IsD : List (Int × Int) → List Int → Prop
  | I, [] => I = []
  | I, d :: r => (∃ i ∈ I, i.2 = d) ∧ (∀ i ∈ I, d ≤ i.2) ∧ IsD (I.filter fun i => decide (d < i.1)) r
/-- each one holds one of the others -/
def Cov (I J : List (Int × Int)) : Prop := ∀ i ∈ I, ∃ j ∈ J, i.1 ≤ j.1 ∧ j.2 ≤ i.2
theorem Cov.filter {I J : List (Int × Int)} {d : Int} (h : Cov I J) : Cov (I.filter fun i => decide (d < i.1)) (J.filter fun i => decide (d < i.1)) := fun i hi => by
  obtain ⟨h1, h2⟩ := List.mem_filter.mp hi
  obtain ⟨j, hj, h3, h4⟩ := h i h1
  have := of_decide_eq_true h2
  exact ⟨j, List.mem_filter.mpr ⟨hj, decide_eq_true (by omega)⟩, h3, h4⟩
theorem Cov.nil {J : List (Int × Int)} (h : Cov J []) : J = [] := by
  cases J with
  | nil => rfl
  | cons j J =>
    obtain ⟨_, h, _⟩ := h j List.mem_cons_self
    cases h
theorem Cov.sub {I J : List (Int × Int)} (h : ∀ i ∈ I, i ∈ J) : Cov I J := fun i hi => ⟨i, h i hi, Int.le_refl _, Int.le_refl _⟩
theorem IsD.same : ∀ {ds es : List Int} {I J : List (Int × Int)}, IsD I ds → IsD J es → Cov I J → Cov J I → ds = es
  | [], [], _, _, _, _, _, _ => rfl
  | [], e :: es, I, J, h, h', _, c2 => by
    have h0 : I = [] := h
    rw [h0] at c2
    have := c2.nil
    obtain ⟨i, hi, _⟩ := h'.1
    rw [this] at hi
    cases hi
  | d :: ds, [], I, J, h, h', c1, _ => by
    have h0 : J = [] := h'
    rw [h0] at c1
    have := c1.nil
    obtain ⟨i, hi, _⟩ := h.1
    rw [this] at hi
    cases hi
  | d :: ds, e :: es, I, J, h, h', c1, c2 => by
    have e1 : d = e := by
      obtain ⟨i, hi, hid⟩ := h.1
      obtain ⟨j, hj, hje⟩ := h'.1
      obtain ⟨j2, hj2, _, h3⟩ := c1 i hi
      obtain ⟨i2, hi2, _, h4⟩ := c2 j hj
      have := h.2.1 i2 hi2
      have := h'.2.1 j2 hj2
      omega
    subst e1
    rw [IsD.same h.2.2 h'.2.2 c1.filter c2.filter]
theorem isD_steps {b e : Nat → Int} : ∀ {r L : List Nat}, IsSteps b e L r → IsD (L.map fun k => (b k, e k)) (r.map e)
  | [], L, h => by
    have h0 : L = [] := h
    rw [h0]
    rfl
  | k :: r, L, h => by
    refine ⟨⟨(b k, e k), List.mem_map.mpr ⟨k, h.1, rfl⟩, rfl⟩, fun i hi => ?_, ?_⟩
    · obtain ⟨j, hj, rfl⟩ := List.mem_map.mp hi
      exact h.2.1 j hj
    · rw [List.filter_map]
      exact isD_steps h.2.2
theorem ivs_left {n x : Int} {as : List (Int × Int)} : ivs n as x = (left0 n as x).map fun k => (bI n as x k, eI n as x k) := by
  unfold ivs left0
  have e : as.filter (fun a => !hld n a x) = ((List.range as.length).filter fun k => !hld n (arcAt as k) x).map (arcAt as) := by
    conv => lhs; rw [as_range (as := as)]
    rw [List.filter_map]
    rfl
  rw [e, List.map_map]
  rfl
theorem isD_walk {n x : Int} {as : List (Int × Int)} {r : List Nat} (h : IsWalk n as x r) : IsD (ivs n as x) (r.map (eI n as x)) := by
  rw [ivs_left]
  exact isD_steps h
/-- the walk, by how far its places lie behind its first -/
theorem walk_plc {n x : Int} {as : List (Int × Int)} (r : List Nat) : r.map (plK n as x) = (r.map (eI n as x)).map fun d => (x + d) % n := by
  rw [List.map_map]
  rfl
theorem walk_same {n x : Int} {as bs : List (Int × Int)} {r r' : List Nat} (h : IsWalk n as x r) (h' : IsWalk n bs x r') (c1 : Cov (ivs n as x) (ivs n bs x)) (c2 : Cov (ivs n bs x) (ivs n as x)) : r.map (plK n as x) = r'.map (plK n bs x) := by
  rw [walk_plc, walk_plc, IsD.same (isD_walk h) (isD_walk h') c1 c2]
/-! ### what is put to a ring and changes no walk -/
theorem mem_ivs {n x : Int} {as : List (Int × Int)} {i : Int × Int} : i ∈ ivs n as x ↔ ∃ a ∈ as, hld n a x = false ∧ i = ivOf n x a := by
  unfold ivs
  rw [List.mem_map]
  constructor
  · rintro ⟨a, ha, rfl⟩
    obtain ⟨h1, h2⟩ := List.mem_filter.mp ha
    exact ⟨a, h1, by simpa using h2, rfl⟩
  · rintro ⟨a, ha, hh, rfl⟩
    exact ⟨a, List.mem_filter.mpr ⟨ha, by rw [hh]; rfl⟩, rfl⟩
def SameW (n x : Int) (as bs : List (Int × Int)) : Prop := Cov (ivs n as x) (ivs n bs x) ∧ Cov (ivs n bs x) (ivs n as x)
theorem SameW.perm {n x : Int} {as bs : List (Int × Int)} (h : ∀ a, a ∈ as ↔ a ∈ bs) : SameW n x as bs :=
  ⟨Cov.sub fun i hi => by
    obtain ⟨a, ha, h1, h2⟩ := mem_ivs.mp hi
    exact mem_ivs.mpr ⟨a, (h a).mp ha, h1, h2⟩, Cov.sub fun i hi => by
    obtain ⟨a, ha, h1, h2⟩ := mem_ivs.mp hi
    exact mem_ivs.mpr ⟨a, (h a).mpr ha, h1, h2⟩⟩
/-- one more arc that holds the place -/
theorem SameW.holds {n x : Int} {as bs : List (Int × Int)} {c : Int × Int} (h : ∀ a, a ∈ bs ↔ a = c ∨ a ∈ as) (hc : hld n c x = true) : SameW n x as bs :=
  ⟨Cov.sub fun i hi => by
    obtain ⟨a, ha, h1, h2⟩ := mem_ivs.mp hi
    exact mem_ivs.mpr ⟨a, (h a).mpr (.inr ha), h1, h2⟩, Cov.sub fun i hi => by
    obtain ⟨a, ha, h1, h2⟩ := mem_ivs.mp hi
    rcases (h a).mp ha with e | ha
    · rw [e, hc] at h1; cases h1
    · exact mem_ivs.mpr ⟨a, ha, h1, h2⟩⟩
/-- one more arc that holds all of one that is there -/
theorem SameW.wide {n x : Int} {as bs : List (Int × Int)} {c d : Int × Int} (h : ∀ a, a ∈ bs ↔ a = c ∨ a ∈ as) (hd : d ∈ as) (hc : hld n c x = false → hld n d x = false ∧ (ivOf n x c).1 ≤ (ivOf n x d).1 ∧ (ivOf n x d).2 ≤ (ivOf n x c).2) : SameW n x as bs :=
  ⟨Cov.sub fun i hi => by
    obtain ⟨a, ha, h1, h2⟩ := mem_ivs.mp hi
    exact mem_ivs.mpr ⟨a, (h a).mpr (.inr ha), h1, h2⟩, fun i hi => by
    obtain ⟨a, ha, h1, rfl⟩ := mem_ivs.mp hi
    rcases (h a).mp ha with e | ha
    · subst e
      obtain ⟨g1, g2, g3⟩ := hc h1
      exact ⟨_, mem_ivs.mpr ⟨d, hd, g1, rfl⟩, g2, g3⟩
    · exact ⟨_, mem_ivs.mpr ⟨a, ha, h1, rfl⟩, Int.le_refl _, Int.le_refl _⟩⟩
theorem not_hld {n x : Int} {a : Int × Int} (hn : 0 < n) (h1 : 1 ≤ (a.1 - x) % n) (h2 : (a.1 - x) % n + a.2 - 1 ≤ n - 1) : hld n a x = false := by
  unfold hld
  rw [decide_eq_false_iff_not]
  have b1 := Int.emod_lt_of_pos (a.1 - x) hn
  have : (x - a.1) % n = n - (a.1 - x) % n := by
    have e2 : (x - a.1) % n = (n - (a.1 - x) % n) % n := by
      have : n - (a.1 - x) = x - a.1 + n := by omega
      rw [Int.sub_emod_emod, this, Int.add_emod_right]
    rw [e2]
    exact Int.emod_eq_of_lt (by omega) (by omega)
  omega
/-- an arc that begins so far ahead and goes on as far behind or more -/
theorem wide_ok {n x s l m f : Int} (hn : 0 < n) (s0 : 0 ≤ s) (s1 : s < n) (l1 : 1 ≤ l) (f0 : 0 ≤ f) (hm : l + f ≤ m) (hm2 : m ≤ n) : hld n ((s - f) % n, m) x = false → hld n (s, l) x = false ∧ (ivOf n x ((s - f) % n, m)).1 ≤ (ivOf n x (s, l)).1 ∧ (ivOf n x (s, l)).2 ≤ (ivOf n x ((s - f) % n, m)).2 := by
  intro h
  have okc : arcOk n ((s - f) % n, m) := ⟨Int.emod_nonneg _ (by omega), Int.emod_lt_of_pos _ hn, by show 1 ≤ m; omega, hm2⟩
  obtain ⟨l1', l2'⟩ := line okc h
  dsimp only at l1' l2'
  have hb : ((s - f) % n - x) % n + f < n := by omega
  have e : (s - x) % n = ((s - f) % n - x) % n + f := by
    have e1 : (s - x) % n = (((s - f) % n - x) % n + f) % n := by
      have e2 : (s - f) % n - x + f = (s - f) % n + (f - x) := by omega
      rw [Int.emod_add_emod, e2, Int.emod_add_emod]
      congr 1
      omega
    rw [e1]
    exact Int.emod_eq_of_lt (by omega) hb
  unfold ivOf
  dsimp only
  rw [e]
  exact ⟨not_hld hn (by dsimp only; omega) (by dsimp only; omega), by omega, by omega⟩
/-! ### a ring turned -/
theorem turn_hld {n x t : Int} {a : Int × Int} : hld n ((a.1 + t) % n, a.2) ((x + t) % n) = hld n a x := by
  unfold hld
  dsimp only
  rw [Int.emod_sub_emod, Int.sub_emod_emod]
  congr 3
  omega
theorem turn_iv {n x t : Int} {a : Int × Int} : ivOf n ((x + t) % n) ((a.1 + t) % n, a.2) = ivOf n x a := by
  unfold ivOf
  dsimp only
  have e : ((a.1 + t) % n - (x + t) % n) % n = (a.1 - x) % n := by
    rw [Int.emod_sub_emod, Int.sub_emod_emod]
    congr 1
    omega
  rw [e]
theorem turn_ivs {n x t : Int} {as : List (Int × Int)} : ivs n (as.map fun a => ((a.1 + t) % n, a.2)) ((x + t) % n) = ivs n as x := by
  unfold ivs
  rw [List.filter_map, List.map_map]
  have e : (as.filter ((fun a => !hld n a ((x + t) % n)) ∘ fun a => ((a.1 + t) % n, a.2))) = as.filter fun a => !hld n a x := List.filter_congr fun a _ => by
    dsimp only [Function.comp]
    rw [turn_hld]
  rw [e]
  exact List.map_congr_left fun a _ => turn_iv
theorem IsD.uniq {ds es : List Int} {I : List (Int × Int)} (h : IsD I ds) (h' : IsD I es) : ds = es := IsD.same h h' (Cov.sub fun _ h => h) (Cov.sub fun _ h => h)
theorem turn_place {n x t d : Int} : ((x + t) % n + d) % n = ((x + d) % n + t) % n := by
  rw [Int.emod_add_emod, Int.emod_add_emod]
  congr 1
  omega
theorem turn_walk {n x t : Int} {as : List (Int × Int)} {r r' : List Nat} (h : IsWalk n as x r) (h' : IsWalk n (as.map fun a => ((a.1 + t) % n, a.2)) ((x + t) % n) r') :
    ((x + t) % n :: r'.map (plK n (as.map fun a => ((a.1 + t) % n, a.2)) ((x + t) % n))) = (x :: r.map (plK n as x)).map fun p => (p + t) % n := by
  have h1 := isD_walk h'
  rw [turn_ivs] at h1
  have e := IsD.uniq h1 (isD_walk h)
  rw [walk_plc, walk_plc, e]
  generalize r.map (eI n as x) = ds
  rw [List.map_cons, List.map_map]
  congr 1
  exact List.map_congr_left fun d _ => turn_place
/-! ### the walk from the second place on -/
theorem IsD.shift {m : Int} : ∀ {ds : List Int} {I : List (Int × Int)}, IsD I ds → IsD (I.map fun i => (i.1 - m, i.2 - m)) (ds.map fun d => d - m)
  | [], I, h => by
    have h0 : I = [] := h
    rw [h0]
    rfl
  | d :: ds, I, h => by
    refine ⟨?_, fun i hi => ?_, ?_⟩
    · obtain ⟨i, hi, e⟩ := h.1
      exact ⟨_, List.mem_map.mpr ⟨i, hi, rfl⟩, by rw [e]⟩
    · obtain ⟨j, hj, rfl⟩ := List.mem_map.mp hi
      have := h.2.1 j hj
      dsimp only
      omega
    · rw [List.filter_map]
      have e : (I.filter ((fun i => decide (d - m < i.1)) ∘ fun i => (i.1 - m, i.2 - m))) = I.filter fun i => decide (d < i.1) := List.filter_congr fun i _ => by
        dsimp only [Function.comp]
        rw [decide_eq_decide]
        omega
      rw [e]
      exact IsD.shift h.2.2
theorem second_ivs {n x : Int} {as : List (Int × Int)} {m : Int} (ok : RingOk n as) (m0 : 0 ≤ m) (m1 : m < n) (hm : ∀ i ∈ ivs n as x, m ≤ i.2) : ivs n (as.filter fun a => !hld n a x) ((x + m) % n) = ((ivs n as x).filter fun i => decide (m < i.1)).map fun i => (i.1 - m, i.2 - m) := by
  unfold ivs at hm ⊢
  have key : ∀ a ∈ as.filter (fun a => !hld n a x), (!hld n a ((x + m) % n)) = decide (m < (ivOf n x a).1) ∧ (m < (ivOf n x a).1 → ivOf n ((x + m) % n) a = ((ivOf n x a).1 - m, (ivOf n x a).2 - m)) := fun a ha => by
    obtain ⟨h1, h2⟩ := List.mem_filter.mp ha
    have h3 : hld n a x = false := by simpa using h2
    have oka := ok.arcs a h1
    have h4 := hm _ (List.mem_map.mpr ⟨a, ha, rfl⟩)
    have hl := line oka h3
    rw [hld_line oka h3 m0 m1]
    unfold ivOf at h4 ⊢
    dsimp only at h4 ⊢
    refine ⟨?_, fun hlt => ?_⟩
    · rw [Bool.eq_iff_iff, Bool.not_eq_true', decide_eq_false_iff_not, decide_eq_true_eq]
      omega
    · have e : (a.1 - (x + m) % n) % n = (a.1 - x) % n - m := by
        have e1 : (a.1 - (x + m) % n) % n = ((a.1 - x) % n - m) % n := by
          rw [Int.sub_emod_emod, Int.emod_sub_emod]
          congr 1
          omega
        rw [e1]
        have := Int.emod_lt_of_pos (a.1 - x) (show 0 < n by omega)
        exact Int.emod_eq_of_lt (by omega) (by omega)
      rw [e]
      congr 1
      omega
  rw [List.filter_map, List.map_map]
  generalize as.filter (fun a => !hld n a x) = bs at key
  clear hm
  induction bs with
  | nil => rfl
  | cons b bs ih =>
    have ih := ih fun a ha => key a (List.mem_cons_of_mem _ ha)
    obtain ⟨k1, k2⟩ := key b List.mem_cons_self
    rw [List.filter_cons, List.filter_cons]
    by_cases hc : m < (ivOf n x b).1
    · have c1 : (!hld n b ((x + m) % n)) = true := by rw [k1]; exact decide_eq_true hc
      have c2 : ((fun i => decide (m < i.1)) ∘ ivOf n x) b = true := decide_eq_true hc
      rw [if_pos c1, if_pos c2, List.map_cons, List.map_cons, ih, k2 hc]
      rfl
    · have c1 : ¬ (!hld n b ((x + m) % n)) = true := by rw [k1]; simp [hc]
      have c2 : ¬ ((fun i => decide (m < i.1)) ∘ ivOf n x) b = true := by simp [hc]
      rw [if_neg c1, if_neg c2, ih]
theorem second_walk {n x : Int} {as : List (Int × Int)} {k : Nat} {r r' : List Nat} (ok : RingOk n as) (h : IsWalk n as x (k :: r)) (h' : IsWalk n (as.filter fun a => !hld n a x) (plK n as x k) r') :
    (plK n as x k :: r'.map (plK n (as.filter fun a => !hld n a x) (plK n as x k))) = (k :: r).map (plK n as x) := by
  have hk := left0_rng ok h.1
  have h0 := isD_walk h
  rw [List.map_cons] at h0
  have h1 := isD_walk h'
  have e1 : plK n as x k = (x + eI n as x k) % n := rfl
  rw [e1, second_ivs ok (by omega) (by omega) h0.2.1] at h1
  have e2 := IsD.uniq h1 h0.2.2.shift
  rw [List.map_cons, walk_plc, walk_plc]
  congr 1
  rw [e1, e2, List.map_map]
  refine List.map_congr_left fun d _ => ?_
  dsimp only [Function.comp]
  rw [Int.emod_add_emod]
  congr 1
  omega
/-! ### a comprehension with a state -/
theorem cLoop_inv {S : Type} {f : D → Ctx → S → (Option D → Ctx → S → Prop) → Prop} {k : List D → Ctx → S → Prop} (I : List D → List D → Ctx → S → Prop) (hnx : ∀ acc Γ s, I acc [] Γ s → k acc Γ s)
    (hst : ∀ acc x r Γ s (k' : Option D → Ctx → S → Prop), I acc (x :: r) Γ s → (∀ o Γ' s', I (acc ++ o.toList) r Γ' s' → k' o Γ' s') → f x Γ s k') : ∀ (xs acc : List D) (Γ : Ctx) (s : S), I acc xs Γ s → cLoop f xs Γ s acc k
  | [], acc, Γ, s, h => hnx acc Γ s h
  | x :: r, acc, Γ, s, h => hst acc x r Γ s _ h fun o Γ' s' h' => cLoop_inv I hnx hst r (acc ++ o.toList) Γ' s' h'
theorem popW_own {S : Type} {i : Nat} {Γ : Ctx} {xs : List D} {s : S} {o : (D → Ctx → S → Prop) → Prop} {Q : Val → Ctx → S → Prop} (h : look Γ i = some (.own xs)) (hl : xs.length < 1000) (ho : ∀ k : D → Ctx → S → Prop, (∀ j : Nat, ∀ (hj : j < xs.length), k (.int (j : Nat)) Γ s) → o k)
    (q : ∀ (j : Nat) (hj : j < xs.length), Q (.dat xs[j]) (put Γ i (some (.own (xs.eraseIdx j)))) s) : popW i Γ o Q := by
  unfold popW
  rw [h]
  dsimp only
  refine ho _ fun j hj => ?_
  rw [h]
  dsimp only
  have e : ixN xs.length (j : Int) = some j := by
    unfold ixN
    rw [if_pos (by omega), if_pos (by omega)]
    rfl
  have e2 : ((ixN xs.length (j : Int)).bind fun m => xs[m]?.map fun d => (m, d)) = some (j, xs[j]) := by
    rw [e]
    show (xs[j]?.map fun d => (j, d)) = _
    rw [List.getElem?_eq_getElem hj]
    rfl
  rw [e2]
  exact ⟨⟨by omega, by omega⟩, q j hj⟩
theorem erase_map {α : Type} {f : α → D} : ∀ (xs : List α) (j : Nat), (xs.map f).eraseIdx j = (xs.eraseIdx j).map f
  | [], _ => rfl
  | _ :: _, 0 => rfl
  | x :: xs, j + 1 => by
    rw [List.map_cons, List.eraseIdx_cons_succ, List.eraseIdx_cons_succ, List.map_cons, erase_map xs j]
theorem erase_perm {α : Type} : ∀ (L : List α) (j : Nat) (hj : j < L.length), (L[j] :: L.eraseIdx j).Perm L
  | x :: L, 0, _ => List.Perm.refl _
  | x :: L, j + 1, hj => by
    rw [List.eraseIdx_cons_succ, List.getElem_cons_succ]
    exact (List.Perm.swap x _ _).trans ((erase_perm L j (Nat.lt_of_succ_lt_succ hj)).cons x)
theorem take_perm {α : Type} {done L as : List α} {j : Nat} (hj : j < L.length) (h : (done ++ L).Perm as) : ((done ++ [L[j]]) ++ L.eraseIdx j).Perm as := by
  refine List.Perm.trans ?_ h
  rw [List.append_assoc]
  exact List.Perm.append_left done (erase_perm L j hj)
/-! ### next places, by the walk -/
def nextOf : List Int → D
  | [] => .none
  | p :: _ => .int p
theorem nextD_of {n x : Int} {as : List (Int × Int)} (r : List Nat) : nextD n as x r = nextOf (r.map (plK n as x)) := by
  cases r <;> rfl
theorem nextOf_okc (l : List Int) : okc (nextOf l) = true := by cases l <;> rfl
theorem nextOf_noB (l : List Int) : isBoolD (nextOf l) = false := by cases l <;> rfl
theorem cut_1 {x : D} {l : List D} : cutD (x :: l) (some 1) none = l := by
  unfold cutD HT.sIx
  simp
theorem arcs_pick {p : Int × Int → Bool} {g : D → Option D} (hg : ∀ a, g (arcD a) = if p a = true then some (arcD a) else none) : ∀ as : List (Int × Int), (as.map arcD).filterMap g = (as.filter p).map arcD
  | [] => rfl
  | a :: as => by
    rw [List.map_cons, List.filterMap_cons, hg, arcs_pick hg as, List.filter_cons]
    by_cases h : p a = true
    · rw [if_pos h, if_pos h]; rfl
    · rw [if_neg h, if_neg h]
theorem arcs_to {α : Type} {f : Int × Int → α} {e : α → D} {g : D → Option D} (hg : ∀ a, g (arcD a) = some (e (f a))) : ∀ as : List (Int × Int), (as.map arcD).filterMap g = (as.map f).map e
  | [] => rfl
  | a :: as => by
    rw [List.map_cons, List.filterMap_cons, hg, arcs_to hg as]
    rfl
theorem ints_to {f : Int → Int} {g : D → Option D} (hg : ∀ v, g (.int v) = some (.int (f v))) : ∀ l : List Int, (l.map PyData.int).filterMap g = (l.map f).map .int
  | [] => rfl
  | v :: l => by
    rw [List.map_cons, List.filterMap_cons, hg, ints_to hg l]
    rfl
theorem RingOk.sub {n : Int} {as bs : List (Int × Int)} (ok : RingOk n as) (h : bs.length ≤ as.length) (hs : ∀ a ∈ bs, a ∈ as) : RingOk n bs := ⟨ok.n1, ok.n40, Nat.le_trans h ok.len, fun a ha => ok.arcs a (hs a ha)⟩
theorem RingOk.map {n : Int} {as : List (Int × Int)} {f : Int × Int → Int × Int} (ok : RingOk n as) (h : ∀ a, arcOk n a → arcOk n (f a)) : RingOk n (as.map f) := ⟨ok.n1, ok.n40, by rw [List.length_map]; exact ok.len, fun a ha => by
  obtain ⟨b, hb, rfl⟩ := List.mem_map.mp ha
  exact h b (ok.arcs b hb)⟩
end Ac
namespace Ac
open PySem PySem.Spec PyProof.Rows L2
/-! ### lists in order -/
theorem sorted_unique : ∀ {xs ys : List Int}, xs.Perm ys → xs.Pairwise (· ≤ ·) → ys.Pairwise (· ≤ ·) → xs = ys
  | [], ys, p, _, _ => by rw [List.nil_perm.mp p]
  | x :: r, [], p, _, _ => absurd p.length_eq (by simp)
  | x :: r, y :: s, p, hx, hy => by
    rw [List.pairwise_cons] at hx hy
    have e : x = y := by
      have h1 : x ∈ y :: s := p.mem_iff.mp List.mem_cons_self
      have h2 : y ∈ x :: r := p.mem_iff.mpr List.mem_cons_self
      have a1 : y ≤ x := by
        cases h1 with
        | head => exact Int.le_refl _
        | tail _ h => exact hy.1 x h
      have a2 : x ≤ y := by
        cases h2 with
        | head => exact Int.le_refl _
        | tail _ h => exact hx.1 y h
      omega
    subst e
    rw [sorted_unique (List.perm_cons x |>.mp p) hx.2 hy.2]
theorem perm_of_nodup : ∀ {xs ys : List Int}, xs.Nodup → ys.Nodup → (∀ x, x ∈ xs ↔ x ∈ ys) → xs.Perm ys
  | [], ys, _, _, h => by
    cases ys with
    | nil => exact List.Perm.refl _
    | cons y r => exact absurd ((h y).mpr List.mem_cons_self) (by simp)
  | x :: r, ys, hx, hy, h => by
    have hm : x ∈ ys := (h x).mp List.mem_cons_self
    rw [List.nodup_cons] at hx
    have p := List.perm_cons_erase hm
    refine ((perm_of_nodup hx.2 (hy.erase x) fun z => ?_).cons x).trans p.symm
    rw [hy.mem_erase_iff]
    constructor
    · intro hz
      exact ⟨fun e => hx.1 (by rw [← e]; exact hz), (h z).mp (List.mem_cons_of_mem _ hz)⟩
    · rintro ⟨h1, h2⟩
      have := (h z).mpr h2
      cases this with
      | head => exact absurd rfl h1
      | tail _ h3 => exact h3
/-- all places -/
def places (n : Int) : List Int := (List.range n.toNat).map fun k : Nat => (k : Int)
theorem mem_places {n x : Int} : x ∈ places n ↔ 0 ≤ x ∧ x < n := by
  unfold places
  rw [List.mem_map]
  constructor
  · rintro ⟨k, hk, rfl⟩
    rw [List.mem_range] at hk
    omega
  · rintro ⟨h0, h1⟩
    exact ⟨x.toNat, by rw [List.mem_range]; omega, by omega⟩
theorem places_lt {n : Int} : (places n).Pairwise (· < ·) := by
  unfold places
  rw [List.pairwise_map]
  exact List.pairwise_lt_range.imp fun h => by omega
theorem lt_nodup {xs : List Int} (h : xs.Pairwise (· < ·)) : xs.Nodup := h.imp fun h e => by omega
theorem lt_le {xs : List Int} (h : xs.Pairwise (· < ·)) : xs.Pairwise (· ≤ ·) := h.imp fun h => by omega
theorem places_D {n : Int} : (List.range n.toNat).map (fun i => PyData.int (i : Nat)) = (places n).map .int := by
  unfold places
  rw [List.map_map]
  rfl
theorem plc_nodup {n : Int} {a : Int × Int} (ok : arcOk n a) : (plc n a).Nodup := by
  obtain ⟨h0, h1, h2, h3⟩ := ok
  unfold plc
  rw [List.nodup_iff_pairwise_ne, List.pairwise_map]
  refine (List.pairwise_lt_range (n := a.2.toNat)).imp_of_mem fun {i j} hi hj hij e => ?_
  rw [List.mem_range] at hi hj
  have e2 : ((a.1 + (j : Int)) - (a.1 + (i : Int))) % n = 0 := by
    rw [Int.sub_emod, e, Int.sub_self, Int.zero_emod]
  have e3 : (a.1 + (j : Int)) - (a.1 + (i : Int)) = (j : Int) - i := by omega
  rw [e3, Int.emod_eq_of_lt (by omega) (by omega)] at e2
  omega
theorem plc_perm {n : Int} {a : Int × Int} (ok : arcOk n a) : (plc n a).Perm ((places n).filter (hld n a)) := by
  refine perm_of_nodup (plc_nodup ok) ((lt_nodup places_lt).filter _) fun x => ?_
  rw [mem_plc ok, List.mem_filter, mem_places, and_assoc]
theorem plc_sorted {n : Int} {a : Int × Int} (ok : arcOk n a) {xs : List Int} (p : xs.Perm (plc n a)) (h : xs.Pairwise (· ≤ ·)) : xs = (places n).filter (hld n a) :=
  sorted_unique (p.trans (plc_perm ok)) h (lt_le (places_lt.filter _))
/-! ### turned, mirrored -/
def trn (n t : Int) (a : Int × Int) : Int × Int := ((a.1 + t) % n, a.2)
def mir (n : Int) (a : Int × Int) : Int × Int := ((0 - a.1 - a.2) % n, a.2)
theorem trn_ok {n t : Int} {a : Int × Int} (ok : arcOk n a) : arcOk n (trn n t a) := ⟨Int.emod_nonneg _ (by have := ok.1; have := ok.2.1; omega), Int.emod_lt_of_pos _ (by have := ok.1; have := ok.2.1; omega), ok.2.2⟩
theorem mir_ok {n : Int} {a : Int × Int} (ok : arcOk n a) : arcOk n (mir n a) := ⟨Int.emod_nonneg _ (by have := ok.1; have := ok.2.1; omega), Int.emod_lt_of_pos _ (by have := ok.1; have := ok.2.1; omega), ok.2.2⟩
theorem ring_map {n : Int} {as : List (Int × Int)} {f : Int × Int → Int × Int} (ok : RingOk n as) (h : ∀ a, arcOk n a → arcOk n (f a)) : RingOk n (as.map f) := by
  refine ⟨ok.n1, ok.n40, by rw [List.length_map]; exact ok.len, fun b hb => ?_⟩
  obtain ⟨a, ha, rfl⟩ := List.mem_map.mp hb
  exact h a (ok.arcs a ha)
theorem trn_hld {n t : Int} {a : Int × Int} {x : Int} : hld n (trn n t a) ((x + t) % n) = hld n a x := by
  unfold hld trn
  rw [← Int.sub_emod]
  have : x + t - (a.1 + t) = x - a.1 := by omega
  rw [this]
theorem trn_plc {n t : Int} {a : Int × Int} : plc n (trn n t a) = (plc n a).map fun x => (x + t) % n := by
  unfold plc trn
  rw [List.map_map]
  refine List.map_congr_left fun k _ => ?_
  show ((a.1 + t) % n + (k : Int)) % n = ((a.1 + (k : Int)) % n + t) % n
  rw [Int.emod_add_emod, Int.emod_add_emod]
  congr 1
  omega
theorem neg_mod {n y : Int} (hn : 0 < n) : (-y - 1) % n = n - 1 - y % n := by
  have h0 := Int.emod_nonneg y (show n ≠ 0 by omega)
  have h1 := Int.emod_lt_of_pos y hn
  have e : (-y - 1) % n = (n - 1 - y % n) % n := by
    have : n - 1 - y % n = (-y - 1) + n * (y / n + 1) := by
      have := Int.emod_add_mul_ediv y n
      rw [Int.mul_add]
      omega
    rw [this, Int.add_mul_emod_self_left]
  rw [e]
  exact Int.emod_eq_of_lt (by omega) (by omega)
theorem mir_hld {n : Int} {a : Int × Int} (ok : arcOk n a) {x : Int} : hld n (mir n a) (n - 1 - x) = hld n a x := by
  obtain ⟨h0, h1, h2, h3⟩ := ok
  have hn : 0 < n := by omega
  unfold hld mir
  have u0 := Int.emod_nonneg (x - a.1) (show n ≠ 0 by omega)
  have u1 := Int.emod_lt_of_pos (x - a.1) hn
  rw [Bool.eq_iff_iff, decide_eq_true_eq, decide_eq_true_eq, Int.sub_emod_emod]
  have e : (n - 1 - x - (0 - a.1 - a.2)) % n = (a.2 - 1 - (x - a.1) % n) % n := by
    have : n - 1 - x - (0 - a.1 - a.2) = (a.2 - 1 - (x - a.1)) + n := by omega
    rw [this, Int.add_emod_right, Int.sub_emod_emod]
  rw [e]
  by_cases hc : (x - a.1) % n < a.2
  · rw [Int.emod_eq_of_lt (by omega) (by omega)]
    exact ⟨fun _ => hc, fun _ => by show _ < a.2; omega⟩
  · have : (a.2 - 1 - (x - a.1) % n) % n = a.2 - 1 - (x - a.1) % n + n := by
      rw [← Int.add_emod_right]
      exact Int.emod_eq_of_lt (by omega) (by omega)
    rw [this]
    constructor
    · intro h; have h : a.2 - 1 - (x - a.1) % n + n < a.2 := h; omega
    · intro h; exact absurd h hc
theorem plc_at {n : Int} {a : Int × Int} {i : Nat} (h : i < (plc n a).length) : (plc n a)[i] = (a.1 + (i : Int)) % n := by
  simp [plc]
theorem mir_plc {n : Int} {a : Int × Int} (ok : arcOk n a) : plc n (mir n a) = ((plc n a).map fun x => n - 1 - x).reverse := by
  obtain ⟨h0, h1, h2, h3⟩ := ok
  have hn : 0 < n := by omega
  apply List.ext_getElem
  · rw [List.length_reverse, List.length_map, plc_len, plc_len]; rfl
  · intro i hi1 hi2
    rw [plc_len] at hi1
    have hi1 : i < a.2.toNat := hi1
    rw [List.getElem_reverse, List.getElem_map, plc_at, plc_at]
    have e : ((mir n a).1 + (i : Int)) % n = (0 - a.1 - a.2 + (i : Int)) % n := by
      show ((0 - a.1 - a.2) % n + (i : Int)) % n = _
      rw [Int.emod_add_emod]
    rw [e, ← neg_mod hn, List.length_map, plc_len]
    congr 1
    omega
theorem atB_map {n : Int} {as : List (Int × Int)} {f : Int × Int → Int × Int} {p q : Int} (h : ∀ a ∈ as, hld n (f a) q = hld n a p) : atB n (as.map f) q = atB n as p := by
  unfold atB
  rw [List.length_map]
  refine List.filter_congr fun k hk => ?_
  rw [List.mem_range] at hk
  rw [List.getElem?_map, List.getElem?_eq_getElem hk]
  exact h _ (List.getElem_mem hk)
theorem atB_count {n : Int} {p : Int} {as : List (Int × Int)} : (atB n as p).length = as.countP fun a => hld n a p := by
  have h := congrArg List.length (atB_zip n p as)
  rw [List.length_map] at h
  rw [← h]
  have : ∀ (l : List (Int × Int)) (i : Nat), ((l.zipIdx i).filterMap fun q => if hld n q.1 p = true then some (natD q.2) else none).length = l.countP fun a => hld n a p := by
    intro l
    induction l with
    | nil => intro i; rfl
    | cons a r ih =>
      intro i
      rw [List.zipIdx_cons, List.filterMap_cons, List.countP_cons]
      by_cases hb : hld n a p = true
      · simp [hb, ih]
      · simp [hb, ih]
  exact this as 0
theorem sum_add {α : Type} {f g : α → Nat} : ∀ {l : List α}, (l.map fun x => f x + g x).sum = (l.map f).sum + (l.map g).sum
  | [] => rfl
  | x :: r => by
    rw [List.map_cons, List.map_cons, List.map_cons, List.sum_cons, List.sum_cons, List.sum_cons, sum_add (l := r)]
    omega
theorem sum_ind {α : Type} {q : α → Bool} : ∀ {l : List α}, (l.map fun x => if q x = true then 1 else 0).sum = (l.filter q).length
  | [] => rfl
  | x :: r => by
    rw [List.map_cons, List.sum_cons, sum_ind (l := r), List.filter_cons]
    by_cases h : q x = true <;> simp [h]
    omega
theorem double_count {n : Int} : ∀ {as : List (Int × Int)}, (∀ a ∈ as, arcOk n a) → ((places n).map fun p => as.countP fun a => hld n a p).sum = (as.map fun a => (plc n a).length).sum
  | [], _ => by
    have : ((places n).map fun p => ([] : List (Int × Int)).countP fun a => hld n a p) = (places n).map fun _ => 0 := rfl
    rw [this]
    generalize places n = l
    induction l with
    | nil => rfl
    | cons x r ih => rw [List.map_cons, List.sum_cons, ih, Nat.zero_add]
  | a :: r, h => by
    have ih := double_count (as := r) fun b hb => h b (List.mem_cons_of_mem _ hb)
    rw [List.map_cons, List.sum_cons, ← ih]
    have e : ((places n).map fun p => (a :: r).countP fun a => hld n a p) = (places n).map fun p => (if hld n a p = true then 1 else 0) + r.countP fun a => hld n a p := by
      refine List.map_congr_left fun p _ => ?_
      rw [List.countP_cons]
      omega
    rw [e, sum_add, sum_ind, (plc_perm (h a List.mem_cons_self)).length_eq]
end Ac
namespace Ac
open PySem PySem.Spec PyProof.Rows L2
/-! ### points that hit, the fewest -/
def Hit (n : Int) (as : List (Int × Int)) (P : List Int) : Prop := ∀ a ∈ as, ∃ p ∈ P, hld n a p = true
def Pl (n : Int) (P : List Int) : Prop := ∀ p ∈ P, 0 ≤ p ∧ p < n
structure Few (n : Int) (as : List (Int × Int)) (m : Nat) : Prop where
  ex : ∃ P, Pl n P ∧ Hit n as P ∧ P.length = m
  le : ∀ P, Pl n P → Hit n as P → m ≤ P.length
theorem Few.uniq {n : Int} {as : List (Int × Int)} {m m' : Nat} (h : Few n as m) (h' : Few n as m') : m = m' := by
  obtain ⟨P, p1, p2, rfl⟩ := h.ex
  obtain ⟨P', p1', p2', rfl⟩ := h'.ex
  exact Nat.le_antisymm (h.le _ p1' p2') (h'.le _ p1 p2)
theorem stab_le {b e : Nat → Int} : ∀ {r L : List Nat} (P : List Int), IsSteps b e L r → (∀ k ∈ L, ∃ p ∈ P, b k ≤ p ∧ p ≤ e k) → r.length ≤ P.length
  | [], _, _, _, _ => Nat.zero_le _
  | k :: r, L, P, h, hP => by
    obtain ⟨p, hp, p1, p2⟩ := hP k h.1
    have := stab_le (P.erase p) h.2.2 fun j hj => by
      obtain ⟨h1, h2⟩ := List.mem_filter.mp hj
      have h3 := of_decide_eq_true h2
      obtain ⟨q, hq, q1, q2⟩ := hP j h1
      exact ⟨q, (List.mem_erase_of_ne (by omega)).mpr hq, q1, q2⟩
    rw [List.length_erase_of_mem hp] at this
    have := List.length_pos_of_mem hp
    rw [List.length_cons]
    omega
theorem steps_hit {b e : Nat → Int} : ∀ {r L : List Nat}, IsSteps b e L r → ∀ j ∈ L, ∃ k ∈ r, b j ≤ e k ∧ e k ≤ e j
  | [], L, h, j, hj => by
    have h0 : L = [] := h
    rw [h0] at hj
    cases hj
  | k :: r, L, h, j, hj => by
    have := h.2.1 j hj
    by_cases hc : e k < b j
    · obtain ⟨k', hk', h1, h2⟩ := steps_hit h.2.2 j (List.mem_filter.mpr ⟨hj, decide_eq_true hc⟩)
      exact ⟨k', List.mem_cons_of_mem _ hk', h1, h2⟩
    · exact ⟨k, List.mem_cons_self, by omega, this⟩
theorem steps_rise {b e : Nat → Int} : ∀ {r L : List Nat}, (∀ k ∈ L, b k ≤ e k) → IsSteps b e L r → (r.map e).Pairwise (· < ·)
  | [], _, _, _ => List.Pairwise.nil
  | k :: r, L, hL, h => by
    rw [List.map_cons, List.pairwise_cons]
    refine ⟨fun d hd => ?_, steps_rise (fun j hj => hL j (List.mem_filter.mp hj).1) h.2.2⟩
    obtain ⟨j, hj, rfl⟩ := List.mem_map.mp hd
    obtain ⟨h1, h2⟩ := List.mem_filter.mp (IsSteps.mem h.2.2 j hj)
    have h3 := of_decide_eq_true h2
    have := hL j h1
    omega
theorem place_back {n x p : Int} (p0 : 0 ≤ p) (p1 : p < n) : (x + (p - x) % n) % n = p := by
  rw [Int.add_emod_emod]
  have : x + (p - x) = p := by omega
  rw [this]
  exact Int.emod_eq_of_lt p0 p1
section
variable {n x : Int} {as : List (Int × Int)} {r : List Nat}
/-- no fewer with x among them -/
theorem walk_le (ok : RingOk n as) (h : IsWalk n as x r) {P : List Int} (hP : Pl n P) (hh : Hit n as P) (hx : x ∈ P) : r.length + 1 ≤ P.length := by
  have n1 := ok.n1
  have := stab_le ((P.erase x).map fun p => (p - x) % n) h fun k hk => by
    obtain ⟨h1, h2⟩ := mem_left0.mp hk
    have hm : arcAt as k ∈ as := by rw [arcAt_eq h1]; exact List.getElem_mem h1
    obtain ⟨p, hp, hpa⟩ := hh _ hm
    have hne : p ≠ x := fun e => by rw [e, h2] at hpa; cases hpa
    refine ⟨(p - x) % n, List.mem_map.mpr ⟨p, (List.mem_erase_of_ne hne).mpr hp, rfl⟩, ?_⟩
    have hb := hP p hp
    have e := left0_hld ok hk (d := (p - x) % n) (Int.emod_nonneg _ (by omega)) (Int.emod_lt_of_pos _ (by omega))
    rw [place_back hb.1 hb.2, hpa] at e
    exact of_decide_eq_true e.symm
  rw [List.length_map, List.length_erase_of_mem hx] at this
  have := List.length_pos_of_mem hx
  omega
theorem walk_pl (ok : RingOk n as) (hx : 0 ≤ x ∧ x < n) : Pl n (x :: r.map (plK n as x)) := fun p hp => by
  have n1 := ok.n1
  rcases List.mem_cons.mp hp with rfl | hp
  · exact hx
  · obtain ⟨k, _, rfl⟩ := List.mem_map.mp hp
    exact ⟨Int.emod_nonneg _ (by omega), Int.emod_lt_of_pos _ (by omega)⟩
theorem walk_hit (ok : RingOk n as) (h : IsWalk n as x r) : Hit n as (x :: r.map (plK n as x)) := fun a ha => by
  obtain ⟨k, hk, rfl⟩ := List.mem_iff_getElem.mp ha
  by_cases hc : hld n as[k] x = true
  · exact ⟨x, List.mem_cons_self, hc⟩
  · have hl : k ∈ left0 n as x := mem_left0.mpr ⟨hk, by rw [arcAt_eq hk]; simpa using hc⟩
    obtain ⟨j, hj, h1, h2⟩ := steps_hit h k hl
    have hjl := left0_rng ok (IsSteps.mem h j hj)
    refine ⟨plK n as x j, List.mem_cons_of_mem _ (List.mem_map.mpr ⟨j, hj, rfl⟩), ?_⟩
    have e := left0_hld ok hl (d := eI n as x j) (by omega) (by omega)
    rw [arcAt_eq hk] at e
    unfold plK
    rw [e]
    exact decide_eq_true ⟨h1, h2⟩
theorem walk_nodup (ok : RingOk n as) (hx : 0 ≤ x ∧ x < n) (h : IsWalk n as x r) : (x :: r.map (plK n as x)).Nodup := by
  have n1 := ok.n1
  have hr := steps_rise (fun k hk => (left0_rng ok hk).2.1) h
  have hm : ∀ k ∈ r, 1 ≤ eI n as x k ∧ eI n as x k ≤ n - 1 := fun k hk => by
    have := left0_rng ok (IsSteps.mem h k hk)
    omega
  rw [List.nodup_cons]
  refine ⟨fun hx' => ?_, ?_⟩
  · obtain ⟨k, hk, e⟩ := List.mem_map.mp hx'
    have := hm k hk
    have e2 : (x + eI n as x k) % n = (x + 0) % n := by
      rw [Int.add_zero, Int.emod_eq_of_lt hx.1 hx.2]
      exact e
    have := place_inj (by omega) (by omega) (by omega) (by omega) e2
    omega
  · clear h
    induction r with
    | nil => exact List.nodup_nil
    | cons k r ih =>
      rw [List.map_cons, List.pairwise_cons] at hr
      rw [List.map_cons, List.nodup_cons]
      refine ⟨fun hk => ?_, ih hr.2 fun j hj => hm j (List.mem_cons_of_mem _ hj)⟩
      obtain ⟨j, hj, e⟩ := List.mem_map.mp hk
      have a := hm k List.mem_cons_self
      have b := hm j (List.mem_cons_of_mem _ hj)
      have := hr.1 _ (List.mem_map.mpr ⟨j, hj, rfl⟩)
      have := place_inj (n := n) (x := x) (d := eI n as x j) (d' := eI n as x k) (by omega) (by omega) (by omega) (by omega) e
      omega
/-- the least over the places of an arc -/
theorem few_of {a : Int × Int} {m : Nat} (ok : RingOk n as) (ha : a ∈ as) (hex : ∃ x ∈ plc n a, ∃ r, IsWalk n as x r ∧ m = r.length + 1) (hle : ∀ x ∈ plc n a, ∀ r, IsWalk n as x r → m ≤ r.length + 1) : Few n as m where
  ex := by
    obtain ⟨x, hx, r, hr, rfl⟩ := hex
    have hb := (mem_plc (ok.arcs a ha)).mp hx
    exact ⟨_, walk_pl ok ⟨hb.1, hb.2.1⟩, walk_hit ok hr, by rw [List.length_cons, List.length_map]⟩
  le := fun P hP hh => by
    obtain ⟨p, hp, hpa⟩ := hh a ha
    have hb := hP p hp
    obtain ⟨r, hr⟩ := IsWalk.ex (x := p) ok
    exact Nat.le_trans (hle p ((mem_plc (ok.arcs a ha)).mpr ⟨hb.1, hb.2, hpa⟩) r hr) (walk_le ok hr hP hh hp)
end
theorem few_nil {n : Int} : Few n [] 0 := ⟨⟨[], (fun _ h => nomatch h), (fun _ h => nomatch h), rfl⟩, fun _ _ _ => Nat.zero_le _⟩
/-! ### sorting -/
def srt (l : List Int) : List Int := l.mergeSort fun a b => decide (a ≤ b)
theorem srt_perm {l : List Int} : (srt l).Perm l := List.mergeSort_perm _ _
theorem srt_le {l : List Int} : (srt l).Pairwise (· ≤ ·) := by
  have := List.pairwise_mergeSort (le := fun a b : Int => decide (a ≤ b)) (fun a b c h1 h2 => by simp at h1 h2 ⊢; omega) (fun a b => by simp; omega) l
  exact this.imp fun h => of_decide_eq_true h
theorem srt_uniq {l s : List Int} (h1 : s.Perm l) (h2 : s.Pairwise (· ≤ ·)) : s = srt l := sorted_unique (h1.trans srt_perm.symm) h2 srt_le
theorem srt_len {l : List Int} : (srt l).length = l.length := srt_perm.length_eq
theorem srt_mem {l : List Int} {x : Int} : x ∈ srt l ↔ x ∈ l := srt_perm.mem_iff
theorem le_lt {l : List Int} (h1 : l.Pairwise (· ≤ ·)) (h2 : l.Nodup) : l.Pairwise (· < ·) := by
  have := List.pairwise_and_iff.mpr ⟨h1, h2⟩
  exact this.imp fun h => by have := h.1; have := h.2; omega
theorem srt_lt {l : List Int} (h : l.Nodup) : (srt l).Pairwise (· < ·) := le_lt srt_le (srt_perm.nodup_iff.mpr h)
theorem lt_srt {l : List Int} (h : l.Pairwise (· < ·)) : srt l = l := (srt_uniq (List.Perm.refl _) (lt_le h)).symm
/-! ### the walk, the first shortest walk -/
noncomputable def wlk (n : Int) (as : List (Int × Int)) (x : Int) : List Int := open Classical in if h : ∃ r, IsWalk n as x r then x :: (Classical.choose h).map (plK n as x) else [x]
theorem wlk_eq {n x : Int} {as : List (Int × Int)} {r : List Nat} (h : IsWalk n as x r) : (x :: r.map (plK n as x)) = wlk n as x := by
  have hx : ∃ r, IsWalk n as x r := ⟨r, h⟩
  unfold wlk
  rw [dif_pos hx, walk_eq h (Classical.choose_spec hx)]
theorem wlk_ex {n x : Int} {as : List (Int × Int)} (ok : RingOk n as) : ∃ r, IsWalk n as x r ∧ wlk n as x = x :: r.map (plK n as x) := by
  obtain ⟨r, hr⟩ := IsWalk.ex (x := x) ok
  exact ⟨r, hr, (wlk_eq hr).symm⟩
def bst : Option (List Int) → List (List Int) → Option (List Int)
  | b, [] => b
  | none, l :: r => bst (some l) r
  | some b, l :: r => if l.length < b.length then bst (some l) r else bst (some b) r
theorem bst_some : ∀ (ls : List (List Int)) (b : List Int), ∃ c, bst (some b) ls = some c ∧ (c = b ∨ c ∈ ls) ∧ c.length ≤ b.length ∧ ∀ l ∈ ls, c.length ≤ l.length
  | [], b => ⟨b, rfl, .inl rfl, Nat.le_refl _, fun _ h => nomatch h⟩
  | l :: ls, b => by
    unfold bst
    by_cases hc : l.length < b.length
    · rw [if_pos hc]
      obtain ⟨c, h1, h2, h3, h4⟩ := bst_some ls l
      refine ⟨c, h1, .inr (h2.elim (fun e => by rw [e]; exact List.mem_cons_self) fun h => List.mem_cons_of_mem _ h), by omega, fun k hk => ?_⟩
      rcases List.mem_cons.mp hk with rfl | hk
      · exact h3
      · exact h4 k hk
    · rw [if_neg hc]
      obtain ⟨c, h1, h2, h3, h4⟩ := bst_some ls b
      refine ⟨c, h1, h2.elim .inl fun h => .inr (List.mem_cons_of_mem _ h), h3, fun k hk => ?_⟩
      rcases List.mem_cons.mp hk with rfl | hk
      · omega
      · exact h4 k hk
theorem bst_none {ls : List (List Int)} (h : ls ≠ []) : ∃ c, bst none ls = some c ∧ c ∈ ls ∧ ∀ l ∈ ls, c.length ≤ l.length := by
  cases ls with
  | nil => exact absurd rfl h
  | cons l ls =>
    obtain ⟨c, h1, h2, h3, h4⟩ := bst_some ls l
    refine ⟨c, h1, h2.elim (fun e => by rw [e]; exact List.mem_cons_self) fun h => List.mem_cons_of_mem _ h, fun k hk => ?_⟩
    rcases List.mem_cons.mp hk with rfl | hk
    · exact h3
    · exact h4 k hk
noncomputable def fpL (n : Int) (as : List (Int × Int)) : List Int := match as with
  | [] => []
  | a :: _ => srt ((bst none ((plc n a).map (wlk n as))).getD [])
structure FP (n : Int) (as : List (Int × Int)) (P : List Int) : Prop where
  few : Few n as P.length
  ris : P.Pairwise (· < ·)
  pl : Pl n P
  hit : Hit n as P
theorem plc_ne {n : Int} {a : Int × Int} (ok : arcOk n a) : plc n a ≠ [] := fun e => by
  have h := congrArg List.length e
  rw [plc_len] at h
  have := ok.2.2.1
  simp at h
  omega
theorem fpL_ok {n : Int} {as : List (Int × Int)} (ok : RingOk n as) : FP n as (fpL n as) := by
  cases as with
  | nil => exact ⟨few_nil, List.Pairwise.nil, (fun _ h => nomatch h), (fun _ h => nomatch h)⟩
  | cons a r =>
    have oka := ok.arcs a List.mem_cons_self
    obtain ⟨c, h1, h2, h3⟩ := bst_none (ls := (plc n a).map (wlk n (a :: r))) (by simpa using plc_ne oka)
    have e : fpL n (a :: r) = srt c := by
      show srt ((bst none ((plc n a).map (wlk n (a :: r)))).getD []) = _
      rw [h1]
      rfl
    obtain ⟨x, hx, rfl⟩ := List.mem_map.mp h2
    have hb := (mem_plc oka).mp hx
    obtain ⟨w, hw, ew⟩ := wlk_ex (x := x) ok
    rw [e]
    refine ⟨few_of ok List.mem_cons_self ⟨x, hx, w, hw, ?_⟩ fun y hy w' hw' => ?_, ?_, ?_, ?_⟩
    · rw [srt_len, ew, List.length_cons, List.length_map]
    · have := h3 _ (List.mem_map.mpr ⟨y, hy, rfl⟩)
      rw [← wlk_eq hw', List.length_cons, List.length_map] at this
      rw [srt_len]
      exact this
    · rw [ew]
      exact srt_lt (walk_nodup ok ⟨hb.1, hb.2.1⟩ hw)
    · intro p hp
      rw [srt_mem, ew] at hp
      exact walk_pl ok ⟨hb.1, hb.2.1⟩ p hp
    · intro b hb'
      obtain ⟨p, hp, hh⟩ := walk_hit ok hw b hb'
      exact ⟨p, by rw [srt_mem, ew]; exact hp, hh⟩
/-! ### fewest_points -/
def Ffewest_points : RF where
  run n as ds Q Y := ds = [] ∧ Q (.new ((fpL n as).map .int))
  mono := fun h1 h2 q => ⟨q.1, h1 _ q.2⟩
def Sfewest_points : Summ := Summ.ring 0 Ffewest_points
theorem call_fewest_points {n : Int} {as : List (Int × Int)} {Q : Val → Prop} {Y : Nat → Prop} (ok : RingOk n as) (h : Q (.new ((fpL n as).map .int))) : Sfewest_points.run [ringD n as] Q Y := ring_ok rfl ok ⟨rfl, h⟩
def trfewest_points_b1 : Sms Unit :=
  (.cons (.one (.asg 3 (.op .Add (.ls (.cons (.var 2) .nil)) (.comp [4, 5] (.tp [4, 5]) (.seq (.call "steps_from" Ssteps_from (.cons (.var 0) (.cons (.var 2) .nil)))) .nil (.var 4)))))
    (.cons (.ite (.or (.isn true (.var 1)) (.cmp .Lt (.bi .len (.cons (.var 3) .nil)) (.bi .len (.cons (.var 1) .nil))))
    (.cons (.one (.asg 1 (.var 3)))
    .nil)
    .nil)
    .nil))
def trfewest_points : Sms Unit :=
  (.cons (.one (.expr (.call "need_ring" Sneed_ring (.cons (.var 0) .nil))))
    (.cons (.ite (.cmp .Eq (.ix (.var 0) (.int 1)) (.ls .nil))
    (.cons (.one (.ret (.ls .nil)))
    .nil)
    .nil)
    (.cons (.one (.asg 1 .non))
    (.cons (.for (.nm 2) (.seq (.call "places_in" Splaces_in (.cons (.ix (.var 0) (.int 0)) (.cons (.ix (.ix (.var 0) (.int 1)) (.int 0)) .nil))))
    trfewest_points_b1)
    (.cons (.one (.ret (.bi .sorted (.cons (.var 1) .nil))))
    .nil)))))

def optL : Option (List Int) → D
  | none => .none
  | some l => .list (l.map .int)
theorem few_b1 {n x : Int} {as : List (Int × Int)} {b : Option (List Int)} {x3 x4 x5 : Option Val} {K : Kn Unit} {u : Unit} (ok : RingOk n as) (hx : 0 ≤ x ∧ x < n)
    (hK : ∀ (c : Option (List Int)) (x3 x4 x5 : Option Val), (∀ r, bst c r = bst b (wlk n as x :: r)) → K.nx [some (.dat (ringD n as)), some (.dat (optL c)), some (.dat (.int x)), x3, x4, x5] u) :
    wSs trfewest_points_b1 [some (.dat (ringD n as)), some (.dat (optL b)), some (.dat (.int x)), x3, x4, x5] u K := by
  unfold trfewest_points_b1
  simp only [wSs, wS, w1, wT, wE, wA, wX, wV, wP, wC, opn, rdO_d, rdO_o, asD_d, asD_n, KQY, entry, look, put, slotV, argsOk, frzA, frzV, sv_i, sv_b, sv_s, sv_0, sv_l, sv_t, sv_d, sv_n, List.map, List.length, List.replicate, List.cons_append, List.nil_append, Nat.sub_self, biD, isD_1, boolD_b, cmpD, relD_i, opD, addD_i, addD_l, subD_i, intD_i, lenD_l, lenD_t, listD_l, listD_t, tupleD_l, int2D_i, absD_i, toIntD_i, toIntD_b, eqD_i, eqD_b, eqD_s, rngD_1, rngD_2, seqD_l, seqD_t, lstD_l, ixX_l, ixX_t, negX_i, slX_l, rvX_l, repX_i, intX_i, ixD_0, ixD_1, ixD_2, true_and, and_true, ite_self, wI, wipeG, backG]
  refine ⟨by unfold big; decide, call_steps ok hx fun r hr => ?_⟩
  have hb := walk_big ok hr
  simp only [Bool.false_eq_true, if_false, wSs, wS, w1, wT, wE, wA, wX, wV, wP, wC, opn, rdO_d, rdO_o, asD_d, asD_n, KQY, entry, look, put, slotV, argsOk, frzA, frzV, sv_i, sv_b, sv_s, sv_0, sv_l, sv_t, sv_d, sv_n, List.map, List.length, List.replicate, List.cons_append, List.nil_append, Nat.sub_self, biD, isD_1, boolD_b, cmpD, relD_i, opD, addD_i, addD_l, subD_i, intD_i, lenD_l, lenD_t, listD_l, listD_t, tupleD_l, int2D_i, absD_i, toIntD_i, toIntD_b, eqD_i, eqD_b, eqD_s, rngD_1, rngD_2, seqD_l, seqD_t, lstD_l, ixX_l, ixX_t, negX_i, slX_l, rvX_l, repX_i, intX_i, ixD_0, ixD_1, ixD_2, true_and, and_true, ite_self, List.length_map]
  refine ⟨by unfold big; omega, ?_⟩
  refine cLoop_mp (q := fun k => some (.int (plK n as x k))) _ [] ?_ ?_
  · intro k hk k' hk'
    simp only [bindT, stepD, putAll, wSs, wS, w1, wT, wE, wA, wX, wV, wP, wC, opn, rdO_d, rdO_o, asD_d, asD_n, KQY, entry, look, put, slotV, argsOk, frzA, frzV, sv_i, sv_b, sv_s, sv_0, sv_l, sv_t, sv_d, sv_n, List.map, List.length, List.replicate, List.cons_append, List.nil_append, Nat.sub_self, biD, isD_1, boolD_b, cmpD, relD_i, opD, addD_i, addD_l, subD_i, intD_i, lenD_l, lenD_t, listD_l, listD_t, tupleD_l, int2D_i, absD_i, toIntD_i, toIntD_b, eqD_i, eqD_b, eqD_s, rngD_1, rngD_2, seqD_l, seqD_t, lstD_l, ixX_l, ixX_t, negX_i, slX_l, rvX_l, repX_i, intX_i, ixD_0, ixD_1, ixD_2, true_and, and_true, ite_self, if_true]
    exact hk'
  · rw [List.nil_append, fm_all]
    have e : (PyData.int x :: r.map fun k => PyData.int (plK n as x k)) = (wlk n as x).map .int := by
      rw [← wlk_eq hr, List.map_cons, List.map_map]
      rfl
    have hl : (wlk n as x).length ≤ 21 := by
      rw [← wlk_eq hr, List.length_cons, List.length_map]
      omega
    simp only [wSs, wS, w1, wT, wE, wA, wX, wV, wP, wC, opn, rdO_d, rdO_o, asD_d, asD_n, KQY, entry, look, put, slotV, argsOk, frzA, frzV, sv_i, sv_b, sv_s, sv_0, sv_l, sv_t, sv_d, sv_n, List.map, List.length, List.replicate, List.cons_append, List.nil_append, Nat.sub_self, biD, isD_1, boolD_b, cmpD, relD_i, opD, addD_i, addD_l, subD_i, intD_i, lenD_l, lenD_t, listD_l, listD_t, tupleD_l, int2D_i, absD_i, toIntD_i, toIntD_b, eqD_i, eqD_b, eqD_s, rngD_1, rngD_2, seqD_l, seqD_t, lstD_l, ixX_l, ixX_t, negX_i, slX_l, rvX_l, repX_i, intX_i, ixD_0, ixD_1, ixD_2, true_and, and_true, ite_self, e]
    refine ⟨by rw [List.length_map]; unfold big; omega, ?_⟩
    cases b with
    | none =>
      simp only [optL, noneD, if_true, wSs, wS, w1, wT, wE, wA, wX, wV, wP, wC, opn, rdO_d, rdO_o, asD_d, asD_n, KQY, entry, look, put, slotV, argsOk, frzA, frzV, sv_i, sv_b, sv_s, sv_0, sv_l, sv_t, sv_d, sv_n, List.map, List.length, List.replicate, List.cons_append, List.nil_append, Nat.sub_self, biD, isD_1, boolD_b, cmpD, relD_i, opD, addD_i, addD_l, subD_i, intD_i, lenD_l, lenD_t, listD_l, listD_t, tupleD_l, int2D_i, absD_i, toIntD_i, toIntD_b, eqD_i, eqD_b, eqD_s, rngD_1, rngD_2, seqD_l, seqD_t, lstD_l, ixX_l, ixX_t, negX_i, slX_l, rvX_l, repX_i, intX_i, ixD_0, ixD_1, ixD_2, true_and, and_true, ite_self]
      exact hK (some (wlk n as x)) _ _ _ fun r => rfl
    | some l =>
      simp only [optL, noneD, Bool.false_eq_true, if_false, if_true, wSs, wS, w1, wT, wE, wA, wX, wV, wP, wC, opn, rdO_d, rdO_o, asD_d, asD_n, KQY, entry, look, put, slotV, argsOk, frzA, frzV, sv_i, sv_b, sv_s, sv_0, sv_l, sv_t, sv_d, sv_n, List.map, List.length, List.replicate, List.cons_append, List.nil_append, Nat.sub_self, biD, isD_1, boolD_b, cmpD, relD_i, opD, addD_i, addD_l, subD_i, intD_i, lenD_l, lenD_t, listD_l, listD_t, tupleD_l, int2D_i, absD_i, toIntD_i, toIntD_b, eqD_i, eqD_b, eqD_s, rngD_1, rngD_2, seqD_l, seqD_t, lstD_l, ixX_l, ixX_t, negX_i, slX_l, rvX_l, repX_i, intX_i, ixD_0, ixD_1, ixD_2, true_and, and_true, ite_self, List.length_map]
      by_cases hc : ((wlk n as x).length : Int) < l.length
      · simp only [hc, decide_true, if_true]
        refine hK (some (wlk n as x)) _ _ _ fun r => ?_
        show _ = if (wlk n as x).length < l.length then bst (some (wlk n as x)) r else bst (some l) r
        rw [if_pos (by omega)]
      · simp only [hc, decide_false, Bool.false_eq_true, if_false]
        refine hK (some l) _ _ _ fun r => ?_
        show _ = if (wlk n as x).length < l.length then bst (some (wlk n as x)) r else bst (some l) r
        rw [if_neg (by omega)]
theorem w_fewest_points : WOk Sfewest_points 1 6 trfewest_points := WOk.ring (fun d r Q Y hl hr h0 => by
    obtain rfl := List.length_eq_zero_iff.mp hl
    unfold trfewest_points
    simp only [wSs, wS, w1, wT, wE, wA, wX, wV, wP, wC, opn, rdO_d, rdO_o, asD_d, asD_n, KQY, entry, look, put, slotV, argsOk, frzA, frzV, sv_i, sv_b, sv_s, sv_0, sv_l, sv_t, sv_d, sv_n, List.map, List.length, List.replicate, List.cons_append, List.nil_append, Nat.sub_self, biD, isD_1, boolD_b, cmpD, relD_i, opD, addD_i, addD_l, subD_i, intD_i, lenD_l, lenD_t, listD_l, listD_t, tupleD_l, int2D_i, absD_i, toIntD_i, toIntD_b, eqD_i, eqD_b, eqD_s, rngD_1, rngD_2, seqD_l, seqD_t, lstD_l, ixX_l, ixX_t, negX_i, slX_l, rvX_l, repX_i, intX_i, ixD_0, ixD_1, ixD_2, true_and, and_true, ite_self, run_need_ring]
    simpa [hr] using h0) (fun n as r Q Y hl ok h => by
    obtain ⟨rfl, h⟩ := h
    unfold trfewest_points
    simp only [wSs, wS, w1, wT, wE, wA, wX, wV, wP, wC, opn, rdO_d, rdO_o, asD_d, asD_n, KQY, entry, look, put, slotV, argsOk, frzA, frzV, sv_i, sv_b, sv_s, sv_0, sv_l, sv_t, sv_d, sv_n, List.map, List.length, List.replicate, List.cons_append, List.nil_append, Nat.sub_self, biD, isD_1, boolD_b, cmpD, relD_i, opD, addD_i, addD_l, subD_i, intD_i, lenD_l, lenD_t, listD_l, listD_t, tupleD_l, int2D_i, absD_i, toIntD_i, toIntD_b, eqD_i, eqD_b, eqD_s, rngD_1, rngD_2, seqD_l, seqD_t, lstD_l, ixX_l, ixX_t, negX_i, slX_l, rvX_l, repX_i, intX_i, ixD_0, ixD_1, ixD_2, true_and, and_true, ite_self, run_need_ring, isRing_ringD ok, if_true]
    simp only [ringD, wSs, wS, w1, wT, wE, wA, wX, wV, wP, wC, opn, rdO_d, rdO_o, asD_d, asD_n, KQY, entry, look, put, slotV, argsOk, frzA, frzV, sv_i, sv_b, sv_s, sv_0, sv_l, sv_t, sv_d, sv_n, List.map, List.length, List.replicate, List.cons_append, List.nil_append, Nat.sub_self, biD, isD_1, boolD_b, cmpD, relD_i, opD, addD_i, addD_l, subD_i, intD_i, lenD_l, lenD_t, listD_l, listD_t, tupleD_l, int2D_i, absD_i, toIntD_i, toIntD_b, eqD_i, eqD_b, eqD_s, rngD_1, rngD_2, seqD_l, seqD_t, lstD_l, ixX_l, ixX_t, negX_i, slX_l, rvX_l, repX_i, intX_i, ixD_0, ixD_1, ixD_2, true_and, and_true, ite_self, eqD_nil, wJ]
    refine ⟨by unfold big; decide, ?_⟩
    cases as with
    | nil =>
      simp only [List.map_nil, List.isEmpty_nil, if_true]
      exact ⟨by unfold big; decide, h⟩
    | cons a as =>
      have oka := ok.arcs a List.mem_cons_self
      have n1 := ok.n1
      have n40 := ok.n40
      have a1 := oka.2.2.1
      have a2 := oka.2.2.2
      simp only [List.map_cons, List.isEmpty_cons, Bool.false_eq_true, if_false, wSs, wS, w1, wT, wE, wA, wX, wV, wP, wC, opn, rdO_d, rdO_o, asD_d, asD_n, KQY, entry, look, put, slotV, argsOk, frzA, frzV, sv_i, sv_b, sv_s, sv_0, sv_l, sv_t, sv_d, sv_n, List.map, List.length, List.replicate, List.cons_append, List.nil_append, Nat.sub_self, biD, isD_1, boolD_b, cmpD, relD_i, opD, addD_i, addD_l, subD_i, intD_i, lenD_l, lenD_t, listD_l, listD_t, tupleD_l, int2D_i, absD_i, toIntD_i, toIntD_b, eqD_i, eqD_b, eqD_s, rngD_1, rngD_2, seqD_l, seqD_t, lstD_l, ixX_l, ixX_t, negX_i, slX_l, rvX_l, repX_i, intX_i, ixD_0, ixD_1, ixD_2, true_and, and_true, ite_self, arcD, run_places_in]
      refine ⟨⟨by omega, by omega, by omega⟩, by rw [List.length_map, plc_len]; unfold big; show a.2.toNat ≤ _; omega, ?_⟩
      refine fLoop_mp (fun done rest Γ _ => ∃ (b : Option (List Int)) (x2 x3 x4 x5 : Option Val), Γ = [some (.dat (ringD n (a :: as))), some (.dat (optL b)), x2, x3, x4, x5] ∧ bst b (rest.map (wlk n (a :: as))) = bst none ((plc n a).map (wlk n (a :: as))) ∧ ∀ y ∈ rest, y ∈ plc n a) ?_ ?_ _ [] _ _ ⟨none, _, _, _, _, rfl, rfl, fun y hy => hy⟩
      · rintro done Γ u ⟨b, x2, x3, x4, x5, rfl, hb, _⟩
        obtain ⟨c, h1, _, _⟩ := bst_none (ls := (plc n a).map (wlk n (a :: as))) (by simpa using plc_ne oka)
        have hbc : b = some c := by rw [← h1, ← hb]; cases b <;> rfl
        subst hbc
        simp only [wSs, wS, w1, wT, wE, wA, wX, wV, wP, wC, opn, rdO_d, rdO_o, asD_d, asD_n, KQY, entry, look, put, slotV, argsOk, frzA, frzV, sv_i, sv_b, sv_s, sv_0, sv_l, sv_t, sv_d, sv_n, List.map, List.length, List.replicate, List.cons_append, List.nil_append, Nat.sub_self, biD, isD_1, boolD_b, cmpD, relD_i, opD, addD_i, addD_l, subD_i, intD_i, lenD_l, lenD_t, listD_l, listD_t, tupleD_l, int2D_i, absD_i, toIntD_i, toIntD_b, eqD_i, eqD_b, eqD_s, rngD_1, rngD_2, seqD_l, seqD_t, lstD_l, ixX_l, ixX_t, negX_i, slX_l, rvX_l, repX_i, intX_i, ixD_0, ixD_1, ixD_2, true_and, and_true, ite_self, optL, sortedD]
        refine ⟨c, intsD_map c, fun ns' p1 p2 => ?_⟩
        have e : fpL n (a :: as) = srt c := by
          show srt ((bst none ((plc n a).map (wlk n (a :: as)))).getD []) = _
          rw [h1]
          rfl
        rw [srt_uniq p1 p2, ← e]
        exact h
      · rintro done x r Γ u K' ⟨b, x2, x3, x4, x5, rfl, hb, hm⟩ hnx hct hbk hrt hex
        have hx := (mem_plc oka).mp (hm x List.mem_cons_self)
        simp only [bindT, put]
        refine few_b1 ok ⟨hx.1, hx.2.1⟩ fun c y3 y4 y5 hc => hnx _ _ ⟨c, _, _, _, _, rfl, ?_, fun y hy => hm y (List.mem_cons_of_mem _ hy)⟩
        rw [hc, ← List.map_cons]
        exact hb)
end Ac
namespace Ac
open PySem PySem.Spec PyProof.Rows L2
/-! ### hits -/
def hitB (n : Int) (as : List (Int × Int)) (ns : List Int) : Bool := as.all fun a => ns.any (hld n a)
theorem hitB_iff {n : Int} {as : List (Int × Int)} {ns : List Int} : hitB n as ns = true ↔ Hit n as ns := by
  unfold hitB Hit
  simp only [List.all_eq_true, List.any_eq_true]
def hitsD (n : Int) (as : List (Int × Int)) (d : D) : Bool := match d with
  | .list xs => risD (.list xs) n && (match intsD xs with | some ns => hitB n as ns | none => false)
  | _ => false
theorem hitsD_ints {n : Int} {as : List (Int × Int)} {ns : List Int} : hitsD n as (.list (ns.map .int)) = (risD (.list (ns.map .int)) n && hitB n as ns) := by
  unfold hitsD
  dsimp only
  rw [intsD_map]
theorem hitsD_ok {n : Int} {as : List (Int × Int)} {P : List Int} (h1 : Pl n P) (h2 : P.Pairwise (· < ·)) (h3 : Hit n as P) : hitsD n as (.list (P.map .int)) = true := by
  rw [hitsD_ints, Bool.and_eq_true, risD_ints, hitB_iff]
  exact ⟨⟨h1, h2⟩, h3⟩
theorem hitsD_iff {n : Int} {as : List (Int × Int)} {P : List Int} : hitsD n as (.list (P.map .int)) = true ↔ (Pl n P ∧ P.Pairwise (· < ·)) ∧ Hit n as P := by
  rw [hitsD_ints, Bool.and_eq_true, risD_ints, hitB_iff]
  exact Iff.rfl
theorem hitsD_ris {n : Int} {as : List (Int × Int)} {d : D} (h : risD d n = false) : hitsD n as d = false := by
  cases d with
  | list xs => unfold hitsD; dsimp only; rw [h]; rfl
  | _ => rfl
theorem ris_ints {d : D} {b : Int} (h : risD d b = true) : ∃ ns : List Int, d = .list (ns.map .int) ∧ (∀ m ∈ ns, 0 ≤ m ∧ m < b) ∧ ns.Pairwise (· < ·) := by
  cases d with
  | list xs =>
    have ha : xs.all (inR b) = true := by
      unfold risD at h
      dsimp only at h
      rw [Bool.and_eq_true] at h
      exact h.1
    obtain ⟨ns, rfl, hb⟩ := inR_ints ha
    exact ⟨ns, rfl, risD_ints.mp h⟩
  | _ => cases h
theorem ris_len {b : Int} {ns : List Int} (hb : b ≤ 1000) (h1 : ∀ m ∈ ns, 0 ≤ m ∧ m < b) (h2 : ns.Pairwise (· < ·)) : ns.length ≤ b.toNat := by
  have := nodup_len (l := ns) (P := places b) (lt_nodup h2) fun x hx => mem_places.mpr (h1 x hx)
  unfold places at this
  rw [List.length_map, List.length_range] at this
  exact this
/-! ### is_rising, hits_all -/
def shortL (d : D) : Prop := ∀ xs, d = .list xs → xs.length < 4000
theorem short_ints {ns : List Int} (h : ns.length < 4000) : shortL (.list (ns.map .int)) := fun xs e => by
  cases e
  rw [List.length_map]
  exact h
def Sis_rising : Summ where
  run ds Q _ := ∃ d b, ds = [d, .int b] ∧ shortL d ∧ b ≤ 63 ∧ Q (.dat (.bool (risD d b)))
  mono := fun h1 _ ⟨d, b, e, hl, hb, q⟩ => ⟨d, b, e, hl, hb, h1 _ q⟩
theorem call_is_rising {d : D} {b : Int} {Q : Val → Prop} {Y : Nat → Prop} (hl : shortL d) (hb : b ≤ 63) (h : Q (.dat (.bool (risD d b)))) : Sis_rising.run [d, .int b] Q Y := ⟨d, b, rfl, hl, hb, h⟩
theorem isNum_inR {d : D} {b : Int} : isNumD d b = inR b d := by cases d <;> rfl
def tris_rising_c1 : Es Unit :=
  (.cons (.nt (.call "is_number" Sis_number (.cons (.var 2) (.cons (.var 1) .nil)))) .nil)
def tris_rising_r1 : Sms Unit :=
  (.cons (.one (.ret (.cmp .Eq (.var 0) (.srtS (.var 0)))))
    .nil)
def tris_rising : Sms Unit :=
  (.cons (.ite (.or (.nt (.bi .islist (.cons (.var 0) .nil))) (.cmp .NotEq (.comp [2] (.nm 2) (.seq (.var 0)) tris_rising_c1 (.var 2)) (.ls .nil)))
    (.cons (.one (.ret (.bl false)))
    .nil)
    .nil)
    tris_rising_r1)

theorem w_is_rising : WOk Sis_rising 2 3 tris_rising := fun ds Q Y h => by
  obtain ⟨d, b, rfl, hl, hb, h⟩ := h
  refine ⟨rfl, ?_⟩
  unfold tris_rising
  cases d with
  | list xs =>
    have hl' := hl xs rfl
    simp only [wSs, wS, w1, wT, wE, wA, wX, wV, wP, wC, opn, rdO_d, rdO_o, asD_d, asD_n, KQY, entry, look, put, slotV, argsOk, frzA, frzV, sv_i, sv_b, sv_s, sv_0, sv_l, sv_t, sv_d, sv_n, List.map, List.length, List.replicate, List.cons_append, List.nil_append, Nat.sub_self, biD, isD_1, boolD_b, cmpD, relD_i, opD, addD_i, addD_l, subD_i, intD_i, lenD_l, lenD_t, listD_l, listD_t, tupleD_l, int2D_i, absD_i, toIntD_i, toIntD_b, eqD_i, eqD_b, eqD_s, rngD_1, rngD_2, seqD_l, seqD_t, lstD_l, ixX_l, ixX_t, negX_i, slX_l, rvX_l, repX_i, intX_i, ixD_0, ixD_1, ixD_2, true_and, and_true, ite_self, isListD, wI, wipeG, backG]
    simp only [Bool.not_true, Bool.false_eq_true, if_false]
    refine ⟨by unfold big; omega, ?_⟩
    refine cLoop_pure (g := outR b) _ [] ?_ ?_
    · intro y hy k' hk
      unfold tris_rising_c1
      unfold outR at hk
      simp only [bindT, wSs, wS, w1, wT, wE, wA, wX, wV, wP, wC, opn, rdO_d, rdO_o, asD_d, asD_n, KQY, entry, look, put, slotV, argsOk, frzA, frzV, sv_i, sv_b, sv_s, sv_0, sv_l, sv_t, sv_d, sv_n, List.map, List.length, List.replicate, List.cons_append, List.nil_append, Nat.sub_self, biD, isD_1, boolD_b, cmpD, relD_i, opD, addD_i, addD_l, subD_i, intD_i, lenD_l, lenD_t, listD_l, listD_t, tupleD_l, int2D_i, absD_i, toIntD_i, toIntD_b, eqD_i, eqD_b, eqD_s, rngD_1, rngD_2, seqD_l, seqD_t, lstD_l, ixX_l, ixX_t, negX_i, slX_l, rvX_l, repX_i, intX_i, ixD_0, ixD_1, ixD_2, true_and, and_true, ite_self, run_is_number, isNum_inR]
      cases hc : inR b y with
      | true =>
        rw [hc] at hk
        simp only [if_true, Bool.not_true, Bool.false_eq_true, if_false] at hk ⊢
        exact hk
      | false =>
        rw [hc] at hk
        simp only [if_true, Bool.not_false, Bool.false_eq_true, if_false] at hk ⊢
        exact hk
    · rw [List.nil_append]
      try simp only [wSs, wS, w1, wT, wE, wA, wX, wV, wP, wC, opn, rdO_d, rdO_o, asD_d, asD_n, KQY, entry, look, put, slotV, argsOk, frzA, frzV, sv_i, sv_b, sv_s, sv_0, sv_l, sv_t, sv_d, sv_n, List.map, List.length, List.replicate, List.cons_append, List.nil_append, Nat.sub_self, biD, isD_1, boolD_b, cmpD, relD_i, opD, addD_i, addD_l, subD_i, intD_i, lenD_l, lenD_t, listD_l, listD_t, tupleD_l, int2D_i, absD_i, toIntD_i, toIntD_b, eqD_i, eqD_b, eqD_s, rngD_1, rngD_2, seqD_l, seqD_t, lstD_l, ixX_l, ixX_t, negX_i, slX_l, rvX_l, repX_i, intX_i, ixD_0, ixD_1, ixD_2, true_and, and_true, ite_self, Bool.false_eq_true, if_false, if_true, Bool.not_true, Bool.not_false, ixR0, ixR1, sv_r]
      simp only [eqD_nil]
      refine ⟨by unfold big; decide, ?_⟩
      cases ha : xs.all (inR b) with
      | false =>
        have he : (xs.filterMap (outR b)).isEmpty = false := by
          rw [Bool.eq_false_iff, ne_eq, filterMap_empty]
          intro hh
          rw [List.all_eq_false] at ha
          obtain ⟨x, hx, hx2⟩ := ha
          have := hh x hx
          unfold outR at this
          rw [if_neg hx2] at this
          cases this
        simp only [he, Bool.not_false, if_true]
        have e : risD (.list xs) b = false := by unfold risD; dsimp only; rw [ha]; rfl
        rw [e] at h
        exact h
      | true =>
        have he : (xs.filterMap (outR b)).isEmpty = true := by
          rw [filterMap_empty]
          intro x hx
          unfold outR
          rw [if_pos (List.all_eq_true.mp ha x hx)]
        simp only [he, Bool.not_true, Bool.false_eq_true, if_false]
        obtain ⟨ns, rfl, hb2⟩ := inR_ints ha
        rw [List.length_map] at hl'
        unfold tris_rising_r1
        simp only [wSs, wS, w1, wT, wE, wA, wX, wV, wP, wC, opn, rdO_d, rdO_o, asD_d, asD_n, KQY, entry, look, put, slotV, argsOk, frzA, frzV, sv_i, sv_b, sv_s, sv_0, sv_l, sv_t, sv_d, sv_n, List.map, List.length, List.replicate, List.cons_append, List.nil_append, Nat.sub_self, biD, isD_1, boolD_b, cmpD, relD_i, opD, addD_i, addD_l, subD_i, intD_i, lenD_l, lenD_t, listD_l, listD_t, tupleD_l, int2D_i, absD_i, toIntD_i, toIntD_b, eqD_i, eqD_b, eqD_s, rngD_1, rngD_2, seqD_l, seqD_t, lstD_l, ixX_l, ixX_t, negX_i, slX_l, rvX_l, repX_i, intX_i, ixD_0, ixD_1, ixD_2, true_and, and_true, ite_self, srtSX]
        refine ⟨ns, intsD_map ns, hl', .inr fun m hm => ⟨(hb2 m hm).1, by have := (hb2 m hm).2; omega⟩, fun ms h1 h2 => ?_⟩
        try simp only [wSs, wS, w1, wT, wE, wA, wX, wV, wP, wC, opn, rdO_d, rdO_o, asD_d, asD_n, KQY, entry, look, put, slotV, argsOk, frzA, frzV, sv_i, sv_b, sv_s, sv_0, sv_l, sv_t, sv_d, sv_n, List.map, List.length, List.replicate, List.cons_append, List.nil_append, Nat.sub_self, biD, isD_1, boolD_b, cmpD, relD_i, opD, addD_i, addD_l, subD_i, intD_i, lenD_l, lenD_t, listD_l, listD_t, tupleD_l, int2D_i, absD_i, toIntD_i, toIntD_b, eqD_i, eqD_b, eqD_s, rngD_1, rngD_2, seqD_l, seqD_t, lstD_l, ixX_l, ixX_t, negX_i, slX_l, rvX_l, repX_i, intX_i, ixD_0, ixD_1, ixD_2, true_and, and_true, ite_self, Bool.false_eq_true, if_false, if_true, Bool.not_true, Bool.not_false, ixR0, ixR1, sv_r]
        refine eqD_okc (okc_ints _) (okc_ints _) (fun e => ?_) fun e => ?_
        · have e2 : ns = ms := ints_inj e
          subst e2
          rw [risD_ints.mpr ⟨hb2, h1⟩] at h
          exact h
        · have e2 : risD (.list (ns.map .int)) b = false := by
            rw [Bool.eq_false_iff]
            intro hr
            refine e ?_
            have hp := (risD_ints.mp hr).2
            rw [sorted_unique (perm_of_nodup (lt_nodup hp) (lt_nodup h1) fun x => (h2 x).symm) (lt_le hp) (lt_le h1)]
          rw [e2] at h
          exact h
  | _ =>
    simp only [wSs, wS, w1, wT, wE, wA, wX, wV, wP, wC, opn, rdO_d, rdO_o, asD_d, asD_n, KQY, entry, look, put, slotV, argsOk, frzA, frzV, sv_i, sv_b, sv_s, sv_0, sv_l, sv_t, sv_d, sv_n, List.map, List.length, List.replicate, List.cons_append, List.nil_append, Nat.sub_self, biD, isD_1, boolD_b, cmpD, relD_i, opD, addD_i, addD_l, subD_i, intD_i, lenD_l, lenD_t, listD_l, listD_t, tupleD_l, int2D_i, absD_i, toIntD_i, toIntD_b, eqD_i, eqD_b, eqD_s, rngD_1, rngD_2, seqD_l, seqD_t, lstD_l, ixX_l, ixX_t, negX_i, slX_l, rvX_l, repX_i, intX_i, ixD_0, ixD_1, ixD_2, true_and, and_true, ite_self, isListD, Bool.not_false, if_true]
    exact h
where
  ints_inj : ∀ {ns ms : List Int}, PyData.list (ns.map .int) = .list (ms.map .int) → ns = ms := fun {ns ms} e => by
    have e1 : ns.map PyData.int = ms.map PyData.int := PyData.list.inj e
    have e2 := intsD_map ns
    rw [e1, intsD_map] at e2
    exact (Option.some.inj e2).symm
def Fhits_all : RF where
  run n as ds Q Y := ∃ d, ds = [d] ∧ shortL d ∧ Q (.dat (.bool (hitsD n as d)))
  mono := fun h1 h2 ⟨d, e, hl, q⟩ => ⟨d, e, hl, h1 _ q⟩
def Shits_all : Summ := Summ.ring 1 Fhits_all
theorem call_hits_all {n : Int} {as : List (Int × Int)} {d : D} {Q : Val → Prop} {Y : Nat → Prop} (ok : RingOk n as) (hl : shortL d) (h : Q (.dat (.bool (hitsD n as d)))) : Shits_all.run [ringD n as, d] Q Y := ring_ok rfl ok ⟨d, rfl, hl, h⟩
def trhits_all_c1 : Es Unit :=
  (.cons (.call "holds" Sholds (.cons (.ix (.var 0) (.int 0)) (.cons (.var 2) (.cons (.var 3) .nil)))) .nil)
def trhits_all_b1 : Sms Unit :=
  (.cons (.ite (.cmp .Eq (.comp [3] (.nm 3) (.seq (.var 1)) trhits_all_c1 (.var 3)) (.ls .nil))
    (.cons (.one (.ret (.bl false)))
    .nil)
    .nil)
    .nil)
def trhits_all : Sms Unit :=
  (.cons (.one (.expr (.call "need_ring" Sneed_ring (.cons (.var 0) .nil))))
    (.cons (.ite (.nt (.call "is_rising" Sis_rising (.cons (.var 1) (.cons (.ix (.var 0) (.int 0)) .nil))))
    (.cons (.one (.ret (.bl false)))
    .nil)
    .nil)
    (.cons (.for (.nm 2) (.seq (.ix (.var 0) (.int 1)))
    trhits_all_b1)
    (.cons (.one (.ret (.bl true)))
    .nil))))

theorem w_hits_all : WOk Shits_all 2 4 trhits_all := WOk.ring (fun d r Q Y hl hr h0 => by
    obtain ⟨a, rfl⟩ := len1 hl
    unfold trhits_all
    simp only [wSs, wS, w1, wT, wE, wA, wX, wV, wP, wC, opn, rdO_d, rdO_o, asD_d, asD_n, KQY, entry, look, put, slotV, argsOk, frzA, frzV, sv_i, sv_b, sv_s, sv_0, sv_l, sv_t, sv_d, sv_n, List.map, List.length, List.replicate, List.cons_append, List.nil_append, Nat.sub_self, biD, isD_1, boolD_b, cmpD, relD_i, opD, addD_i, addD_l, subD_i, intD_i, lenD_l, lenD_t, listD_l, listD_t, tupleD_l, int2D_i, absD_i, toIntD_i, toIntD_b, eqD_i, eqD_b, eqD_s, rngD_1, rngD_2, seqD_l, seqD_t, lstD_l, ixX_l, ixX_t, negX_i, slX_l, rvX_l, repX_i, intX_i, ixD_0, ixD_1, ixD_2, true_and, and_true, ite_self, run_need_ring]
    simpa [hr] using h0) (fun n as r Q Y hl ok h => by
    obtain ⟨d, rfl, hs, h⟩ := h
    have n1 := ok.n1
    have n40 := ok.n40
    unfold trhits_all
    simp only [wSs, wS, w1, wT, wE, wA, wX, wV, wP, wC, opn, rdO_d, rdO_o, asD_d, asD_n, KQY, entry, look, put, slotV, argsOk, frzA, frzV, sv_i, sv_b, sv_s, sv_0, sv_l, sv_t, sv_d, sv_n, List.map, List.length, List.replicate, List.cons_append, List.nil_append, Nat.sub_self, biD, isD_1, boolD_b, cmpD, relD_i, opD, addD_i, addD_l, subD_i, intD_i, lenD_l, lenD_t, listD_l, listD_t, tupleD_l, int2D_i, absD_i, toIntD_i, toIntD_b, eqD_i, eqD_b, eqD_s, rngD_1, rngD_2, seqD_l, seqD_t, lstD_l, ixX_l, ixX_t, negX_i, slX_l, rvX_l, repX_i, intX_i, ixD_0, ixD_1, ixD_2, true_and, and_true, ite_self, run_need_ring, isRing_ringD ok, if_true, wJ]
    simp only [ringD, wSs, wS, w1, wT, wE, wA, wX, wV, wP, wC, opn, rdO_d, rdO_o, asD_d, asD_n, KQY, entry, look, put, slotV, argsOk, frzA, frzV, sv_i, sv_b, sv_s, sv_0, sv_l, sv_t, sv_d, sv_n, List.map, List.length, List.replicate, List.cons_append, List.nil_append, Nat.sub_self, biD, isD_1, boolD_b, cmpD, relD_i, opD, addD_i, addD_l, subD_i, intD_i, lenD_l, lenD_t, listD_l, listD_t, tupleD_l, int2D_i, absD_i, toIntD_i, toIntD_b, eqD_i, eqD_b, eqD_s, rngD_1, rngD_2, seqD_l, seqD_t, lstD_l, ixX_l, ixX_t, negX_i, slX_l, rvX_l, repX_i, intX_i, ixD_0, ixD_1, ixD_2, true_and, and_true, ite_self]
    refine call_is_rising hs (by omega) ?_
    cases hr : risD d n with
    | false =>
      try simp only [wSs, wS, w1, wT, wE, wA, wX, wV, wP, wC, opn, rdO_d, rdO_o, asD_d, asD_n, KQY, entry, look, put, slotV, argsOk, frzA, frzV, sv_i, sv_b, sv_s, sv_0, sv_l, sv_t, sv_d, sv_n, List.map, List.length, List.replicate, List.cons_append, List.nil_append, Nat.sub_self, biD, isD_1, boolD_b, cmpD, relD_i, opD, addD_i, addD_l, subD_i, intD_i, lenD_l, lenD_t, listD_l, listD_t, tupleD_l, int2D_i, absD_i, toIntD_i, toIntD_b, eqD_i, eqD_b, eqD_s, rngD_1, rngD_2, seqD_l, seqD_t, lstD_l, ixX_l, ixX_t, negX_i, slX_l, rvX_l, repX_i, intX_i, ixD_0, ixD_1, ixD_2, true_and, and_true, ite_self, Bool.false_eq_true, if_false, if_true, Bool.not_true, Bool.not_false, ixR0, ixR1, sv_r]
      rw [hitsD_ris hr] at h
      exact h
    | true =>
      obtain ⟨ns, rfl, hb, hp⟩ := ris_ints hr
      rw [hitsD_ints, hr, Bool.true_and] at h
      have hlen := ris_len (by omega) hb hp
      try simp only [wSs, wS, w1, wT, wE, wA, wX, wV, wP, wC, opn, rdO_d, rdO_o, asD_d, asD_n, KQY, entry, look, put, slotV, argsOk, frzA, frzV, sv_i, sv_b, sv_s, sv_0, sv_l, sv_t, sv_d, sv_n, List.map, List.length, List.replicate, List.cons_append, List.nil_append, Nat.sub_self, biD, isD_1, boolD_b, cmpD, relD_i, opD, addD_i, addD_l, subD_i, intD_i, lenD_l, lenD_t, listD_l, listD_t, tupleD_l, int2D_i, absD_i, toIntD_i, toIntD_b, eqD_i, eqD_b, eqD_s, rngD_1, rngD_2, seqD_l, seqD_t, lstD_l, ixX_l, ixX_t, negX_i, slX_l, rvX_l, repX_i, intX_i, ixD_0, ixD_1, ixD_2, true_and, and_true, ite_self, Bool.false_eq_true, if_false, if_true, Bool.not_true, Bool.not_false, ixR0, ixR1, sv_r]
      refine ⟨by rw [List.length_map]; exact big20 ok.len, ?_⟩
      refine fLoop_findA (g := arcD) (p := fun a => ns.any (hld n a)) (xs := as) (I := fun Γ _ => ∃ x2 x3 : Option Val, Γ = [some (.dat (ringD n as)), some (.dat (.list (ns.map .int))), x2, x3]) ?_ ?_ ⟨_, _, rfl⟩
      · rintro ha Γ s ⟨x2, x3, rfl⟩
        have e : hitB n as ns = true := ha
        rw [e] at h
        exact h
      · rintro a ha Γ s K' ⟨x2, x3, rfl⟩ hrt hex hnx
        unfold trhits_all_b1
        simp only [bindT, wSs, wS, w1, wT, wE, wA, wX, wV, wP, wC, opn, rdO_d, rdO_o, asD_d, asD_n, KQY, entry, look, put, slotV, argsOk, frzA, frzV, sv_i, sv_b, sv_s, sv_0, sv_l, sv_t, sv_d, sv_n, List.map, List.length, List.replicate, List.cons_append, List.nil_append, Nat.sub_self, biD, isD_1, boolD_b, cmpD, relD_i, opD, addD_i, addD_l, subD_i, intD_i, lenD_l, lenD_t, listD_l, listD_t, tupleD_l, int2D_i, absD_i, toIntD_i, toIntD_b, eqD_i, eqD_b, eqD_s, rngD_1, rngD_2, seqD_l, seqD_t, lstD_l, ixX_l, ixX_t, negX_i, slX_l, rvX_l, repX_i, intX_i, ixD_0, ixD_1, ixD_2, true_and, and_true, ite_self, wI, wipeG, backG, ringD]
        refine ⟨by rw [List.length_map]; unfold big; omega, ?_⟩
        refine cLoop_mp (q := fun x => if hld n a x = true then some (.int x) else none) _ [] ?_ ?_
        · intro x hx k' hk
          unfold trhits_all_c1
          simp only [bindT, wSs, wS, w1, wT, wE, wA, wX, wV, wP, wC, opn, rdO_d, rdO_o, asD_d, asD_n, KQY, entry, look, put, slotV, argsOk, frzA, frzV, sv_i, sv_b, sv_s, sv_0, sv_l, sv_t, sv_d, sv_n, List.map, List.length, List.replicate, List.cons_append, List.nil_append, Nat.sub_self, biD, isD_1, boolD_b, cmpD, relD_i, opD, addD_i, addD_l, subD_i, intD_i, lenD_l, lenD_t, listD_l, listD_t, tupleD_l, int2D_i, absD_i, toIntD_i, toIntD_b, eqD_i, eqD_b, eqD_s, rngD_1, rngD_2, seqD_l, seqD_t, lstD_l, ixX_l, ixX_t, negX_i, slX_l, rvX_l, repX_i, intX_i, ixD_0, ixD_1, ixD_2, true_and, and_true, ite_self, arcD, run_holds]
          refine ⟨by omega, ?_⟩
          have hk2 : k' (if hld n (a.1, a.2) x = true then some (.int x) else none) _ _ := hk
          cases hc : hld n (a.1, a.2) x with
          | true =>
            rw [hc, if_pos rfl] at hk2
            simp only [if_true]
            exact hk2
          | false =>
            rw [hc, if_neg (by decide)] at hk2
            simp only [Bool.false_eq_true, if_false]
            exact hk2
        · rw [List.nil_append, fm_pick]
          simp only [eqD_nil, wSs, wS, w1, wT, wE, wA, wX, wV, wP, wC, opn, rdO_d, rdO_o, asD_d, asD_n, KQY, entry, look, put, slotV, argsOk, frzA, frzV, sv_i, sv_b, sv_s, sv_0, sv_l, sv_t, sv_d, sv_n, List.map, List.length, List.replicate, List.cons_append, List.nil_append, Nat.sub_self, biD, isD_1, boolD_b, cmpD, relD_i, opD, addD_i, addD_l, subD_i, intD_i, lenD_l, lenD_t, listD_l, listD_t, tupleD_l, int2D_i, absD_i, toIntD_i, toIntD_b, eqD_i, eqD_b, eqD_s, rngD_1, rngD_2, seqD_l, seqD_t, lstD_l, ixX_l, ixX_t, negX_i, slX_l, rvX_l, repX_i, intX_i, ixD_0, ixD_1, ixD_2, true_and, and_true, ite_self]
          refine ⟨by unfold big; decide, ?_⟩
          cases hc : ns.any (hld n a) with
          | true =>
            have e : ((ns.filter fun x => hld n a x).map PyData.int).isEmpty = false := by
              obtain ⟨x, hx, hh⟩ := List.any_eq_true.mp hc
              rw [Bool.eq_false_iff, ne_eq, List.isEmpty_iff, List.map_eq_nil_iff]
              intro e
              have : x ∈ ns.filter fun x => hld n a x := List.mem_filter.mpr ⟨hx, hh⟩
              rw [e] at this
              cases this
            simp only [e, Bool.false_eq_true, if_false]
            exact hnx hc _ _ ⟨_, _, rfl⟩
          | false =>
            have e : ((ns.filter fun x => hld n a x).map PyData.int).isEmpty = true := by
              rw [List.isEmpty_iff, List.map_eq_nil_iff, List.filter_eq_nil_iff]
              intro x hx hm
              rw [List.any_eq_false] at hc
              exact hc x hx hm
            simp only [e, if_true]
            rw [hrt]
            have e2 : hitB n as ns = false := all_false ha hc
            rw [e2] at h
            exact h)
/-! ### calls of walks -/
theorem call_wlk {n : Int} {as : List (Int × Int)} {p : Int} {Q : Val → Prop} {Y : Nat → Prop} (ok : RingOk n as) (h0 : 0 ≤ p) (h1 : p < n) (h : Q (.new ((wlk n as p).map .int))) : Swalk_from.run [ringD n as, .int p] Q Y :=
  call_walk_from ok h0 h1 fun r hr => by rw [wlk_eq hr]; exact h
def nxtD : List Int → D
  | _ :: y :: _ => .int y
  | _ => .none
theorem call_nxt {n : Int} {as : List (Int × Int)} {p : Int} {Q : Val → Prop} {Y : Nat → Prop} (ok : RingOk n as) (h0 : 0 ≤ p) (h1 : p < n) (h : Q (.dat (nxtD (wlk n as p)))) : Snext_place.run [ringD n as, .int p] Q Y :=
  call_next_place ok h0 h1 fun r hr => by
    rw [← wlk_eq hr] at h
    cases r <;> exact h
section
variable {n x : Int} {as : List (Int × Int)}
theorem wlk_len (ok : RingOk n as) : 1 ≤ (wlk n as x).length ∧ (wlk n as x).length ≤ 21 := by
  obtain ⟨r, hr, e⟩ := wlk_ex (x := x) ok
  have := walk_big ok hr
  rw [e, List.length_cons, List.length_map]
  omega
theorem wlk_le (ok : RingOk n as) {P : List Int} (hP : Pl n P) (hh : Hit n as P) (hx : x ∈ P) : (wlk n as x).length ≤ P.length := by
  obtain ⟨r, hr, e⟩ := wlk_ex (x := x) ok
  rw [e, List.length_cons, List.length_map]
  exact walk_le ok hr hP hh hx
theorem wlk_ok (ok : RingOk n as) (hx : 0 ≤ x ∧ x < n) : Pl n (wlk n as x) ∧ Hit n as (wlk n as x) ∧ (wlk n as x).Nodup ∧ x ∈ wlk n as x := by
  obtain ⟨r, hr, e⟩ := wlk_ex (x := x) ok
  rw [e]
  exact ⟨walk_pl ok hx, walk_hit ok hr, walk_nodup ok hx hr, List.mem_cons_self⟩
theorem Few.wlk {m : Nat} (h : Few n as m) (ok : RingOk n as) (hx : 0 ≤ x ∧ x < n) : m ≤ (wlk n as x).length ∧ (wlk n as x).length ≤ m + 1 := by
  obtain ⟨w1, w2, w3, w4⟩ := wlk_ok ok hx
  refine ⟨h.le _ w1 w2, ?_⟩
  obtain ⟨P, p1, p2, rfl⟩ := h.ex
  have := wlk_le (x := x) ok (P := x :: P) (fun p hp => by rcases List.mem_cons.mp hp with rfl | hp; exact hx; exact p1 p hp) (fun a ha => by obtain ⟨p, hp, hh⟩ := p2 a ha; exact ⟨p, List.mem_cons_of_mem _ hp, hh⟩) List.mem_cons_self
  rw [List.length_cons] at this
  exact this
theorem wlk_same {bs : List (Int × Int)} (ok : RingOk n as) (ok' : RingOk n bs) (h : SameW n x as bs) : wlk n bs x = wlk n as x := by
  obtain ⟨r, hr, e⟩ := wlk_ex (x := x) ok
  obtain ⟨r', hr', e'⟩ := wlk_ex (x := x) ok'
  rw [e, e', walk_same hr hr' h.1 h.2]
theorem wlk_one (ok : RingOk n as) : (wlk n as x).length = 1 ↔ (atB n as x).length = as.length := by
  obtain ⟨r, hr, e⟩ := wlk_ex (x := x) ok
  have h1 : (wlk n as x).length = 1 ↔ left0 n as x = [] := by
    rw [e, List.length_cons, List.length_map]
    constructor
    · intro h
      have : r = [] := List.length_eq_zero_iff.mp (by omega)
      rw [this] at hr
      exact hr
    · intro h
      have : r = [] := by
        cases r with
        | nil => rfl
        | cons k r =>
          have := hr.1
          rw [h] at this
          cases this
      rw [this]
      rfl
  rw [h1]
  constructor
  · intro h
    rw [atB_count]
    rw [List.countP_eq_length]
    intro a ha
    obtain ⟨k, hk, rfl⟩ := List.mem_iff_getElem.mp ha
    cases hc : hld n as[k] x with
    | true => rfl
    | false =>
      have : k ∈ left0 n as x := mem_left0.mpr ⟨hk, by rw [arcAt_eq hk]; exact hc⟩
      rw [h] at this
      cases this
  · intro h
    rw [atB_count, List.countP_eq_length] at h
    cases hl : left0 n as x with
    | nil => rfl
    | cons k r =>
      have hk : k ∈ left0 n as x := by rw [hl]; exact List.mem_cons_self
      obtain ⟨k1, k2⟩ := mem_left0.mp hk
      rw [arcAt_eq k1] at k2
      have := h _ (List.getElem_mem k1)
      rw [k2] at this
      cases this
/-- the place alone put to -/
theorem ring_alone (ok : RingOk n as) (hl : as.length ≤ 19) (hx : 0 ≤ x ∧ x < n) : RingOk n (as ++ [(x, 1)]) := ⟨ok.n1, ok.n40, by rw [List.length_append, List.length_singleton]; omega, fun a ha => by
  rcases List.mem_append.mp ha with ha | ha
  · exact ok.arcs a ha
  · have e : a = (x, 1) := by simpa using ha
    have := ok.n1
    rw [e]
    exact ⟨hx.1, hx.2, Int.le_refl _, this⟩⟩
theorem hld_alone {p : Int} (hx : 0 ≤ x ∧ x < n) (hp : 0 ≤ p ∧ p < n) : hld n (x, 1) p = true ↔ p = x := by
  unfold hld
  rw [decide_eq_true_eq]
  dsimp only
  constructor
  · intro h
    have h0 := Int.emod_nonneg (p - x) (show n ≠ 0 by omega)
    have hz : (p - x) % n = 0 := by omega
    have := place_back (n := n) (x := x) hp.1 hp.2
    rw [hz, Int.add_zero, Int.emod_eq_of_lt hx.1 hx.2] at this
    exact this.symm
  · rintro rfl
    rw [Int.sub_self, Int.zero_emod]
    decide
theorem few_alone (ok : RingOk n as) (hx : 0 ≤ x ∧ x < n) : Few n (as ++ [(x, 1)]) (wlk n as x).length where
  ex := by
    obtain ⟨w1, w2, w3, w4⟩ := wlk_ok ok hx
    refine ⟨_, w1, fun a ha => ?_, rfl⟩
    rcases List.mem_append.mp ha with ha | ha
    · exact w2 a ha
    · have e : a = (x, 1) := by simpa using ha
      rw [e]
      exact ⟨x, w4, (hld_alone hx hx).mpr rfl⟩
  le := fun P hP hh => by
    obtain ⟨p, hp, hpx⟩ := hh (x, 1) (by simp)
    have e := (hld_alone hx (hP p hp)).mp hpx
    subst e
    exact wlk_le ok hP (fun a ha => hh a (List.mem_append_left _ ha)) hp
theorem wlk_alone (ok : RingOk n as) (hl : as.length ≤ 19) (hx : 0 ≤ x ∧ x < n) : wlk n (as ++ [(x, 1)]) x = wlk n as x :=
  wlk_same ok (ring_alone ok hl hx) (SameW.holds (c := (x, 1)) (fun a => by simp [or_comm]) ((hld_alone hx hx).mpr rfl))
end
end Ac
namespace Ac
open PySem PySem.Spec PyProof.Rows L2
/-! ### stretches apart on a line -/
/-- one behind the other, the first behind a place -/
def ChP : Int → List (Int × Int) → Prop
  | _, [] => True
  | last, i :: r => last < i.1 ∧ ChP i.2 r
theorem ChP.mono {l l' : Int} (h : l ≤ l') : ∀ {c : List (Int × Int)}, ChP l' c → ChP l c
  | [], _ => trivial
  | i :: r, hc => ⟨by have := hc.1; omega, hc.2⟩
theorem ChP.behind {l : Int} : ∀ {c : List (Int × Int)}, (∀ i ∈ c, i.1 ≤ i.2) → ChP l c → ∀ i ∈ c, l < i.1
  | [], _, _, i, hi => nomatch hi
  | j :: r, hb, hc, i, hi => by
    rcases List.mem_cons.mp hi with rfl | hi
    · exact hc.1
    · have h1 := ChP.behind (fun i hi => hb i (List.mem_cons_of_mem _ hi)) hc.2 i hi
      have h2 := hb j List.mem_cons_self
      have := hc.1
      omega
/-- the most that lie one behind the other -/
structure IsMost (I : List (Int × Int)) (last : Int) (m : Nat) : Prop where
  ex : ∃ c, (∀ i ∈ c, i ∈ I) ∧ ChP last c ∧ c.length = m
  le : ∀ c, (∀ i ∈ c, i ∈ I) → ChP last c → c.length ≤ m
theorem IsMost.uniq {I : List (Int × Int)} {last : Int} {m m' : Nat} (h : IsMost I last m) (h' : IsMost I last m') : m = m' := by
  obtain ⟨c, h1, h2, rfl⟩ := h.ex
  obtain ⟨c', h1', h2', rfl⟩ := h'.ex
  exact Nat.le_antisymm (h'.le c h1 h2) (h.le c' h1' h2')
theorem IsMost.congr {I J : List (Int × Int)} {last : Int} {m : Nat} (h : IsMost I last m) (e : ∀ i, i ∈ I ↔ i ∈ J) : IsMost J last m :=
  ⟨let ⟨c, h1, h2⟩ := h.ex; ⟨c, fun i hi => (e i).mp (h1 i hi), h2⟩, fun c h1 h2 => h.le c (fun i hi => (e i).mpr (h1 i hi)) h2⟩
theorem ChP.shift {s : Int} : ∀ {l : Int} {c : List (Int × Int)}, ChP l c → ChP (l + s) (c.map fun i => (i.1 + s, i.2 + s))
  | _, [], _ => trivial
  | l, i :: r, h => ⟨by have := h.1; show l + s < i.1 + s; omega, ChP.shift h.2⟩
theorem IsMost.shift {I : List (Int × Int)} {last s : Int} {m : Nat} (h : IsMost I last m) : IsMost (I.map fun i => (i.1 + s, i.2 + s)) (last + s) m where
  ex := by
    obtain ⟨c, h1, h2, h3⟩ := h.ex
    refine ⟨c.map fun i => (i.1 + s, i.2 + s), fun i hi => ?_, h2.shift, by rw [List.length_map]; exact h3⟩
    obtain ⟨j, hj, rfl⟩ := List.mem_map.mp hi
    exact List.mem_map.mpr ⟨j, h1 j hj, rfl⟩
  le := fun c h1 h2 => by
    have h3 := h2.shift (s := -s)
    have e : last + s + -s = last := by omega
    rw [e] at h3
    have := h.le _ (fun i hi => ?_) h3
    · rw [List.length_map] at this; exact this
    · obtain ⟨j, hj, rfl⟩ := List.mem_map.mp hi
      obtain ⟨k, hk, rfl⟩ := List.mem_map.mp (h1 j hj)
      have e2 : (k.1 + s + -s, k.2 + s + -s) = k := Prod.ext (by show k.1 + s + -s = k.1; omega) (by show k.2 + s + -s = k.2; omega)
      dsimp only
      rw [e2]
      exact hk
/-- the place from which on is counted may be moved where nothing begins between -/
theorem IsMost.move {I : List (Int × Int)} {l l' : Int} {m : Nat} (h : IsMost I l m) (hl : l' ≤ l) (hI : ∀ i ∈ I, l < i.1) : IsMost I l' m where
  ex := let ⟨c, h1, h2, h3⟩ := h.ex; ⟨c, h1, h2.mono hl, h3⟩
  le := fun c h1 h2 => h.le c h1 (by
    cases c with
    | nil => trivial
    | cons i r => exact ⟨hI i (h1 i List.mem_cons_self), h2.2⟩)
/-! ### the greedy choice -/
def gre (b e : Nat → Int) : Int → List Nat → List Nat
  | _, [] => []
  | last, k :: L => if last < b k then k :: gre b e (e k) L else gre b e last L
theorem gre_mem {b e : Nat → Int} : ∀ {L : List Nat} {last : Int} {k : Nat}, k ∈ gre b e last L → k ∈ L
  | [], _, _, h => nomatch h
  | j :: L, last, k, h => by
    unfold gre at h
    split at h
    · rcases List.mem_cons.mp h with rfl | h
      · exact List.mem_cons_self
      · exact List.mem_cons_of_mem _ (gre_mem h)
    · exact List.mem_cons_of_mem _ (gre_mem h)
theorem gre_sub {b e : Nat → Int} : ∀ {L : List Nat} {last : Int}, (gre b e last L).Sublist L
  | [], _ => List.Sublist.refl _
  | j :: L, last => by
    unfold gre
    split
    · exact (gre_sub (L := L)).cons₂ j
    · exact (gre_sub (L := L)).cons j
theorem gre_chain {b e : Nat → Int} : ∀ {L : List Nat} {last : Int}, ChP last ((gre b e last L).map fun k => (b k, e k))
  | [], _ => trivial
  | j :: L, last => by
    unfold gre
    split
    · rename_i h
      exact ⟨h, gre_chain (L := L)⟩
    · exact gre_chain (L := L)
theorem gre_max {b e : Nat → Int} : ∀ {L : List Nat} {last : Int}, (∀ k ∈ L, b k ≤ e k) → L.Pairwise (fun j k => e j ≤ e k) → ∀ c : List (Int × Int), (∀ i ∈ c, ∃ k ∈ L, i = (b k, e k)) → ChP last c → c.length ≤ (gre b e last L).length
  | [], last, _, _, c, hc, _ => by
    cases c with
    | nil => exact Nat.le_refl _
    | cons i r =>
      obtain ⟨k, hk, _⟩ := hc i List.mem_cons_self
      cases hk
  | j :: L, last, hb, hs, c, hc, h => by
    have hs' := List.pairwise_cons.mp hs
    have hcb : ∀ i ∈ c, i.1 ≤ i.2 := fun i hi => by
      obtain ⟨k, hk, rfl⟩ := hc i hi
      exact hb k hk
    have hL := fun k (hk : k ∈ L) => hb k (List.mem_cons_of_mem _ hk)
    unfold gre
    split
    · rename_i hlt
      cases c with
      | nil => exact Nat.zero_le _
      | cons i r =>
        obtain ⟨k, hk, rfl⟩ := hc i List.mem_cons_self
        have hke : e j ≤ e k := by
          rcases List.mem_cons.mp hk with rfl | hk
          · exact Int.le_refl _
          · exact hs'.1 k hk
        have hr : ChP (e j) r := h.2.mono hke
        have := gre_max hL hs'.2 r (fun i hi => ?_) hr
        · rw [List.length_cons, List.length_cons]; omega
        · obtain ⟨k2, hk2, e2⟩ := hc i (List.mem_cons_of_mem _ hi)
          rcases List.mem_cons.mp hk2 with rfl | hk2
          · have h1 := ChP.behind (fun i hi => hcb i (List.mem_cons_of_mem _ hi)) hr i hi
            have h2 := hb k2 List.mem_cons_self
            rw [e2] at h1
            dsimp only at h1
            omega
          · exact ⟨k2, hk2, e2⟩
    · rename_i hlt
      refine gre_max hL hs'.2 c (fun i hi => ?_) h
      obtain ⟨k2, hk2, e2⟩ := hc i hi
      rcases List.mem_cons.mp hk2 with rfl | hk2
      · have h1 := ChP.behind hcb h i hi
        rw [e2] at h1
        dsimp only at h1
        omega
      · exact ⟨k2, hk2, e2⟩
theorem gre_most {b e : Nat → Int} {L : List Nat} {last : Int} (hb : ∀ k ∈ L, b k ≤ e k) (hs : L.Pairwise (fun j k => e j ≤ e k)) : IsMost (L.map fun k => (b k, e k)) last (gre b e last L).length where
  ex := ⟨(gre b e last L).map fun k => (b k, e k), fun i hi => by
    obtain ⟨k, hk, rfl⟩ := List.mem_map.mp hi
    exact List.mem_map.mpr ⟨k, gre_mem hk, rfl⟩, gre_chain, by rw [List.length_map]⟩
  le := fun c h1 h2 => gre_max hb hs c (fun i hi => by
    obtain ⟨k, hk, e⟩ := List.mem_map.mp (h1 i hi)
    exact ⟨k, hk, e.symm⟩) h2
/-! ### the most, place by place from the last on -/
theorem most_none {I : List (Int × Int)} {last : Int} (h : ∀ i ∈ I, i.1 ≤ last) : IsMost I last 0 where
  ex := ⟨[], (fun i hi => nomatch hi), trivial, rfl⟩
  le := fun c h1 h2 => by
    cases c with
    | nil => exact Nat.le_refl _
    | cons i r =>
      have := h i (h1 i List.mem_cons_self)
      have := h2.1
      omega
theorem most_step {I : List (Int × Int)} {x : Int} {best : Int → Nat} {m : Nat} (hI : ∀ i ∈ I, i.1 ≤ i.2) (h1 : ∀ y, x < y → IsMost I (y - 1) (best y)) (hle : best (x + 1) ≤ m) (hle2 : ∀ i ∈ I, i.1 = x → 1 + best (i.2 + 1) ≤ m)
    (hm : m = best (x + 1) ∨ ∃ i ∈ I, i.1 = x ∧ m = 1 + best (i.2 + 1)) : IsMost I (x - 1) m where
  ex := by
    rcases hm with rfl | ⟨i, hi, hx, rfl⟩
    · obtain ⟨c, g1, g2, g3⟩ := (h1 (x + 1) (by omega)).ex
      exact ⟨c, g1, g2.mono (by omega), g3⟩
    · have := hI i hi
      obtain ⟨c, g1, g2, g3⟩ := (h1 (i.2 + 1) (by omega)).ex
      have e : i.2 + 1 - 1 = i.2 := by omega
      rw [e] at g2
      refine ⟨i :: c, fun j hj => ?_, ⟨by omega, g2⟩, by rw [List.length_cons, g3]; omega⟩
      rcases List.mem_cons.mp hj with rfl | hj
      · exact hi
      · exact g1 j hj
  le := fun c g1 g2 => by
    cases c with
    | nil => exact Nat.zero_le _
    | cons i r =>
      have hi := g1 i List.mem_cons_self
      have hii := hI i hi
      have hlt := g2.1
      by_cases hx : i.1 = x
      · have e : i.2 + 1 - 1 = i.2 := by omega
        have := (h1 (i.2 + 1) (by omega)).le r (fun j hj => g1 j (List.mem_cons_of_mem _ hj)) (by rw [e]; exact g2.2)
        have := hle2 i hi hx
        rw [List.length_cons]
        omega
      · have e : x + 1 - 1 = x := by omega
        have := (h1 (x + 1) (by omega)).le (i :: r) g1 ⟨by rw [e]; omega, g2.2⟩
        omega
end Ac
namespace Ac
open PySem PySem.Spec PyProof.Rows L2
/-! ### arcs apart, the most -/
def Apt (n : Int) (as : List (Int × Int)) (S : List Nat) : Prop := (∀ k ∈ S, k < as.length) ∧ S.Pairwise fun i j => mtB n (arcAt as i) (arcAt as j) = false
structure Most (n : Int) (as : List (Int × Int)) (m : Nat) : Prop where
  ex : ∃ S, Apt n as S ∧ S.length = m
  le : ∀ S, Apt n as S → S.length ≤ m
theorem Most.uniq {n : Int} {as : List (Int × Int)} {m m' : Nat} (h : Most n as m) (h' : Most n as m') : m = m' := by
  obtain ⟨S, p1, rfl⟩ := h.ex
  obtain ⟨S', p1', rfl⟩ := h'.ex
  exact Nat.le_antisymm (h'.le _ p1) (h.le _ p1')
theorem Apt.perm {n : Int} {as : List (Int × Int)} {S S' : List Nat} (p : S.Perm S') (h : Apt n as S) : Apt n as S' :=
  ⟨fun k hk => h.1 k (p.mem_iff.mpr hk), p.pairwise h.2 fun hh => by rw [mtB_comm]; exact hh⟩
theorem Apt.nodup {n : Int} {as : List (Int × Int)} {S : List Nat} (ok : RingOk n as) (h : Apt n as S) : S.Nodup := by
  refine List.Pairwise.imp_of_mem (fun {i j} hi hj hh e => ?_) h.2
  subst e
  have oki := ok.at (h.1 i hi)
  have : mtB n (arcAt as i) (arcAt as i) = true := (mtB_iff oki oki).mpr ⟨_, oki.1, oki.2.1, hld_start oki, hld_start oki⟩
  rw [this] at hh
  cases hh
theorem ChP.pair : ∀ {c : List (Int × Int)} {last : Int}, (∀ i ∈ c, i.1 ≤ i.2) → ChP last c → c.Pairwise fun i j => i.2 < j.1
  | [], _, _, _ => List.Pairwise.nil
  | i :: r, last, hb, h => by
    rw [List.pairwise_cons]
    have hb' := fun j (hj : j ∈ r) => hb j (List.mem_cons_of_mem _ hj)
    exact ⟨fun j hj => ChP.behind hb' h.2 j hj, ChP.pair hb' h.2⟩
theorem ChP.of_pair : ∀ {c : List (Int × Int)} {last : Int}, (∀ i ∈ c, last < i.1) → (c.Pairwise fun i j => i.2 < j.1) → ChP last c
  | [], _, _, _ => trivial
  | i :: r, last, hl, h => by
    rw [List.pairwise_cons] at h
    exact ⟨hl i List.mem_cons_self, ChP.of_pair h.1 h.2⟩
def besL (n : Int) (as : List (Int × Int)) (k : Nat) : List Nat := (List.range as.length).filter fun j => !mtB n (arcAt as j) (arcAt as k)
def ivK (n : Int) (as : List (Int × Int)) (x : Int) (k : Nat) : Int × Int := (bI n as x k, eI n as x k)
section
variable {n x : Int} {as : List (Int × Int)}
theorem mem_besL {j k : Nat} : j ∈ besL n as k ↔ j < as.length ∧ mtB n (arcAt as j) (arcAt as k) = false := by
  unfold besL
  rw [List.mem_filter, List.mem_range, Bool.not_eq_true']
theorem bes_left {j k : Nat} (ok : RingOk n as) (hk : k < as.length) (hx : 0 ≤ x ∧ x < n) (hh : hld n (arcAt as k) x = true) (h : j ∈ besL n as k) : j ∈ left0 n as x := by
  obtain ⟨h1, h2⟩ := mem_besL.mp h
  refine mem_left0.mpr ⟨h1, ?_⟩
  cases hj : hld n (arcAt as j) x with
  | false => rfl
  | true =>
    have := (mtB_iff (ok.at h1) (ok.at hk)).mpr ⟨x, hx.1, hx.2, hj, hh⟩
    rw [h2] at this
    cases this
theorem meet_line {i j : Nat} (ok : RingOk n as) (hi : i ∈ left0 n as x) (hj : j ∈ left0 n as x) : mtB n (arcAt as i) (arcAt as j) = false ↔ eI n as x i < bI n as x j ∨ eI n as x j < bI n as x i := by
  have n1 := ok.n1
  have ri := left0_rng ok hi
  have rj := left0_rng ok hj
  have li := mem_left0.mp hi
  have lj := mem_left0.mp hj
  have hm := mtB_iff (ok.at li.1) (ok.at lj.1)
  constructor
  · intro h
    by_cases hc : eI n as x i < bI n as x j ∨ eI n as x j < bI n as x i
    · exact hc
    · exfalso
      have : ∃ d, 0 ≤ d ∧ d < n ∧ (bI n as x i ≤ d ∧ d ≤ eI n as x i) ∧ (bI n as x j ≤ d ∧ d ≤ eI n as x j) := by
        by_cases hb : bI n as x i ≤ bI n as x j
        · exact ⟨bI n as x j, by omega, by omega, by omega, by omega⟩
        · exact ⟨bI n as x i, by omega, by omega, by omega, by omega⟩
      obtain ⟨d, d0, d1, e1, e2⟩ := this
      have := hm.mpr ⟨(x + d) % n, Int.emod_nonneg _ (by omega), Int.emod_lt_of_pos _ (by omega), by rw [left0_hld ok hi d0 d1]; exact decide_eq_true e1, by rw [left0_hld ok hj d0 d1]; exact decide_eq_true e2⟩
      rw [h] at this
      cases this
  · intro h
    cases hc : mtB n (arcAt as i) (arcAt as j) with
    | false => rfl
    | true =>
      obtain ⟨y, y0, y1, h1, h2⟩ := hm.mp hc
      have d0 := Int.emod_nonneg (y - x) (show n ≠ 0 by omega)
      have d1 := Int.emod_lt_of_pos (y - x) (show 0 < n by omega)
      have eb : (x + (y - x) % n) % n = y := by
        rw [Int.add_emod_emod]
        have : x + (y - x) = y := by omega
        rw [this]
        exact Int.emod_eq_of_lt y0 y1
      have g1 := left0_hld ok hi d0 d1
      have g2 := left0_hld ok hj d0 d1
      rw [eb, h1] at g1
      rw [eb, h2] at g2
      have g1 := of_decide_eq_true g1.symm
      have g2 := of_decide_eq_true g2.symm
      omega
/-- what lies in a row is apart -/
theorem chain_apt {S : List Nat} {last : Int} (ok : RingOk n as) (hS : ∀ k ∈ S, k ∈ left0 n as x) (h : ChP last (S.map (ivK n as x))) : Apt n as S := by
  refine ⟨fun k hk => (mem_left0.mp (hS k hk)).1, ?_⟩
  have hp := ChP.pair (fun i hi => by
    obtain ⟨k, hk, rfl⟩ := List.mem_map.mp hi
    exact (left0_rng ok (hS k hk)).2.1) h
  rw [List.pairwise_map] at hp
  exact List.Pairwise.imp_of_mem (fun {i j} hi hj hh => (meet_line ok (hS i hi) (hS j hj)).mpr (.inl hh)) hp
/-- what is apart can be put in a row -/
theorem apt_chain {S : List Nat} (ok : RingOk n as) (hS : ∀ k ∈ S, k ∈ left0 n as x) (h : Apt n as S) : ∃ S' : List Nat, S'.Perm S ∧ ChP 0 (S'.map (ivK n as x)) := by
  refine ⟨S.mergeSort fun i j => decide (bI n as x i ≤ bI n as x j), List.mergeSort_perm _ _, ?_⟩
  have hs := List.pairwise_mergeSort (le := fun i j => decide (bI n as x i ≤ bI n as x j)) (fun a b c h1 h2 => by simp at h1 h2 ⊢; omega) (fun a b => by simp; omega) S
  have hp : (S.mergeSort fun i j => decide (bI n as x i ≤ bI n as x j)).Perm S := List.mergeSort_perm _ _
  generalize (S.mergeSort fun i j => decide (bI n as x i ≤ bI n as x j)) = S' at hs hp
  have h' := h.perm hp.symm
  have hS' : ∀ k ∈ S', k ∈ left0 n as x := fun k hk => hS k (hp.mem_iff.mp hk)
  refine ChP.of_pair (fun i hi => ?_) ?_
  · obtain ⟨k, hk, rfl⟩ := List.mem_map.mp hi
    have := left0_rng ok (hS' k hk)
    show 0 < bI n as x k
    omega
  · rw [List.pairwise_map]
    have := List.pairwise_and_iff.mpr ⟨hs, h'.2⟩
    refine List.Pairwise.imp_of_mem (fun {i j} hi hj hh => ?_) this
    have h1 := of_decide_eq_true hh.1
    have ri := left0_rng ok (hS' i hi)
    have rj := left0_rng ok (hS' j hj)
    rcases (meet_line ok (hS' i hi) (hS' j hj)).mp hh.2 with h | h
    · exact h
    · omega
theorem chain_idx {L : List Nat} {g : Nat → Int × Int} : ∀ {c : List (Int × Int)}, (∀ i ∈ c, i ∈ L.map g) → ∃ S : List Nat, (∀ k ∈ S, k ∈ L) ∧ c = S.map g
  | [], _ => ⟨[], (fun _ h => nomatch h), rfl⟩
  | i :: c, h => by
    obtain ⟨S, h1, rfl⟩ := chain_idx (c := c) fun j hj => h j (List.mem_cons_of_mem _ hj)
    obtain ⟨k, hk, rfl⟩ := List.mem_map.mp (h i List.mem_cons_self)
    exact ⟨k :: S, fun j hj => by rcases List.mem_cons.mp hj with rfl | hj; exact hk; exact h1 j hj, rfl⟩
theorem most_at {k f : Nat} (ok : RingOk n as) (hk : k < as.length) (hx : 0 ≤ x ∧ x < n) (hh : hld n (arcAt as k) x = true) (hm : IsMost ((besL n as k).map (ivK n as x)) 0 f) :
    (∃ S, Apt n as (k :: S) ∧ S.length = f) ∧ ∀ S, Apt n as S → k ∈ S → S.length ≤ f + 1 := by
  have hb : ∀ j ∈ besL n as k, j ∈ left0 n as x := fun j hj => bes_left ok hk hx hh hj
  constructor
  · obtain ⟨c, h1, h2, h3⟩ := hm.ex
    obtain ⟨S, g1, rfl⟩ := chain_idx h1
    have ha := chain_apt ok (fun j hj => hb j (g1 j hj)) h2
    refine ⟨S, ⟨fun j hj => ?_, ?_⟩, by rw [List.length_map] at h3; exact h3⟩
    · rcases List.mem_cons.mp hj with rfl | hj
      · exact hk
      · exact ha.1 j hj
    · rw [List.pairwise_cons]
      refine ⟨fun j hj => ?_, ha.2⟩
      rw [mtB_comm]
      exact (mem_besL.mp (g1 j hj)).2
  · intro S hS hkS
    have hn := hS.nodup ok
    have hp : (k :: S.erase k).Perm S := (List.perm_cons_erase hkS).symm
    have h' := hS.perm hp.symm
    have h2 := List.pairwise_cons.mp h'.2
    have hT : ∀ j ∈ S.erase k, j ∈ besL n as k := fun j hj => mem_besL.mpr ⟨h'.1 j (List.mem_cons_of_mem _ hj), by rw [mtB_comm]; exact h2.1 j hj⟩
    have hA : Apt n as (S.erase k) := ⟨fun j hj => h'.1 j (List.mem_cons_of_mem _ hj), h2.2⟩
    obtain ⟨T, p1, p2⟩ := apt_chain ok (fun j hj => hb j (hT j hj)) hA
    have := hm.le _ (fun i hi => by
      obtain ⟨j, hj, rfl⟩ := List.mem_map.mp hi
      exact List.mem_map.mpr ⟨j, hT j (p1.mem_iff.mp hj), rfl⟩) p2
    rw [List.length_map, p1.length_eq] at this
    rw [← hp.length_eq, List.length_cons]
    omega
/-- the greatest over all arcs -/
theorem most_of {m : Nat} (ok : RingOk n as) (h0 : m = 0 → as = []) (hle : ∀ k < as.length, ∃ f x, (0 ≤ x ∧ x < n) ∧ hld n (arcAt as k) x = true ∧ IsMost ((besL n as k).map (ivK n as x)) 0 f ∧ f + 1 ≤ m)
    (hex : m ≠ 0 → ∃ k < as.length, ∃ f x, (0 ≤ x ∧ x < n) ∧ hld n (arcAt as k) x = true ∧ IsMost ((besL n as k).map (ivK n as x)) 0 f ∧ m = f + 1) : Most n as m where
  ex := by
    by_cases h : m = 0
    · exact ⟨[], ⟨(fun _ h => nomatch h), List.Pairwise.nil⟩, h.symm⟩
    · obtain ⟨k, hk, f, x, hx, hh, hm, rfl⟩ := hex h
      obtain ⟨S, h1, h2⟩ := (most_at ok hk hx hh hm).1
      exact ⟨k :: S, h1, by rw [List.length_cons, h2]⟩
  le := fun S hS => by
    cases S with
    | nil => exact Nat.zero_le _
    | cons k S =>
      have hk := hS.1 k List.mem_cons_self
      obtain ⟨f, x, hx, hh, hm, hf⟩ := hle k hk
      have := (most_at ok hk hx hh hm).2 _ hS List.mem_cons_self
      omega
end
end Ac
namespace Ac
open PySem PySem.Spec PyProof.Rows L2
/-! ### pairs in order -/
theorem lex_unique : ∀ {xs ys : List (Int × Int)}, xs.Perm ys → xs.Pairwise lexLe → ys.Pairwise lexLe → xs = ys
  | [], ys, p, _, _ => by rw [List.nil_perm.mp p]
  | x :: r, [], p, _, _ => absurd p.length_eq (by simp)
  | x :: r, y :: s, p, hx, hy => by
    rw [List.pairwise_cons] at hx hy
    have e : x = y := by
      have h1 : x ∈ y :: s := p.mem_iff.mp List.mem_cons_self
      have h2 : y ∈ x :: r := p.mem_iff.mpr List.mem_cons_self
      have rf : ∀ z : Int × Int, lexLe z z := fun z => .inr ⟨rfl, Int.le_refl _⟩
      have a1 : lexLe y x := by
        cases h1 with
        | head => exact rf _
        | tail _ h => exact hy.1 x h
      have a2 : lexLe x y := by
        cases h2 with
        | head => exact rf _
        | tail _ h => exact hx.1 y h
      unfold lexLe at a1 a2
      exact Prod.ext (by omega) (by omega)
    subst e
    rw [lex_unique (List.perm_cons x |>.mp p) hx.2 hy.2]
def lexB (p q : Int × Int) : Bool := decide (p.1 < q.1 ∨ (p.1 = q.1 ∧ p.2 ≤ q.2))
def srtP (l : List (Int × Int)) : List (Int × Int) := l.mergeSort lexB
theorem srtP_perm {l : List (Int × Int)} : (srtP l).Perm l := List.mergeSort_perm _ _
theorem srtP_le {l : List (Int × Int)} : (srtP l).Pairwise lexLe := by
  have := List.pairwise_mergeSort (le := lexB) (fun a b c h1 h2 => by unfold lexB at *; simp at h1 h2 ⊢; omega) (fun a b => by unfold lexB; simp; omega) l
  exact this.imp fun h => of_decide_eq_true h
theorem srtP_uniq {l s : List (Int × Int)} (h1 : s.Perm l) (h2 : s.Pairwise lexLe) : s = srtP l := lex_unique (h1.trans srtP_perm.symm) h2 srtP_le
/-! ### end_behind, first_ends -/
def Send_behind : Summ := Summ.cond fun ds => match ds with
  | [.int n, .tuple [.int s, .int m], .int x] => some (0 < n, .inl (.dat (.int ((s - x) % n + m - 1))))
  | _ => none
def trend_behind : Sms Unit :=
  (.cons (.one (.ret (.op .Sub (.op .Add (.op .Mod (.op .Sub (.ix (.var 1) (.int 0)) (.var 2)) (.var 0)) (.ix (.var 1) (.int 1))) (.int 1))))
    .nil)

@[simp] theorem run_end_behind {n s m x : Int} {Q : Val → Prop} {Y : Nat → Prop} : Send_behind.run [.int n, .tuple [.int s, .int m], .int x] Q Y = (0 < n ∧ Q (.dat (.int ((s - x) % n + m - 1)))) := rfl
theorem w_end_behind : WOk Send_behind 3 3 trend_behind := WOk.cond fun ds p r e => by
  split at e
  · cases e
    refine ⟨rfl, fun hp Q Y h => ?_⟩
    unfold trend_behind
    simp only [wSs, wS, w1, wT, wE, wA, wX, wV, wP, wC, opn, rdO_d, rdO_o, asD_d, asD_n, KQY, entry, look, put, slotV, argsOk, frzA, frzV, sv_i, sv_b, sv_s, sv_0, sv_l, sv_t, sv_d, sv_n, List.map, List.length, List.replicate, List.cons_append, List.nil_append, Nat.sub_self, biD, isD_1, boolD_b, cmpD, relD_i, opD, addD_i, addD_l, subD_i, intD_i, lenD_l, lenD_t, listD_l, listD_t, tupleD_l, int2D_i, absD_i, toIntD_i, toIntD_b, eqD_i, eqD_b, eqD_s, rngD_1, rngD_2, seqD_l, seqD_t, lstD_l, ixX_l, ixX_t, negX_i, slX_l, rvX_l, repX_i, intX_i, ixD_0, ixD_1, ixD_2, true_and, and_true, ite_self]
    exact ⟨hp, h⟩
  · cases e
def feO (n : Int) (as : List (Int × Int)) (x : Int) (ss : List Nat) : List Nat := (srtP (ss.map fun k => (eI n as x k, ((k : Nat) : Int)))).map fun p => p.2.toNat
def feL (n : Int) (as : List (Int × Int)) (x : Int) (ss : List Nat) : List Nat := gre (bI n as x) (eI n as x) 0 (feO n as x ss)
theorem feO_perm {n x : Int} {as : List (Int × Int)} {ss : List Nat} : (feO n as x ss).Perm ss := by
  unfold feO
  have := (srtP_perm (l := ss.map fun k => (eI n as x k, ((k : Nat) : Int)))).map fun p => p.2.toNat
  rw [List.map_map] at this
  have e : ((fun p : Int × Int => p.2.toNat) ∘ fun k : Nat => (eI n as x k, ((k : Nat) : Int))) = id := by funext k; simp
  rw [e, List.map_id] at this
  exact this
theorem feO_sort {n x : Int} {as : List (Int × Int)} {ss : List Nat} : (feO n as x ss).Pairwise fun j k => eI n as x j ≤ eI n as x k := by
  unfold feO
  rw [List.pairwise_map]
  refine List.Pairwise.imp_of_mem (fun {p q} hp hq h => ?_) srtP_le
  have h1 := srtP_perm.mem_iff.mp hp
  have h2 := srtP_perm.mem_iff.mp hq
  obtain ⟨j, _, rfl⟩ := List.mem_map.mp h1
  obtain ⟨k, _, rfl⟩ := List.mem_map.mp h2
  have h' : lexLe (eI n as x j, ((j : Nat) : Int)) (eI n as x k, ((k : Nat) : Int)) := h
  unfold lexLe at h'
  dsimp only at h'
  simp only [Int.toNat_natCast]
  omega
def Sfirst_ends : Summ where
  run ds Q _ := ∃ (n : Int) (as : List (Int × Int)) (x : Int) (ss : List Nat), ds = [ringD n as, .int x, .list (ss.map natD)] ∧ RingOk n as ∧ (∀ k ∈ ss, k < as.length) ∧ ss.length ≤ 20 ∧ Q (.new ((feL n as x ss).map natD))
  mono := fun h1 _ ⟨n, as, x, ss, e, ok, hs, hl, q⟩ => ⟨n, as, x, ss, e, ok, hs, hl, h1 _ q⟩
theorem call_first_ends {n x : Int} {as : List (Int × Int)} {ss : List Nat} {Q : Val → Prop} {Y : Nat → Prop} (ok : RingOk n as) (hs : ∀ k ∈ ss, k < as.length) (hl : ss.length ≤ 20) (h : Q (.new ((feL n as x ss).map natD))) : Sfirst_ends.run [ringD n as, .int x, .list (ss.map natD)] Q Y := ⟨n, as, x, ss, rfl, ok, hs, hl, h⟩
def trfirst_ends_e1 : E Unit :=
  (.tp (.cons (.call "end_behind" Send_behind (.cons (.var 3) (.cons (.ix (.var 4) (.var 8)) (.cons (.var 1) .nil)))) (.cons (.var 8) .nil)))
def trfirst_ends_b1 : Sms Unit :=
  (.cons (.ite (.cmp .GtE (.op .Sub (.var 7) (.ix (.ix (.var 4) (.var 8)) (.int 1))) (.var 6))
    (.cons (.one (.app 5 (.var 8)))
    (.cons (.one (.asg 6 (.var 7)))
    .nil))
    .nil)
    .nil)
def trfirst_ends : Sms Unit :=
  (.cons (.one (.asgT [3, 4] (.var 0)))
    (.cons (.one (.asg 5 (.ls .nil)))
    (.cons (.one (.asg 6 (.int 0)))
    (.cons (.for (.tp [7, 8]) (.seq (.bi .sortP (.cons (.comp [8] (.nm 8) (.seq (.var 2)) .nil trfirst_ends_e1) .nil)))
    trfirst_ends_b1)
    (.cons (.one (.ret (.var 5)))
    .nil)))))

theorem arcAt_it {as : List (Int × Int)} {i : Nat} (hi : i < as.length) : (as.map arcD)[i]? = some (arcD (arcAt as i)) := by rw [arc_item hi, arcAt_eq hi]
theorem w_first_ends : WOk Sfirst_ends 3 9 trfirst_ends := fun ds Q Y h => by
  obtain ⟨n, as, x, some', rfl, ok, hs, hl, h⟩ := h
  refine ⟨rfl, ?_⟩
  have n1 := ok.n1
  unfold trfirst_ends
  simp only [wSs, wS, w1, wT, wE, wA, wX, wV, wP, wC, opn, rdO_d, rdO_o, asD_d, asD_n, KQY, entry, look, put, slotV, argsOk, frzA, frzV, sv_i, sv_b, sv_s, sv_0, sv_l, sv_t, sv_d, sv_n, List.map, List.length, List.replicate, List.cons_append, List.nil_append, Nat.sub_self, biD, isD_1, boolD_b, cmpD, relD_i, opD, addD_i, addD_l, subD_i, intD_i, lenD_l, lenD_t, listD_l, listD_t, tupleD_l, int2D_i, absD_i, toIntD_i, toIntD_b, eqD_i, eqD_b, eqD_s, rngD_1, rngD_2, seqD_l, seqD_t, lstD_l, ixX_l, ixX_t, negX_i, slX_l, rvX_l, repX_i, intX_i, ixD_0, ixD_1, ixD_2, true_and, and_true, ite_self, ringD, putAll, wJ, wI, wipeG, backG]
  refine ⟨by unfold big; decide, by rw [List.length_map]; unfold big; omega, ?_⟩
  refine cLoop_mp (g := natD) (q := fun k => some (pairD (eI n as x k, ((k : Nat) : Int)))) _ [] ?_ ?_
  · intro k hk k' hk'
    unfold trfirst_ends_e1
    simp only [bindT, natD, wSs, wS, w1, wT, wE, wA, wX, wV, wP, wC, opn, rdO_d, rdO_o, asD_d, asD_n, KQY, entry, look, put, slotV, argsOk, frzA, frzV, sv_i, sv_b, sv_s, sv_0, sv_l, sv_t, sv_d, sv_n, List.map, List.length, List.replicate, List.cons_append, List.nil_append, Nat.sub_self, biD, isD_1, boolD_b, cmpD, relD_i, opD, addD_i, addD_l, subD_i, intD_i, lenD_l, lenD_t, listD_l, listD_t, tupleD_l, int2D_i, absD_i, toIntD_i, toIntD_b, eqD_i, eqD_b, eqD_s, rngD_1, rngD_2, seqD_l, seqD_t, lstD_l, ixX_l, ixX_t, negX_i, slX_l, rvX_l, repX_i, intX_i, ixD_0, ixD_1, ixD_2, true_and, and_true, ite_self]
    rw [ixD_nat (j := k) rfl (arcAt_it (hs k hk))]
    simp only [arcD, run_end_behind, wSs, wS, w1, wT, wE, wA, wX, wV, wP, wC, opn, rdO_d, rdO_o, asD_d, asD_n, KQY, entry, look, put, slotV, argsOk, frzA, frzV, sv_i, sv_b, sv_s, sv_0, sv_l, sv_t, sv_d, sv_n, List.map, List.length, List.replicate, List.cons_append, List.nil_append, Nat.sub_self, biD, isD_1, boolD_b, cmpD, relD_i, opD, addD_i, addD_l, subD_i, intD_i, lenD_l, lenD_t, listD_l, listD_t, tupleD_l, int2D_i, absD_i, toIntD_i, toIntD_b, eqD_i, eqD_b, eqD_s, rngD_1, rngD_2, seqD_l, seqD_t, lstD_l, ixX_l, ixX_t, negX_i, slX_l, rvX_l, repX_i, intX_i, ixD_0, ixD_1, ixD_2, true_and, and_true, ite_self, if_true]
    exact ⟨by omega, by unfold big; decide, hk'⟩
  · rw [List.nil_append, fm_all]
    have e0 : (some'.map fun k => pairD (eI n as x k, ((k : Nat) : Int))) = (some'.map fun k => (eI n as x k, ((k : Nat) : Int))).map pairD := by rw [List.map_map]; rfl
    rw [e0]
    try simp only [wSs, wS, w1, wT, wE, wA, wX, wV, wP, wC, opn, rdO_d, rdO_o, asD_d, asD_n, KQY, entry, look, put, slotV, argsOk, frzA, frzV, sv_i, sv_b, sv_s, sv_0, sv_l, sv_t, sv_d, sv_n, List.map, List.length, List.replicate, List.cons_append, List.nil_append, Nat.sub_self, biD, isD_1, boolD_b, cmpD, relD_i, opD, addD_i, addD_l, subD_i, intD_i, lenD_l, lenD_t, listD_l, listD_t, tupleD_l, int2D_i, absD_i, toIntD_i, toIntD_b, eqD_i, eqD_b, eqD_s, rngD_1, rngD_2, seqD_l, seqD_t, lstD_l, ixX_l, ixX_t, negX_i, slX_l, rvX_l, repX_i, intX_i, ixD_0, ixD_1, ixD_2, true_and, and_true, ite_self, Bool.false_eq_true, if_false, if_true, Bool.not_true, Bool.not_false, ixR0, ixR1, sv_r]
    simp only [sortPD]
    refine ⟨_, pairsD_map _, fun ps p1 p2 => ?_⟩
    rw [srtP_uniq p1 p2]
    try simp only [wSs, wS, w1, wT, wE, wA, wX, wV, wP, wC, opn, rdO_d, rdO_o, asD_d, asD_n, KQY, entry, look, put, slotV, argsOk, frzA, frzV, sv_i, sv_b, sv_s, sv_0, sv_l, sv_t, sv_d, sv_n, List.map, List.length, List.replicate, List.cons_append, List.nil_append, Nat.sub_self, biD, isD_1, boolD_b, cmpD, relD_i, opD, addD_i, addD_l, subD_i, intD_i, lenD_l, lenD_t, listD_l, listD_t, tupleD_l, int2D_i, absD_i, toIntD_i, toIntD_b, eqD_i, eqD_b, eqD_s, rngD_1, rngD_2, seqD_l, seqD_t, lstD_l, ixX_l, ixX_t, negX_i, slX_l, rvX_l, repX_i, intX_i, ixD_0, ixD_1, ixD_2, true_and, and_true, ite_self, Bool.false_eq_true, if_false, if_true, Bool.not_true, Bool.not_false, ixR0, ixR1, sv_r]
    refine ⟨by rw [List.length_map, srtP_perm.length_eq, List.length_map]; unfold big; omega, ?_⟩
    have hps : ∀ p ∈ srtP (some'.map fun k => (eI n as x k, ((k : Nat) : Int))), ∃ k, k < as.length ∧ p = (eI n as x k, ((k : Nat) : Int)) := fun p hp => by
      obtain ⟨k, hk, rfl⟩ := List.mem_map.mp (srtP_perm.mem_iff.mp hp)
      exact ⟨k, hs k hk, rfl⟩
    have hlp : (srtP (some'.map fun k => (eI n as x k, ((k : Nat) : Int)))).length ≤ 20 := by rw [srtP_perm.length_eq, List.length_map]; exact hl
    have hfe : feL n as x some' = gre (bI n as x) (eI n as x) 0 ((srtP (some'.map fun k => (eI n as x k, ((k : Nat) : Int)))).map fun p => p.2.toNat) := rfl
    generalize srtP (some'.map fun k => (eI n as x k, ((k : Nat) : Int))) = ps at hps hlp hfe
    refine fLoop_mp (g := pairD) (fun done rest Γ _ => ∃ (acc : List Nat) (last : Int) (x7 x8 : Option Val), Γ = [some (.dat (ringD n as)), some (.dat (.int x)), some (.dat (.list (some'.map natD))), some (.dat (.int n)), some (.dat (.list (as.map arcD))), some (.own (acc.map natD)), some (.dat (.int last)), x7, x8] ∧ acc ++ gre (bI n as x) (eI n as x) last (rest.map fun p => p.2.toNat) = feL n as x some' ∧ acc.length + rest.length ≤ 20 ∧ ∀ p ∈ rest, p ∈ ps) ?_ ?_ _ [] _ _ ⟨[], 0, _, _, rfl, hfe.symm, by simpa using hlp, fun p hp => hp⟩
    · rintro done Γ u ⟨acc, last, x7, x8, rfl, ha, _, _⟩
      try simp only [wSs, wS, w1, wT, wE, wA, wX, wV, wP, wC, opn, rdO_d, rdO_o, asD_d, asD_n, KQY, entry, look, put, slotV, argsOk, frzA, frzV, sv_i, sv_b, sv_s, sv_0, sv_l, sv_t, sv_d, sv_n, List.map, List.length, List.replicate, List.cons_append, List.nil_append, Nat.sub_self, biD, isD_1, boolD_b, cmpD, relD_i, opD, addD_i, addD_l, subD_i, intD_i, lenD_l, lenD_t, listD_l, listD_t, tupleD_l, int2D_i, absD_i, toIntD_i, toIntD_b, eqD_i, eqD_b, eqD_s, rngD_1, rngD_2, seqD_l, seqD_t, lstD_l, ixX_l, ixX_t, negX_i, slX_l, rvX_l, repX_i, intX_i, ixD_0, ixD_1, ixD_2, true_and, and_true, ite_self, Bool.false_eq_true, if_false, if_true, Bool.not_true, Bool.not_false, ixR0, ixR1, sv_r]
      rw [List.map_nil] at ha
      have ha' : acc = feL n as x some' := by simpa [gre] using ha
      rw [ha']
      exact h
    · rintro done p r Γ u K' ⟨acc, last, x7, x8, rfl, ha, hlen, hm⟩ hnx hct hbk hrt hex
      obtain ⟨k, hk, rfl⟩ := hps p (hm p List.mem_cons_self)
      rw [List.length_cons] at hlen
      rw [List.map_cons] at ha
      unfold gre at ha
      simp only [Int.toNat_natCast] at ha
      unfold trfirst_ends_b1
      simp only [bindT, pairD, putAll, wSs, wS, w1, wT, wE, wA, wX, wV, wP, wC, opn, rdO_d, rdO_o, asD_d, asD_n, KQY, entry, look, put, slotV, argsOk, frzA, frzV, sv_i, sv_b, sv_s, sv_0, sv_l, sv_t, sv_d, sv_n, List.map, List.length, List.replicate, List.cons_append, List.nil_append, Nat.sub_self, biD, isD_1, boolD_b, cmpD, relD_i, opD, addD_i, addD_l, subD_i, intD_i, lenD_l, lenD_t, listD_l, listD_t, tupleD_l, int2D_i, absD_i, toIntD_i, toIntD_b, eqD_i, eqD_b, eqD_s, rngD_1, rngD_2, seqD_l, seqD_t, lstD_l, ixX_l, ixX_t, negX_i, slX_l, rvX_l, repX_i, intX_i, ixD_0, ixD_1, ixD_2, true_and, and_true, ite_self]
      rw [ixD_nat (j := k) rfl (arcAt_it hk)]
      simp only [arcD, wSs, wS, w1, wT, wE, wA, wX, wV, wP, wC, opn, rdO_d, rdO_o, asD_d, asD_n, KQY, entry, look, put, slotV, argsOk, frzA, frzV, sv_i, sv_b, sv_s, sv_0, sv_l, sv_t, sv_d, sv_n, List.map, List.length, List.replicate, List.cons_append, List.nil_append, Nat.sub_self, biD, isD_1, boolD_b, cmpD, relD_i, opD, addD_i, addD_l, subD_i, intD_i, lenD_l, lenD_t, listD_l, listD_t, tupleD_l, int2D_i, absD_i, toIntD_i, toIntD_b, eqD_i, eqD_b, eqD_s, rngD_1, rngD_2, seqD_l, seqD_t, lstD_l, ixX_l, ixX_t, negX_i, slX_l, rvX_l, repX_i, intX_i, ixD_0, ixD_1, ixD_2, true_and, and_true, ite_self]
      have hb : eI n as x k - (arcAt as k).2 = bI n as x k - 1 := by unfold eI bI; omega
      rw [hb]
      by_cases hc : last < bI n as x k
      · rw [if_pos hc] at ha
        have hc' : last ≤ bI n as x k - 1 := by omega
        simp only [hc', decide_true, if_true]
        refine ⟨by rw [List.length_map]; unfold big; omega, ?_⟩
        refine hnx _ _ ⟨acc ++ [k], eI n as x k, some (.dat (.int (eI n as x k))), some (.dat (natD k)), ?_, ?_, ?_, fun q hq => hm q (List.mem_cons_of_mem _ hq)⟩
        · rw [List.map_append]; rfl
        · rw [List.append_assoc]; exact ha
        · rw [List.length_append, List.length_singleton]; omega
      · rw [if_neg hc] at ha
        have hc' : ¬ (last ≤ bI n as x k - 1) := by omega
        simp only [hc', decide_false, Bool.false_eq_true, if_false]
        exact hnx _ _ ⟨acc, last, some (.dat (.int (eI n as x k))), some (.dat (natD k)), rfl, ha, by omega, fun q hq => hm q (List.mem_cons_of_mem _ hq)⟩
/-! ### beside -/
def Sbeside : Summ where
  run ds Q _ := ∃ n as k, ds = [ringD n as, natD k] ∧ RingOk n as ∧ k < as.length ∧ Q (.new ((besL n as k).map natD))
  mono := fun h1 _ ⟨n, as, k, e, ok, hk, q⟩ => ⟨n, as, k, e, ok, hk, h1 _ q⟩
theorem call_beside {n : Int} {as : List (Int × Int)} {k : Nat} {Q : Val → Prop} {Y : Nat → Prop} (ok : RingOk n as) (hk : k < as.length) (h : Q (.new ((besL n as k).map natD))) : Sbeside.run [ringD n as, natD k] Q Y := ⟨n, as, k, rfl, ok, hk, h⟩
def trbeside_c1 : Es Unit :=
  (.cons (.nt (.call "meet" Smeet (.cons (.ix (.var 0) (.int 0)) (.cons (.var 3) (.cons (.ix (.ix (.var 0) (.int 1)) (.var 1)) .nil))))) .nil)
def trbeside : Sms Unit :=
  (.cons (.one (.ret (.comp [2, 3] (.tp [2, 3]) (.enu (.ix (.var 0) (.int 1))) trbeside_c1 (.var 2))))
    .nil)

theorem enum_pick {p : Int × Int → Bool} {as : List (Int × Int)} : (as.zipIdx).filterMap (fun q => if p q.1 = true then some (natD q.2) else none) = ((List.range as.length).filter fun k => p (arcAt as k)).map natD := by
  have h := zip_pick (p := p) as []
  rw [List.nil_append, List.length_nil, ← List.range_eq_range'] at h
  exact h
theorem w_beside : WOk Sbeside 2 4 trbeside := fun ds Q Y h => by
  obtain ⟨n, as, k, rfl, ok, hk, h⟩ := h
  refine ⟨rfl, ?_⟩
  have n1 := ok.n1
  unfold trbeside
  simp only [wSs, wS, w1, wT, wE, wA, wX, wV, wP, wC, opn, rdO_d, rdO_o, asD_d, asD_n, KQY, entry, look, put, slotV, argsOk, frzA, frzV, sv_i, sv_b, sv_s, sv_0, sv_l, sv_t, sv_d, sv_n, List.map, List.length, List.replicate, List.cons_append, List.nil_append, Nat.sub_self, biD, isD_1, boolD_b, cmpD, relD_i, opD, addD_i, addD_l, subD_i, intD_i, lenD_l, lenD_t, listD_l, listD_t, tupleD_l, int2D_i, absD_i, toIntD_i, toIntD_b, eqD_i, eqD_b, eqD_s, rngD_1, rngD_2, seqD_l, seqD_t, lstD_l, ixX_l, ixX_t, negX_i, slX_l, rvX_l, repX_i, intX_i, ixD_0, ixD_1, ixD_2, true_and, and_true, ite_self, ixR0, ixR1, wI, wipeG, backG]
  rw [enumD_map]
  refine ⟨by rw [List.length_map, List.length_zipIdx]; exact big20 ok.len, ?_⟩
  refine cLoop_mp (g := fun q : (Int × Int) × Nat => PyData.tuple [.int (q.2 : Nat), arcD q.1]) (q := fun q => if (!mtB n q.1 (arcAt as k)) = true then some (natD q.2) else none) _ [] ?_ ?_
  · intro q hq k' hk'
    unfold trbeside_c1
    simp only [bindT, putAll, natD, wSs, wS, w1, wT, wE, wA, wX, wV, wP, wC, opn, rdO_d, rdO_o, asD_d, asD_n, KQY, entry, look, put, slotV, argsOk, frzA, frzV, sv_i, sv_b, sv_s, sv_0, sv_l, sv_t, sv_d, sv_n, List.map, List.length, List.replicate, List.cons_append, List.nil_append, Nat.sub_self, biD, isD_1, boolD_b, cmpD, relD_i, opD, addD_i, addD_l, subD_i, intD_i, lenD_l, lenD_t, listD_l, listD_t, tupleD_l, int2D_i, absD_i, toIntD_i, toIntD_b, eqD_i, eqD_b, eqD_s, rngD_1, rngD_2, seqD_l, seqD_t, lstD_l, ixX_l, ixX_t, negX_i, slX_l, rvX_l, repX_i, intX_i, ixD_0, ixD_1, ixD_2, true_and, and_true, ite_self, ixR0, ixR1]
    rw [ixD_nat (j := k) rfl (arcAt_it hk)]
    simp only [arcD, run_meet, wSs, wS, w1, wT, wE, wA, wX, wV, wP, wC, opn, rdO_d, rdO_o, asD_d, asD_n, KQY, entry, look, put, slotV, argsOk, frzA, frzV, sv_i, sv_b, sv_s, sv_0, sv_l, sv_t, sv_d, sv_n, List.map, List.length, List.replicate, List.cons_append, List.nil_append, Nat.sub_self, biD, isD_1, boolD_b, cmpD, relD_i, opD, addD_i, addD_l, subD_i, intD_i, lenD_l, lenD_t, listD_l, listD_t, tupleD_l, int2D_i, absD_i, toIntD_i, toIntD_b, eqD_i, eqD_b, eqD_s, rngD_1, rngD_2, seqD_l, seqD_t, lstD_l, ixX_l, ixX_t, negX_i, slX_l, rvX_l, repX_i, intX_i, ixD_0, ixD_1, ixD_2, true_and, and_true, ite_self]
    refine ⟨by omega, ?_⟩
    have hk2 : k' (if (!mtB n (q.1.1, q.1.2) ((arcAt as k).1, (arcAt as k).2)) = true then some (natD q.2) else none) _ _ := hk'
    cases hc : mtB n (q.1.1, q.1.2) ((arcAt as k).1, (arcAt as k).2) with
    | true =>
      rw [hc] at hk2
      simp only [Bool.not_true, Bool.false_eq_true, if_false] at hk2 ⊢
      exact hk2
    | false =>
      rw [hc] at hk2
      simp only [Bool.not_false, if_true] at hk2 ⊢
      exact hk2
  · rw [List.nil_append, enum_pick (p := fun a => !mtB n a (arcAt as k))]
    exact h
theorem besL_len {n : Int} {as : List (Int × Int)} {k : Nat} : (besL n as k).length ≤ as.length := by
  unfold besL
  exact Nat.le_trans (List.length_filter_le _ _) (by rw [List.length_range]; exact Nat.le_refl _)
/-! ### most_apart -/
def endP (n : Int) (as : List (Int × Int)) (k : Nat) : Int := ((arcAt as k).1 + (arcAt as k).2 - 1) % n
def apK (n : Int) (as : List (Int × Int)) (k : Nat) : List Nat := k :: feL n as (endP n as k) (besL n as k)
def bstM : List Nat → List (List Nat) → List Nat
  | b, [] => b
  | b, l :: r => if b.length < l.length then bstM l r else bstM b r
theorem bstM_ok : ∀ (ls : List (List Nat)) (b : List Nat), (bstM b ls = b ∨ bstM b ls ∈ ls) ∧ b.length ≤ (bstM b ls).length ∧ ∀ l ∈ ls, l.length ≤ (bstM b ls).length
  | [], b => ⟨.inl rfl, Nat.le_refl _, fun _ h => nomatch h⟩
  | l :: ls, b => by
    unfold bstM
    by_cases hc : b.length < l.length
    · rw [if_pos hc]
      obtain ⟨h1, h2, h3⟩ := bstM_ok ls l
      refine ⟨.inr (h1.elim (fun e => by rw [e]; exact List.mem_cons_self) fun h => List.mem_cons_of_mem _ h), by omega, fun k hk => ?_⟩
      rcases List.mem_cons.mp hk with rfl | hk
      · exact h2
      · exact h3 k hk
    · rw [if_neg hc]
      obtain ⟨h1, h2, h3⟩ := bstM_ok ls b
      refine ⟨h1.elim .inl fun h => .inr (List.mem_cons_of_mem _ h), h2, fun k hk => ?_⟩
      rcases List.mem_cons.mp hk with rfl | hk
      · omega
      · exact h3 k hk
def natI (l : List Nat) : List Int := l.map fun k : Nat => (k : Int)
def maB (n : Int) (as : List (Int × Int)) : List Nat := bstM [] ((List.range as.length).map (apK n as))
def maL (n : Int) (as : List (Int × Int)) : List Int := srt (natI (maB n as))
section
variable {n : Int} {as : List (Int × Int)}
theorem end_rng (ok : RingOk n as) {k : Nat} : 0 ≤ endP n as k ∧ endP n as k < n := by
  have := ok.n1
  exact ⟨Int.emod_nonneg _ (by omega), Int.emod_lt_of_pos _ (by omega)⟩
theorem end_hld (ok : RingOk n as) {k : Nat} (hk : k < as.length) : hld n (arcAt as k) (endP n as k) = true := by
  have n1 := ok.n1
  have ha := ok.at hk
  have h3 := ha.2.2.1
  have h4 := ha.2.2.2
  unfold hld endP
  rw [decide_eq_true_eq, Int.emod_sub_emod]
  have e : (arcAt as k).1 + (arcAt as k).2 - 1 - (arcAt as k).1 = (arcAt as k).2 - 1 := by omega
  rw [e, Int.emod_eq_of_lt (by omega) (by omega)]
  omega
theorem fe_mem {x : Int} {ss : List Nat} {k : Nat} (h : k ∈ feL n as x ss) : k ∈ ss := feO_perm.mem_iff.mp (gre_mem h)
theorem fe_most {x : Int} {ss : List Nat} (ok : RingOk n as) (hs : ∀ k ∈ ss, k ∈ left0 n as x) : IsMost (ss.map (ivK n as x)) 0 (feL n as x ss).length := by
  have h1 := gre_most (b := bI n as x) (e := eI n as x) (L := feO n as x ss) (last := 0) (fun k hk => (left0_rng ok (hs k (feO_perm.mem_iff.mp hk))).2.1) feO_sort
  exact h1.congr fun i => (feO_perm.map (ivK n as x)).mem_iff
theorem fe_apt {x : Int} {ss : List Nat} (ok : RingOk n as) (hs : ∀ k ∈ ss, k ∈ left0 n as x) : Apt n as (feL n as x ss) :=
  chain_apt (x := x) (last := 0) ok (fun k hk => hs k (fe_mem hk)) gre_chain
theorem bes_end (ok : RingOk n as) {k : Nat} (hk : k < as.length) : ∀ j ∈ besL n as k, j ∈ left0 n as (endP n as k) := fun j hj => bes_left ok hk (end_rng ok) (end_hld ok hk) hj
theorem apK_apt (ok : RingOk n as) {k : Nat} (hk : k < as.length) : Apt n as (apK n as k) := by
  have h := fe_apt ok (bes_end ok hk)
  refine ⟨fun j hj => ?_, ?_⟩
  · rcases List.mem_cons.mp hj with rfl | hj
    · exact hk
    · exact h.1 j hj
  · unfold apK
    rw [List.pairwise_cons]
    refine ⟨fun j hj => ?_, h.2⟩
    rw [mtB_comm]
    exact (mem_besL.mp (fe_mem hj)).2
theorem maB_ok (ok : RingOk n as) : Most n as (maB n as).length ∧ Apt n as (maB n as) := by
  obtain ⟨h1, h2, h3⟩ := bstM_ok ((List.range as.length).map (apK n as)) []
  have ha : Apt n as (maB n as) := by
    rcases h1 with h1 | h1
    · have e : maB n as = [] := h1
      rw [e]
      exact ⟨(fun _ h => nomatch h), List.Pairwise.nil⟩
    · obtain ⟨k, hk, e⟩ := List.mem_map.mp h1
      have e : maB n as = apK n as k := e.symm
      rw [e]
      exact apK_apt ok (List.mem_range.mp hk)
  refine ⟨most_of ok (fun h0 => ?_) (fun k hk => ?_) fun h0 => ?_, ha⟩
  · cases as with
    | nil => rfl
    | cons a r =>
      have := h3 (apK n (a :: r) 0) (List.mem_map.mpr ⟨0, List.mem_range.mpr (by simp), rfl⟩)
      have e : (maB n (a :: r)).length = 0 := h0
      unfold maB at e
      rw [e] at this
      unfold apK at this
      rw [List.length_cons] at this
      omega
  · refine ⟨_, endP n as k, end_rng ok, end_hld ok hk, fe_most ok (bes_end ok hk), ?_⟩
    have := h3 (apK n as k) (List.mem_map.mpr ⟨k, List.mem_range.mpr hk, rfl⟩)
    unfold apK at this
    rw [List.length_cons] at this
    exact this
  · rcases h1 with h1 | h1
    · have e : maB n as = [] := h1
      rw [e] at h0
      exact absurd rfl h0
    · obtain ⟨k, hk, e⟩ := List.mem_map.mp h1
      have hk := List.mem_range.mp hk
      refine ⟨k, hk, _, endP n as k, end_rng ok, end_hld ok hk, fe_most ok (bes_end ok hk), ?_⟩
      have e : maB n as = apK n as k := e.symm
      rw [e]
      rfl
/-- what most_apart tells -/
theorem maL_ok (ok : RingOk n as) : ∃ ks : List Nat, maL n as = natI ks ∧ ks.Pairwise (· < ·) ∧ Apt n as ks ∧ Most n as ks.length := by
  obtain ⟨h1, h2⟩ := maB_ok ok
  have hnn : ∀ y ∈ maL n as, 0 ≤ y := fun y hy => by
    obtain ⟨k, _, rfl⟩ := List.mem_map.mp (srt_mem.mp hy)
    omega
  have hnat : (natI (maB n as)).map Int.toNat = maB n as := by
    unfold natI
    rw [List.map_map]
    have : (Int.toNat ∘ fun k : Nat => (k : Int)) = id := by funext k; simp
    rw [this, List.map_id]
  have hp : ((maL n as).map Int.toNat).Perm (maB n as) := by
    have := (srt_perm (l := natI (maB n as))).map Int.toNat
    rw [hnat] at this
    exact this
  have e : maL n as = natI ((maL n as).map Int.toNat) := by
    unfold natI
    rw [List.map_map]
    have : (maL n as).map id = (maL n as).map ((fun k : Nat => (k : Int)) ∘ Int.toNat) := List.map_congr_left fun y hy => by
      have := hnn y hy
      show y = ((y.toNat : Nat) : Int)
      omega
    rw [List.map_id] at this
    exact this
  refine ⟨(maL n as).map Int.toNat, e, ?_, h2.perm hp.symm, by rw [hp.length_eq]; exact h1⟩
  have hlt : (maL n as).Pairwise (· < ·) := srt_lt (by
    unfold natI
    rw [List.Nodup, List.pairwise_map]
    exact (h2.nodup ok).imp fun h e => h (by omega))
  rw [List.pairwise_map]
  refine List.Pairwise.imp_of_mem (fun {a b} ha hb hh => ?_) hlt
  have := hnn a ha
  have := hnn b hb
  omega
end
def Fmost_apart : RF where
  run n as ds Q Y := ds = [] ∧ Q (.new ((maL n as).map .int))
  mono := fun h1 h2 q => ⟨q.1, h1 _ q.2⟩
def Smost_apart : Summ := Summ.ring 0 Fmost_apart
theorem call_most_apart {n : Int} {as : List (Int × Int)} {Q : Val → Prop} {Y : Nat → Prop} (ok : RingOk n as) (h : Q (.new ((maL n as).map .int))) : Smost_apart.run [ringD n as] Q Y := ring_ok rfl ok ⟨rfl, h⟩
def trmost_apart_b1 : Sms Unit :=
  (.cons (.one (.asg 4 (.op .Add (.ls (.cons (.var 2) .nil)) (.call "first_ends" Sfirst_ends (.cons (.var 0) (.cons (.op .Mod (.op .Sub (.op .Add (.ix (.var 3) (.int 0)) (.ix (.var 3) (.int 1))) (.int 1)) (.ix (.var 0) (.int 0))) (.cons (.call "beside" Sbeside (.cons (.var 0) (.cons (.var 2) .nil))) .nil)))))))
    (.cons (.ite (.cmp .Gt (.bi .len (.cons (.var 4) .nil)) (.bi .len (.cons (.var 1) .nil)))
    (.cons (.one (.asg 1 (.var 4)))
    .nil)
    .nil)
    .nil))
def trmost_apart : Sms Unit :=
  (.cons (.one (.expr (.call "need_ring" Sneed_ring (.cons (.var 0) .nil))))
    (.cons (.one (.asg 1 (.ls .nil)))
    (.cons (.for (.tp [2, 3]) (.enu (.ix (.var 0) (.int 1)))
    trmost_apart_b1)
    (.cons (.one (.ret (.bi .sorted (.cons (.var 1) .nil))))
    .nil))))

theorem natI_D {ks : List Nat} : ks.map natD = (natI ks).map .int := natD_ints
theorem apK_len {n : Int} {as : List (Int × Int)} {k : Nat} (ok : RingOk n as) (hk : k < as.length) : (apK n as k).length ≤ 20 := by
  have h := apK_apt ok hk
  have := nodup_len (l := apK n as k) (P := List.range as.length) (h.nodup ok) fun j hj => List.mem_range.mpr (h.1 j hj)
  rw [List.length_range] at this
  exact Nat.le_trans this ok.len
theorem most_b1 {n : Int} {as : List (Int × Int)} {k : Nat} {b : List Nat} {x4 x1 : Option Val} {K : Kn Unit} {u : Unit} (ok : RingOk n as) (hk : k < as.length) (hx1 : x1 = some (.own (b.map natD)) ∨ x1 = some (.dat (.list (b.map natD))))
    (hK : ∀ (c : List Nat) (y1 x4 : Option Val), (y1 = some (.own (c.map natD)) ∨ y1 = some (.dat (.list (c.map natD)))) → (∀ r, bstM c r = bstM b (apK n as k :: r)) → K.nx [some (.dat (ringD n as)), y1, some (.dat (natD k)), some (.dat (arcD (arcAt as k))), x4] u) :
    wSs trmost_apart_b1 [some (.dat (ringD n as)), x1, some (.dat (natD k)), some (.dat (arcD (arcAt as k))), x4] u K := by
  have n1 := ok.n1
  have hal := apK_len ok hk
  have hrd : ∀ q : D → Prop, rdO x1 q = q (.list (b.map natD)) := fun q => by rcases hx1 with rfl | rfl <;> rfl
  have hbs : (besL n as k).length ≤ 20 := Nat.le_trans besL_len ok.len
  unfold trmost_apart_b1
  simp only [wSs, wS, w1, wT, wE, wA, wX, wV, wP, wC, opn, rdO_d, rdO_o, asD_d, asD_n, KQY, entry, look, put, slotV, argsOk, frzA, frzV, sv_i, sv_b, sv_s, sv_0, sv_l, sv_t, sv_d, sv_n, List.map, List.length, List.replicate, List.cons_append, List.nil_append, Nat.sub_self, biD, isD_1, boolD_b, cmpD, relD_i, opD, addD_i, addD_l, subD_i, intD_i, lenD_l, lenD_t, listD_l, listD_t, tupleD_l, int2D_i, absD_i, toIntD_i, toIntD_b, eqD_i, eqD_b, eqD_s, rngD_1, rngD_2, seqD_l, seqD_t, lstD_l, ixX_l, ixX_t, negX_i, slX_l, rvX_l, repX_i, intX_i, ixD_0, ixD_1, ixD_2, true_and, and_true, ite_self, ixR0, arcD, hrd]
  refine ⟨by unfold big; decide, by omega, call_beside ok hk ?_⟩
  try simp only [wSs, wS, w1, wT, wE, wA, wX, wV, wP, wC, opn, rdO_d, rdO_o, asD_d, asD_n, KQY, entry, look, put, slotV, argsOk, frzA, frzV, sv_i, sv_b, sv_s, sv_0, sv_l, sv_t, sv_d, sv_n, List.map, List.length, List.replicate, List.cons_append, List.nil_append, Nat.sub_self, biD, isD_1, boolD_b, cmpD, relD_i, opD, addD_i, addD_l, subD_i, intD_i, lenD_l, lenD_t, listD_l, listD_t, tupleD_l, int2D_i, absD_i, toIntD_i, toIntD_b, eqD_i, eqD_b, eqD_s, rngD_1, rngD_2, seqD_l, seqD_t, lstD_l, ixX_l, ixX_t, negX_i, slX_l, rvX_l, repX_i, intX_i, ixD_0, ixD_1, ixD_2, true_and, and_true, ite_self, Bool.false_eq_true, if_false, if_true, Bool.not_true, Bool.not_false, ixR0, ixR1, sv_r]
  refine call_first_ends ok (fun j hj => (mem_besL.mp hj).1) hbs ?_
  try simp only [wSs, wS, w1, wT, wE, wA, wX, wV, wP, wC, opn, rdO_d, rdO_o, asD_d, asD_n, KQY, entry, look, put, slotV, argsOk, frzA, frzV, sv_i, sv_b, sv_s, sv_0, sv_l, sv_t, sv_d, sv_n, List.map, List.length, List.replicate, List.cons_append, List.nil_append, Nat.sub_self, biD, isD_1, boolD_b, cmpD, relD_i, opD, addD_i, addD_l, subD_i, intD_i, lenD_l, lenD_t, listD_l, listD_t, tupleD_l, int2D_i, absD_i, toIntD_i, toIntD_b, eqD_i, eqD_b, eqD_s, rngD_1, rngD_2, seqD_l, seqD_t, lstD_l, ixX_l, ixX_t, negX_i, slX_l, rvX_l, repX_i, intX_i, ixD_0, ixD_1, ixD_2, true_and, and_true, ite_self, Bool.false_eq_true, if_false, if_true, Bool.not_true, Bool.not_false, ixR0, ixR1, sv_r]
  have e1 : PyData.int ((k : Nat) : Int) :: (feL n as (((arcAt as k).1 + (arcAt as k).2 - 1) % n) (besL n as k)).map natD = (apK n as k).map natD := rfl
  have e2 : natD k :: (feL n as (((arcAt as k).1 + (arcAt as k).2 - 1) % n) (besL n as k)).map natD = (apK n as k).map natD := rfl
  simp only [hrd, e1, e2]
  refine ⟨by unfold apK at hal; rw [List.length_cons] at hal; unfold endP at hal; rw [List.length_map]; unfold big; omega, ?_⟩
  simp only [List.length_map]
  have e3 : (feL n as (((arcAt as k).1 + (arcAt as k).2 - 1) % n) (besL n as k)).length + 1 = (apK n as k).length := rfl
  rw [e3]
  by_cases hc : ((b.length : Nat) : Int) < ((apK n as k).length : Nat)
  · simp only [hc, decide_true, if_true]
    refine hK (apK n as k) _ _ (.inr rfl) fun r => ?_
    show _ = if b.length < (apK n as k).length then bstM (apK n as k) r else bstM b r
    rw [if_pos (by omega)]
  · simp only [hc, decide_false, Bool.false_eq_true, if_false]
    refine hK b _ _ hx1 fun r => ?_
    show _ = if b.length < (apK n as k).length then bstM (apK n as k) r else bstM b r
    rw [if_neg (by omega)]
theorem zip_arcs {as : List (Int × Int)} : as.zipIdx = (List.range as.length).map fun k => (arcAt as k, k) := by
  refine List.ext_getElem (by simp) fun i h1 h2 => ?_
  rw [List.length_zipIdx] at h1
  simp [arcAt_eq h1]
theorem w_most_apart : WOk Smost_apart 1 5 trmost_apart := WOk.ring (fun d r Q Y hl hr h0 => by
    obtain rfl := List.length_eq_zero_iff.mp hl
    unfold trmost_apart
    simp only [wSs, wS, w1, wT, wE, wA, wX, wV, wP, wC, opn, rdO_d, rdO_o, asD_d, asD_n, KQY, entry, look, put, slotV, argsOk, frzA, frzV, sv_i, sv_b, sv_s, sv_0, sv_l, sv_t, sv_d, sv_n, List.map, List.length, List.replicate, List.cons_append, List.nil_append, Nat.sub_self, biD, isD_1, boolD_b, cmpD, relD_i, opD, addD_i, addD_l, subD_i, intD_i, lenD_l, lenD_t, listD_l, listD_t, tupleD_l, int2D_i, absD_i, toIntD_i, toIntD_b, eqD_i, eqD_b, eqD_s, rngD_1, rngD_2, seqD_l, seqD_t, lstD_l, ixX_l, ixX_t, negX_i, slX_l, rvX_l, repX_i, intX_i, ixD_0, ixD_1, ixD_2, true_and, and_true, ite_self, run_need_ring]
    simpa [hr] using h0) (fun n as r Q Y hl ok h => by
    obtain ⟨rfl, h⟩ := h
    unfold trmost_apart
    simp only [wSs, wS, w1, wT, wE, wA, wX, wV, wP, wC, opn, rdO_d, rdO_o, asD_d, asD_n, KQY, entry, look, put, slotV, argsOk, frzA, frzV, sv_i, sv_b, sv_s, sv_0, sv_l, sv_t, sv_d, sv_n, List.map, List.length, List.replicate, List.cons_append, List.nil_append, Nat.sub_self, biD, isD_1, boolD_b, cmpD, relD_i, opD, addD_i, addD_l, subD_i, intD_i, lenD_l, lenD_t, listD_l, listD_t, tupleD_l, int2D_i, absD_i, toIntD_i, toIntD_b, eqD_i, eqD_b, eqD_s, rngD_1, rngD_2, seqD_l, seqD_t, lstD_l, ixX_l, ixX_t, negX_i, slX_l, rvX_l, repX_i, intX_i, ixD_0, ixD_1, ixD_2, true_and, and_true, ite_self, run_need_ring, isRing_ringD ok, if_true, wJ]
    simp only [ixR1, wSs, wS, w1, wT, wE, wA, wX, wV, wP, wC, opn, rdO_d, rdO_o, asD_d, asD_n, KQY, entry, look, put, slotV, argsOk, frzA, frzV, sv_i, sv_b, sv_s, sv_0, sv_l, sv_t, sv_d, sv_n, List.map, List.length, List.replicate, List.cons_append, List.nil_append, Nat.sub_self, biD, isD_1, boolD_b, cmpD, relD_i, opD, addD_i, addD_l, subD_i, intD_i, lenD_l, lenD_t, listD_l, listD_t, tupleD_l, int2D_i, absD_i, toIntD_i, toIntD_b, eqD_i, eqD_b, eqD_s, rngD_1, rngD_2, seqD_l, seqD_t, lstD_l, ixX_l, ixX_t, negX_i, slX_l, rvX_l, repX_i, intX_i, ixD_0, ixD_1, ixD_2, true_and, and_true, ite_self]
    rw [enumD_map, zip_arcs, List.map_map]
    refine ⟨by unfold big; decide, by rw [List.length_map, List.length_range]; exact big20 ok.len, ?_⟩
    refine fLoop_mp (fun done rest Γ _ => ∃ (b : List Nat) (x1 x2 x3 x4 : Option Val), Γ = [some (.dat (ringD n as)), x1, x2, x3, x4] ∧ (x1 = some (.own (b.map natD)) ∨ x1 = some (.dat (.list (b.map natD)))) ∧ bstM b (rest.map (apK n as)) = maB n as ∧ ∀ k ∈ rest, k < as.length) ?_ ?_ _ [] _ _ ⟨[], _, _, _, _, rfl, .inl rfl, rfl, fun k hk => List.mem_range.mp hk⟩
    · rintro done Γ u ⟨b, x1, x2, x3, x4, rfl, hx1, hb, _⟩
      have hb' : b = maB n as := hb
      subst hb'
      have hrd : ∀ q : D → Prop, rdO x1 q = q (.list ((maB n as).map natD)) := fun q => by rcases hx1 with rfl | rfl <;> rfl
      simp only [wSs, wS, w1, wT, wE, wA, wX, wV, wP, wC, opn, rdO_d, rdO_o, asD_d, asD_n, KQY, entry, look, put, slotV, argsOk, frzA, frzV, sv_i, sv_b, sv_s, sv_0, sv_l, sv_t, sv_d, sv_n, List.map, List.length, List.replicate, List.cons_append, List.nil_append, Nat.sub_self, biD, isD_1, boolD_b, cmpD, relD_i, opD, addD_i, addD_l, subD_i, intD_i, lenD_l, lenD_t, listD_l, listD_t, tupleD_l, int2D_i, absD_i, toIntD_i, toIntD_b, eqD_i, eqD_b, eqD_s, rngD_1, rngD_2, seqD_l, seqD_t, lstD_l, ixX_l, ixX_t, negX_i, slX_l, rvX_l, repX_i, intX_i, ixD_0, ixD_1, ixD_2, true_and, and_true, ite_self, hrd, sortedD]
      refine ⟨natI (maB n as), by rw [natI_D]; exact intsD_map _, fun ns' p1 p2 => ?_⟩
      rw [srt_uniq p1 p2]
      exact h
    · rintro done k r Γ u K' ⟨b, x1, x2, x3, x4, rfl, hx1, hb, hm⟩ hnx hct hbk hrt hex
      simp only [Function.comp, bindT, putAll, put]
      refine most_b1 ok (hm k List.mem_cons_self) hx1 fun c y1 y4 hy hc => hnx _ _ ⟨c, y1, _, _, _, rfl, hy, ?_, fun j hj => hm j (List.mem_cons_of_mem _ hj)⟩
      rw [hc]
      exact hb)
end Ac
namespace Ac
open PySem PySem.Spec PyProof.Rows L2
/-! ### the most, by arcs alone -/
def AptA (n : Int) (as cs : List (Int × Int)) : Prop := (∀ c ∈ cs, c ∈ as) ∧ cs.Pairwise fun a b => mtB n a b = false
theorem Apt.arcs {n : Int} {as : List (Int × Int)} {S : List Nat} (h : Apt n as S) : AptA n as (S.map (arcAt as)) := by
  refine ⟨fun c hc => ?_, ?_⟩
  · obtain ⟨k, hk, rfl⟩ := List.mem_map.mp hc
    rw [arcAt_eq (h.1 k hk)]
    exact List.getElem_mem _
  · rw [List.pairwise_map]
    exact h.2
theorem AptA.idx {n : Int} {as : List (Int × Int)} : ∀ {cs : List (Int × Int)}, AptA n as cs → ∃ S : List Nat, Apt n as S ∧ S.map (arcAt as) = cs
  | [], _ => ⟨[], ⟨(fun _ h => nomatch h), List.Pairwise.nil⟩, rfl⟩
  | c :: cs, h => by
    rw [AptA, List.pairwise_cons] at h
    obtain ⟨S, h1, h2⟩ := AptA.idx (cs := cs) ⟨fun d hd => h.1 d (List.mem_cons_of_mem _ hd), h.2.2⟩
    obtain ⟨k, hk, e⟩ := List.mem_iff_getElem.mp (h.1 c List.mem_cons_self)
    have ek : arcAt as k = c := by rw [arcAt_eq hk]; exact e
    refine ⟨k :: S, ⟨fun j hj => ?_, ?_⟩, by rw [List.map_cons, h2, ek]⟩
    · rcases List.mem_cons.mp hj with rfl | hj
      · exact hk
      · exact h1.1 j hj
    · rw [List.pairwise_cons]
      refine ⟨fun j hj => ?_, h1.2⟩
      rw [ek]
      exact h.2.1 _ (by rw [← h2]; exact List.mem_map.mpr ⟨j, hj, rfl⟩)
theorem Most.leA {n : Int} {as cs : List (Int × Int)} {m : Nat} (h : Most n as m) (hc : AptA n as cs) : cs.length ≤ m := by
  obtain ⟨S, h1, h2⟩ := hc.idx
  have := h.le S h1
  rw [← h2, List.length_map]
  exact this
theorem Most.exA {n : Int} {as : List (Int × Int)} {m : Nat} (h : Most n as m) : ∃ cs, AptA n as cs ∧ cs.length = m := by
  obtain ⟨S, h1, h2⟩ := h.ex
  exact ⟨_, h1.arcs, by rw [List.length_map]; exact h2⟩
/-- arcs go over by g, and what is apart stays so -/
theorem most_map_le {n : Int} {as bs : List (Int × Int)} {g : Int × Int → Int × Int} {m m' : Nat} (hg : ∀ a ∈ as, g a ∈ bs) (hm : ∀ a ∈ as, ∀ b ∈ as, mtB n a b = false → mtB n (g a) (g b) = false) (h : Most n as m) (h' : Most n bs m') : m ≤ m' := by
  obtain ⟨cs, h1, rfl⟩ := h.exA
  have := h'.leA (cs := cs.map g) ⟨fun c hc => by
    obtain ⟨a, ha, rfl⟩ := List.mem_map.mp hc
    exact hg a (h1.1 a ha), by
    rw [List.pairwise_map]
    exact List.Pairwise.imp_of_mem (fun {a b} ha hb hh => hm a (h1.1 a ha) b (h1.1 b hb) hh) h1.2⟩
  rw [List.length_map] at this
  exact this
theorem most_sub {n : Int} {as bs : List (Int × Int)} {m m' : Nat} (hs : ∀ a ∈ as, a ∈ bs) (h : Most n as m) (h' : Most n bs m') : m ≤ m' := most_map_le (g := id) hs (fun _ _ _ _ h => h) h h'
theorem most_mem {n : Int} {as bs : List (Int × Int)} {m m' : Nat} (hs : ∀ a, a ∈ as ↔ a ∈ bs) (h : Most n as m) (h' : Most n bs m') : m' = m :=
  Nat.le_antisymm (most_sub (fun a ha => (hs a).mpr ha) h' h) (most_sub (fun a ha => (hs a).mp ha) h h')
/-- one arc more -/
theorem most_one {n : Int} {as bs : List (Int × Int)} {c : Int × Int} {m m' : Nat} (hb : ∀ b ∈ bs, arcOk n b) (hs : ∀ b ∈ bs, b = c ∨ b ∈ as) (h : Most n as m) (h' : Most n bs m') : m' ≤ m + 1 := by
  obtain ⟨cs, h1, rfl⟩ := h'.exA
  by_cases hc : c ∈ cs
  · have hp : (c :: cs.erase c).Perm cs := (List.perm_cons_erase hc).symm
    have hn : (c :: cs.erase c).Pairwise fun a b => mtB n a b = false := hp.symm.pairwise h1.2 fun hh => by rw [mtB_comm]; exact hh
    rw [List.pairwise_cons] at hn
    have okc := hb c (h1.1 c hc)
    have hcc : mtB n c c = true := (mtB_iff okc okc).mpr ⟨_, okc.1, okc.2.1, hld_start okc, hld_start okc⟩
    have := h.leA (cs := cs.erase c) ⟨fun d hd => by
      rcases hs d (h1.1 d (List.mem_of_mem_erase hd)) with e | hd'
      · subst e
        have h2 := hn.1 d hd
        rw [hcc] at h2
        cases h2
      · exact hd', hn.2⟩
    rw [← hp.length_eq, List.length_cons]
    omega
  · have := h.leA (cs := cs) ⟨fun d hd => (hs d (h1.1 d hd)).elim (fun e => absurd (e ▸ hd) hc) id, h1.2⟩
    omega
/-! ### points and arcs apart -/
theorem apart_points {n : Int} {cs : List (Int × Int)} {P : List Int} (hok : ∀ c ∈ cs, arcOk n c) (hP : Pl n P) (hp : cs.Pairwise fun a b => mtB n a b = false) (hh : ∀ c ∈ cs, ∃ p ∈ P, hld n c p = true) : cs.length ≤ P.length := by
  have hex : ∃ pt : Int × Int → Int, ∀ c ∈ cs, pt c ∈ P ∧ hld n c (pt c) = true := by
    refine ⟨fun c => open Classical in if h : ∃ p ∈ P, hld n c p = true then Classical.choose h else 0, fun c hc => ?_⟩
    have h := hh c hc
    dsimp only
    rw [dif_pos h]
    exact Classical.choose_spec h
  obtain ⟨pt, hpt⟩ := hex
  have := nodup_len (l := cs.map pt) (P := P) (by
    rw [List.Nodup, List.pairwise_map]
    refine List.Pairwise.imp_of_mem (fun {a b} ha hb hab e => ?_) hp
    have h1 := hpt a ha
    have h2 := hpt b hb
    rw [← e] at h2
    have hr := hP _ h1.1
    have := (mtB_iff (hok a ha) (hok b hb)).mpr ⟨_, hr.1, hr.2, h1.2, h2.2⟩
    rw [hab] at this
    cases this) fun p hp => by
    obtain ⟨c, hc, rfl⟩ := List.mem_map.mp hp
    exact (hpt c hc).1
  rw [List.length_map] at this
  exact this
theorem most_le_few {n : Int} {as : List (Int × Int)} {m f : Nat} (ok : RingOk n as) (h : Most n as m) (h' : Few n as f) : m ≤ f := by
  obtain ⟨cs, h1, rfl⟩ := h.exA
  obtain ⟨P, p1, p2, rfl⟩ := h'.ex
  exact apart_points (fun c hc => ok.arcs c (h1.1 c hc)) p1 h1.2 fun c hc => p2 c (h1.1 c hc)
theorem walk_apt {n x : Int} {as : List (Int × Int)} {r : List Nat} (ok : RingOk n as) (h : IsWalk n as x r) : Apt n as r := by
  refine ⟨fun k hk => (mem_left0.mp (IsSteps.mem h k hk)).1, ?_⟩
  have hs : ∀ {r L : List Nat}, IsSteps (bI n as x) (eI n as x) L r → r.Pairwise fun i j => eI n as x i < bI n as x j := by
    intro r
    induction r with
    | nil => intro _ _; exact List.Pairwise.nil
    | cons k r ih =>
      intro L h
      rw [List.pairwise_cons]
      exact ⟨fun j hj => of_decide_eq_true (List.mem_filter.mp (IsSteps.mem h.2.2 j hj)).2, ih h.2.2⟩
  exact List.Pairwise.imp_of_mem (fun {i j} hi hj hh => (meet_line ok (IsSteps.mem h i hi) (IsSteps.mem h j hj)).mpr (.inl hh)) (hs h)
theorem few_le_most {n : Int} {as : List (Int × Int)} {m f : Nat} (ok : RingOk n as) (h : Most n as m) (h' : Few n as f) : f ≤ m + 1 := by
  have n1 := ok.n1
  obtain ⟨r, hr⟩ := IsWalk.ex (x := 0) ok
  have := h.le r (walk_apt ok hr)
  have := h'.le _ (walk_pl ok (r := r) ⟨by omega, by omega⟩) (walk_hit ok hr)
  rw [List.length_cons, List.length_map] at this
  omega
/-- a place that no arc holds -/
theorem few_bare {n x : Int} {as : List (Int × Int)} {m f : Nat} (ok : RingOk n as) (hx : 0 ≤ x ∧ x < n) (hb : ∀ a ∈ as, hld n a x = false) (h : Most n as m) (h' : Few n as f) : f ≤ m := by
  obtain ⟨r, hr⟩ := IsWalk.ex (x := x) ok
  have := h.le r (walk_apt ok hr)
  have := h'.le (r.map (plK n as x)) (fun p hp => walk_pl ok hx p (List.mem_cons_of_mem _ hp)) fun a ha => by
    obtain ⟨p, hp, hh⟩ := walk_hit ok hr a ha
    rcases List.mem_cons.mp hp with e | hp
    · rw [e, hb a ha] at hh; cases hh
    · exact ⟨p, hp, hh⟩
  rw [List.length_map] at this
  omega
theorem nn {b : Bool} : ¬((!b) = true) ↔ b = true := by cases b <;> simp
/-! ### lie_apart -/
def lieB (n : Int) (as : List (Int × Int)) (ks : List Nat) : Bool := ks.all fun k => ks.all fun j => !(decide (j < k) && mtB n (arcAt as j) (arcAt as k))
def lieD (n : Int) (as : List (Int × Int)) (d : D) : Bool := match d with
  | .list xs => risD (.list xs) as.length && (match intsD xs with | some ns => lieB n as (ns.map Int.toNat) | none => false)
  | _ => false
theorem toNatI {ks : List Nat} : (natI ks).map Int.toNat = ks := by
  unfold natI
  rw [List.map_map]
  have : (Int.toNat ∘ fun k : Nat => (k : Int)) = id := by funext k; simp
  rw [this, List.map_id]
theorem lieD_nat {n : Int} {as : List (Int × Int)} {ks : List Nat} : lieD n as (.list (ks.map natD)) = (risD (.list (ks.map natD)) as.length && lieB n as ks) := by
  unfold lieD
  dsimp only
  rw [natI_D, intsD_map]
  dsimp only
  rw [toNatI]
theorem ris_natI {d : D} {b : Nat} (h : risD d b = true) : ∃ ks : List Nat, d = .list (ks.map natD) ∧ (∀ k ∈ ks, k < b) ∧ ks.Pairwise (· < ·) := by
  obtain ⟨ns, rfl, h1, h2⟩ := ris_ints h
  have e : ns = natI (ns.map Int.toNat) := by
    unfold natI
    rw [List.map_map]
    have : ns.map id = ns.map ((fun k : Nat => (k : Int)) ∘ Int.toNat) := List.map_congr_left fun m hm => by
      have := (h1 m hm).1
      show m = ((m.toNat : Nat) : Int)
      omega
    rw [List.map_id] at this
    exact this
  refine ⟨ns.map Int.toNat, by rw [natI_D, ← e], fun k hk => ?_, ?_⟩
  · obtain ⟨m, hm, rfl⟩ := List.mem_map.mp hk
    have := h1 m hm
    omega
  · rw [List.pairwise_map]
    refine List.Pairwise.imp_of_mem (fun {a b} ha hb hh => ?_) h2
    have := h1 a ha
    have := h1 b hb
    omega
theorem risD_natI {ks : List Nat} {b : Nat} : risD (.list (ks.map natD)) b = true ↔ (∀ k ∈ ks, k < b) ∧ ks.Pairwise (· < ·) := by
  rw [natI_D, risD_ints]
  unfold natI
  rw [List.pairwise_map]
  refine and_congr ⟨fun h k hk => ?_, fun h m hm => ?_⟩ ⟨fun h => h.imp fun h => by omega, fun h => h.imp fun h => by omega⟩
  · have := h k (List.mem_map.mpr ⟨k, hk, rfl⟩); omega
  · obtain ⟨k, hk, rfl⟩ := List.mem_map.mp hm
    have := h k hk
    omega
theorem lieB_iff {n : Int} {as : List (Int × Int)} {ks : List Nat} (hlt : ks.Pairwise (· < ·)) : lieB n as ks = true ↔ ks.Pairwise fun j k => mtB n (arcAt as j) (arcAt as k) = false := by
  unfold lieB
  simp only [List.all_eq_true]
  constructor
  · intro h
    refine List.Pairwise.imp_of_mem (fun {j k} hj hk hjk => ?_) hlt
    have := h k hk j hj
    simpa [hjk] using this
  · intro h k hk j hj
    rw [Bool.not_eq_true', Bool.and_eq_false_iff]
    by_cases hjk : j < k
    · right
      obtain ⟨a, ha, rfl⟩ := List.mem_iff_getElem.mp hj
      obtain ⟨b, hb, rfl⟩ := List.mem_iff_getElem.mp hk
      have hab : a < b := by
        rcases Nat.lt_or_ge a b with h1 | h1
        · exact h1
        · rcases Nat.lt_or_eq_of_le h1 with h1 | h1
          · have := List.pairwise_iff_getElem.mp hlt b a hb ha h1
            omega
          · subst h1
            omega
      exact List.pairwise_iff_getElem.mp h a b ha hb hab
    · left
      exact decide_eq_false hjk
theorem lieD_ok {n : Int} {as : List (Int × Int)} {ks : List Nat} (hlt : ks.Pairwise (· < ·)) (h : Apt n as ks) : lieD n as (.list (ks.map natD)) = true := by
  rw [lieD_nat, Bool.and_eq_true]
  exact ⟨risD_natI.mpr ⟨h.1, hlt⟩, (lieB_iff hlt).mpr h.2⟩
def Flie_apart : RF where
  run n as ds Q Y := ∃ d, ds = [d] ∧ shortL d ∧ Q (.dat (.bool (lieD n as d)))
  mono := fun h1 h2 ⟨d, e, hl, q⟩ => ⟨d, e, hl, h1 _ q⟩
def Slie_apart : Summ := Summ.ring 1 Flie_apart
theorem call_lie_apart {n : Int} {as : List (Int × Int)} {d : D} {Q : Val → Prop} {Y : Nat → Prop} (ok : RingOk n as) (hl : shortL d) (h : Q (.dat (.bool (lieD n as d)))) : Slie_apart.run [ringD n as, d] Q Y := ring_ok rfl ok ⟨d, rfl, hl, h⟩
def trlie_apart_c1 : Es Unit :=
  (.cons (.an (.cmp .Lt (.var 5) (.var 4)) (.call "meet" Smeet (.cons (.var 2) (.cons (.ix (.var 3) (.var 5)) (.cons (.ix (.var 3) (.var 4)) .nil))))) .nil)
def trlie_apart_c2 : Es Unit :=
  (.cons (.cmp .NotEq (.comp [5] (.nm 5) (.seq (.var 1)) trlie_apart_c1 (.var 5)) (.ls .nil)) .nil)
def trlie_apart : Sms Unit :=
  (.cons (.one (.expr (.call "need_ring" Sneed_ring (.cons (.var 0) .nil))))
    (.cons (.one (.asgT [2, 3] (.var 0)))
    (.cons (.ite (.nt (.call "is_rising" Sis_rising (.cons (.var 1) (.cons (.bi .len (.cons (.var 3) .nil)) .nil))))
    (.cons (.one (.ret (.bl false)))
    .nil)
    .nil)
    (.cons (.one (.ret (.cmp .Eq (.comp [4] (.nm 4) (.seq (.var 1)) trlie_apart_c2 (.var 4)) (.ls .nil))))
    .nil))))

theorem w_lie_apart : WOk Slie_apart 2 6 trlie_apart := WOk.ring (fun d r Q Y hl hr h0 => by
    obtain ⟨a, rfl⟩ := len1 hl
    unfold trlie_apart
    simp only [wSs, wS, w1, wT, wE, wA, wX, wV, wP, wC, opn, rdO_d, rdO_o, asD_d, asD_n, KQY, entry, look, put, slotV, argsOk, frzA, frzV, sv_i, sv_b, sv_s, sv_0, sv_l, sv_t, sv_d, sv_n, List.map, List.length, List.replicate, List.cons_append, List.nil_append, Nat.sub_self, biD, isD_1, boolD_b, cmpD, relD_i, opD, addD_i, addD_l, subD_i, intD_i, lenD_l, lenD_t, listD_l, listD_t, tupleD_l, int2D_i, absD_i, toIntD_i, toIntD_b, eqD_i, eqD_b, eqD_s, rngD_1, rngD_2, seqD_l, seqD_t, lstD_l, ixX_l, ixX_t, negX_i, slX_l, rvX_l, repX_i, intX_i, ixD_0, ixD_1, ixD_2, true_and, and_true, ite_self, run_need_ring]
    simpa [hr] using h0) (fun n as r Q Y hl ok h => by
    obtain ⟨d, rfl, hs, h⟩ := h
    have n1 := ok.n1
    have hlen := ok.len
    unfold trlie_apart
    simp only [wSs, wS, w1, wT, wE, wA, wX, wV, wP, wC, opn, rdO_d, rdO_o, asD_d, asD_n, KQY, entry, look, put, slotV, argsOk, frzA, frzV, sv_i, sv_b, sv_s, sv_0, sv_l, sv_t, sv_d, sv_n, List.map, List.length, List.replicate, List.cons_append, List.nil_append, Nat.sub_self, biD, isD_1, boolD_b, cmpD, relD_i, opD, addD_i, addD_l, subD_i, intD_i, lenD_l, lenD_t, listD_l, listD_t, tupleD_l, int2D_i, absD_i, toIntD_i, toIntD_b, eqD_i, eqD_b, eqD_s, rngD_1, rngD_2, seqD_l, seqD_t, lstD_l, ixX_l, ixX_t, negX_i, slX_l, rvX_l, repX_i, intX_i, ixD_0, ixD_1, ixD_2, true_and, and_true, ite_self, run_need_ring, isRing_ringD ok, if_true]
    simp only [ringD, putAll, wSs, wS, w1, wT, wE, wA, wX, wV, wP, wC, opn, rdO_d, rdO_o, asD_d, asD_n, KQY, entry, look, put, slotV, argsOk, frzA, frzV, sv_i, sv_b, sv_s, sv_0, sv_l, sv_t, sv_d, sv_n, List.map, List.length, List.replicate, List.cons_append, List.nil_append, Nat.sub_self, biD, isD_1, boolD_b, cmpD, relD_i, opD, addD_i, addD_l, subD_i, intD_i, lenD_l, lenD_t, listD_l, listD_t, tupleD_l, int2D_i, absD_i, toIntD_i, toIntD_b, eqD_i, eqD_b, eqD_s, rngD_1, rngD_2, seqD_l, seqD_t, lstD_l, ixX_l, ixX_t, negX_i, slX_l, rvX_l, repX_i, intX_i, ixD_0, ixD_1, ixD_2, true_and, and_true, ite_self, List.length_map]
    refine call_is_rising hs (by omega) ?_
    cases hr : risD d as.length with
    | false =>
      try simp only [wSs, wS, w1, wT, wE, wA, wX, wV, wP, wC, opn, rdO_d, rdO_o, asD_d, asD_n, KQY, entry, look, put, slotV, argsOk, frzA, frzV, sv_i, sv_b, sv_s, sv_0, sv_l, sv_t, sv_d, sv_n, List.map, List.length, List.replicate, List.cons_append, List.nil_append, Nat.sub_self, biD, isD_1, boolD_b, cmpD, relD_i, opD, addD_i, addD_l, subD_i, intD_i, lenD_l, lenD_t, listD_l, listD_t, tupleD_l, int2D_i, absD_i, toIntD_i, toIntD_b, eqD_i, eqD_b, eqD_s, rngD_1, rngD_2, seqD_l, seqD_t, lstD_l, ixX_l, ixX_t, negX_i, slX_l, rvX_l, repX_i, intX_i, ixD_0, ixD_1, ixD_2, true_and, and_true, ite_self, Bool.false_eq_true, if_false, if_true, Bool.not_true, Bool.not_false, ixR0, ixR1, sv_r]
      have e : lieD n as d = false := by
        cases d with
        | list xs => unfold lieD; dsimp only; rw [hr]; rfl
        | _ => rfl
      rw [e] at h
      exact h
    | true =>
      obtain ⟨ks, rfl, h1, h2⟩ := ris_natI hr
      rw [lieD_nat, hr, Bool.true_and] at h
      have hkl : ks.length < 4000 := by
        have := hs _ rfl
        rw [List.length_map] at this
        exact this
      try simp only [wSs, wS, w1, wT, wE, wA, wX, wV, wP, wC, opn, rdO_d, rdO_o, asD_d, asD_n, KQY, entry, look, put, slotV, argsOk, frzA, frzV, sv_i, sv_b, sv_s, sv_0, sv_l, sv_t, sv_d, sv_n, List.map, List.length, List.replicate, List.cons_append, List.nil_append, Nat.sub_self, biD, isD_1, boolD_b, cmpD, relD_i, opD, addD_i, addD_l, subD_i, intD_i, lenD_l, lenD_t, listD_l, listD_t, tupleD_l, int2D_i, absD_i, toIntD_i, toIntD_b, eqD_i, eqD_b, eqD_s, rngD_1, rngD_2, seqD_l, seqD_t, lstD_l, ixX_l, ixX_t, negX_i, slX_l, rvX_l, repX_i, intX_i, ixD_0, ixD_1, ixD_2, true_and, and_true, ite_self, Bool.false_eq_true, if_false, if_true, Bool.not_true, Bool.not_false, ixR0, ixR1, sv_r]
      simp only [wI, wipeG, backG, wSs, wS, w1, wT, wE, wA, wX, wV, wP, wC, opn, rdO_d, rdO_o, asD_d, asD_n, KQY, entry, look, put, slotV, argsOk, frzA, frzV, sv_i, sv_b, sv_s, sv_0, sv_l, sv_t, sv_d, sv_n, List.map, List.length, List.replicate, List.cons_append, List.nil_append, Nat.sub_self, biD, isD_1, boolD_b, cmpD, relD_i, opD, addD_i, addD_l, subD_i, intD_i, lenD_l, lenD_t, listD_l, listD_t, tupleD_l, int2D_i, absD_i, toIntD_i, toIntD_b, eqD_i, eqD_b, eqD_s, rngD_1, rngD_2, seqD_l, seqD_t, lstD_l, ixX_l, ixX_t, negX_i, slX_l, rvX_l, repX_i, intX_i, ixD_0, ixD_1, ixD_2, true_and, and_true, ite_self]
      refine ⟨by rw [List.length_map]; unfold big; omega, ?_⟩
      refine cLoop_mp (g := natD) (q := fun k => if (ks.all fun j => !(decide (j < k) && mtB n (arcAt as j) (arcAt as k))) = true then none else some (natD k)) _ [] ?_ ?_
      · intro k hk k' hk'
        have hkk := h1 k hk
        unfold trlie_apart_c2
        simp only [bindT, natD, wSs, wS, w1, wT, wE, wA, wX, wV, wP, wC, opn, rdO_d, rdO_o, asD_d, asD_n, KQY, entry, look, put, slotV, argsOk, frzA, frzV, sv_i, sv_b, sv_s, sv_0, sv_l, sv_t, sv_d, sv_n, List.map, List.length, List.replicate, List.cons_append, List.nil_append, Nat.sub_self, biD, isD_1, boolD_b, cmpD, relD_i, opD, addD_i, addD_l, subD_i, intD_i, lenD_l, lenD_t, listD_l, listD_t, tupleD_l, int2D_i, absD_i, toIntD_i, toIntD_b, eqD_i, eqD_b, eqD_s, rngD_1, rngD_2, seqD_l, seqD_t, lstD_l, ixX_l, ixX_t, negX_i, slX_l, rvX_l, repX_i, intX_i, ixD_0, ixD_1, ixD_2, true_and, and_true, ite_self, wI, wipeG, backG]
        refine ⟨by rw [List.length_map]; unfold big; omega, ?_⟩
        refine cLoop_mp (g := natD) (q := fun j => if (decide (j < k) && mtB n (arcAt as j) (arcAt as k)) = true then some (natD j) else none) _ [] ?_ ?_
        · intro j hj k2 hk2
          have hjj := h1 j hj
          unfold trlie_apart_c1
          simp only [bindT, natD, wSs, wS, w1, wT, wE, wA, wX, wV, wP, wC, opn, rdO_d, rdO_o, asD_d, asD_n, KQY, entry, look, put, slotV, argsOk, frzA, frzV, sv_i, sv_b, sv_s, sv_0, sv_l, sv_t, sv_d, sv_n, List.map, List.length, List.replicate, List.cons_append, List.nil_append, Nat.sub_self, biD, isD_1, boolD_b, cmpD, relD_i, opD, addD_i, addD_l, subD_i, intD_i, lenD_l, lenD_t, listD_l, listD_t, tupleD_l, int2D_i, absD_i, toIntD_i, toIntD_b, eqD_i, eqD_b, eqD_s, rngD_1, rngD_2, seqD_l, seqD_t, lstD_l, ixX_l, ixX_t, negX_i, slX_l, rvX_l, repX_i, intX_i, ixD_0, ixD_1, ixD_2, true_and, and_true, ite_self]
          have ec : decide (((j : Nat) : Int) < ((k : Nat) : Int)) = decide (j < k) := by rw [decide_eq_decide]; omega
          rw [ec]
          cases hjk : decide (j < k) with
          | false =>
            rw [hjk, Bool.false_and, if_neg (by decide)] at hk2
            try simp only [wSs, wS, w1, wT, wE, wA, wX, wV, wP, wC, opn, rdO_d, rdO_o, asD_d, asD_n, KQY, entry, look, put, slotV, argsOk, frzA, frzV, sv_i, sv_b, sv_s, sv_0, sv_l, sv_t, sv_d, sv_n, List.map, List.length, List.replicate, List.cons_append, List.nil_append, Nat.sub_self, biD, isD_1, boolD_b, cmpD, relD_i, opD, addD_i, addD_l, subD_i, intD_i, lenD_l, lenD_t, listD_l, listD_t, tupleD_l, int2D_i, absD_i, toIntD_i, toIntD_b, eqD_i, eqD_b, eqD_s, rngD_1, rngD_2, seqD_l, seqD_t, lstD_l, ixX_l, ixX_t, negX_i, slX_l, rvX_l, repX_i, intX_i, ixD_0, ixD_1, ixD_2, true_and, and_true, ite_self, Bool.false_eq_true, if_false, if_true, Bool.not_true, Bool.not_false, ixR0, ixR1, sv_r]
            exact hk2
          | true =>
            rw [hjk, Bool.true_and] at hk2
            try simp only [wSs, wS, w1, wT, wE, wA, wX, wV, wP, wC, opn, rdO_d, rdO_o, asD_d, asD_n, KQY, entry, look, put, slotV, argsOk, frzA, frzV, sv_i, sv_b, sv_s, sv_0, sv_l, sv_t, sv_d, sv_n, List.map, List.length, List.replicate, List.cons_append, List.nil_append, Nat.sub_self, biD, isD_1, boolD_b, cmpD, relD_i, opD, addD_i, addD_l, subD_i, intD_i, lenD_l, lenD_t, listD_l, listD_t, tupleD_l, int2D_i, absD_i, toIntD_i, toIntD_b, eqD_i, eqD_b, eqD_s, rngD_1, rngD_2, seqD_l, seqD_t, lstD_l, ixX_l, ixX_t, negX_i, slX_l, rvX_l, repX_i, intX_i, ixD_0, ixD_1, ixD_2, true_and, and_true, ite_self, Bool.false_eq_true, if_false, if_true, Bool.not_true, Bool.not_false, ixR0, ixR1, sv_r]
            rw [ixD_nat (j := j) rfl (arcAt_it hjj)]
            try simp only [wSs, wS, w1, wT, wE, wA, wX, wV, wP, wC, opn, rdO_d, rdO_o, asD_d, asD_n, KQY, entry, look, put, slotV, argsOk, frzA, frzV, sv_i, sv_b, sv_s, sv_0, sv_l, sv_t, sv_d, sv_n, List.map, List.length, List.replicate, List.cons_append, List.nil_append, Nat.sub_self, biD, isD_1, boolD_b, cmpD, relD_i, opD, addD_i, addD_l, subD_i, intD_i, lenD_l, lenD_t, listD_l, listD_t, tupleD_l, int2D_i, absD_i, toIntD_i, toIntD_b, eqD_i, eqD_b, eqD_s, rngD_1, rngD_2, seqD_l, seqD_t, lstD_l, ixX_l, ixX_t, negX_i, slX_l, rvX_l, repX_i, intX_i, ixD_0, ixD_1, ixD_2, true_and, and_true, ite_self, Bool.false_eq_true, if_false, if_true, Bool.not_true, Bool.not_false, ixR0, ixR1, sv_r]
            rw [ixD_nat (j := k) rfl (arcAt_it hkk)]
            simp only [arcD, run_meet, wSs, wS, w1, wT, wE, wA, wX, wV, wP, wC, opn, rdO_d, rdO_o, asD_d, asD_n, KQY, entry, look, put, slotV, argsOk, frzA, frzV, sv_i, sv_b, sv_s, sv_0, sv_l, sv_t, sv_d, sv_n, List.map, List.length, List.replicate, List.cons_append, List.nil_append, Nat.sub_self, biD, isD_1, boolD_b, cmpD, relD_i, opD, addD_i, addD_l, subD_i, intD_i, lenD_l, lenD_t, listD_l, listD_t, tupleD_l, int2D_i, absD_i, toIntD_i, toIntD_b, eqD_i, eqD_b, eqD_s, rngD_1, rngD_2, seqD_l, seqD_t, lstD_l, ixX_l, ixX_t, negX_i, slX_l, rvX_l, repX_i, intX_i, ixD_0, ixD_1, ixD_2, true_and, and_true, ite_self]
            refine ⟨by omega, ?_⟩
            have hk3 : k2 (if mtB n ((arcAt as j).1, (arcAt as j).2) ((arcAt as k).1, (arcAt as k).2) = true then some (natD j) else none) _ _ := hk2
            cases hc2 : mtB n ((arcAt as j).1, (arcAt as j).2) ((arcAt as k).1, (arcAt as k).2) with
            | true =>
              rw [hc2, if_pos rfl] at hk3
              try simp only [wSs, wS, w1, wT, wE, wA, wX, wV, wP, wC, opn, rdO_d, rdO_o, asD_d, asD_n, KQY, entry, look, put, slotV, argsOk, frzA, frzV, sv_i, sv_b, sv_s, sv_0, sv_l, sv_t, sv_d, sv_n, List.map, List.length, List.replicate, List.cons_append, List.nil_append, Nat.sub_self, biD, isD_1, boolD_b, cmpD, relD_i, opD, addD_i, addD_l, subD_i, intD_i, lenD_l, lenD_t, listD_l, listD_t, tupleD_l, int2D_i, absD_i, toIntD_i, toIntD_b, eqD_i, eqD_b, eqD_s, rngD_1, rngD_2, seqD_l, seqD_t, lstD_l, ixX_l, ixX_t, negX_i, slX_l, rvX_l, repX_i, intX_i, ixD_0, ixD_1, ixD_2, true_and, and_true, ite_self, Bool.false_eq_true, if_false, if_true, Bool.not_true, Bool.not_false, ixR0, ixR1, sv_r]
              exact hk3
            | false =>
              rw [hc2, if_neg (by decide)] at hk3
              try simp only [wSs, wS, w1, wT, wE, wA, wX, wV, wP, wC, opn, rdO_d, rdO_o, asD_d, asD_n, KQY, entry, look, put, slotV, argsOk, frzA, frzV, sv_i, sv_b, sv_s, sv_0, sv_l, sv_t, sv_d, sv_n, List.map, List.length, List.replicate, List.cons_append, List.nil_append, Nat.sub_self, biD, isD_1, boolD_b, cmpD, relD_i, opD, addD_i, addD_l, subD_i, intD_i, lenD_l, lenD_t, listD_l, listD_t, tupleD_l, int2D_i, absD_i, toIntD_i, toIntD_b, eqD_i, eqD_b, eqD_s, rngD_1, rngD_2, seqD_l, seqD_t, lstD_l, ixX_l, ixX_t, negX_i, slX_l, rvX_l, repX_i, intX_i, ixD_0, ixD_1, ixD_2, true_and, and_true, ite_self, Bool.false_eq_true, if_false, if_true, Bool.not_true, Bool.not_false, ixR0, ixR1, sv_r]
              exact hk3
        · rw [List.nil_append, fm_pick]
          try simp only [wSs, wS, w1, wT, wE, wA, wX, wV, wP, wC, opn, rdO_d, rdO_o, asD_d, asD_n, KQY, entry, look, put, slotV, argsOk, frzA, frzV, sv_i, sv_b, sv_s, sv_0, sv_l, sv_t, sv_d, sv_n, List.map, List.length, List.replicate, List.cons_append, List.nil_append, Nat.sub_self, biD, isD_1, boolD_b, cmpD, relD_i, opD, addD_i, addD_l, subD_i, intD_i, lenD_l, lenD_t, listD_l, listD_t, tupleD_l, int2D_i, absD_i, toIntD_i, toIntD_b, eqD_i, eqD_b, eqD_s, rngD_1, rngD_2, seqD_l, seqD_t, lstD_l, ixX_l, ixX_t, negX_i, slX_l, rvX_l, repX_i, intX_i, ixD_0, ixD_1, ixD_2, true_and, and_true, ite_self, Bool.false_eq_true, if_false, if_true, Bool.not_true, Bool.not_false, ixR0, ixR1, sv_r]
          simp only [eqD_nil]
          refine ⟨by unfold big; decide, ?_⟩
          cases hc3 : ks.all fun j => !(decide (j < k) && mtB n (arcAt as j) (arcAt as k)) with
          | true =>
            have e : ((ks.filter fun j => decide (j < k) && mtB n (arcAt as j) (arcAt as k)).map natD).isEmpty = true := by
              rw [List.isEmpty_iff, List.map_eq_nil_iff, List.filter_eq_nil_iff]
              intro j hj hm
              have := List.all_eq_true.mp hc3 j hj
              rw [hm] at this
              cases this
            rw [hc3, if_pos rfl] at hk'
            simp only [e, Bool.not_true, Bool.false_eq_true, if_false]
            exact hk'
          | false =>
            have e : ((ks.filter fun j => decide (j < k) && mtB n (arcAt as j) (arcAt as k)).map natD).isEmpty = false := by
              rw [Bool.eq_false_iff, ne_eq, List.isEmpty_iff, List.map_eq_nil_iff, List.filter_eq_nil_iff]
              intro hn
              rw [List.all_eq_false] at hc3
              obtain ⟨j, hj, hm⟩ := hc3
              exact hm (by rw [Bool.not_eq_true']; exact Bool.eq_false_iff.mpr (hn j hj))
            rw [hc3, if_neg (by decide)] at hk'
            simp only [e, Bool.not_false, if_true]
            exact hk'
      · rw [List.nil_append, fm_drop]
        try simp only [wSs, wS, w1, wT, wE, wA, wX, wV, wP, wC, opn, rdO_d, rdO_o, asD_d, asD_n, KQY, entry, look, put, slotV, argsOk, frzA, frzV, sv_i, sv_b, sv_s, sv_0, sv_l, sv_t, sv_d, sv_n, List.map, List.length, List.replicate, List.cons_append, List.nil_append, Nat.sub_self, biD, isD_1, boolD_b, cmpD, relD_i, opD, addD_i, addD_l, subD_i, intD_i, lenD_l, lenD_t, listD_l, listD_t, tupleD_l, int2D_i, absD_i, toIntD_i, toIntD_b, eqD_i, eqD_b, eqD_s, rngD_1, rngD_2, seqD_l, seqD_t, lstD_l, ixX_l, ixX_t, negX_i, slX_l, rvX_l, repX_i, intX_i, ixD_0, ixD_1, ixD_2, true_and, and_true, ite_self, Bool.false_eq_true, if_false, if_true, Bool.not_true, Bool.not_false, ixR0, ixR1, sv_r]
        simp only [eqD_nil]
        refine ⟨by unfold big; decide, ?_⟩
        refine qb h ?_
        unfold lieB
        rw [List.isEmpty_iff, List.map_eq_nil_iff, List.filter_eq_nil_iff, List.all_eq_true]
        exact ⟨fun h q hq => nn.mpr (h q hq), fun h q hq => nn.mp (h q hq)⟩)
/-! ### not_holding, points_for -/
def Snot_holding : Summ where
  run ds Q _ := ∃ (n : Int) (as : List (Int × Int)) (x : Int), ds = [ringD n as, .int x] ∧ RingOk n as ∧ Q (.new ((left0 n as x).map natD))
  mono := fun h1 _ ⟨n, as, k, e, ok, q⟩ => ⟨n, as, k, e, ok, h1 _ q⟩
theorem call_not_holding {n x : Int} {as : List (Int × Int)} {Q : Val → Prop} {Y : Nat → Prop} (ok : RingOk n as) (h : Q (.new ((left0 n as x).map natD))) : Snot_holding.run [ringD n as, .int x] Q Y := ⟨n, as, x, rfl, ok, h⟩
def trnot_holding_c1 : Es Unit :=
  (.cons (.nt (.call "holds" Sholds (.cons (.ix (.var 0) (.int 0)) (.cons (.var 3) (.cons (.var 1) .nil))))) .nil)
def trnot_holding : Sms Unit :=
  (.cons (.one (.ret (.comp [2, 3] (.tp [2, 3]) (.enu (.ix (.var 0) (.int 1))) trnot_holding_c1 (.var 2))))
    .nil)

theorem w_not_holding : WOk Snot_holding 2 4 trnot_holding := fun ds Q Y h => by
  obtain ⟨n, as, x, rfl, ok, h⟩ := h
  refine ⟨rfl, ?_⟩
  have n1 := ok.n1
  unfold trnot_holding
  simp only [wSs, wS, w1, wT, wE, wA, wX, wV, wP, wC, opn, rdO_d, rdO_o, asD_d, asD_n, KQY, entry, look, put, slotV, argsOk, frzA, frzV, sv_i, sv_b, sv_s, sv_0, sv_l, sv_t, sv_d, sv_n, List.map, List.length, List.replicate, List.cons_append, List.nil_append, Nat.sub_self, biD, isD_1, boolD_b, cmpD, relD_i, opD, addD_i, addD_l, subD_i, intD_i, lenD_l, lenD_t, listD_l, listD_t, tupleD_l, int2D_i, absD_i, toIntD_i, toIntD_b, eqD_i, eqD_b, eqD_s, rngD_1, rngD_2, seqD_l, seqD_t, lstD_l, ixX_l, ixX_t, negX_i, slX_l, rvX_l, repX_i, intX_i, ixD_0, ixD_1, ixD_2, true_and, and_true, ite_self, ixR0, ixR1, wI, wipeG, backG]
  rw [enumD_map]
  refine ⟨by rw [List.length_map, List.length_zipIdx]; exact big20 ok.len, ?_⟩
  refine cLoop_mp (g := fun q : (Int × Int) × Nat => PyData.tuple [.int (q.2 : Nat), arcD q.1]) (q := fun q => if (!hld n q.1 x) = true then some (natD q.2) else none) _ [] ?_ ?_
  · intro q hq k' hk'
    unfold trnot_holding_c1
    simp only [bindT, putAll, arcD, wSs, wS, w1, wT, wE, wA, wX, wV, wP, wC, opn, rdO_d, rdO_o, asD_d, asD_n, KQY, entry, look, put, slotV, argsOk, frzA, frzV, sv_i, sv_b, sv_s, sv_0, sv_l, sv_t, sv_d, sv_n, List.map, List.length, List.replicate, List.cons_append, List.nil_append, Nat.sub_self, biD, isD_1, boolD_b, cmpD, relD_i, opD, addD_i, addD_l, subD_i, intD_i, lenD_l, lenD_t, listD_l, listD_t, tupleD_l, int2D_i, absD_i, toIntD_i, toIntD_b, eqD_i, eqD_b, eqD_s, rngD_1, rngD_2, seqD_l, seqD_t, lstD_l, ixX_l, ixX_t, negX_i, slX_l, rvX_l, repX_i, intX_i, ixD_0, ixD_1, ixD_2, true_and, and_true, ite_self, ixR0, run_holds]
    refine ⟨by omega, ?_⟩
    have hk2 : k' (if (!hld n (q.1.1, q.1.2) x) = true then some (natD q.2) else none) _ _ := hk'
    cases hc : hld n (q.1.1, q.1.2) x with
    | true =>
      rw [hc] at hk2
      simp only [Bool.not_true, Bool.false_eq_true, if_false] at hk2 ⊢
      exact hk2
    | false =>
      rw [hc] at hk2
      simp only [Bool.not_false, if_true] at hk2 ⊢
      exact hk2
  · rw [List.nil_append, enum_pick (p := fun a => !hld n a x)]
    exact h
def pfL (n : Int) (as : List (Int × Int)) (x : Int) (ss : List Nat) : List Int := srt ((feL n as x ss).map (plK n as x))
def Spoints_for : Summ where
  run ds Q _ := ∃ (n : Int) (as : List (Int × Int)) (x : Int) (ss : List Nat), ds = [ringD n as, .int x, .list (ss.map natD)] ∧ RingOk n as ∧ (∀ k ∈ ss, k < as.length) ∧ ss.length ≤ 20 ∧ Q (.new ((pfL n as x ss).map .int))
  mono := fun h1 _ ⟨n, as, x, ss, e, ok, hs, hl, q⟩ => ⟨n, as, x, ss, e, ok, hs, hl, h1 _ q⟩
theorem call_points_for {n x : Int} {as : List (Int × Int)} {ss : List Nat} {Q : Val → Prop} {Y : Nat → Prop} (ok : RingOk n as) (hs : ∀ k ∈ ss, k < as.length) (hl : ss.length ≤ 20) (h : Q (.new ((pfL n as x ss).map .int))) : Spoints_for.run [ringD n as, .int x, .list (ss.map natD)] Q Y := ⟨n, as, x, ss, rfl, ok, hs, hl, h⟩
def trpoints_for_e1 : E Unit :=
  (.op .Mod (.op .Add (.var 1) (.call "end_behind" Send_behind (.cons (.var 3) (.cons (.ix (.var 4) (.var 5)) (.cons (.var 1) .nil))))) (.var 3))
def trpoints_for : Sms Unit :=
  (.cons (.one (.asgT [3, 4] (.var 0)))
    (.cons (.one (.ret (.bi .sorted (.cons (.comp [5] (.nm 5) (.seq (.call "first_ends" Sfirst_ends (.cons (.var 0) (.cons (.var 1) (.cons (.var 2) .nil))))) .nil trpoints_for_e1) .nil))))
    .nil))

theorem feL_len {n x : Int} {as : List (Int × Int)} {ss : List Nat} : (feL n as x ss).length ≤ ss.length := by
  have := (gre_sub (b := bI n as x) (e := eI n as x) (L := feO n as x ss) (last := 0)).length_le
  rw [feO_perm.length_eq] at this
  exact this
theorem w_points_for : WOk Spoints_for 3 6 trpoints_for := fun ds Q Y h => by
  obtain ⟨n, as, x, ss, rfl, ok, hs, hl, h⟩ := h
  refine ⟨rfl, ?_⟩
  have n1 := ok.n1
  have hfl := feL_len (n := n) (as := as) (x := x) (ss := ss)
  unfold trpoints_for
  simp only [wSs, wS, w1, wT, wE, wA, wX, wV, wP, wC, opn, rdO_d, rdO_o, asD_d, asD_n, KQY, entry, look, put, slotV, argsOk, frzA, frzV, sv_i, sv_b, sv_s, sv_0, sv_l, sv_t, sv_d, sv_n, List.map, List.length, List.replicate, List.cons_append, List.nil_append, Nat.sub_self, biD, isD_1, boolD_b, cmpD, relD_i, opD, addD_i, addD_l, subD_i, intD_i, lenD_l, lenD_t, listD_l, listD_t, tupleD_l, int2D_i, absD_i, toIntD_i, toIntD_b, eqD_i, eqD_b, eqD_s, rngD_1, rngD_2, seqD_l, seqD_t, lstD_l, ixX_l, ixX_t, negX_i, slX_l, rvX_l, repX_i, intX_i, ixD_0, ixD_1, ixD_2, true_and, and_true, ite_self, ringD, putAll, wI, wipeG, backG]
  refine call_first_ends ok hs hl ?_
  try simp only [wSs, wS, w1, wT, wE, wA, wX, wV, wP, wC, opn, rdO_d, rdO_o, asD_d, asD_n, KQY, entry, look, put, slotV, argsOk, frzA, frzV, sv_i, sv_b, sv_s, sv_0, sv_l, sv_t, sv_d, sv_n, List.map, List.length, List.replicate, List.cons_append, List.nil_append, Nat.sub_self, biD, isD_1, boolD_b, cmpD, relD_i, opD, addD_i, addD_l, subD_i, intD_i, lenD_l, lenD_t, listD_l, listD_t, tupleD_l, int2D_i, absD_i, toIntD_i, toIntD_b, eqD_i, eqD_b, eqD_s, rngD_1, rngD_2, seqD_l, seqD_t, lstD_l, ixX_l, ixX_t, negX_i, slX_l, rvX_l, repX_i, intX_i, ixD_0, ixD_1, ixD_2, true_and, and_true, ite_self, Bool.false_eq_true, if_false, if_true, Bool.not_true, Bool.not_false, ixR0, ixR1, sv_r]
  refine ⟨by rw [List.length_map]; unfold big; omega, ?_⟩
  refine cLoop_mp (g := natD) (q := fun k => some (.int (plK n as x k))) _ [] ?_ ?_
  · intro k hk k' hk'
    unfold trpoints_for_e1
    simp only [bindT, natD, wSs, wS, w1, wT, wE, wA, wX, wV, wP, wC, opn, rdO_d, rdO_o, asD_d, asD_n, KQY, entry, look, put, slotV, argsOk, frzA, frzV, sv_i, sv_b, sv_s, sv_0, sv_l, sv_t, sv_d, sv_n, List.map, List.length, List.replicate, List.cons_append, List.nil_append, Nat.sub_self, biD, isD_1, boolD_b, cmpD, relD_i, opD, addD_i, addD_l, subD_i, intD_i, lenD_l, lenD_t, listD_l, listD_t, tupleD_l, int2D_i, absD_i, toIntD_i, toIntD_b, eqD_i, eqD_b, eqD_s, rngD_1, rngD_2, seqD_l, seqD_t, lstD_l, ixX_l, ixX_t, negX_i, slX_l, rvX_l, repX_i, intX_i, ixD_0, ixD_1, ixD_2, true_and, and_true, ite_self]
    rw [ixD_nat (j := k) rfl (arcAt_it (hs k (fe_mem hk)))]
    simp only [arcD, run_end_behind, wSs, wS, w1, wT, wE, wA, wX, wV, wP, wC, opn, rdO_d, rdO_o, asD_d, asD_n, KQY, entry, look, put, slotV, argsOk, frzA, frzV, sv_i, sv_b, sv_s, sv_0, sv_l, sv_t, sv_d, sv_n, List.map, List.length, List.replicate, List.cons_append, List.nil_append, Nat.sub_self, biD, isD_1, boolD_b, cmpD, relD_i, opD, addD_i, addD_l, subD_i, intD_i, lenD_l, lenD_t, listD_l, listD_t, tupleD_l, int2D_i, absD_i, toIntD_i, toIntD_b, eqD_i, eqD_b, eqD_s, rngD_1, rngD_2, seqD_l, seqD_t, lstD_l, ixX_l, ixX_t, negX_i, slX_l, rvX_l, repX_i, intX_i, ixD_0, ixD_1, ixD_2, true_and, and_true, ite_self, if_true]
    exact ⟨by omega, by omega, hk'⟩
  · rw [List.nil_append, fm_all]
    have e0 : ((feL n as x ss).map fun k => PyData.int (plK n as x k)) = ((feL n as x ss).map (plK n as x)).map .int := by rw [List.map_map]; rfl
    rw [e0]
    try simp only [wSs, wS, w1, wT, wE, wA, wX, wV, wP, wC, opn, rdO_d, rdO_o, asD_d, asD_n, KQY, entry, look, put, slotV, argsOk, frzA, frzV, sv_i, sv_b, sv_s, sv_0, sv_l, sv_t, sv_d, sv_n, List.map, List.length, List.replicate, List.cons_append, List.nil_append, Nat.sub_self, biD, isD_1, boolD_b, cmpD, relD_i, opD, addD_i, addD_l, subD_i, intD_i, lenD_l, lenD_t, listD_l, listD_t, tupleD_l, int2D_i, absD_i, toIntD_i, toIntD_b, eqD_i, eqD_b, eqD_s, rngD_1, rngD_2, seqD_l, seqD_t, lstD_l, ixX_l, ixX_t, negX_i, slX_l, rvX_l, repX_i, intX_i, ixD_0, ixD_1, ixD_2, true_and, and_true, ite_self, Bool.false_eq_true, if_false, if_true, Bool.not_true, Bool.not_false, ixR0, ixR1, sv_r]
    simp only [sortedD]
    refine ⟨_, intsD_map _, fun ns' p1 p2 => ?_⟩
    rw [srt_uniq p1 p2]
    exact h
end Ac
namespace Ac
open PySem PySem.Spec PyProof.Rows L2
/-! ### family C: a store out of a cell -/
def newC (A : KA) (d : Addr) : KA := fun b => if b = d then some .pool else A b
def E_law_take : ESumm Unit := Etake 2
@[simp] theorem run_takeC {s : Unit} {t : Nat} {m : Int} {Q : Val → Unit → Prop} {Y : Nat → Unit → Prop} : E_law_take.run [.hdl t, .dat (.int m)] s Q Y = (t = 2 ∧ (0 < m ∧ m < 1073741824) ∧ ∀ r, 0 ≤ r → r < m → Q (.dat (.int r)) ()) := rfl
def E_law_store : ESumm Unit where
  run vs s Q Y := match vs with
    | [.dat (.int _)] => Q (.hdl 2) ()
    | _ => False
  mono := fun {vs s Q Q' Y Y'} h1 h2 q => by
    split at q
    · exact h1 _ _ q
    · exact q.elim
@[simp] theorem run_storeC {s : Unit} {c : Int} {Q : Val → Unit → Prop} {Y : Nat → Unit → Prop} : E_law_store.run [.dat (.int c)] s Q Y = Q (.hdl 2) () := rfl
theorem mod_rng' {a m : Int} (h : 0 < m) : 0 ≤ a % m ∧ a % m < m := ⟨Int.emod_nonneg _ (by omega), Int.emod_lt_of_pos _ h⟩
theorem ixD_anyN {xs : List D} {i : Int} {k : D → Prop} (h0 : -(xs.length : Int) ≤ i) (h1 : i < xs.length) (h : ∀ x ∈ xs, k x) : ixD xs i k := by
  by_cases hi : 0 ≤ i
  · exact ixD_any hi h1 h
  · unfold ixD ixN
    rw [if_neg hi, if_pos h0]
    have hl : (i + (xs.length : Int)).toNat < xs.length := by omega
    show (match xs[(i + (xs.length : Int)).toNat]? with | some d => k d | none => False)
    rw [List.getElem?_eq_getElem hl]
    exact h _ (List.getElem_mem hl)
def S_law_cell : Summ := Summ.ex (α := List Int × Int) (fun a => [.list (a.1.map .int), .int a.2]) (fun a => 0 ≤ a.2 ∧ a.2 < 100) (fun a => .dat (.int (if a.2 < a.1.length then a.1.getD a.2.toNat 0 else 7 * a.2 * a.2 + 3 * a.2 + 11)))
def tr_law_cell : Sms Unit :=
  (.cons (.ite (.cmp .Lt (.var 1) (.bi .len (.cons (.var 0) .nil)))
    (.cons (.one (.ret (.ix (.var 0) (.var 1))))
    .nil)
    .nil)
    (.cons (.one (.ret (.op .Add (.op .Add (.op .Mult (.op .Mult (.int 7) (.var 1)) (.var 1)) (.op .Mult (.int 3) (.var 1))) (.int 11))))
    .nil))

theorem cmulS {i j : Int} (h0 : -18446744073709551616 < i) (h1 : i < 18446744073709551616) : CMul i j := .inl ⟨by simpa using h0, by simpa using h1⟩
theorem w_law_cell : WOk S_law_cell 2 2 tr_law_cell := WOk.ex fun a pre => ⟨rfl, fun Q Y h => by
  obtain ⟨ns, k⟩ := a
  obtain ⟨h0, h1⟩ := pre
  dsimp only at h0 h1 h ⊢
  unfold tr_law_cell
  simp only [wSs, wS, w1, wT, wE, wA, wX, wV, wP, wC, opn, rdO_d, rdO_o, asD_d, asD_n, KQY, entry, look, put, slotV, argsOk, frzA, frzV, sv_i, sv_b, sv_s, sv_0, sv_l, sv_t, sv_d, sv_n, List.map, List.length, List.replicate, List.cons_append, List.nil_append, Nat.sub_self, biD, isD_1, boolD_b, cmpD, relD_i, opD, addD_i, addD_l, subD_i, intD_i, lenD_l, lenD_t, listD_l, listD_t, tupleD_l, int2D_i, absD_i, toIntD_i, toIntD_b, eqD_i, eqD_b, eqD_s, rngD_1, rngD_2, seqD_l, seqD_t, lstD_l, ixX_l, ixX_t, negX_i, slX_l, rvX_l, repX_i, intX_i, ixD_0, ixD_1, ixD_2, true_and, and_true, ite_self, List.length_map]
  by_cases hc : k < ns.length
  · rw [if_pos hc] at h
    simp only [hc, decide_true, if_true]
    rw [ixD_nat (j := k.toNat) (by omega) (by rw [List.getElem?_map, List.getElem?_eq_getElem (by omega)]; rfl)]
    rw [List.getD_eq_getElem?_getD, List.getElem?_eq_getElem (by omega)] at h
    exact h
  · rw [if_neg hc] at h
    simp only [hc, decide_false, Bool.false_eq_true, if_false]
    exact ⟨cmulS (by decide) (by decide), cmulS (by omega) (by omega), cmulS (by decide) (by decide), h⟩⟩
theorem call_cell {ns : List Int} {k : Int} {Q : Val → Prop} {Y : Nat → Prop} (h0 : 0 ≤ k) (h1 : k < 100) (h : ∀ c : Int, Q (.dat (.int c))) : S_law_cell.run [.list (ns.map .int), .int k] Q Y := ⟨(ns, k), rfl, ⟨h0, h1⟩, h _⟩
/-- any ring may come -/
def E_law_ring : ESumm Unit where
  run vs s Q Y := match vs with
    | [.hdl t] => t = 2 ∧ ∀ n as, RingOk n as → Q (.dat (ringD n as)) ()
    | _ => False
  mono := fun {vs s Q Q' Y Y'} h1 h2 q => by
    split at q
    · exact ⟨q.1, fun n as ok => h1 _ _ (q.2 n as ok)⟩
    · exact q.elim
@[simp] theorem run_ringC {s : Unit} {t : Nat} {Q : Val → Unit → Prop} {Y : Nat → Unit → Prop} : E_law_ring.run [.hdl t] s Q Y = (t = 2 ∧ ∀ n as, RingOk n as → Q (.dat (ringD n as)) ()) := rfl
def tr_law_ring_r1 : Sms Unit :=
  (.cons (.one (.asg 10 (.calE "_law_take" E_law_take (.cons (.var 0) (.cons (.var 9) .nil)))))
    (.cons (.one (.asg 5 (.ix (.ls (.cons (.op .Mod (.op .Add (.var 8) (.var 9)) (.var 1)) (.cons (.op .Mod (.op .Sub (.op .Add (.var 8) (.var 9)) (.int 1)) (.var 1)) (.cons (.op .Mod (.op .Add (.var 8) (.var 10)) (.var 1)) (.cons (.op .Mod (.op .Sub (.var 8) (.var 10)) (.var 1)) (.cons (.var 8) .nil)))))) (.var 7))))
    (.cons (.one (.asg 6 (.ix (.ls (.cons (.var 6) (.cons (.var 6) (.cons (.op .Add (.int 1) (.calE "_law_take" E_law_take (.cons (.var 0) (.cons (.op .Sub (.var 9) (.var 10)) .nil)))) (.cons (.bi .min2 (.cons (.var 1) (.cons (.op .Add (.var 9) (.op .Mult (.int 2) (.var 10))) .nil))) (.cons (.var 9) .nil)))))) (.var 7))))
    .nil)))
def tr_law_ring_r2 : Sms Unit :=
  (.cons (.one (.app 3 (.tp (.cons (.var 5) (.cons (.var 6) .nil)))))
    .nil)
def tr_law_ring_b1 : Sms Unit :=
  (.cons (.one (.asg 5 (.calE "_law_take" E_law_take (.cons (.var 0) (.cons (.var 1) .nil)))))
    (.cons (.one (.asg 6 (.op .Add (.int 1) (.calE "_law_take" E_law_take (.cons (.var 0) (.cons (.var 2) .nil))))))
    (.cons (.one (.asg 7 (.calE "_law_take" E_law_take (.cons (.var 0) (.cons (.int 8) .nil)))))
    (.cons (.ite (.an (.cmp .NotEq (.var 3) (.ls .nil)) (.cmp .Lt (.var 7) (.int 5)))
    (.cons (.one (.asgT [8, 9] (.ix (.var 3) (.op .Sub (.neg (.int 1)) (.op .Mult (.calE "_law_take" E_law_take (.cons (.var 0) (.cons (.bi .len (.cons (.var 3) .nil)) .nil))) (.bi .int (.cons (.cmp .Gt (.var 7) (.int 1)) .nil)))))))
    tr_law_ring_r1)
    .nil)
    tr_law_ring_r2))))
def tr_law_ring : Sms Unit :=
  (.cons (.one (.asg 1 (.ix (.ls (.cons (.op .Add (.int 1) (.calE "_law_take" E_law_take (.cons (.var 0) (.cons (.int 3) .nil)))) (.cons (.op .Add (.int 1) (.calE "_law_take" E_law_take (.cons (.var 0) (.cons (.int 9) .nil)))) (.cons (.op .Add (.int 1) (.calE "_law_take" E_law_take (.cons (.var 0) (.cons (.int 40) .nil)))) (.cons (.int 40) .nil))))) (.calE "_law_take" E_law_take (.cons (.var 0) (.cons (.int 4) .nil))))))
    (.cons (.one (.asg 2 (.bi .min2 (.cons (.var 1) (.cons (.ix (.ls (.cons (.var 1) (.cons (.int 3) (.cons (.op .Add (.int 1) (.op .FloorDiv (.var 1) (.int 3))) (.cons (.op .Add (.int 1) (.op .FloorDiv (.var 1) (.int 6))) .nil))))) (.calE "_law_take" E_law_take (.cons (.var 0) (.cons (.int 4) .nil)))) .nil)))))
    (.cons (.one (.asg 3 (.ls .nil)))
    (.cons (.for (.nm 4) (.rng (.cons (.ix (.ls (.cons (.calE "_law_take" E_law_take (.cons (.var 0) (.cons (.int 4) .nil))) (.cons (.calE "_law_take" E_law_take (.cons (.var 0) (.cons (.int 9) .nil))) (.cons (.calE "_law_take" E_law_take (.cons (.var 0) (.cons (.int 21) .nil))) (.cons (.int 20) .nil))))) (.calE "_law_take" E_law_take (.cons (.var 0) (.cons (.int 4) .nil)))) .nil))
    tr_law_ring_b1)
    (.cons (.one (.ret (.tp (.cons (.var 1) (.cons (.var 3) .nil)))))
    .nil)))))

section
variable {K : Kn Unit} {s : Unit} {n top : Int} {as : List (Int × Int)} {k x5 x6 x7 x8 x9 x10 : Option Val}
theorem ring_app {st m : Int} (ha : arcOk n (st, m)) (hl : as.length ≤ 20) (hK : ∀ (a : Int × Int) (x5 x6 x7 x8 x9 x10 : Option Val), arcOk n a → K.nx [some (.hdl 2), some (.dat (.int n)), some (.dat (.int top)), some (.own ((as ++ [a]).map arcD)), k, x5, x6, x7, x8, x9, x10] ()) :
    wSs tr_law_ring_r2 [some (.hdl 2), some (.dat (.int n)), some (.dat (.int top)), some (.own (as.map arcD)), k, some (.dat (.int st)), some (.dat (.int m)), x7, x8, x9, x10] s K := by
  unfold tr_law_ring_r2
  simp only [wSs, wS, w1, wT, wE, wA, wX, wV, wP, wC, opn, rdO_d, rdO_o, asD_d, asD_n, KQY, entry, look, put, slotV, argsOk, frzA, frzV, sv_i, sv_b, sv_s, sv_0, sv_l, sv_t, sv_d, sv_n, List.map, List.length, List.replicate, List.cons_append, List.nil_append, Nat.sub_self, biD, isD_1, boolD_b, cmpD, relD_i, opD, addD_i, addD_l, subD_i, intD_i, lenD_l, lenD_t, listD_l, listD_t, tupleD_l, int2D_i, absD_i, toIntD_i, toIntD_b, eqD_i, eqD_b, eqD_s, rngD_1, rngD_2, seqD_l, seqD_t, lstD_l, ixX_l, ixX_t, negX_i, slX_l, rvX_l, repX_i, intX_i, ixD_0, ixD_1, ixD_2, true_and, and_true, ite_self]
  refine ⟨by unfold big; decide, by rw [List.length_map]; unfold big; omega, ?_⟩
  have := fun x5 x6 x7 x8 x9 x10 => hK (st, m) x5 x6 x7 x8 x9 x10 ha
  simp only [List.map_append] at this
  exact this _ _ _ _ _ _
theorem ring_r1 {b h st m way : Int} (n1 : 1 ≤ n) (n40 : n ≤ 40) (hb : arcOk n (b, h)) (hm : 1 ≤ m ∧ m ≤ n) (hw : 0 ≤ way ∧ way < 5)
    (hK : ∀ (st m : Int) (x7 x8 x9 x10 : Option Val), arcOk n (st, m) → K.nx [some (.hdl 2), some (.dat (.int n)), some (.dat (.int top)), some (.own (as.map arcD)), k, some (.dat (.int st)), some (.dat (.int m)), x7, x8, x9, x10] ()) :
    wSs tr_law_ring_r1 [some (.hdl 2), some (.dat (.int n)), some (.dat (.int top)), some (.own (as.map arcD)), k, some (.dat (.int st)), some (.dat (.int m)), some (.dat (.int way)), some (.dat (.int b)), some (.dat (.int h)), x10] s K := by
  obtain ⟨b0, b1, h1, h2⟩ := hb
  dsimp only at b0 b1 h1 h2
  unfold tr_law_ring_r1
  simp only [wSs, wS, w1, wT, wE, wA, wX, wV, wP, wC, opn, rdO_d, rdO_o, asD_d, asD_n, KQY, entry, look, put, slotV, argsOk, frzA, frzV, sv_i, sv_b, sv_s, sv_0, sv_l, sv_t, sv_d, sv_n, List.map, List.length, List.replicate, List.cons_append, List.nil_append, Nat.sub_self, biD, isD_1, boolD_b, cmpD, relD_i, opD, addD_i, addD_l, subD_i, intD_i, lenD_l, lenD_t, listD_l, listD_t, tupleD_l, int2D_i, absD_i, toIntD_i, toIntD_b, eqD_i, eqD_b, eqD_s, rngD_1, rngD_2, seqD_l, seqD_t, lstD_l, ixX_l, ixX_t, negX_i, slX_l, rvX_l, repX_i, intX_i, ixD_0, ixD_1, ixD_2, true_and, and_true, ite_self, run_takeC, eq_self]
  refine ⟨⟨by omega, by omega⟩, fun at' a0 a1 => ⟨by omega, by omega, by omega, by omega, by unfold big; decide, ?_⟩⟩
  have m1 := mod_rng' (a := b + h) (m := n) (by omega)
  have m2 := mod_rng' (a := b + h - 1) (m := n) (by omega)
  have m3 := mod_rng' (a := b + at') (m := n) (by omega)
  have m4 := mod_rng' (a := b - at') (m := n) (by omega)
  refine ixD_any hw.1 (by simp; omega) fun y hy => ?_
  have key : ∃ st : Int, y = .int st ∧ 0 ≤ st ∧ st < n := by
    simp at hy
    rcases hy with rfl | rfl | rfl | rfl | rfl
    · exact ⟨_, rfl, m1⟩
    · exact ⟨_, rfl, m2⟩
    · exact ⟨_, rfl, m3⟩
    · exact ⟨_, rfl, m4⟩
    · exact ⟨_, rfl, b0, b1⟩
  obtain ⟨st2, rfl, s0, s1⟩ := key
  refine ⟨⟨by omega, by omega⟩, fun e e0 e1 => ⟨cmulS (by decide) (by decide), by unfold big; decide, ?_⟩⟩
  have hmn : 1 ≤ (if h + 2 * at' < n then h + 2 * at' else n) ∧ (if h + 2 * at' < n then h + 2 * at' else n) ≤ n := by split <;> omega
  generalize (if h + 2 * at' < n then h + 2 * at' else n) = mn at hmn
  refine ixD_any hw.1 (by simp; omega) fun y hy => ?_
  have key : ∃ m : Int, y = .int m ∧ 1 ≤ m ∧ m ≤ n := by
    simp at hy
    rcases hy with rfl | rfl | rfl | rfl
    · exact ⟨_, rfl, hm⟩
    · exact ⟨_, rfl, by omega, by omega⟩
    · exact ⟨_, rfl, hmn⟩
    · exact ⟨_, rfl, h1, h2⟩
  obtain ⟨m3, rfl, q0, q1⟩ := key
  exact hK st2 m3 _ _ _ _ ⟨s0, s1, q0, q1⟩
theorem ring_b1 (n1 : 1 ≤ n) (n40 : n ≤ 40) (t1 : 1 ≤ top) (t2 : top ≤ n) (hl : as.length ≤ 20) (has : ∀ a ∈ as, arcOk n a) (hK : ∀ (a : Int × Int) (x5 x6 x7 x8 x9 x10 : Option Val), arcOk n a → K.nx [some (.hdl 2), some (.dat (.int n)), some (.dat (.int top)), some (.own ((as ++ [a]).map arcD)), k, x5, x6, x7, x8, x9, x10] ()) :
    wSs tr_law_ring_b1 [some (.hdl 2), some (.dat (.int n)), some (.dat (.int top)), some (.own (as.map arcD)), k, x5, x6, x7, x8, x9, x10] s K := by
  have app := fun st m x7 x8 x9 x10 ha => ring_app (K := K) (s := ()) (n := n) (top := top) (as := as) (k := k) (x7 := x7) (x8 := x8) (x9 := x9) (x10 := x10) (st := st) (m := m) ha hl hK
  have inn := fun b h st m way x10 hb hm hw => ring_r1 (K := { K with nx := fun Γ' s' => wSs tr_law_ring_r2 Γ' s' K }) (s := ()) (n := n) (top := top) (as := as) (k := k) (x10 := x10) (b := b) (h := h) (st := st) (m := m) (way := way) n1 n40 hb hm hw fun st m x7 x8 x9 x10 ha => app st m x7 x8 x9 x10 ha
  unfold tr_law_ring_b1
  generalize tr_law_ring_r2 = r2 at app inn
  generalize tr_law_ring_r1 = r1 at inn
  simp only [wSs, wS, w1, wT, wE, wA, wX, wV, wP, wC, opn, rdO_d, rdO_o, asD_d, asD_n, KQY, entry, look, put, slotV, argsOk, frzA, frzV, sv_i, sv_b, sv_s, sv_0, sv_l, sv_t, sv_d, sv_n, List.map, List.length, List.replicate, List.cons_append, List.nil_append, Nat.sub_self, biD, isD_1, boolD_b, cmpD, relD_i, opD, addD_i, addD_l, subD_i, intD_i, lenD_l, lenD_t, listD_l, listD_t, tupleD_l, int2D_i, absD_i, toIntD_i, toIntD_b, eqD_i, eqD_b, eqD_s, rngD_1, rngD_2, seqD_l, seqD_t, lstD_l, ixX_l, ixX_t, negX_i, slX_l, rvX_l, repX_i, intX_i, ixD_0, ixD_1, ixD_2, true_and, and_true, ite_self, run_takeC, eq_self, eqD_nil]
  refine ⟨⟨by omega, by omega⟩, fun st s0 s1 => ⟨⟨by omega, by omega⟩, fun e e0 e1 => ⟨⟨by decide, by decide⟩, fun way y0 y1 => ⟨by unfold big; decide, ?_⟩⟩⟩⟩
  by_cases he : as = []
  · subst he
    simp
    exact app st (1 + e) _ _ _ _ ⟨s0, s1, by show 1 ≤ 1 + e; omega, by show 1 + e ≤ n; omega⟩
  · have e1 : (!(as.map arcD).isEmpty) = true := by rw [notEmpty_iff]; simpa using he
    have hpos : 0 < as.length := List.length_pos_iff.mpr he
    simp only [e1, if_true]
    by_cases hc : way < 5
    · simp only [hc, decide_true, if_true, List.length_map]
      refine ⟨⟨by omega, by omega⟩, fun j j0 j1 => ⟨cmulS (by omega) (by omega), ?_⟩⟩
      have hi : -((as.map arcD).length : Int) ≤ -1 - j * (if decide (1 < way) = true then 1 else 0) ∧ -1 - j * (if decide (1 < way) = true then 1 else 0) < ((as.map arcD).length : Int) := by
        rw [List.length_map]
        split <;> omega
      refine ixD_anyN hi.1 hi.2 fun y hy => ?_
      obtain ⟨b, hb, rfl⟩ := List.mem_map.mp hy
      obtain ⟨b, h⟩ := b
      simp only [arcD, putAll, wSs, wS, w1, wT, wE, wA, wX, wV, wP, wC, opn, rdO_d, rdO_o, asD_d, asD_n, KQY, entry, look, put, slotV, argsOk, frzA, frzV, sv_i, sv_b, sv_s, sv_0, sv_l, sv_t, sv_d, sv_n, List.map, List.length, List.replicate, List.cons_append, List.nil_append, Nat.sub_self, biD, isD_1, boolD_b, cmpD, relD_i, opD, addD_i, addD_l, subD_i, intD_i, lenD_l, lenD_t, listD_l, listD_t, tupleD_l, int2D_i, absD_i, toIntD_i, toIntD_b, eqD_i, eqD_b, eqD_s, rngD_1, rngD_2, seqD_l, seqD_t, lstD_l, ixX_l, ixX_t, negX_i, slX_l, rvX_l, repX_i, intX_i, ixD_0, ixD_1, ixD_2, true_and, and_true, ite_self]
      exact inn b h st (1 + e) way _ (has _ hb) ⟨by omega, by omega⟩ ⟨y0, hc⟩
    · simp only [hc, decide_false, Bool.false_eq_true, if_false]
      exact app st (1 + e) _ _ _ _ ⟨s0, s1, by show 1 ≤ 1 + e; omega, by show 1 + e ≤ n; omega⟩
end
theorem w_law_ring : WOkE E_law_ring 1 11 tr_law_ring := fun ws s Q Y h => by
  unfold E_law_ring at h
  dsimp only at h
  split at h
  · obtain ⟨rfl, h⟩ := h
    refine ⟨rfl, ?_⟩
    unfold tr_law_ring
    simp only [wSs, wS, w1, wT, wE, wA, wX, wV, wP, wC, opn, rdO_d, rdO_o, asD_d, asD_n, KQY, entry, look, put, slotV, argsOk, frzA, frzV, sv_i, sv_b, sv_s, sv_0, sv_l, sv_t, sv_d, sv_n, List.map, List.length, List.replicate, List.cons_append, List.nil_append, Nat.sub_self, biD, isD_1, boolD_b, cmpD, relD_i, opD, addD_i, addD_l, subD_i, intD_i, lenD_l, lenD_t, listD_l, listD_t, tupleD_l, int2D_i, absD_i, toIntD_i, toIntD_b, eqD_i, eqD_b, eqD_s, rngD_1, rngD_2, seqD_l, seqD_t, lstD_l, ixX_l, ixX_t, negX_i, slX_l, rvX_l, repX_i, intX_i, ixD_0, ixD_1, ixD_2, true_and, and_true, ite_self, KE2, run_takeC, eq_self, wJ]
    refine ⟨⟨by decide, by decide⟩, fun a a0 a1 => ⟨⟨by decide, by decide⟩, fun b b0 b1 => ⟨⟨by decide, by decide⟩, fun c c0 c1 => ⟨by unfold big; decide, ⟨by decide, by decide⟩, fun i i0 i1 => ixD_any i0 (by simpa using i1) fun y hy => ?_⟩⟩⟩⟩
    have key : ∃ n : Int, y = .int n ∧ 1 ≤ n ∧ n ≤ 40 := by
      simp at hy
      rcases hy with rfl | rfl | rfl | rfl
      · exact ⟨_, rfl, by omega, by omega⟩
      · exact ⟨_, rfl, by omega, by omega⟩
      · exact ⟨_, rfl, by omega, by omega⟩
      · exact ⟨_, rfl, by omega, by omega⟩
    obtain ⟨n, rfl, n1, n40⟩ := key
    refine ⟨⟨by decide, by decide⟩, ⟨by decide, by decide⟩, by unfold big; decide, ⟨by decide, by decide⟩, fun i i0 i1 => ixD_any i0 (by simpa using i1) fun y hy => ?_⟩
    have key : ∃ t : Int, y = .int t ∧ 1 ≤ t := by
      simp at hy
      rcases hy with rfl | rfl | rfl | rfl
      · exact ⟨_, rfl, by omega⟩
      · exact ⟨_, rfl, by omega⟩
      · exact ⟨_, rfl, by omega⟩
      · exact ⟨_, rfl, by omega⟩
    obtain ⟨t, rfl, t1⟩ := key
    have htop : 1 ≤ (if t < n then t else n) ∧ (if t < n then t else n) ≤ n := by split <;> omega
    simp only [wSs, wS, w1, wT, wE, wA, wX, wV, wP, wC, opn, rdO_d, rdO_o, asD_d, asD_n, KQY, entry, look, put, slotV, argsOk, frzA, frzV, sv_i, sv_b, sv_s, sv_0, sv_l, sv_t, sv_d, sv_n, List.map, List.length, List.replicate, List.cons_append, List.nil_append, Nat.sub_self, biD, isD_1, boolD_b, cmpD, relD_i, opD, addD_i, addD_l, subD_i, intD_i, lenD_l, lenD_t, listD_l, listD_t, tupleD_l, int2D_i, absD_i, toIntD_i, toIntD_b, eqD_i, eqD_b, eqD_s, rngD_1, rngD_2, seqD_l, seqD_t, lstD_l, ixX_l, ixX_t, negX_i, slX_l, rvX_l, repX_i, intX_i, ixD_0, ixD_1, ixD_2, true_and, and_true, ite_self]
    generalize (if t < n then t else n) = top at htop
    refine ⟨by unfold big; decide, ⟨by decide, by decide⟩, fun a a0 a1 => ⟨⟨by decide, by decide⟩, fun b b0 b1 => ⟨⟨by decide, by decide⟩, fun c c0 c1 => ⟨by unfold big; decide, ⟨by decide, by decide⟩, fun i i0 i1 => ixD_any i0 (by simpa using i1) fun y hy => ?_⟩⟩⟩⟩
    have key : ∃ l : Int, y = .int l ∧ 0 ≤ l ∧ l ≤ 20 := by
      simp at hy
      rcases hy with rfl | rfl | rfl | rfl
      · exact ⟨_, rfl, by omega, by omega⟩
      · exact ⟨_, rfl, by omega, by omega⟩
      · exact ⟨_, rfl, by omega, by omega⟩
      · exact ⟨_, rfl, by omega, by omega⟩
    obtain ⟨l, rfl, l0, l1⟩ := key
    simp only [wSs, wS, w1, wT, wE, wA, wX, wV, wP, wC, opn, rdO_d, rdO_o, asD_d, asD_n, KQY, entry, look, put, slotV, argsOk, frzA, frzV, sv_i, sv_b, sv_s, sv_0, sv_l, sv_t, sv_d, sv_n, List.map, List.length, List.replicate, List.cons_append, List.nil_append, Nat.sub_self, biD, isD_1, boolD_b, cmpD, relD_i, opD, addD_i, addD_l, subD_i, intD_i, lenD_l, lenD_t, listD_l, listD_t, tupleD_l, int2D_i, absD_i, toIntD_i, toIntD_b, eqD_i, eqD_b, eqD_s, rngD_1, rngD_2, seqD_l, seqD_t, lstD_l, ixX_l, ixX_t, negX_i, slX_l, rvX_l, repX_i, intX_i, ixD_0, ixD_1, ixD_2, true_and, and_true, ite_self]
    refine ⟨⟨by omega, by omega⟩, by rw [List.length_map, List.length_range]; unfold big; omega, ?_⟩
    refine fLoop_inv (fun done rest Γ s => ∃ (as : List (Int × Int)) (x4 x5 x6 x7 x8 x9 x10 : Option Val), Γ = [some (.hdl 2), some (.dat (.int n)), some (.dat (.int top)), some (.own (as.map arcD)), x4, x5, x6, x7, x8, x9, x10] ∧ as.length = done.length ∧ (done.length + rest.length : Int) ≤ 20 ∧ ∀ a ∈ as, arcOk n a) ?_ ?_ _ [] _ _ ?_
    · rintro done Γ s ⟨as, x4, x5, x6, x7, x8, x9, x10, rfl, hl, hb, has⟩
      simp only [wSs, wS, w1, wT, wE, wA, wX, wV, wP, wC, opn, rdO_d, rdO_o, asD_d, asD_n, KQY, entry, look, put, slotV, argsOk, frzA, frzV, sv_i, sv_b, sv_s, sv_0, sv_l, sv_t, sv_d, sv_n, List.map, List.length, List.replicate, List.cons_append, List.nil_append, Nat.sub_self, biD, isD_1, boolD_b, cmpD, relD_i, opD, addD_i, addD_l, subD_i, intD_i, lenD_l, lenD_t, listD_l, listD_t, tupleD_l, int2D_i, absD_i, toIntD_i, toIntD_b, eqD_i, eqD_b, eqD_s, rngD_1, rngD_2, seqD_l, seqD_t, lstD_l, ixX_l, ixX_t, negX_i, slX_l, rvX_l, repX_i, intX_i, ixD_0, ixD_1, ixD_2, true_and, and_true, ite_self]
      simp at hb
      exact ⟨by unfold big; decide, h n as ⟨n1, n40, by omega, has⟩⟩
    · rintro done y r Γ s K' ⟨as, x4, x5, x6, x7, x8, x9, x10, rfl, hl, hb, has⟩ hnx hct hbk hrt hex
      rw [List.length_cons] at hb
      simp only [bindT, put]
      refine ring_b1 n1 n40 htop.1 htop.2 (by omega) has fun a y5 y6 y7 y8 y9 y10 ha => hnx _ _ ⟨as ++ [a], _, y5, y6, y7, y8, y9, y10, rfl, ?_, ?_, fun b hb => ?_⟩
      · rw [List.length_append, List.length_append, List.length_singleton, List.length_singleton, hl]
      · rw [List.length_append, List.length_singleton]; omega
      · rcases List.mem_append.mp hb with hb | hb
        · exact has b hb
        · have e : b = a := by simpa using hb
          rw [e]; exact ha
    · refine ⟨[], _, _, _, _, _, _, _, rfl, rfl, ?_, fun a h => nomatch h⟩
      rw [List.length_map, List.length_range]
      simp
      omega
  · exact h.elim
/-! ### what a law's own reckoning uses -/
def S_law_copy : Summ := Summ.ex (α := Int × List (Int × Int)) (fun a => [ringD a.1 a.2]) (fun _ => True) (fun a => .dat (ringD a.1 a.2))
def tr_law_copy : Sms Unit :=
  (.cons (.one (.ret (.tp (.cons (.ix (.var 0) (.int 0)) (.cons (.bi .list (.cons (.ix (.var 0) (.int 1)) .nil)) .nil)))))
    .nil)

theorem w_law_copy : WOk S_law_copy 1 1 tr_law_copy := WOk.ex fun a _ => ⟨rfl, fun Q Y h => by
  unfold tr_law_copy
  simp only [wSs, wS, w1, wT, wE, wA, wX, wV, wP, wC, opn, rdO_d, rdO_o, asD_d, asD_n, KQY, entry, look, put, slotV, argsOk, frzA, frzV, sv_i, sv_b, sv_s, sv_0, sv_l, sv_t, sv_d, sv_n, List.map, List.length, List.replicate, List.cons_append, List.nil_append, Nat.sub_self, biD, isD_1, boolD_b, cmpD, relD_i, opD, addD_i, addD_l, subD_i, intD_i, lenD_l, lenD_t, listD_l, listD_t, tupleD_l, int2D_i, absD_i, toIntD_i, toIntD_b, eqD_i, eqD_b, eqD_s, rngD_1, rngD_2, seqD_l, seqD_t, lstD_l, ixX_l, ixX_t, negX_i, slX_l, rvX_l, repX_i, intX_i, ixD_0, ixD_1, ixD_2, true_and, and_true, ite_self, ringD]
  exact ⟨by unfold big; decide, h⟩⟩
def S_law_holds : Summ := Summ.ex (α := Int × (Int × Int) × Int) (fun a => [.int a.1, arcD a.2.1, .int a.2.2]) (fun a => 0 < a.1) (fun a => .dat (.bool (hld a.1 a.2.1 a.2.2)))
def tr_law_holds : Sms Unit :=
  (.cons (.one (.ret (.cmp .Lt (.op .Mod (.op .Sub (.var 2) (.ix (.var 1) (.int 0))) (.var 0)) (.ix (.var 1) (.int 1)))))
    .nil)

theorem w_law_holds : WOk S_law_holds 3 3 tr_law_holds := WOk.ex fun a pre => ⟨rfl, fun Q Y h => by
  unfold tr_law_holds
  simp only [wSs, wS, w1, wT, wE, wA, wX, wV, wP, wC, opn, rdO_d, rdO_o, asD_d, asD_n, KQY, entry, look, put, slotV, argsOk, frzA, frzV, sv_i, sv_b, sv_s, sv_0, sv_l, sv_t, sv_d, sv_n, List.map, List.length, List.replicate, List.cons_append, List.nil_append, Nat.sub_self, biD, isD_1, boolD_b, cmpD, relD_i, opD, addD_i, addD_l, subD_i, intD_i, lenD_l, lenD_t, listD_l, listD_t, tupleD_l, int2D_i, absD_i, toIntD_i, toIntD_b, eqD_i, eqD_b, eqD_s, rngD_1, rngD_2, seqD_l, seqD_t, lstD_l, ixX_l, ixX_t, negX_i, slX_l, rvX_l, repX_i, intX_i, ixD_0, ixD_1, ixD_2, true_and, and_true, ite_self, arcD]
  exact ⟨pre, h⟩⟩
theorem call_lholds {n p : Int} {a : Int × Int} {Q : Val → Prop} {Y : Nat → Prop} (hn : 0 < n) (h : Q (.dat (.bool (hld n a p)))) : S_law_holds.run [.int n, .tuple [.int a.1, .int a.2], .int p] Q Y := ⟨(n, a, p), rfl, hn, h⟩
def wholeD : D → Bool
  | .int _ => true
  | _ => false
def S_law_whole : Summ := Summ.pure fun ds => match ds with
  | [d] => some (.inl (.dat (.bool (wholeD d))))
  | _ => none
@[simp] theorem run_whole {d : D} {Q : Val → Prop} {Y : Nat → Prop} : S_law_whole.run [d] Q Y = Q (.dat (.bool (wholeD d))) := rfl
def tr_law_whole : Sms Unit :=
  (.cons (.one (.ret (.an (.bi .isint (.cons (.var 0) .nil)) (.nt (.bi .isbool (.cons (.var 0) .nil))))))
    .nil)

theorem w_law_whole : WOk S_law_whole 1 1 tr_law_whole := WOk.of fun ds r e => by
  split at e
  · rename_i d
    cases e
    refine ⟨rfl, fun Q Y h => ?_⟩
    unfold tr_law_whole
    simp only [wSs, wS, w1, wT, wE, wA, wX, wV, wP, wC, opn, rdO_d, rdO_o, asD_d, asD_n, KQY, entry, look, put, slotV, argsOk, frzA, frzV, sv_i, sv_b, sv_s, sv_0, sv_l, sv_t, sv_d, sv_n, List.map, List.length, List.replicate, List.cons_append, List.nil_append, Nat.sub_self, biD, isD_1, boolD_b, cmpD, relD_i, opD, addD_i, addD_l, subD_i, intD_i, lenD_l, lenD_t, listD_l, listD_t, tupleD_l, int2D_i, absD_i, toIntD_i, toIntD_b, eqD_i, eqD_b, eqD_s, rngD_1, rngD_2, seqD_l, seqD_t, lstD_l, ixX_l, ixX_t, negX_i, slX_l, rvX_l, repX_i, intX_i, ixD_0, ixD_1, ixD_2, true_and, and_true, ite_self]
    cases d <;> simpa [isIntD, isBoolD, wholeD] using h
  · cases e
def tr_law_rising_c1 : Es Unit :=
  (.cons (.or (.nt (.call "_law_whole" S_law_whole (.cons (.var 2) .nil))) (.or (.cmp .Lt (.var 2) (.int 0)) (.cmp .GtE (.var 2) (.var 1)))) .nil)
def tr_law_rising_c2 : Es Unit :=
  (.cons (.cmp .GtE (.ix (.var 0) (.op .Sub (.var 3) (.int 1))) (.ix (.var 0) (.var 3))) .nil)
def tr_law_rising : Sms Unit :=
  (.cons (.ite (.nt (.bi .islist (.cons (.var 0) .nil)))
    (.cons (.one (.ret (.bl false)))
    .nil)
    .nil)
    (.cons (.ite (.cmp .NotEq (.comp [2] (.nm 2) (.seq (.var 0)) tr_law_rising_c1 (.var 2)) (.ls .nil))
    (.cons (.one (.ret (.bl false)))
    .nil)
    .nil)
    (.cons (.one (.ret (.cmp .Eq (.comp [3] (.nm 3) (.rng (.cons (.int 1) (.cons (.bi .len (.cons (.var 0) .nil)) .nil))) tr_law_rising_c2 (.var 3)) (.ls .nil))))
    .nil)))

theorem w_law_rising : WOk S_law_rising 2 4 tr_law_rising := fun ds Q Y h => by
  obtain ⟨d, b, rfl, hl, h⟩ := h
  refine ⟨rfl, ?_⟩
  unfold tr_law_rising
  cases d with
  | list xs =>
    have hl' : xs.length ≤ 90000 := hl
    simp only [wSs, wS, w1, wT, wE, wA, wX, wV, wP, wC, opn, rdO_d, rdO_o, asD_d, asD_n, KQY, entry, look, put, slotV, argsOk, frzA, frzV, sv_i, sv_b, sv_s, sv_0, sv_l, sv_t, sv_d, sv_n, List.map, List.length, List.replicate, List.cons_append, List.nil_append, Nat.sub_self, biD, isD_1, boolD_b, cmpD, relD_i, opD, addD_i, addD_l, subD_i, intD_i, lenD_l, lenD_t, listD_l, listD_t, tupleD_l, int2D_i, absD_i, toIntD_i, toIntD_b, eqD_i, eqD_b, eqD_s, rngD_1, rngD_2, seqD_l, seqD_t, lstD_l, ixX_l, ixX_t, negX_i, slX_l, rvX_l, repX_i, intX_i, ixD_0, ixD_1, ixD_2, true_and, and_true, ite_self, isListD, Bool.not_true, Bool.false_eq_true, if_false, wI, wipeG, backG]
    refine ⟨by unfold big; omega, ?_⟩
    refine cLoop_pure (g := outR b) _ [] ?_ ?_
    · intro y hy k' hk
      unfold tr_law_rising_c1
      unfold outR at hk
      simp only [bindT, wSs, wS, w1, wT, wE, wA, wX, wV, wP, wC, opn, rdO_d, rdO_o, asD_d, asD_n, KQY, entry, look, put, slotV, argsOk, frzA, frzV, sv_i, sv_b, sv_s, sv_0, sv_l, sv_t, sv_d, sv_n, List.map, List.length, List.replicate, List.cons_append, List.nil_append, Nat.sub_self, biD, isD_1, boolD_b, cmpD, relD_i, opD, addD_i, addD_l, subD_i, intD_i, lenD_l, lenD_t, listD_l, listD_t, tupleD_l, int2D_i, absD_i, toIntD_i, toIntD_b, eqD_i, eqD_b, eqD_s, rngD_1, rngD_2, seqD_l, seqD_t, lstD_l, ixX_l, ixX_t, negX_i, slX_l, rvX_l, repX_i, intX_i, ixD_0, ixD_1, ixD_2, true_and, and_true, ite_self, run_whole]
      cases y with
      | int i =>
        simp only [wholeD, Bool.not_true, Bool.false_eq_true, if_false, wSs, wS, w1, wT, wE, wA, wX, wV, wP, wC, opn, rdO_d, rdO_o, asD_d, asD_n, KQY, entry, look, put, slotV, argsOk, frzA, frzV, sv_i, sv_b, sv_s, sv_0, sv_l, sv_t, sv_d, sv_n, List.map, List.length, List.replicate, List.cons_append, List.nil_append, Nat.sub_self, biD, isD_1, boolD_b, cmpD, relD_i, opD, addD_i, addD_l, subD_i, intD_i, lenD_l, lenD_t, listD_l, listD_t, tupleD_l, int2D_i, absD_i, toIntD_i, toIntD_b, eqD_i, eqD_b, eqD_s, rngD_1, rngD_2, seqD_l, seqD_t, lstD_l, ixX_l, ixX_t, negX_i, slX_l, rvX_l, repX_i, intX_i, ixD_0, ixD_1, ixD_2, true_and, and_true, ite_self]
        have hk2 : k' (if (decide (0 ≤ i) && decide (i < b)) = true then none else some (.int i)) _ _ := hk
        by_cases h0 : i < 0
        · rw [if_neg (by simp; omega)] at hk2
          simp only [h0, decide_true, if_true]
          exact hk2
        · simp only [h0, decide_false, Bool.false_eq_true, if_false]
          by_cases h1 : b ≤ i
          · rw [if_neg (by simp; omega)] at hk2
            simp only [h1, decide_true, if_true]
            exact hk2
          · rw [if_pos (by simp; omega)] at hk2
            simp only [h1, decide_false, Bool.false_eq_true, if_false]
            exact hk2
      | _ =>
        simp only [wholeD, Bool.not_false, if_true]
        exact hk
    · rw [List.nil_append]
      simp only [eqD_nil]
      refine ⟨by unfold big; decide, ?_⟩
      cases ha : xs.all (inR b) with
      | false =>
        have he : (xs.filterMap (outR b)).isEmpty = false := by
          rw [Bool.eq_false_iff, ne_eq, filterMap_empty]
          intro hh
          rw [List.all_eq_false] at ha
          obtain ⟨x, hx, hx2⟩ := ha
          have := hh x hx
          unfold outR at this
          rw [if_neg hx2] at this
          cases this
        simp only [he, Bool.not_false, if_true]
        have e : risD (.list xs) b = false := by unfold risD; dsimp only; rw [ha]; rfl
        rw [e] at h
        exact h
      | true =>
        have he : (xs.filterMap (outR b)).isEmpty = true := by
          rw [filterMap_empty]
          intro x hx
          unfold outR
          rw [if_pos (List.all_eq_true.mp ha x hx)]
        simp only [he, Bool.not_true, Bool.false_eq_true, if_false, wSs, wS, w1, wT, wE, wA, wX, wV, wP, wC, opn, rdO_d, rdO_o, asD_d, asD_n, KQY, entry, look, put, slotV, argsOk, frzA, frzV, sv_i, sv_b, sv_s, sv_0, sv_l, sv_t, sv_d, sv_n, List.map, List.length, List.replicate, List.cons_append, List.nil_append, Nat.sub_self, biD, isD_1, boolD_b, cmpD, relD_i, opD, addD_i, addD_l, subD_i, intD_i, lenD_l, lenD_t, listD_l, listD_t, tupleD_l, int2D_i, absD_i, toIntD_i, toIntD_b, eqD_i, eqD_b, eqD_s, rngD_1, rngD_2, seqD_l, seqD_t, lstD_l, ixX_l, ixX_t, negX_i, slX_l, rvX_l, repX_i, intX_i, ixD_0, ixD_1, ixD_2, true_and, and_true, ite_self]
        obtain ⟨ns, rfl, hb⟩ := inR_ints ha
        rw [List.length_map] at hl'
        refine ⟨by rw [List.length_map]; omega, by rw [List.length_map, List.length_range, List.length_map]; unfold big; omega, ?_⟩
        rw [List.length_map]
        refine cLoop_pure (g := fallG ns) _ [] ?_ ?_
        · intro y hy k' hk
          obtain ⟨i, hi, rfl⟩ := List.mem_map.mp hy
          rw [List.mem_range] at hi
          unfold tr_law_rising_c2
          simp only [bindT, wSs, wS, w1, wT, wE, wA, wX, wV, wP, wC, opn, rdO_d, rdO_o, asD_d, asD_n, KQY, entry, look, put, slotV, argsOk, frzA, frzV, sv_i, sv_b, sv_s, sv_0, sv_l, sv_t, sv_d, sv_n, List.map, List.length, List.replicate, List.cons_append, List.nil_append, Nat.sub_self, biD, isD_1, boolD_b, cmpD, relD_i, opD, addD_i, addD_l, subD_i, intD_i, lenD_l, lenD_t, listD_l, listD_t, tupleD_l, int2D_i, absD_i, toIntD_i, toIntD_b, eqD_i, eqD_b, eqD_s, rngD_1, rngD_2, seqD_l, seqD_t, lstD_l, ixX_l, ixX_t, negX_i, slX_l, rvX_l, repX_i, intX_i, ixD_0, ixD_1, ixD_2, true_and, and_true, ite_self]
          rw [ixD_nat (j := i) (by omega) (by rw [List.getElem?_map, List.getElem?_eq_getElem (by omega)]; rfl), ixD_nat (j := i + 1) (by omega) (by rw [List.getElem?_map, List.getElem?_eq_getElem (by omega)]; rfl)]
          simp only [wSs, wS, w1, wT, wE, wA, wX, wV, wP, wC, opn, rdO_d, rdO_o, asD_d, asD_n, KQY, entry, look, put, slotV, argsOk, frzA, frzV, sv_i, sv_b, sv_s, sv_0, sv_l, sv_t, sv_d, sv_n, List.map, List.length, List.replicate, List.cons_append, List.nil_append, Nat.sub_self, biD, isD_1, boolD_b, cmpD, relD_i, opD, addD_i, addD_l, subD_i, intD_i, lenD_l, lenD_t, listD_l, listD_t, tupleD_l, int2D_i, absD_i, toIntD_i, toIntD_b, eqD_i, eqD_b, eqD_s, rngD_1, rngD_2, seqD_l, seqD_t, lstD_l, ixX_l, ixX_t, negX_i, slX_l, rvX_l, repX_i, intX_i, ixD_0, ixD_1, ixD_2, true_and, and_true, ite_self]
          have hk2 : k' (if ns.getD (1 + (i : Int)).toNat 0 ≤ ns.getD (1 + (i : Int) - 1).toNat 0 then some (.int (1 + (i : Nat))) else none) _ _ := hk
          have e1 : (1 + (i : Int)).toNat = i + 1 := by omega
          have e2 : (1 + (i : Int) - 1).toNat = i := by omega
          rw [e1, e2, List.getD_eq_getElem?_getD, List.getD_eq_getElem?_getD, List.getElem?_eq_getElem (by omega), List.getElem?_eq_getElem (by omega)] at hk2
          dsimp only [Option.getD] at hk2
          by_cases hc : ns[i + 1] ≤ ns[i]
          · rw [if_pos hc] at hk2
            simp only [hc, decide_true, if_true]
            exact hk2
          · rw [if_neg hc] at hk2
            simp only [hc, decide_false, Bool.false_eq_true, if_false]
            exact hk2
        · rw [List.nil_append]
          refine ⟨by unfold big; decide, ?_⟩
          refine qb h ?_
          rw [risD_ints, fall_iff]
          exact ⟨fun hh => hh.2, fun hh => ⟨hb, hh⟩⟩
  | _ =>
    simp only [wSs, wS, w1, wT, wE, wA, wX, wV, wP, wC, opn, rdO_d, rdO_o, asD_d, asD_n, KQY, entry, look, put, slotV, argsOk, frzA, frzV, sv_i, sv_b, sv_s, sv_0, sv_l, sv_t, sv_d, sv_n, List.map, List.length, List.replicate, List.cons_append, List.nil_append, Nat.sub_self, biD, isD_1, boolD_b, cmpD, relD_i, opD, addD_i, addD_l, subD_i, intD_i, lenD_l, lenD_t, listD_l, listD_t, tupleD_l, int2D_i, absD_i, toIntD_i, toIntD_b, eqD_i, eqD_b, eqD_s, rngD_1, rngD_2, seqD_l, seqD_t, lstD_l, ixX_l, ixX_t, negX_i, slX_l, rvX_l, repX_i, intX_i, ixD_0, ixD_1, ixD_2, true_and, and_true, ite_self, isListD, Bool.not_false, if_true]
    exact h
end Ac
namespace Ac
open PySem PySem.Spec PyProof.Rows L2
/-! ### family C: how a law reckons the most apart -/
def S_law_meet : Summ := Summ.ex (α := Int × (Int × Int) × (Int × Int)) (fun a => [.int a.1, arcD a.2.1, arcD a.2.2]) (fun a => arcOk a.1 a.2.1 ∧ arcOk a.1 a.2.2 ∧ a.1 ≤ 40) (fun a => .dat (.bool (mtB a.1 a.2.1 a.2.2)))
theorem call_lmeet {n : Int} {a b : Int × Int} {Q : Val → Prop} {Y : Nat → Prop} (oa : arcOk n a) (ob : arcOk n b) (hn : n ≤ 40) (h : Q (.dat (.bool (mtB n a b)))) : S_law_meet.run [.int n, .tuple [.int a.1, .int a.2], .tuple [.int b.1, .int b.2]] Q Y := ⟨(n, a, b), rfl, ⟨oa, ob, hn⟩, h⟩
def tr_law_meet_c1 : Es Unit :=
  (.cons (.call "_law_holds" S_law_holds (.cons (.var 0) (.cons (.var 2) (.cons (.op .Mod (.op .Add (.ix (.var 1) (.int 0)) (.var 3)) (.var 0)) .nil)))) .nil)
def tr_law_meet : Sms Unit :=
  (.cons (.one (.ret (.cmp .NotEq (.comp [3] (.nm 3) (.rng (.cons (.ix (.var 1) (.int 1)) .nil)) tr_law_meet_c1 (.var 3)) (.ls .nil))))
    .nil)

theorem w_law_meet : WOk S_law_meet 3 4 tr_law_meet := WOk.ex fun a pre => ⟨rfl, fun Q Y h => by
  obtain ⟨n, a, b⟩ := a
  obtain ⟨oa, ob, hn⟩ := pre
  dsimp only at oa ob hn h ⊢
  have hn0 : 0 < n := by have := oa.1; have := oa.2.1; omega
  have a1 := oa.2.2.1
  have a2 := oa.2.2.2
  unfold tr_law_meet
  simp only [wSs, wS, w1, wT, wE, wA, wX, wV, wP, wC, opn, rdO_d, rdO_o, asD_d, asD_n, KQY, entry, look, put, slotV, argsOk, frzA, frzV, sv_i, sv_b, sv_s, sv_0, sv_l, sv_t, sv_d, sv_n, List.map, List.length, List.replicate, List.cons_append, List.nil_append, Nat.sub_self, biD, isD_1, boolD_b, cmpD, relD_i, opD, addD_i, addD_l, subD_i, intD_i, lenD_l, lenD_t, listD_l, listD_t, tupleD_l, int2D_i, absD_i, toIntD_i, toIntD_b, eqD_i, eqD_b, eqD_s, rngD_1, rngD_2, seqD_l, seqD_t, lstD_l, ixX_l, ixX_t, negX_i, slX_l, rvX_l, repX_i, intX_i, ixD_0, ixD_1, ixD_2, true_and, and_true, ite_self, arcD, wI, wipeG, backG]
  refine ⟨⟨by omega, by omega⟩, by rw [List.length_map, List.length_range]; unfold big; omega, ?_⟩
  refine cLoop_mp (g := fun i : Nat => PyData.int (i : Nat)) (q := fun i => if hld n b ((a.1 + (i : Nat)) % n) = true then some (.int (i : Nat)) else none) _ [] ?_ ?_
  · intro i hi k' hk
    unfold tr_law_meet_c1
    simp only [bindT, wSs, wS, w1, wT, wE, wA, wX, wV, wP, wC, opn, rdO_d, rdO_o, asD_d, asD_n, KQY, entry, look, put, slotV, argsOk, frzA, frzV, sv_i, sv_b, sv_s, sv_0, sv_l, sv_t, sv_d, sv_n, List.map, List.length, List.replicate, List.cons_append, List.nil_append, Nat.sub_self, biD, isD_1, boolD_b, cmpD, relD_i, opD, addD_i, addD_l, subD_i, intD_i, lenD_l, lenD_t, listD_l, listD_t, tupleD_l, int2D_i, absD_i, toIntD_i, toIntD_b, eqD_i, eqD_b, eqD_s, rngD_1, rngD_2, seqD_l, seqD_t, lstD_l, ixX_l, ixX_t, negX_i, slX_l, rvX_l, repX_i, intX_i, ixD_0, ixD_1, ixD_2, true_and, and_true, ite_self]
    refine ⟨hn0, call_lholds hn0 ?_⟩
    cases hc : hld n b ((a.1 + (i : Nat)) % n) with
    | true =>
      rw [hc, if_pos rfl] at hk
      try simp only [wSs, wS, w1, wT, wE, wA, wX, wV, wP, wC, opn, rdO_d, rdO_o, asD_d, asD_n, KQY, entry, look, put, slotV, argsOk, frzA, frzV, sv_i, sv_b, sv_s, sv_0, sv_l, sv_t, sv_d, sv_n, List.map, List.length, List.replicate, List.cons_append, List.nil_append, Nat.sub_self, biD, isD_1, boolD_b, cmpD, relD_i, opD, addD_i, addD_l, subD_i, intD_i, lenD_l, lenD_t, listD_l, listD_t, tupleD_l, int2D_i, absD_i, toIntD_i, toIntD_b, eqD_i, eqD_b, eqD_s, rngD_1, rngD_2, seqD_l, seqD_t, lstD_l, ixX_l, ixX_t, negX_i, slX_l, rvX_l, repX_i, intX_i, ixD_0, ixD_1, ixD_2, true_and, and_true, ite_self, Bool.false_eq_true, if_false, if_true, Bool.not_true, Bool.not_false, ixR0, ixR1, sv_r]
      exact hk
    | false =>
      rw [hc, if_neg (by decide)] at hk
      try simp only [wSs, wS, w1, wT, wE, wA, wX, wV, wP, wC, opn, rdO_d, rdO_o, asD_d, asD_n, KQY, entry, look, put, slotV, argsOk, frzA, frzV, sv_i, sv_b, sv_s, sv_0, sv_l, sv_t, sv_d, sv_n, List.map, List.length, List.replicate, List.cons_append, List.nil_append, Nat.sub_self, biD, isD_1, boolD_b, cmpD, relD_i, opD, addD_i, addD_l, subD_i, intD_i, lenD_l, lenD_t, listD_l, listD_t, tupleD_l, int2D_i, absD_i, toIntD_i, toIntD_b, eqD_i, eqD_b, eqD_s, rngD_1, rngD_2, seqD_l, seqD_t, lstD_l, ixX_l, ixX_t, negX_i, slX_l, rvX_l, repX_i, intX_i, ixD_0, ixD_1, ixD_2, true_and, and_true, ite_self, Bool.false_eq_true, if_false, if_true, Bool.not_true, Bool.not_false, ixR0, ixR1, sv_r]
      exact hk
  · rw [List.nil_append, fm_pick]
    try simp only [wSs, wS, w1, wT, wE, wA, wX, wV, wP, wC, opn, rdO_d, rdO_o, asD_d, asD_n, KQY, entry, look, put, slotV, argsOk, frzA, frzV, sv_i, sv_b, sv_s, sv_0, sv_l, sv_t, sv_d, sv_n, List.map, List.length, List.replicate, List.cons_append, List.nil_append, Nat.sub_self, biD, isD_1, boolD_b, cmpD, relD_i, opD, addD_i, addD_l, subD_i, intD_i, lenD_l, lenD_t, listD_l, listD_t, tupleD_l, int2D_i, absD_i, toIntD_i, toIntD_b, eqD_i, eqD_b, eqD_s, rngD_1, rngD_2, seqD_l, seqD_t, lstD_l, ixX_l, ixX_t, negX_i, slX_l, rvX_l, repX_i, intX_i, ixD_0, ixD_1, ixD_2, true_and, and_true, ite_self, Bool.false_eq_true, if_false, if_true, Bool.not_true, Bool.not_false, ixR0, ixR1, sv_r]
    simp only [eqD_nil]
    refine ⟨by unfold big; decide, ?_⟩
    refine qb h ?_
    rw [notEmpty_iff, ne_eq, List.map_eq_nil_iff, List.filter_eq_nil_iff, mtB_iff oa ob]
    constructor
    · rintro ⟨x, x0, x1, ha, hb⟩ hh
      obtain ⟨i, hi, rfl⟩ := List.mem_map.mp ((mem_plc oa).mpr ⟨x0, x1, ha⟩)
      exact hh i hi hb
    · intro hh
      refine Classical.byContradiction fun hno => hh fun i hi hb => hno ?_
      have hm : (a.1 + (i : Nat)) % n ∈ plc n a := List.mem_map.mpr ⟨i, hi, rfl⟩
      have := (mem_plc oa).mp hm
      exact ⟨_, this.1, this.2.1, this.2.2, hb⟩⟩
def apN (n : Int) (as : List (Int × Int)) (ks : List Nat) : Bool := (ks.zipIdx).all fun q => (ks.take q.2).all fun j => !mtB n (arcAt as j) (arcAt as q.1)
theorem apN_iff {n : Int} {as : List (Int × Int)} {ks : List Nat} : apN n as ks = true ↔ ks.Pairwise fun j k => mtB n (arcAt as j) (arcAt as k) = false := by
  unfold apN
  rw [List.all_eq_true, List.pairwise_iff_getElem]
  constructor
  · intro h i j hi hj hij
    have := h (ks[j], j) (List.mem_zipIdx_iff_getElem?.mpr (List.getElem?_eq_getElem hj))
    rw [List.all_eq_true] at this
    have h2 := this ks[i] (List.mem_iff_getElem.mpr ⟨i, by rw [List.length_take]; omega, by rw [List.getElem_take]⟩)
    rw [Bool.not_eq_true'] at h2
    exact h2
  · rintro h2 ⟨k, i⟩ hq
    have hk := List.mem_zipIdx_iff_getElem?.mp hq
    obtain ⟨hi, e⟩ := List.getElem?_eq_some_iff.mp hk
    dsimp only at hi e ⊢
    subst e
    rw [List.all_eq_true]
    intro j hj
    obtain ⟨l, hl, rfl⟩ := List.mem_iff_getElem.mp hj
    rw [List.length_take] at hl
    rw [List.getElem_take, h2 l i (by omega) hi (by omega)]
    rfl
def S_law_apart : Summ where
  run ds Q _ := ∃ (n : Int) (as : List (Int × Int)) (ks : List Nat), ds = [ringD n as, .list (ks.map natD)] ∧ RingOk n as ∧ (∀ k ∈ ks, k < as.length) ∧ ks.length < 4000 ∧ Q (.dat (.bool (apN n as ks)))
  mono := fun h1 _ ⟨n, as, ks, e, ok, ha, hl, q⟩ => ⟨n, as, ks, e, ok, ha, hl, h1 _ q⟩
def tr_law_apart_c1 : Es Unit :=
  (.cons (.call "_law_meet" S_law_meet (.cons (.var 2) (.cons (.ix (.var 3) (.var 6)) (.cons (.ix (.var 3) (.var 5)) .nil)))) .nil)
def tr_law_apart_b1 : Sms Unit :=
  (.cons (.ite (.cmp .NotEq (.comp [6] (.nm 6) (.seq (.sl (.var 1) .nil (.cons (.var 4) .nil))) tr_law_apart_c1 (.var 6)) (.ls .nil))
    (.cons (.one (.ret (.bl false)))
    .nil)
    .nil)
    .nil)
def tr_law_apart : Sms Unit :=
  (.cons (.one (.asgT [2, 3] (.var 0)))
    (.cons (.for (.tp [4, 5]) (.enu (.var 1))
    tr_law_apart_b1)
    (.cons (.one (.ret (.bl true)))
    .nil)))

theorem cut_tk {xs : List D} {i : Nat} : cutD xs none (some (i : Int)) = xs.take i := by
  unfold cutD
  rw [HT.sIx_none, HT.sIx_nat, List.drop_zero, Nat.sub_zero]
  by_cases h : i ≤ xs.length
  · rw [Nat.min_eq_left h]
  · rw [Nat.min_eq_right (by omega), List.take_of_length_le (Nat.le_refl _), List.take_of_length_le (by omega)]
theorem apt_len {n : Int} {as : List (Int × Int)} {ks : List Nat} (ok : RingOk n as) (h : Apt n as ks) : ks.length ≤ 20 := by
  have := nodup_len (l := ks) (P := List.range as.length) (h.nodup ok) fun j hj => List.mem_range.mpr (h.1 j hj)
  rw [List.length_range] at this
  exact Nat.le_trans this ok.len
theorem w_law_apart : WOk S_law_apart 2 7 tr_law_apart := fun ds Q Y h => by
  obtain ⟨n, as, ks, rfl, ok, ha, hkl, h⟩ := h
  refine ⟨rfl, ?_⟩
  have n40 := ok.n40
  unfold tr_law_apart
  simp only [wSs, wS, w1, wT, wE, wA, wX, wV, wP, wC, opn, rdO_d, rdO_o, asD_d, asD_n, KQY, entry, look, put, slotV, argsOk, frzA, frzV, sv_i, sv_b, sv_s, sv_0, sv_l, sv_t, sv_d, sv_n, List.map, List.length, List.replicate, List.cons_append, List.nil_append, Nat.sub_self, biD, isD_1, boolD_b, cmpD, relD_i, opD, addD_i, addD_l, subD_i, intD_i, lenD_l, lenD_t, listD_l, listD_t, tupleD_l, int2D_i, absD_i, toIntD_i, toIntD_b, eqD_i, eqD_b, eqD_s, rngD_1, rngD_2, seqD_l, seqD_t, lstD_l, ixX_l, ixX_t, negX_i, slX_l, rvX_l, repX_i, intX_i, ixD_0, ixD_1, ixD_2, true_and, and_true, ite_self, ringD, putAll, wJ]
  rw [enumD_map]
  refine ⟨by rw [List.length_map, List.length_zipIdx]; unfold big; omega, ?_⟩
  refine fLoop_findA (g := fun q : Nat × Nat => PyData.tuple [.int (q.2 : Nat), natD q.1]) (p := fun q => (ks.take q.2).all fun j => !mtB n (arcAt as j) (arcAt as q.1)) (xs := ks.zipIdx) (I := fun Γ _ => ∃ x4 x5 x6 : Option Val, Γ = [some (.dat (ringD n as)), some (.dat (.list (ks.map natD))), some (.dat (.int n)), some (.dat (.list (as.map arcD))), x4, x5, x6]) ?_ ?_ ⟨_, _, _, rfl⟩
  · rintro hall Γ s ⟨x4, x5, x6, rfl⟩
    have e : apN n as ks = true := hall
    rw [e] at h
    exact h
  · rintro ⟨k, i⟩ hq Γ s K' ⟨x4, x5, x6, rfl⟩ hrt hex hnx
    have hk0 := List.mem_zipIdx_iff_getElem?.mp hq
    obtain ⟨hi, ek⟩ := List.getElem?_eq_some_iff.mp hk0
    dsimp only at hi ek
    have hka : k < as.length := ha k (by rw [← ek]; exact List.getElem_mem hi)
    unfold tr_law_apart_b1
    simp only [bindT, putAll, natD, wSs, wS, w1, wT, wE, wA, wX, wV, wP, wC, opn, rdO_d, rdO_o, asD_d, asD_n, KQY, entry, look, put, slotV, argsOk, frzA, frzV, sv_i, sv_b, sv_s, sv_0, sv_l, sv_t, sv_d, sv_n, List.map, List.length, List.replicate, List.cons_append, List.nil_append, Nat.sub_self, biD, isD_1, boolD_b, cmpD, relD_i, opD, addD_i, addD_l, subD_i, intD_i, lenD_l, lenD_t, listD_l, listD_t, tupleD_l, int2D_i, absD_i, toIntD_i, toIntD_b, eqD_i, eqD_b, eqD_s, rngD_1, rngD_2, seqD_l, seqD_t, lstD_l, ixX_l, ixX_t, negX_i, slX_l, rvX_l, repX_i, intX_i, ixD_0, ixD_1, ixD_2, true_and, and_true, ite_self, wI, wipeG, backG]
    rw [cut_tk, ← List.map_take]
    refine ⟨by rw [List.length_map, List.length_take]; unfold big; omega, ?_⟩
    refine cLoop_mp (g := natD) (q := fun j => if mtB n (arcAt as j) (arcAt as k) = true then some (natD j) else none) _ [] ?_ ?_
    · intro j hj k' hk'
      have hjl : j < as.length := ha _ (List.mem_of_mem_take hj)
      unfold tr_law_apart_c1
      simp only [bindT, natD, wSs, wS, w1, wT, wE, wA, wX, wV, wP, wC, opn, rdO_d, rdO_o, asD_d, asD_n, KQY, entry, look, put, slotV, argsOk, frzA, frzV, sv_i, sv_b, sv_s, sv_0, sv_l, sv_t, sv_d, sv_n, List.map, List.length, List.replicate, List.cons_append, List.nil_append, Nat.sub_self, biD, isD_1, boolD_b, cmpD, relD_i, opD, addD_i, addD_l, subD_i, intD_i, lenD_l, lenD_t, listD_l, listD_t, tupleD_l, int2D_i, absD_i, toIntD_i, toIntD_b, eqD_i, eqD_b, eqD_s, rngD_1, rngD_2, seqD_l, seqD_t, lstD_l, ixX_l, ixX_t, negX_i, slX_l, rvX_l, repX_i, intX_i, ixD_0, ixD_1, ixD_2, true_and, and_true, ite_self]
      rw [ixD_nat (j := j) rfl (arcAt_it hjl)]
      try simp only [wSs, wS, w1, wT, wE, wA, wX, wV, wP, wC, opn, rdO_d, rdO_o, asD_d, asD_n, KQY, entry, look, put, slotV, argsOk, frzA, frzV, sv_i, sv_b, sv_s, sv_0, sv_l, sv_t, sv_d, sv_n, List.map, List.length, List.replicate, List.cons_append, List.nil_append, Nat.sub_self, biD, isD_1, boolD_b, cmpD, relD_i, opD, addD_i, addD_l, subD_i, intD_i, lenD_l, lenD_t, listD_l, listD_t, tupleD_l, int2D_i, absD_i, toIntD_i, toIntD_b, eqD_i, eqD_b, eqD_s, rngD_1, rngD_2, seqD_l, seqD_t, lstD_l, ixX_l, ixX_t, negX_i, slX_l, rvX_l, repX_i, intX_i, ixD_0, ixD_1, ixD_2, true_and, and_true, ite_self, Bool.false_eq_true, if_false, if_true, Bool.not_true, Bool.not_false, ixR0, ixR1, sv_r]
      rw [ixD_nat (j := k) rfl (arcAt_it hka)]
      simp only [arcD, wSs, wS, w1, wT, wE, wA, wX, wV, wP, wC, opn, rdO_d, rdO_o, asD_d, asD_n, KQY, entry, look, put, slotV, argsOk, frzA, frzV, sv_i, sv_b, sv_s, sv_0, sv_l, sv_t, sv_d, sv_n, List.map, List.length, List.replicate, List.cons_append, List.nil_append, Nat.sub_self, biD, isD_1, boolD_b, cmpD, relD_i, opD, addD_i, addD_l, subD_i, intD_i, lenD_l, lenD_t, listD_l, listD_t, tupleD_l, int2D_i, absD_i, toIntD_i, toIntD_b, eqD_i, eqD_b, eqD_s, rngD_1, rngD_2, seqD_l, seqD_t, lstD_l, ixX_l, ixX_t, negX_i, slX_l, rvX_l, repX_i, intX_i, ixD_0, ixD_1, ixD_2, true_and, and_true, ite_self]
      refine call_lmeet (ok.at hjl) (ok.at hka) n40 ?_
      cases hc : mtB n (arcAt as j) (arcAt as k) with
      | true =>
        rw [hc, if_pos rfl] at hk'
        try simp only [wSs, wS, w1, wT, wE, wA, wX, wV, wP, wC, opn, rdO_d, rdO_o, asD_d, asD_n, KQY, entry, look, put, slotV, argsOk, frzA, frzV, sv_i, sv_b, sv_s, sv_0, sv_l, sv_t, sv_d, sv_n, List.map, List.length, List.replicate, List.cons_append, List.nil_append, Nat.sub_self, biD, isD_1, boolD_b, cmpD, relD_i, opD, addD_i, addD_l, subD_i, intD_i, lenD_l, lenD_t, listD_l, listD_t, tupleD_l, int2D_i, absD_i, toIntD_i, toIntD_b, eqD_i, eqD_b, eqD_s, rngD_1, rngD_2, seqD_l, seqD_t, lstD_l, ixX_l, ixX_t, negX_i, slX_l, rvX_l, repX_i, intX_i, ixD_0, ixD_1, ixD_2, true_and, and_true, ite_self, Bool.false_eq_true, if_false, if_true, Bool.not_true, Bool.not_false, ixR0, ixR1, sv_r]
        exact hk'
      | false =>
        rw [hc, if_neg (by decide)] at hk'
        try simp only [wSs, wS, w1, wT, wE, wA, wX, wV, wP, wC, opn, rdO_d, rdO_o, asD_d, asD_n, KQY, entry, look, put, slotV, argsOk, frzA, frzV, sv_i, sv_b, sv_s, sv_0, sv_l, sv_t, sv_d, sv_n, List.map, List.length, List.replicate, List.cons_append, List.nil_append, Nat.sub_self, biD, isD_1, boolD_b, cmpD, relD_i, opD, addD_i, addD_l, subD_i, intD_i, lenD_l, lenD_t, listD_l, listD_t, tupleD_l, int2D_i, absD_i, toIntD_i, toIntD_b, eqD_i, eqD_b, eqD_s, rngD_1, rngD_2, seqD_l, seqD_t, lstD_l, ixX_l, ixX_t, negX_i, slX_l, rvX_l, repX_i, intX_i, ixD_0, ixD_1, ixD_2, true_and, and_true, ite_self, Bool.false_eq_true, if_false, if_true, Bool.not_true, Bool.not_false, ixR0, ixR1, sv_r]
        exact hk'
    · rw [List.nil_append, fm_pick]
      try simp only [wSs, wS, w1, wT, wE, wA, wX, wV, wP, wC, opn, rdO_d, rdO_o, asD_d, asD_n, KQY, entry, look, put, slotV, argsOk, frzA, frzV, sv_i, sv_b, sv_s, sv_0, sv_l, sv_t, sv_d, sv_n, List.map, List.length, List.replicate, List.cons_append, List.nil_append, Nat.sub_self, biD, isD_1, boolD_b, cmpD, relD_i, opD, addD_i, addD_l, subD_i, intD_i, lenD_l, lenD_t, listD_l, listD_t, tupleD_l, int2D_i, absD_i, toIntD_i, toIntD_b, eqD_i, eqD_b, eqD_s, rngD_1, rngD_2, seqD_l, seqD_t, lstD_l, ixX_l, ixX_t, negX_i, slX_l, rvX_l, repX_i, intX_i, ixD_0, ixD_1, ixD_2, true_and, and_true, ite_self, Bool.false_eq_true, if_false, if_true, Bool.not_true, Bool.not_false, ixR0, ixR1, sv_r]
      simp only [eqD_nil]
      refine ⟨by unfold big; decide, ?_⟩
      cases hc3 : (ks.take i).all fun j => !mtB n (arcAt as j) (arcAt as k) with
      | true =>
        have e : ((((ks.take i).filter fun j => mtB n (arcAt as j) (arcAt as k)).map natD)).isEmpty = true := by
          rw [List.isEmpty_iff, List.map_eq_nil_iff, List.filter_eq_nil_iff]
          intro j hj hm
          have := List.all_eq_true.mp hc3 j hj
          rw [hm] at this
          cases this
        simp only [e, Bool.not_true, Bool.false_eq_true, if_false]
        exact hnx hc3 _ _ ⟨_, _, _, rfl⟩
      | false =>
        have e : ((((ks.take i).filter fun j => mtB n (arcAt as j) (arcAt as k)).map natD)).isEmpty = false := by
          rw [Bool.eq_false_iff, ne_eq, List.isEmpty_iff, List.map_eq_nil_iff, List.filter_eq_nil_iff]
          intro hn
          rw [List.all_eq_false] at hc3
          obtain ⟨j, hj, hm⟩ := hc3
          exact hm (by rw [Bool.not_eq_true']; exact Bool.eq_false_iff.mpr (hn j hj))
        simp only [e, Bool.not_false, if_true]
        rw [hrt]
        have e2 : apN n as ks = false := all_false hq hc3
        rw [e2] at h
        exact h
theorem call_apart {n : Int} {as : List (Int × Int)} {ks : List Nat} {Q : Val → Prop} {Y : Nat → Prop} (ok : RingOk n as) (ha : ∀ k ∈ ks, k < as.length) (hl : ks.length < 4000) (h : Q (.dat (.bool (apN n as ks)))) : S_law_apart.run [ringD n as, .list (ks.map natD)] Q Y := ⟨n, as, ks, rfl, ok, ha, hl, h⟩
/-! ### along a line -/
def S_law_line_most : Summ where
  run ds Q _ := ∃ (n : Int) (I : List (Int × Int)), ds = [.list (I.map pairD), .int n] ∧ (1 ≤ n ∧ n ≤ 40) ∧ I.length ≤ 20 ∧ (∀ i ∈ I, 0 ≤ i.1 ∧ i.1 ≤ i.2 ∧ i.2 ≤ n - 1) ∧ ∀ m : Nat, IsMost I (-1) m → Q (.dat (.int (m : Nat)))
  mono := fun h1 _ ⟨n, I, e, hn, hl, hI, q⟩ => ⟨n, I, e, hn, hl, hI, fun m hm => h1 _ (q m hm)⟩
theorem call_line_most {n : Int} {I : List (Int × Int)} {Q : Val → Prop} {Y : Nat → Prop} (hn : 1 ≤ n ∧ n ≤ 40) (hl : I.length ≤ 20) (hI : ∀ i ∈ I, 0 ≤ i.1 ∧ i.1 ≤ i.2 ∧ i.2 ≤ n - 1) (h : ∀ m : Nat, IsMost I (-1) m → Q (.dat (.int (m : Nat)))) : S_law_line_most.run [.list (I.map pairD), .int n] Q Y := ⟨n, I, rfl, hn, hl, hI, h⟩
def tr_law_line_most_c1 : Es Unit :=
  (.cons (.cmp .Eq (.var 4) (.var 3)) .nil)
def tr_law_line_most_e1 : E Unit :=
  (.op .Add (.int 1) (.ix (.var 2) (.op .Add (.var 5) (.int 1))))
def tr_law_line_most_b1 : Sms Unit :=
  (.cons (.one (.setI 2 (.var 3) (.bi .maxL (.cons (.op .Add (.ls (.cons (.ix (.var 2) (.op .Add (.var 3) (.int 1))) .nil)) (.comp [4, 5] (.tp [4, 5]) (.seq (.var 0)) tr_law_line_most_c1 tr_law_line_most_e1)) .nil))))
    .nil)
def tr_law_line_most : Sms Unit :=
  (.cons (.one (.asg 2 (.rep (.cons (.int 0) .nil) (.op .Add (.var 1) (.int 2)))))
    (.cons (.for (.nm 3) (.rng (.cons (.op .Sub (.var 1) (.int 1)) (.cons (.neg (.int 1)) (.cons (.neg (.int 1)) .nil))))
    tr_law_line_most_b1)
    (.cons (.one (.ret (.ix (.var 2) (.int 0))))
    .nil)))

theorem nat_item {bl : List Nat} {j : Nat} (h : j < bl.length) : (bl.map natD)[j]? = some (natD (bl.getD j 0)) := by
  rw [List.getElem?_map, List.getElem?_eq_getElem h, List.getD_eq_getElem?_getD, List.getElem?_eq_getElem h]
  rfl
theorem line_b1 {n : Int} {I : List (Int × Int)} {bl : List Nat} {x : Nat} {x4 x5 : Option Val} {K : Kn Unit} {u : Unit} (hn : 1 ≤ n ∧ n ≤ 40) (hl : I.length ≤ 20) (hI : ∀ i ∈ I, 0 ≤ i.1 ∧ i.1 ≤ i.2 ∧ i.2 ≤ n - 1) (hbl : (bl.length : Int) = n + 2) (hx : (x : Int) < n)
    (hb : ∀ y : Int, (x : Int) < y → IsMost I (y - 1) (bl.getD y.toNat 0))
    (hK : ∀ (m : Nat) (x4 x5 : Option Val), IsMost I ((x : Int) - 1) m → K.nx [some (.dat (.list (I.map pairD))), some (.dat (.int n)), some (.own ((bl.set x m).map natD)), some (.dat (.int (x : Nat))), x4, x5] u) :
    wSs tr_law_line_most_b1 [some (.dat (.list (I.map pairD))), some (.dat (.int n)), some (.own (bl.map natD)), some (.dat (.int (x : Nat))), x4, x5] u K := by
  unfold tr_law_line_most_b1
  simp only [wSs, wS, w1, wT, wE, wA, wX, wV, wP, wC, opn, rdO_d, rdO_o, asD_d, asD_n, KQY, entry, look, put, slotV, argsOk, frzA, frzV, sv_i, sv_b, sv_s, sv_0, sv_l, sv_t, sv_d, sv_n, List.map, List.length, List.replicate, List.cons_append, List.nil_append, Nat.sub_self, biD, isD_1, boolD_b, cmpD, relD_i, opD, addD_i, addD_l, subD_i, intD_i, lenD_l, lenD_t, listD_l, listD_t, tupleD_l, int2D_i, absD_i, toIntD_i, toIntD_b, eqD_i, eqD_b, eqD_s, rngD_1, rngD_2, seqD_l, seqD_t, lstD_l, ixX_l, ixX_t, negX_i, slX_l, rvX_l, repX_i, intX_i, ixD_0, ixD_1, ixD_2, true_and, and_true, ite_self, wI, wipeG, backG]
  have ex1 : ((x : Nat) : Int) + 1 = ((x + 1 : Nat) : Int) := by omega
  rw [ex1, ixD_nat (j := x + 1) rfl (nat_item (by omega))]
  refine ⟨by unfold big; decide, by rw [List.length_map]; unfold big; omega, ?_⟩
  refine cLoop_mp (g := pairD) (q := fun i => if decide (i.1 = ((x : Nat) : Int)) = true then some (natD (1 + bl.getD (i.2 + 1).toNat 0)) else none) _ [] ?_ ?_
  · intro i hi k' hk
    have hi2 := hI i hi
    unfold tr_law_line_most_c1
    simp only [bindT, pairD, putAll, wSs, wS, w1, wT, wE, wA, wX, wV, wP, wC, opn, rdO_d, rdO_o, asD_d, asD_n, KQY, entry, look, put, slotV, argsOk, frzA, frzV, sv_i, sv_b, sv_s, sv_0, sv_l, sv_t, sv_d, sv_n, List.map, List.length, List.replicate, List.cons_append, List.nil_append, Nat.sub_self, biD, isD_1, boolD_b, cmpD, relD_i, opD, addD_i, addD_l, subD_i, intD_i, lenD_l, lenD_t, listD_l, listD_t, tupleD_l, int2D_i, absD_i, toIntD_i, toIntD_b, eqD_i, eqD_b, eqD_s, rngD_1, rngD_2, seqD_l, seqD_t, lstD_l, ixX_l, ixX_t, negX_i, slX_l, rvX_l, repX_i, intX_i, ixD_0, ixD_1, ixD_2, true_and, and_true, ite_self]
    by_cases hc : i.1 = ((x : Nat) : Int)
    · rw [decide_eq_true hc, if_pos rfl] at hk
      simp only [hc, decide_true, if_true]
      unfold tr_law_line_most_e1
      simp only [wSs, wS, w1, wT, wE, wA, wX, wV, wP, wC, opn, rdO_d, rdO_o, asD_d, asD_n, KQY, entry, look, put, slotV, argsOk, frzA, frzV, sv_i, sv_b, sv_s, sv_0, sv_l, sv_t, sv_d, sv_n, List.map, List.length, List.replicate, List.cons_append, List.nil_append, Nat.sub_self, biD, isD_1, boolD_b, cmpD, relD_i, opD, addD_i, addD_l, subD_i, intD_i, lenD_l, lenD_t, listD_l, listD_t, tupleD_l, int2D_i, absD_i, toIntD_i, toIntD_b, eqD_i, eqD_b, eqD_s, rngD_1, rngD_2, seqD_l, seqD_t, lstD_l, ixX_l, ixX_t, negX_i, slX_l, rvX_l, repX_i, intX_i, ixD_0, ixD_1, ixD_2, true_and, and_true, ite_self]
      rw [ixD_nat (j := (i.2 + 1).toNat) (by omega) (nat_item (by omega))]
      simp only [natD, wSs, wS, w1, wT, wE, wA, wX, wV, wP, wC, opn, rdO_d, rdO_o, asD_d, asD_n, KQY, entry, look, put, slotV, argsOk, frzA, frzV, sv_i, sv_b, sv_s, sv_0, sv_l, sv_t, sv_d, sv_n, List.map, List.length, List.replicate, List.cons_append, List.nil_append, Nat.sub_self, biD, isD_1, boolD_b, cmpD, relD_i, opD, addD_i, addD_l, subD_i, intD_i, lenD_l, lenD_t, listD_l, listD_t, tupleD_l, int2D_i, absD_i, toIntD_i, toIntD_b, eqD_i, eqD_b, eqD_s, rngD_1, rngD_2, seqD_l, seqD_t, lstD_l, ixX_l, ixX_t, negX_i, slX_l, rvX_l, repX_i, intX_i, ixD_0, ixD_1, ixD_2, true_and, and_true, ite_self]
      have e : (1 : Int) + ((bl.getD (i.2 + 1).toNat 0 : Nat) : Int) = ((1 + bl.getD (i.2 + 1).toNat 0 : Nat) : Int) := by omega
      rw [e]
      exact hk
    · rw [decide_eq_false hc, if_neg (by decide)] at hk
      simp only [hc, decide_false, Bool.false_eq_true, if_false]
      exact hk
  · rw [List.nil_append, fm_pick]
    try simp only [wSs, wS, w1, wT, wE, wA, wX, wV, wP, wC, opn, rdO_d, rdO_o, asD_d, asD_n, KQY, entry, look, put, slotV, argsOk, frzA, frzV, sv_i, sv_b, sv_s, sv_0, sv_l, sv_t, sv_d, sv_n, List.map, List.length, List.replicate, List.cons_append, List.nil_append, Nat.sub_self, biD, isD_1, boolD_b, cmpD, relD_i, opD, addD_i, addD_l, subD_i, intD_i, lenD_l, lenD_t, listD_l, listD_t, tupleD_l, int2D_i, absD_i, toIntD_i, toIntD_b, eqD_i, eqD_b, eqD_s, rngD_1, rngD_2, seqD_l, seqD_t, lstD_l, ixX_l, ixX_t, negX_i, slX_l, rvX_l, repX_i, intX_i, ixD_0, ixD_1, ixD_2, true_and, and_true, ite_self, Bool.false_eq_true, if_false, if_true, Bool.not_true, Bool.not_false, ixR0, ixR1, sv_r]
    have hfl : (I.filter fun i => decide (i.1 = ((x : Nat) : Int))).length ≤ 20 := Nat.le_trans (List.length_filter_le _ _) hl
    have el : natD (bl.getD (x + 1) 0) :: (I.filter fun i => decide (i.1 = ((x : Nat) : Int))).map (fun i => natD (1 + bl.getD (i.2 + 1).toNat 0)) = (bl.getD (x + 1) 0 :: (I.filter fun i => decide (i.1 = ((x : Nat) : Int))).map (fun i => 1 + bl.getD (i.2 + 1).toNat 0)).map natD := by
      rw [List.map_cons, List.map_map]
      rfl
    rw [el]
    refine ⟨by rw [List.length_map]; unfold big; omega, ?_⟩
    simp only [maxLD]
    refine ⟨_, by rw [natD_ints]; exact intsD_map _, by simp, fun m hm hmax => ?_⟩
    obtain ⟨m', hm', rfl⟩ := List.mem_map.mp hm
    have hmax' : ∀ y ∈ (bl.getD (x + 1) 0 :: (I.filter fun i => decide (i.1 = ((x : Nat) : Int))).map (fun i => 1 + bl.getD (i.2 + 1).toNat 0)), y ≤ m' := fun y hy => by
      have := hmax _ (List.mem_map.mpr ⟨y, hy, rfl⟩)
      omega
    have key : IsMost I ((x : Int) - 1) m' := by
      refine most_step (x := ((x : Nat) : Int)) (best := fun y => bl.getD y.toNat 0) (fun i hi => (hI i hi).2.1) hb (by
        have e : (((x : Nat) : Int) + 1).toNat = x + 1 := by omega
        show bl.getD (((x : Nat) : Int) + 1).toNat 0 ≤ m'
        rw [e]
        exact hmax' _ List.mem_cons_self) (fun i hi hix => hmax' _ (List.mem_cons_of_mem _ (List.mem_map.mpr ⟨i, List.mem_filter.mpr ⟨hi, decide_eq_true hix⟩, rfl⟩))) ?_
      rcases List.mem_cons.mp hm' with h | h
      · left
        have e : (((x : Nat) : Int) + 1).toNat = x + 1 := by omega
        show m' = bl.getD (((x : Nat) : Int) + 1).toNat 0
        rw [e]
        exact h
      · right
        obtain ⟨i, hi, rfl⟩ := List.mem_map.mp h
        obtain ⟨h1, h2⟩ := List.mem_filter.mp hi
        exact ⟨i, h1, of_decide_eq_true h2, rfl⟩
    try simp only [wSs, wS, w1, wT, wE, wA, wX, wV, wP, wC, opn, rdO_d, rdO_o, asD_d, asD_n, KQY, entry, look, put, slotV, argsOk, frzA, frzV, sv_i, sv_b, sv_s, sv_0, sv_l, sv_t, sv_d, sv_n, List.map, List.length, List.replicate, List.cons_append, List.nil_append, Nat.sub_self, biD, isD_1, boolD_b, cmpD, relD_i, opD, addD_i, addD_l, subD_i, intD_i, lenD_l, lenD_t, listD_l, listD_t, tupleD_l, int2D_i, absD_i, toIntD_i, toIntD_b, eqD_i, eqD_b, eqD_s, rngD_1, rngD_2, seqD_l, seqD_t, lstD_l, ixX_l, ixX_t, negX_i, slX_l, rvX_l, repX_i, intX_i, ixD_0, ixD_1, ixD_2, true_and, and_true, ite_self, Bool.false_eq_true, if_false, if_true, Bool.not_true, Bool.not_false, ixR0, ixR1, sv_r]
    have ei : ixN (bl.map natD).length ((x : Nat) : Int) = some x := by
      unfold ixN
      rw [List.length_map, if_pos (by omega), if_pos (by omega)]
      rfl
    rw [ei]
    have := hK m' (match x4 with | some (.own _) => none | v => v) (match x5 with | some (.own _) => none | v => v) key
    rw [List.map_set] at this
    exact this
theorem w_law_line_most : WOk S_law_line_most 2 6 tr_law_line_most := fun ds Q Y h => by
  obtain ⟨n, I, rfl, hn, hl, hI, h⟩ := h
  refine ⟨rfl, ?_⟩
  unfold tr_law_line_most
  simp only [wSs, wS, w1, wT, wE, wA, wX, wV, wP, wC, opn, rdO_d, rdO_o, asD_d, asD_n, KQY, entry, look, put, slotV, argsOk, frzA, frzV, sv_i, sv_b, sv_s, sv_0, sv_l, sv_t, sv_d, sv_n, List.map, List.length, List.replicate, List.cons_append, List.nil_append, Nat.sub_self, biD, isD_1, boolD_b, cmpD, relD_i, opD, addD_i, addD_l, subD_i, intD_i, lenD_l, lenD_t, listD_l, listD_t, tupleD_l, int2D_i, absD_i, toIntD_i, toIntD_b, eqD_i, eqD_b, eqD_s, rngD_1, rngD_2, seqD_l, seqD_t, lstD_l, ixX_l, ixX_t, negX_i, slX_l, rvX_l, repX_i, intX_i, ixD_0, ixD_1, ixD_2, true_and, and_true, ite_self, wJ, rngD]
  refine ⟨by unfold big; decide, ⟨by omega, by omega, by simp; unfold big; omega⟩, ⟨by omega, by omega, by decide, by decide⟩, by rw [List.length_map, List.length_range]; unfold big; omega, ?_⟩
  have e0 : (List.replicate (n + 2).toNat [PyData.int 0]).flatten = (List.replicate (n + 2).toNat (0 : Nat)).map natD := by
    rw [List.map_replicate]
    have : ∀ k : Nat, (List.replicate k [PyData.int 0]).flatten = List.replicate k (natD 0) := fun k => by
      induction k with
      | zero => rfl
      | succ k ih => rw [List.replicate_succ, List.replicate_succ, List.flatten_cons, ih]; rfl
    exact this _
  rw [e0]
  refine fLoop_mp (fun done rest Γ _ => ∃ (bl : List Nat) (x3 x4 x5 : Option Val), Γ = [some (.dat (.list (I.map pairD))), some (.dat (.int n)), some (.own (bl.map natD)), x3, x4, x5] ∧ done ++ rest = List.range (n - 1 - -1).toNat ∧ (bl.length : Int) = n + 2 ∧ ∀ y : Int, n - 1 - done.length < y → IsMost I (y - 1) (bl.getD y.toNat 0)) ?_ ?_ _ [] _ _ ⟨List.replicate (n + 2).toNat 0, none, none, none, rfl, rfl, by rw [List.length_replicate]; omega, fun y hy => ?_⟩
  · rintro done Γ u ⟨bl, x3, x4, x5, rfl, hd, hbl, hb⟩
    rw [List.append_nil] at hd
    have hdl := congrArg List.length hd
    rw [List.length_range] at hdl
    try simp only [wSs, wS, w1, wT, wE, wA, wX, wV, wP, wC, opn, rdO_d, rdO_o, asD_d, asD_n, KQY, entry, look, put, slotV, argsOk, frzA, frzV, sv_i, sv_b, sv_s, sv_0, sv_l, sv_t, sv_d, sv_n, List.map, List.length, List.replicate, List.cons_append, List.nil_append, Nat.sub_self, biD, isD_1, boolD_b, cmpD, relD_i, opD, addD_i, addD_l, subD_i, intD_i, lenD_l, lenD_t, listD_l, listD_t, tupleD_l, int2D_i, absD_i, toIntD_i, toIntD_b, eqD_i, eqD_b, eqD_s, rngD_1, rngD_2, seqD_l, seqD_t, lstD_l, ixX_l, ixX_t, negX_i, slX_l, rvX_l, repX_i, intX_i, ixD_0, ixD_1, ixD_2, true_and, and_true, ite_self, Bool.false_eq_true, if_false, if_true, Bool.not_true, Bool.not_false, ixR0, ixR1, sv_r]
    rw [ixD_nat (i := 0) (j := 0) rfl (nat_item (by omega))]
    have := hb 0 (by omega)
    exact h _ this
  · rintro done i r Γ u K' ⟨bl, x3, x4, x5, rfl, hd, hbl, hb⟩ hnx hct hbk hrt hex
    have hi : i = done.length ∧ i < n.toNat := by
      have hl2 := congrArg List.length hd
      simp at hl2
      have e : (done ++ i :: r)[done.length]? = some i := by rw [List.getElem?_append_right (Nat.le_refl _), Nat.sub_self]; rfl
      rw [hd, List.getElem?_range (by omega)] at e
      have := Option.some.inj e
      omega
    obtain ⟨x, hx⟩ := Int.eq_ofNat_of_zero_le (show 0 ≤ n - 1 + ((i : Nat) : Int) * -1 by omega)
    simp only [bindT, put]
    rw [hx]
    refine line_b1 hn hl hI hbl (by omega) (fun y hy => hb y (by omega)) fun m y4 y5 hm => hnx _ _ ⟨bl.set x m, _, _, _, rfl, by rw [List.append_assoc]; exact hd, by rw [List.length_set]; exact hbl, fun y hy => ?_⟩
    rw [List.length_append, List.length_singleton] at hy
    by_cases hc : y = ((x : Nat) : Int)
    · subst hc
      rw [List.getD_eq_getElem?_getD, Int.toNat_natCast, List.getElem?_set_self (by omega)]
      exact hm
    · have h1 := hb y (by omega)
      rw [List.getD_eq_getElem?_getD, List.getElem?_set_ne (by omega), ← List.getD_eq_getElem?_getD]
      exact h1
  · have e : (List.replicate (n + 2).toNat (0 : Nat)).getD y.toNat 0 = 0 := by
      rw [List.getD_eq_getElem?_getD]
      by_cases hc : y.toNat < (n + 2).toNat
      · rw [List.getElem?_replicate, if_pos hc]; rfl
      · rw [List.getElem?_replicate, if_neg hc]; rfl
    rw [e]
    refine most_none fun i hi => ?_
    have := hI i hi
    simp at hy
    omega
/-! ### over all arcs -/
def S_law_most : Summ where
  run ds Q _ := ∃ (n : Int) (as : List (Int × Int)), ds = [ringD n as] ∧ RingOk n as ∧ ∀ m : Nat, Most n as m → Q (.dat (.int (m : Nat)))
  mono := fun h1 _ ⟨n, as, e, ok, q⟩ => ⟨n, as, e, ok, fun m hm => h1 _ (q m hm)⟩
theorem call_most {n : Int} {as : List (Int × Int)} {Q : Val → Prop} {Y : Nat → Prop} (ok : RingOk n as) (h : ∀ m : Nat, Most n as m → Q (.dat (.int (m : Nat)))) : S_law_most.run [ringD n as] Q Y := ⟨n, as, rfl, ok, h⟩
def tr_law_most_b1 : Sms Unit :=
  (.cons (.ite (.nt (.call "_law_meet" S_law_meet (.cons (.var 1) (.cons (.tp (.cons (.var 4) (.cons (.var 5) .nil))) (.cons (.var 7) .nil)))))
    (.cons (.one (.asg 8 (.op .Mod (.op .Sub (.ix (.var 7) (.int 0)) (.var 4)) (.var 1))))
    (.cons (.one (.app 6 (.tp (.cons (.var 8) (.cons (.op .Sub (.op .Add (.var 8) (.ix (.var 7) (.int 1))) (.int 1)) .nil)))))
    .nil))
    .nil)
    .nil)
def tr_law_most_b2 : Sms Unit :=
  (.cons (.one (.asg 6 (.ls .nil)))
    (.cons (.for (.nm 7) (.seq (.var 2))
    tr_law_most_b1)
    (.cons (.one (.asg 3 (.bi .max2 (.cons (.var 3) (.cons (.op .Add (.int 1) (.call "_law_line_most" S_law_line_most (.cons (.var 6) (.cons (.var 1) .nil)))) .nil)))))
    .nil)))
def tr_law_most : Sms Unit :=
  (.cons (.one (.asgT [1, 2] (.var 0)))
    (.cons (.one (.asg 3 (.int 0)))
    (.cons (.for (.tp [4, 5]) (.seq (.var 2))
    tr_law_most_b2)
    (.cons (.one (.ret (.var 3)))
    .nil))))

/-- the stretches that do not meet an arc -/
def spn (n : Int) (a : Int × Int) (bs : List (Int × Int)) : List (Int × Int) := (bs.filter fun b => !mtB n a b).map (ivOf n a.1)
theorem spn_bes {n : Int} {as : List (Int × Int)} {k : Nat} (hk : k < as.length) : spn n (arcAt as k) as = (besL n as k).map (ivK n as (arcAt as k).1) := by
  unfold spn besL
  have e : as.filter (fun b => !mtB n (arcAt as k) b) = ((List.range as.length).filter fun j => !mtB n (arcAt as j) (arcAt as k)).map (arcAt as) := by
    have e0 : as = (List.range as.length).map (arcAt as) := by
      refine List.ext_getElem (by rw [List.length_map, List.length_range]) fun i h1 h2 => ?_
      rw [List.getElem_map, List.getElem_range, arcAt_eq h1]
    conv => lhs; rw [e0]
    rw [List.filter_map]
    congr 1
    refine List.filter_congr fun j hj => ?_
    dsimp only [Function.comp]
    rw [← e0, mtB_comm]
  rw [e, List.map_map]
  rfl
theorem most_b2 {n : Int} {as : List (Int × Int)} {k : Nat} {f : Nat} {x6 x7 x8 : Option Val} {K : Kn Unit} {u : Unit} (ok : RingOk n as) (hk : k < as.length)
    (hK : ∀ (g m : Nat) (x6 x7 x8 : Option Val), IsMost ((besL n as k).map (ivK n as (arcAt as k).1)) 0 m → (g = f ∨ g = m + 1) → f ≤ g → m + 1 ≤ g → K.nx [some (.dat (ringD n as)), some (.dat (.int n)), some (.dat (.list (as.map arcD))), some (.dat (.int (g : Nat))), some (.dat (.int (arcAt as k).1)), some (.dat (.int (arcAt as k).2)), x6, x7, x8] u) :
    wSs tr_law_most_b2 [some (.dat (ringD n as)), some (.dat (.int n)), some (.dat (.list (as.map arcD))), some (.dat (.int (f : Nat))), some (.dat (.int (arcAt as k).1)), some (.dat (.int (arcAt as k).2)), x6, x7, x8] u K := by
  have n1 := ok.n1
  have n40 := ok.n40
  have hlen := ok.len
  have okk := ok.at hk
  unfold tr_law_most_b2
  simp only [wSs, wS, w1, wT, wE, wA, wX, wV, wP, wC, opn, rdO_d, rdO_o, asD_d, asD_n, KQY, entry, look, put, slotV, argsOk, frzA, frzV, sv_i, sv_b, sv_s, sv_0, sv_l, sv_t, sv_d, sv_n, List.map, List.length, List.replicate, List.cons_append, List.nil_append, Nat.sub_self, biD, isD_1, boolD_b, cmpD, relD_i, opD, addD_i, addD_l, subD_i, intD_i, lenD_l, lenD_t, listD_l, listD_t, tupleD_l, int2D_i, absD_i, toIntD_i, toIntD_b, eqD_i, eqD_b, eqD_s, rngD_1, rngD_2, seqD_l, seqD_t, lstD_l, ixX_l, ixX_t, negX_i, slX_l, rvX_l, repX_i, intX_i, ixD_0, ixD_1, ixD_2, true_and, and_true, ite_self, wJ]
  refine ⟨by unfold big; decide, by rw [List.length_map]; exact big20 hlen, ?_⟩
  refine fLoop_mp (g := arcD) (fun done rest Γ _ => ∃ x7 x8 : Option Val, Γ = [some (.dat (ringD n as)), some (.dat (.int n)), some (.dat (.list (as.map arcD))), some (.dat (.int (f : Nat))), some (.dat (.int (arcAt as k).1)), some (.dat (.int (arcAt as k).2)), some (.own ((spn n (arcAt as k) done).map pairD)), x7, x8] ∧ done ++ rest = as) ?_ ?_ _ [] _ _ ⟨_, _, rfl, rfl⟩
  · rintro done Γ u ⟨x7, x8, rfl, hd⟩
    rw [List.append_nil] at hd
    subst hd
    rw [spn_bes hk]
    simp only [wSs, wS, w1, wT, wE, wA, wX, wV, wP, wC, opn, rdO_d, rdO_o, asD_d, asD_n, KQY, entry, look, put, slotV, argsOk, frzA, frzV, sv_i, sv_b, sv_s, sv_0, sv_l, sv_t, sv_d, sv_n, List.map, List.length, List.replicate, List.cons_append, List.nil_append, Nat.sub_self, biD, isD_1, boolD_b, cmpD, relD_i, opD, addD_i, addD_l, subD_i, intD_i, lenD_l, lenD_t, listD_l, listD_t, tupleD_l, int2D_i, absD_i, toIntD_i, toIntD_b, eqD_i, eqD_b, eqD_s, rngD_1, rngD_2, seqD_l, seqD_t, lstD_l, ixX_l, ixX_t, negX_i, slX_l, rvX_l, repX_i, intX_i, ixD_0, ixD_1, ixD_2, true_and, and_true, ite_self]
    have hle : ∀ j ∈ besL n done k, j ∈ left0 n done (arcAt done k).1 := fun j hj => bes_left ok hk ⟨okk.1, okk.2.1⟩ (hld_start okk) hj
    have hI : ∀ i ∈ (besL n done k).map (ivK n done (arcAt done k).1), 1 ≤ i.1 ∧ i.1 ≤ i.2 ∧ i.2 ≤ n - 1 := fun i hi => by
      obtain ⟨j, hj, rfl⟩ := List.mem_map.mp hi
      exact left0_rng ok (hle j hj)
    refine call_line_most ⟨n1, n40⟩ (by rw [List.length_map]; exact Nat.le_trans besL_len hlen) (fun i hi => by have := hI i hi; omega) fun m hm => ?_
    have hm0 : IsMost ((besL n done k).map (ivK n done (arcAt done k).1)) 0 m := by
      refine ⟨?_, fun c h1 h2 => hm.le c h1 (h2.mono (by omega))⟩
      obtain ⟨c, h1, h2, h3⟩ := hm.ex
      refine ⟨c, h1, ?_, h3⟩
      cases c with
      | nil => trivial
      | cons i r => exact ⟨by have := hI i (h1 i List.mem_cons_self); omega, h2.2⟩
    try simp only [wSs, wS, w1, wT, wE, wA, wX, wV, wP, wC, opn, rdO_d, rdO_o, asD_d, asD_n, KQY, entry, look, put, slotV, argsOk, frzA, frzV, sv_i, sv_b, sv_s, sv_0, sv_l, sv_t, sv_d, sv_n, List.map, List.length, List.replicate, List.cons_append, List.nil_append, Nat.sub_self, biD, isD_1, boolD_b, cmpD, relD_i, opD, addD_i, addD_l, subD_i, intD_i, lenD_l, lenD_t, listD_l, listD_t, tupleD_l, int2D_i, absD_i, toIntD_i, toIntD_b, eqD_i, eqD_b, eqD_s, rngD_1, rngD_2, seqD_l, seqD_t, lstD_l, ixX_l, ixX_t, negX_i, slX_l, rvX_l, repX_i, intX_i, ixD_0, ixD_1, ixD_2, true_and, and_true, ite_self, Bool.false_eq_true, if_false, if_true, Bool.not_true, Bool.not_false, ixR0, ixR1, sv_r]
    have e : (if (1 + ((m : Nat) : Int)) > ((f : Nat) : Int) then (1 + ((m : Nat) : Int)) else ((f : Nat) : Int)) = (((if m + 1 > f then m + 1 else f : Nat)) : Int) := by split <;> split <;> omega
    rw [e]
    refine hK _ m _ _ _ hm0 ?_ ?_ ?_
    · split
      · exact .inr rfl
      · exact .inl rfl
    · split <;> omega
    · split <;> omega
  · rintro done b r Γ u K' ⟨x7, x8, rfl, hd⟩ hnx hct hbk hrt hex
    have hb : b ∈ as := by rw [← hd]; simp
    have okb := ok.arcs b hb
    have hdl : done.length ≤ 20 := by
      have := congrArg List.length hd
      rw [List.length_append] at this
      omega
    have hsl : (spn n (arcAt as k) done).length ≤ 20 := by
      unfold spn
      rw [List.length_map]
      exact Nat.le_trans (List.length_filter_le _ _) hdl
    unfold tr_law_most_b1
    simp only [bindT, arcD, wSs, wS, w1, wT, wE, wA, wX, wV, wP, wC, opn, rdO_d, rdO_o, asD_d, asD_n, KQY, entry, look, put, slotV, argsOk, frzA, frzV, sv_i, sv_b, sv_s, sv_0, sv_l, sv_t, sv_d, sv_n, List.map, List.length, List.replicate, List.cons_append, List.nil_append, Nat.sub_self, biD, isD_1, boolD_b, cmpD, relD_i, opD, addD_i, addD_l, subD_i, intD_i, lenD_l, lenD_t, listD_l, listD_t, tupleD_l, int2D_i, absD_i, toIntD_i, toIntD_b, eqD_i, eqD_b, eqD_s, rngD_1, rngD_2, seqD_l, seqD_t, lstD_l, ixX_l, ixX_t, negX_i, slX_l, rvX_l, repX_i, intX_i, ixD_0, ixD_1, ixD_2, true_and, and_true, ite_self]
    refine ⟨by unfold big; decide, call_lmeet okk okb n40 ?_⟩
    cases hc : mtB n (arcAt as k) b with
    | true =>
      try simp only [wSs, wS, w1, wT, wE, wA, wX, wV, wP, wC, opn, rdO_d, rdO_o, asD_d, asD_n, KQY, entry, look, put, slotV, argsOk, frzA, frzV, sv_i, sv_b, sv_s, sv_0, sv_l, sv_t, sv_d, sv_n, List.map, List.length, List.replicate, List.cons_append, List.nil_append, Nat.sub_self, biD, isD_1, boolD_b, cmpD, relD_i, opD, addD_i, addD_l, subD_i, intD_i, lenD_l, lenD_t, listD_l, listD_t, tupleD_l, int2D_i, absD_i, toIntD_i, toIntD_b, eqD_i, eqD_b, eqD_s, rngD_1, rngD_2, seqD_l, seqD_t, lstD_l, ixX_l, ixX_t, negX_i, slX_l, rvX_l, repX_i, intX_i, ixD_0, ixD_1, ixD_2, true_and, and_true, ite_self, Bool.false_eq_true, if_false, if_true, Bool.not_true, Bool.not_false, ixR0, ixR1, sv_r]
      have e : spn n (arcAt as k) (done ++ [b]) = spn n (arcAt as k) done := by
        unfold spn
        rw [List.filter_append, List.filter_cons, hc]
        simp
      exact hnx _ _ ⟨some (.dat (arcD b)), x8, by rw [e]; rfl, by rw [List.append_assoc]; exact hd⟩
    | false =>
      try simp only [wSs, wS, w1, wT, wE, wA, wX, wV, wP, wC, opn, rdO_d, rdO_o, asD_d, asD_n, KQY, entry, look, put, slotV, argsOk, frzA, frzV, sv_i, sv_b, sv_s, sv_0, sv_l, sv_t, sv_d, sv_n, List.map, List.length, List.replicate, List.cons_append, List.nil_append, Nat.sub_self, biD, isD_1, boolD_b, cmpD, relD_i, opD, addD_i, addD_l, subD_i, intD_i, lenD_l, lenD_t, listD_l, listD_t, tupleD_l, int2D_i, absD_i, toIntD_i, toIntD_b, eqD_i, eqD_b, eqD_s, rngD_1, rngD_2, seqD_l, seqD_t, lstD_l, ixX_l, ixX_t, negX_i, slX_l, rvX_l, repX_i, intX_i, ixD_0, ixD_1, ixD_2, true_and, and_true, ite_self, Bool.false_eq_true, if_false, if_true, Bool.not_true, Bool.not_false, ixR0, ixR1, sv_r]
      refine ⟨by omega, by unfold big; decide, by rw [List.length_map]; unfold big; omega, ?_⟩
      have e : spn n (arcAt as k) (done ++ [b]) = spn n (arcAt as k) done ++ [ivOf n (arcAt as k).1 b] := by
        unfold spn
        rw [List.filter_append, List.filter_cons, hc]
        simp
      exact hnx _ _ ⟨some (.dat (arcD b)), some (.dat (.int ((b.1 - (arcAt as k).1) % n))), by rw [e, List.map_append]; rfl, by rw [List.append_assoc]; exact hd⟩
theorem w_law_most : WOk S_law_most 1 9 tr_law_most := fun ds Q Y h => by
  obtain ⟨n, as, rfl, ok, h⟩ := h
  refine ⟨rfl, ?_⟩
  have hlen := ok.len
  unfold tr_law_most
  simp only [wSs, wS, w1, wT, wE, wA, wX, wV, wP, wC, opn, rdO_d, rdO_o, asD_d, asD_n, KQY, entry, look, put, slotV, argsOk, frzA, frzV, sv_i, sv_b, sv_s, sv_0, sv_l, sv_t, sv_d, sv_n, List.map, List.length, List.replicate, List.cons_append, List.nil_append, Nat.sub_self, biD, isD_1, boolD_b, cmpD, relD_i, opD, addD_i, addD_l, subD_i, intD_i, lenD_l, lenD_t, listD_l, listD_t, tupleD_l, int2D_i, absD_i, toIntD_i, toIntD_b, eqD_i, eqD_b, eqD_s, rngD_1, rngD_2, seqD_l, seqD_t, lstD_l, ixX_l, ixX_t, negX_i, slX_l, rvX_l, repX_i, intX_i, ixD_0, ixD_1, ixD_2, true_and, and_true, ite_self, ringD, putAll, wJ]
  have e0 : as.map arcD = (List.range as.length).map fun k => arcD (arcAt as k) := by
    have e0 : as = (List.range as.length).map (arcAt as) := by
      refine List.ext_getElem (by rw [List.length_map, List.length_range]) fun i h1 h2 => ?_
      rw [List.getElem_map, List.getElem_range, arcAt_eq h1]
    conv => lhs; rw [e0]
    rw [List.map_map]
    rfl
  refine ⟨by rw [List.length_map]; exact big20 hlen, ?_⟩
  have key := fLoop_mp (S := Unit) (g := fun k => arcD (arcAt as k)) (f := fun x Γ s K' => bindT (.tp [4, 5]) x Γ fun Γ' => wSs tr_law_most_b2 Γ' s K')
    (K := { nx := fun Γ' s' => wSs (.cons (.one (.ret (.var 3))) .nil) Γ' s' (KQY Q Y), rt := (KQY Q Y).rt, ex := (KQY Q Y).ex })
    (fun done rest Γ _ => ∃ (f : Nat) (x4 x5 x6 x7 x8 : Option Val), Γ = [some (.dat (ringD n as)), some (.dat (.int n)), some (.dat (.list (as.map arcD))), some (.dat (.int (f : Nat))), x4, x5, x6, x7, x8] ∧ done ++ rest = List.range as.length ∧ (f = 0 → done = []) ∧ (∀ k ∈ done, ∃ m, IsMost ((besL n as k).map (ivK n as (arcAt as k).1)) 0 m ∧ m + 1 ≤ f) ∧ (f ≠ 0 → ∃ k ∈ done, ∃ m, IsMost ((besL n as k).map (ivK n as (arcAt as k).1)) 0 m ∧ f = m + 1)) ?_ ?_ (List.range as.length) [] [some (.dat (ringD n as)), some (.dat (.int n)), some (.dat (.list (as.map arcD))), some (.dat (.int ((0 : Nat) : Int))), none, none, none, none, none] () ⟨0, _, _, _, _, _, rfl, rfl, fun _ => rfl, (fun _ h => nomatch h), fun h => absurd rfl h⟩
  · rw [← e0] at key
    simp only [wSs, wS, w1, wT, wE, wA, wX, wV, wP, wC, opn, rdO_d, rdO_o, asD_d, asD_n, KQY, entry, look, put, slotV, argsOk, frzA, frzV, sv_i, sv_b, sv_s, sv_0, sv_l, sv_t, sv_d, sv_n, List.map, List.length, List.replicate, List.cons_append, List.nil_append, Nat.sub_self, biD, isD_1, boolD_b, cmpD, relD_i, opD, addD_i, addD_l, subD_i, intD_i, lenD_l, lenD_t, listD_l, listD_t, tupleD_l, int2D_i, absD_i, toIntD_i, toIntD_b, eqD_i, eqD_b, eqD_s, rngD_1, rngD_2, seqD_l, seqD_t, lstD_l, ixX_l, ixX_t, negX_i, slX_l, rvX_l, repX_i, intX_i, ixD_0, ixD_1, ixD_2, true_and, and_true, ite_self, ringD] at key
    exact key
  · rintro done Γ u ⟨f, x4, x5, x6, x7, x8, rfl, hd, h0, hle, hex⟩
    rw [List.append_nil] at hd
    subst hd
    simp only [wSs, wS, w1, wT, wE, wA, wX, wV, wP, wC, opn, rdO_d, rdO_o, asD_d, asD_n, KQY, entry, look, put, slotV, argsOk, frzA, frzV, sv_i, sv_b, sv_s, sv_0, sv_l, sv_t, sv_d, sv_n, List.map, List.length, List.replicate, List.cons_append, List.nil_append, Nat.sub_self, biD, isD_1, boolD_b, cmpD, relD_i, opD, addD_i, addD_l, subD_i, intD_i, lenD_l, lenD_t, listD_l, listD_t, tupleD_l, int2D_i, absD_i, toIntD_i, toIntD_b, eqD_i, eqD_b, eqD_s, rngD_1, rngD_2, seqD_l, seqD_t, lstD_l, ixX_l, ixX_t, negX_i, slX_l, rvX_l, repX_i, intX_i, ixD_0, ixD_1, ixD_2, true_and, and_true, ite_self]
    refine h f (most_of ok (fun hf => ?_) (fun k hk => ?_) fun hf => ?_)
    · have := h0 hf
      exact List.length_eq_zero_iff.mp (List.range_eq_nil.mp this)
    · obtain ⟨m, hm, hmf⟩ := hle k (List.mem_range.mpr hk)
      have okk := ok.at hk
      exact ⟨m, _, ⟨okk.1, okk.2.1⟩, hld_start okk, hm, hmf⟩
    · obtain ⟨k, hk, m, hm, e⟩ := hex hf
      have hk := List.mem_range.mp hk
      have okk := ok.at hk
      exact ⟨k, hk, m, _, ⟨okk.1, okk.2.1⟩, hld_start okk, hm, e⟩
  · rintro done k r Γ u K' ⟨f, x4, x5, x6, x7, x8, rfl, hd, h0, hle, hex⟩ hnx hct hbk hrt hexx
    have hk : k < as.length := List.mem_range.mp (by rw [← hd]; simp)
    simp only [bindT, arcD, putAll, put]
    refine most_b2 ok hk fun g m y6 y7 y8 hm hg h1 h2 => hnx _ _ ⟨g, _, _, _, _, _, rfl, by rw [List.append_assoc]; exact hd, fun z => by omega, fun j hj => ?_, fun _ => ?_⟩
    · rcases List.mem_append.mp hj with hj | hj
      · obtain ⟨m', a, b⟩ := hle j hj
        exact ⟨m', a, by omega⟩
      · have e : j = k := by simpa using hj
        subst e
        exact ⟨m, hm, h2⟩
    · by_cases hf : g = m + 1
      · exact ⟨k, by simp, m, hm, hf⟩
      · have e : g = f := by omega
        obtain ⟨j, hj, m', a, b⟩ := hex (by omega)
        exact ⟨j, List.mem_append_left _ hj, m', a, by omega⟩
end Ac
namespace Ac
open PySem PySem.Spec PyProof.Rows L2
/-! ### arcs that cover -/
def cvB (n : Int) (as : List (Int × Int)) (ks : List Nat) : Bool := (List.range n.toNat).all fun x : Nat => ks.any fun k => hld n (arcAt as k) (x : Nat)
def Cov' (n : Int) (as : List (Int × Int)) (ks : List Nat) : Prop := ∀ x : Int, 0 ≤ x → x < n → ∃ k ∈ ks, hld n (arcAt as k) x = true
theorem cvB_iff {n : Int} {as : List (Int × Int)} {ks : List Nat} : cvB n as ks = true ↔ Cov' n as ks := by
  unfold cvB Cov'
  simp only [List.all_eq_true, List.any_eq_true, List.mem_range]
  constructor
  · intro h x x0 x1
    obtain ⟨k, hk, hh⟩ := h x.toNat (by omega)
    rw [Int.toNat_of_nonneg x0] at hh
    exact ⟨k, hk, hh⟩
  · intro h x hx
    exact h x (by omega) (by omega)
def cvD (n : Int) (as : List (Int × Int)) (d : D) : Bool := match d with
  | .list xs => risD (.list xs) as.length && (match intsD xs with | some ns => cvB n as (ns.map Int.toNat) | none => false)
  | _ => false
theorem cvD_nat {n : Int} {as : List (Int × Int)} {ks : List Nat} : cvD n as (.list (ks.map natD)) = (risD (.list (ks.map natD)) as.length && cvB n as ks) := by
  unfold cvD
  dsimp only
  rw [natI_D, intsD_map]
  dsimp only
  rw [toNatI]
def Fcovers : RF where
  run n as ds Q Y := ∃ d, ds = [d] ∧ shortL d ∧ Q (.dat (.bool (cvD n as d)))
  mono := fun h1 h2 ⟨d, e, hl, q⟩ => ⟨d, e, hl, h1 _ q⟩
def Scovers : Summ := Summ.ring 1 Fcovers
theorem call_covers {n : Int} {as : List (Int × Int)} {d : D} {Q : Val → Prop} {Y : Nat → Prop} (ok : RingOk n as) (hl : shortL d) (h : Q (.dat (.bool (cvD n as d)))) : Scovers.run [ringD n as, d] Q Y := ring_ok rfl ok ⟨d, rfl, hl, h⟩
def trcovers_c1 : Es Unit :=
  (.cons (.call "holds" Sholds (.cons (.var 2) (.cons (.ix (.var 3) (.var 5)) (.cons (.var 4) .nil)))) .nil)
def trcovers_c2 : Es Unit :=
  (.cons (.cmp .Eq (.comp [5] (.nm 5) (.seq (.var 1)) trcovers_c1 (.var 5)) (.ls .nil)) .nil)
def trcovers : Sms Unit :=
  (.cons (.one (.expr (.call "need_ring" Sneed_ring (.cons (.var 0) .nil))))
    (.cons (.one (.asgT [2, 3] (.var 0)))
    (.cons (.ite (.nt (.call "is_rising" Sis_rising (.cons (.var 1) (.cons (.bi .len (.cons (.var 3) .nil)) .nil))))
    (.cons (.one (.ret (.bl false)))
    .nil)
    .nil)
    (.cons (.one (.ret (.cmp .Eq (.comp [4] (.nm 4) (.rng (.cons (.var 2) .nil)) trcovers_c2 (.var 4)) (.ls .nil))))
    .nil))))

theorem w_covers : WOk Scovers 2 6 trcovers := WOk.ring (fun d r Q Y hl hr h0 => by
    obtain ⟨a, rfl⟩ := len1 hl
    unfold trcovers
    simp only [wSs, wS, w1, wT, wE, wA, wX, wV, wP, wC, opn, rdO_d, rdO_o, asD_d, asD_n, KQY, entry, look, put, slotV, argsOk, frzA, frzV, sv_i, sv_b, sv_s, sv_0, sv_l, sv_t, sv_d, sv_n, List.map, List.length, List.replicate, List.cons_append, List.nil_append, Nat.sub_self, biD, isD_1, boolD_b, cmpD, relD_i, opD, addD_i, addD_l, subD_i, intD_i, lenD_l, lenD_t, listD_l, listD_t, tupleD_l, int2D_i, absD_i, toIntD_i, toIntD_b, eqD_i, eqD_b, eqD_s, rngD_1, rngD_2, seqD_l, seqD_t, lstD_l, ixX_l, ixX_t, negX_i, slX_l, rvX_l, repX_i, intX_i, ixD_0, ixD_1, ixD_2, true_and, and_true, ite_self, run_need_ring]
    simpa [hr] using h0) (fun n as r Q Y hl ok h => by
    obtain ⟨d, rfl, hs, h⟩ := h
    have n1 := ok.n1
    have n40 := ok.n40
    have hlen := ok.len
    unfold trcovers
    simp only [wSs, wS, w1, wT, wE, wA, wX, wV, wP, wC, opn, rdO_d, rdO_o, asD_d, asD_n, KQY, entry, look, put, slotV, argsOk, frzA, frzV, sv_i, sv_b, sv_s, sv_0, sv_l, sv_t, sv_d, sv_n, List.map, List.length, List.replicate, List.cons_append, List.nil_append, Nat.sub_self, biD, isD_1, boolD_b, cmpD, relD_i, opD, addD_i, addD_l, subD_i, intD_i, lenD_l, lenD_t, listD_l, listD_t, tupleD_l, int2D_i, absD_i, toIntD_i, toIntD_b, eqD_i, eqD_b, eqD_s, rngD_1, rngD_2, seqD_l, seqD_t, lstD_l, ixX_l, ixX_t, negX_i, slX_l, rvX_l, repX_i, intX_i, ixD_0, ixD_1, ixD_2, true_and, and_true, ite_self, run_need_ring, isRing_ringD ok, if_true]
    simp only [ringD, putAll, wSs, wS, w1, wT, wE, wA, wX, wV, wP, wC, opn, rdO_d, rdO_o, asD_d, asD_n, KQY, entry, look, put, slotV, argsOk, frzA, frzV, sv_i, sv_b, sv_s, sv_0, sv_l, sv_t, sv_d, sv_n, List.map, List.length, List.replicate, List.cons_append, List.nil_append, Nat.sub_self, biD, isD_1, boolD_b, cmpD, relD_i, opD, addD_i, addD_l, subD_i, intD_i, lenD_l, lenD_t, listD_l, listD_t, tupleD_l, int2D_i, absD_i, toIntD_i, toIntD_b, eqD_i, eqD_b, eqD_s, rngD_1, rngD_2, seqD_l, seqD_t, lstD_l, ixX_l, ixX_t, negX_i, slX_l, rvX_l, repX_i, intX_i, ixD_0, ixD_1, ixD_2, true_and, and_true, ite_self, List.length_map]
    refine call_is_rising hs (by omega) ?_
    cases hr : risD d as.length with
    | false =>
      try simp only [wSs, wS, w1, wT, wE, wA, wX, wV, wP, wC, opn, rdO_d, rdO_o, asD_d, asD_n, KQY, entry, look, put, slotV, argsOk, frzA, frzV, sv_i, sv_b, sv_s, sv_0, sv_l, sv_t, sv_d, sv_n, List.map, List.length, List.replicate, List.cons_append, List.nil_append, Nat.sub_self, biD, isD_1, boolD_b, cmpD, relD_i, opD, addD_i, addD_l, subD_i, intD_i, lenD_l, lenD_t, listD_l, listD_t, tupleD_l, int2D_i, absD_i, toIntD_i, toIntD_b, eqD_i, eqD_b, eqD_s, rngD_1, rngD_2, seqD_l, seqD_t, lstD_l, ixX_l, ixX_t, negX_i, slX_l, rvX_l, repX_i, intX_i, ixD_0, ixD_1, ixD_2, true_and, and_true, ite_self, Bool.false_eq_true, if_false, if_true, Bool.not_true, Bool.not_false, ixR0, ixR1, sv_r]
      have e : cvD n as d = false := by
        cases d with
        | list xs => unfold cvD; dsimp only; rw [hr]; rfl
        | _ => rfl
      rw [e] at h
      exact h
    | true =>
      obtain ⟨ks, rfl, h1, h2⟩ := ris_natI hr
      rw [cvD_nat, hr, Bool.true_and] at h
      have hkl : ks.length < 4000 := by
        have := hs _ rfl
        rw [List.length_map] at this
        exact this
      try simp only [wSs, wS, w1, wT, wE, wA, wX, wV, wP, wC, opn, rdO_d, rdO_o, asD_d, asD_n, KQY, entry, look, put, slotV, argsOk, frzA, frzV, sv_i, sv_b, sv_s, sv_0, sv_l, sv_t, sv_d, sv_n, List.map, List.length, List.replicate, List.cons_append, List.nil_append, Nat.sub_self, biD, isD_1, boolD_b, cmpD, relD_i, opD, addD_i, addD_l, subD_i, intD_i, lenD_l, lenD_t, listD_l, listD_t, tupleD_l, int2D_i, absD_i, toIntD_i, toIntD_b, eqD_i, eqD_b, eqD_s, rngD_1, rngD_2, seqD_l, seqD_t, lstD_l, ixX_l, ixX_t, negX_i, slX_l, rvX_l, repX_i, intX_i, ixD_0, ixD_1, ixD_2, true_and, and_true, ite_self, Bool.false_eq_true, if_false, if_true, Bool.not_true, Bool.not_false, ixR0, ixR1, sv_r]
      simp only [wI, wipeG, backG, wSs, wS, w1, wT, wE, wA, wX, wV, wP, wC, opn, rdO_d, rdO_o, asD_d, asD_n, KQY, entry, look, put, slotV, argsOk, frzA, frzV, sv_i, sv_b, sv_s, sv_0, sv_l, sv_t, sv_d, sv_n, List.map, List.length, List.replicate, List.cons_append, List.nil_append, Nat.sub_self, biD, isD_1, boolD_b, cmpD, relD_i, opD, addD_i, addD_l, subD_i, intD_i, lenD_l, lenD_t, listD_l, listD_t, tupleD_l, int2D_i, absD_i, toIntD_i, toIntD_b, eqD_i, eqD_b, eqD_s, rngD_1, rngD_2, seqD_l, seqD_t, lstD_l, ixX_l, ixX_t, negX_i, slX_l, rvX_l, repX_i, intX_i, ixD_0, ixD_1, ixD_2, true_and, and_true, ite_self]
      refine ⟨⟨by omega, by omega⟩, by rw [List.length_map, List.length_range]; unfold big; omega, ?_⟩
      refine cLoop_mp (g := fun i : Nat => PyData.int (i : Nat)) (q := fun x : Nat => if (ks.any fun k => hld n (arcAt as k) (x : Nat)) = true then none else some (natD x)) _ [] ?_ ?_
      · intro x hx k' hk'
        unfold trcovers_c2
        simp only [bindT, wSs, wS, w1, wT, wE, wA, wX, wV, wP, wC, opn, rdO_d, rdO_o, asD_d, asD_n, KQY, entry, look, put, slotV, argsOk, frzA, frzV, sv_i, sv_b, sv_s, sv_0, sv_l, sv_t, sv_d, sv_n, List.map, List.length, List.replicate, List.cons_append, List.nil_append, Nat.sub_self, biD, isD_1, boolD_b, cmpD, relD_i, opD, addD_i, addD_l, subD_i, intD_i, lenD_l, lenD_t, listD_l, listD_t, tupleD_l, int2D_i, absD_i, toIntD_i, toIntD_b, eqD_i, eqD_b, eqD_s, rngD_1, rngD_2, seqD_l, seqD_t, lstD_l, ixX_l, ixX_t, negX_i, slX_l, rvX_l, repX_i, intX_i, ixD_0, ixD_1, ixD_2, true_and, and_true, ite_self, wI, wipeG, backG]
        refine ⟨by rw [List.length_map]; unfold big; omega, ?_⟩
        refine cLoop_mp (g := natD) (q := fun k => if hld n (arcAt as k) (x : Nat) = true then some (natD k) else none) _ [] ?_ ?_
        · intro k hk k2 hk2
          have hkk := h1 k hk
          unfold trcovers_c1
          simp only [bindT, natD, wSs, wS, w1, wT, wE, wA, wX, wV, wP, wC, opn, rdO_d, rdO_o, asD_d, asD_n, KQY, entry, look, put, slotV, argsOk, frzA, frzV, sv_i, sv_b, sv_s, sv_0, sv_l, sv_t, sv_d, sv_n, List.map, List.length, List.replicate, List.cons_append, List.nil_append, Nat.sub_self, biD, isD_1, boolD_b, cmpD, relD_i, opD, addD_i, addD_l, subD_i, intD_i, lenD_l, lenD_t, listD_l, listD_t, tupleD_l, int2D_i, absD_i, toIntD_i, toIntD_b, eqD_i, eqD_b, eqD_s, rngD_1, rngD_2, seqD_l, seqD_t, lstD_l, ixX_l, ixX_t, negX_i, slX_l, rvX_l, repX_i, intX_i, ixD_0, ixD_1, ixD_2, true_and, and_true, ite_self]
          rw [ixD_nat (j := k) rfl (arcAt_it hkk)]
          simp only [arcD, run_holds, wSs, wS, w1, wT, wE, wA, wX, wV, wP, wC, opn, rdO_d, rdO_o, asD_d, asD_n, KQY, entry, look, put, slotV, argsOk, frzA, frzV, sv_i, sv_b, sv_s, sv_0, sv_l, sv_t, sv_d, sv_n, List.map, List.length, List.replicate, List.cons_append, List.nil_append, Nat.sub_self, biD, isD_1, boolD_b, cmpD, relD_i, opD, addD_i, addD_l, subD_i, intD_i, lenD_l, lenD_t, listD_l, listD_t, tupleD_l, int2D_i, absD_i, toIntD_i, toIntD_b, eqD_i, eqD_b, eqD_s, rngD_1, rngD_2, seqD_l, seqD_t, lstD_l, ixX_l, ixX_t, negX_i, slX_l, rvX_l, repX_i, intX_i, ixD_0, ixD_1, ixD_2, true_and, and_true, ite_self]
          refine ⟨by omega, ?_⟩
          have hk3 : k2 (if hld n ((arcAt as k).1, (arcAt as k).2) (x : Nat) = true then some (natD k) else none) _ _ := hk2
          cases hc : hld n ((arcAt as k).1, (arcAt as k).2) (x : Nat) with
          | true =>
            rw [hc, if_pos rfl] at hk3
            try simp only [wSs, wS, w1, wT, wE, wA, wX, wV, wP, wC, opn, rdO_d, rdO_o, asD_d, asD_n, KQY, entry, look, put, slotV, argsOk, frzA, frzV, sv_i, sv_b, sv_s, sv_0, sv_l, sv_t, sv_d, sv_n, List.map, List.length, List.replicate, List.cons_append, List.nil_append, Nat.sub_self, biD, isD_1, boolD_b, cmpD, relD_i, opD, addD_i, addD_l, subD_i, intD_i, lenD_l, lenD_t, listD_l, listD_t, tupleD_l, int2D_i, absD_i, toIntD_i, toIntD_b, eqD_i, eqD_b, eqD_s, rngD_1, rngD_2, seqD_l, seqD_t, lstD_l, ixX_l, ixX_t, negX_i, slX_l, rvX_l, repX_i, intX_i, ixD_0, ixD_1, ixD_2, true_and, and_true, ite_self, Bool.false_eq_true, if_false, if_true, Bool.not_true, Bool.not_false, ixR0, ixR1, sv_r]
            exact hk3
          | false =>
            rw [hc, if_neg (by decide)] at hk3
            try simp only [wSs, wS, w1, wT, wE, wA, wX, wV, wP, wC, opn, rdO_d, rdO_o, asD_d, asD_n, KQY, entry, look, put, slotV, argsOk, frzA, frzV, sv_i, sv_b, sv_s, sv_0, sv_l, sv_t, sv_d, sv_n, List.map, List.length, List.replicate, List.cons_append, List.nil_append, Nat.sub_self, biD, isD_1, boolD_b, cmpD, relD_i, opD, addD_i, addD_l, subD_i, intD_i, lenD_l, lenD_t, listD_l, listD_t, tupleD_l, int2D_i, absD_i, toIntD_i, toIntD_b, eqD_i, eqD_b, eqD_s, rngD_1, rngD_2, seqD_l, seqD_t, lstD_l, ixX_l, ixX_t, negX_i, slX_l, rvX_l, repX_i, intX_i, ixD_0, ixD_1, ixD_2, true_and, and_true, ite_self, Bool.false_eq_true, if_false, if_true, Bool.not_true, Bool.not_false, ixR0, ixR1, sv_r]
            exact hk3
        · rw [List.nil_append, fm_pick]
          try simp only [wSs, wS, w1, wT, wE, wA, wX, wV, wP, wC, opn, rdO_d, rdO_o, asD_d, asD_n, KQY, entry, look, put, slotV, argsOk, frzA, frzV, sv_i, sv_b, sv_s, sv_0, sv_l, sv_t, sv_d, sv_n, List.map, List.length, List.replicate, List.cons_append, List.nil_append, Nat.sub_self, biD, isD_1, boolD_b, cmpD, relD_i, opD, addD_i, addD_l, subD_i, intD_i, lenD_l, lenD_t, listD_l, listD_t, tupleD_l, int2D_i, absD_i, toIntD_i, toIntD_b, eqD_i, eqD_b, eqD_s, rngD_1, rngD_2, seqD_l, seqD_t, lstD_l, ixX_l, ixX_t, negX_i, slX_l, rvX_l, repX_i, intX_i, ixD_0, ixD_1, ixD_2, true_and, and_true, ite_self, Bool.false_eq_true, if_false, if_true, Bool.not_true, Bool.not_false, ixR0, ixR1, sv_r]
          simp only [eqD_nil]
          refine ⟨by unfold big; decide, ?_⟩
          cases hc : ks.any fun k => hld n (arcAt as k) (x : Nat) with
          | true =>
            have e : ((ks.filter fun k => hld n (arcAt as k) (x : Nat)).map natD).isEmpty = false := by
              obtain ⟨k, hk, hh⟩ := List.any_eq_true.mp hc
              rw [Bool.eq_false_iff, ne_eq, List.isEmpty_iff, List.map_eq_nil_iff]
              intro e
              have : k ∈ ks.filter fun k => hld n (arcAt as k) (x : Nat) := List.mem_filter.mpr ⟨hk, hh⟩
              rw [e] at this
              cases this
            rw [hc, if_pos rfl] at hk'
            simp only [e, Bool.false_eq_true, if_false]
            exact hk'
          | false =>
            have e : ((ks.filter fun k => hld n (arcAt as k) (x : Nat)).map natD).isEmpty = true := by
              rw [List.isEmpty_iff, List.map_eq_nil_iff, List.filter_eq_nil_iff]
              intro k hk hm
              rw [List.any_eq_false] at hc
              exact hc k hk hm
            rw [hc, if_neg (by decide)] at hk'
            simp only [e, if_true]
            exact hk'
      · rw [List.nil_append, fm_drop]
        try simp only [wSs, wS, w1, wT, wE, wA, wX, wV, wP, wC, opn, rdO_d, rdO_o, asD_d, asD_n, KQY, entry, look, put, slotV, argsOk, frzA, frzV, sv_i, sv_b, sv_s, sv_0, sv_l, sv_t, sv_d, sv_n, List.map, List.length, List.replicate, List.cons_append, List.nil_append, Nat.sub_self, biD, isD_1, boolD_b, cmpD, relD_i, opD, addD_i, addD_l, subD_i, intD_i, lenD_l, lenD_t, listD_l, listD_t, tupleD_l, int2D_i, absD_i, toIntD_i, toIntD_b, eqD_i, eqD_b, eqD_s, rngD_1, rngD_2, seqD_l, seqD_t, lstD_l, ixX_l, ixX_t, negX_i, slX_l, rvX_l, repX_i, intX_i, ixD_0, ixD_1, ixD_2, true_and, and_true, ite_self, Bool.false_eq_true, if_false, if_true, Bool.not_true, Bool.not_false, ixR0, ixR1, sv_r]
        simp only [eqD_nil]
        refine ⟨by unfold big; decide, ?_⟩
        refine qb h ?_
        unfold cvB
        rw [List.isEmpty_iff, List.map_eq_nil_iff, List.filter_eq_nil_iff, List.all_eq_true]
        exact ⟨fun h q hq => nn.mpr (h q hq), fun h q hq => nn.mp (h q hq)⟩)
/-! ### _law_over, _law_covers -/
def S_law_over : Summ where
  run ds Q _ := ∃ (n : Int) (as : List (Int × Int)) (x : Int), ds = [ringD n as, .int x] ∧ RingOk n as ∧ Q (.new ((atB n as x).map natD))
  mono := fun h1 _ ⟨n, as, k, e, ok, q⟩ => ⟨n, as, k, e, ok, h1 _ q⟩
theorem call_over {n x : Int} {as : List (Int × Int)} {Q : Val → Prop} {Y : Nat → Prop} (ok : RingOk n as) (h : Q (.new ((atB n as x).map natD))) : S_law_over.run [ringD n as, .int x] Q Y := ⟨n, as, x, rfl, ok, h⟩
def tr_law_over_c1 : Es Unit :=
  (.cons (.call "_law_holds" S_law_holds (.cons (.ix (.var 0) (.int 0)) (.cons (.var 3) (.cons (.var 1) .nil)))) .nil)
def tr_law_over : Sms Unit :=
  (.cons (.one (.ret (.comp [2, 3] (.tp [2, 3]) (.enu (.ix (.var 0) (.int 1))) tr_law_over_c1 (.var 2))))
    .nil)

theorem w_law_over : WOk S_law_over 2 4 tr_law_over := fun ds Q Y h => by
  obtain ⟨n, as, x, rfl, ok, h⟩ := h
  refine ⟨rfl, ?_⟩
  have n1 := ok.n1
  unfold tr_law_over
  simp only [wSs, wS, w1, wT, wE, wA, wX, wV, wP, wC, opn, rdO_d, rdO_o, asD_d, asD_n, KQY, entry, look, put, slotV, argsOk, frzA, frzV, sv_i, sv_b, sv_s, sv_0, sv_l, sv_t, sv_d, sv_n, List.map, List.length, List.replicate, List.cons_append, List.nil_append, Nat.sub_self, biD, isD_1, boolD_b, cmpD, relD_i, opD, addD_i, addD_l, subD_i, intD_i, lenD_l, lenD_t, listD_l, listD_t, tupleD_l, int2D_i, absD_i, toIntD_i, toIntD_b, eqD_i, eqD_b, eqD_s, rngD_1, rngD_2, seqD_l, seqD_t, lstD_l, ixX_l, ixX_t, negX_i, slX_l, rvX_l, repX_i, intX_i, ixD_0, ixD_1, ixD_2, true_and, and_true, ite_self, ixR0, ixR1, wI, wipeG, backG]
  rw [enumD_map]
  refine ⟨by rw [List.length_map, List.length_zipIdx]; exact big20 ok.len, ?_⟩
  refine cLoop_mp (g := fun q : (Int × Int) × Nat => PyData.tuple [.int (q.2 : Nat), arcD q.1]) (q := fun q => if hld n q.1 x = true then some (natD q.2) else none) _ [] ?_ ?_
  · intro q hq k' hk'
    unfold tr_law_over_c1
    simp only [bindT, putAll, arcD, wSs, wS, w1, wT, wE, wA, wX, wV, wP, wC, opn, rdO_d, rdO_o, asD_d, asD_n, KQY, entry, look, put, slotV, argsOk, frzA, frzV, sv_i, sv_b, sv_s, sv_0, sv_l, sv_t, sv_d, sv_n, List.map, List.length, List.replicate, List.cons_append, List.nil_append, Nat.sub_self, biD, isD_1, boolD_b, cmpD, relD_i, opD, addD_i, addD_l, subD_i, intD_i, lenD_l, lenD_t, listD_l, listD_t, tupleD_l, int2D_i, absD_i, toIntD_i, toIntD_b, eqD_i, eqD_b, eqD_s, rngD_1, rngD_2, seqD_l, seqD_t, lstD_l, ixX_l, ixX_t, negX_i, slX_l, rvX_l, repX_i, intX_i, ixD_0, ixD_1, ixD_2, true_and, and_true, ite_self, ixR0]
    refine call_lholds (by omega) ?_
    cases hc : hld n q.1 x with
    | true =>
      rw [hc, if_pos rfl] at hk'
      try simp only [wSs, wS, w1, wT, wE, wA, wX, wV, wP, wC, opn, rdO_d, rdO_o, asD_d, asD_n, KQY, entry, look, put, slotV, argsOk, frzA, frzV, sv_i, sv_b, sv_s, sv_0, sv_l, sv_t, sv_d, sv_n, List.map, List.length, List.replicate, List.cons_append, List.nil_append, Nat.sub_self, biD, isD_1, boolD_b, cmpD, relD_i, opD, addD_i, addD_l, subD_i, intD_i, lenD_l, lenD_t, listD_l, listD_t, tupleD_l, int2D_i, absD_i, toIntD_i, toIntD_b, eqD_i, eqD_b, eqD_s, rngD_1, rngD_2, seqD_l, seqD_t, lstD_l, ixX_l, ixX_t, negX_i, slX_l, rvX_l, repX_i, intX_i, ixD_0, ixD_1, ixD_2, true_and, and_true, ite_self, Bool.false_eq_true, if_false, if_true, Bool.not_true, Bool.not_false, ixR0, ixR1, sv_r]
      exact hk'
    | false =>
      rw [hc, if_neg (by decide)] at hk'
      try simp only [wSs, wS, w1, wT, wE, wA, wX, wV, wP, wC, opn, rdO_d, rdO_o, asD_d, asD_n, KQY, entry, look, put, slotV, argsOk, frzA, frzV, sv_i, sv_b, sv_s, sv_0, sv_l, sv_t, sv_d, sv_n, List.map, List.length, List.replicate, List.cons_append, List.nil_append, Nat.sub_self, biD, isD_1, boolD_b, cmpD, relD_i, opD, addD_i, addD_l, subD_i, intD_i, lenD_l, lenD_t, listD_l, listD_t, tupleD_l, int2D_i, absD_i, toIntD_i, toIntD_b, eqD_i, eqD_b, eqD_s, rngD_1, rngD_2, seqD_l, seqD_t, lstD_l, ixX_l, ixX_t, negX_i, slX_l, rvX_l, repX_i, intX_i, ixD_0, ixD_1, ixD_2, true_and, and_true, ite_self, Bool.false_eq_true, if_false, if_true, Bool.not_true, Bool.not_false, ixR0, ixR1, sv_r]
      exact hk'
  · rw [List.nil_append, atB_zip]
    exact h
def S_law_covers : Summ where
  run ds Q _ := ∃ (n : Int) (as : List (Int × Int)) (ks : List Nat), ds = [ringD n as, .list (ks.map natD)] ∧ RingOk n as ∧ (∀ k ∈ ks, k < as.length) ∧ ks.length < 4000 ∧ Q (.dat (.bool (cvB n as ks)))
  mono := fun h1 _ ⟨n, as, ks, e, ok, hk, hl, q⟩ => ⟨n, as, ks, e, ok, hk, hl, h1 _ q⟩
theorem call_lcovers {n : Int} {as : List (Int × Int)} {ks : List Nat} {Q : Val → Prop} {Y : Nat → Prop} (ok : RingOk n as) (hk : ∀ k ∈ ks, k < as.length) (hl : ks.length < 4000) (h : Q (.dat (.bool (cvB n as ks)))) : S_law_covers.run [ringD n as, .list (ks.map natD)] Q Y := ⟨n, as, ks, rfl, ok, hk, hl, h⟩
def tr_law_covers_c1 : Es Unit :=
  (.cons (.call "_law_holds" S_law_holds (.cons (.ix (.var 0) (.int 0)) (.cons (.ix (.ix (.var 0) (.int 1)) (.var 3)) (.cons (.var 2) .nil)))) .nil)
def tr_law_covers_c2 : Es Unit :=
  (.cons (.cmp .Eq (.comp [3] (.nm 3) (.seq (.var 1)) tr_law_covers_c1 (.var 3)) (.ls .nil)) .nil)
def tr_law_covers : Sms Unit :=
  (.cons (.one (.ret (.cmp .Eq (.comp [2] (.nm 2) (.rng (.cons (.ix (.var 0) (.int 0)) .nil)) tr_law_covers_c2 (.var 2)) (.ls .nil))))
    .nil)

theorem w_law_covers : WOk S_law_covers 2 4 tr_law_covers := fun ds Q Y h => by
  obtain ⟨n, as, ks, rfl, ok, h1, hkl, h⟩ := h
  refine ⟨rfl, ?_⟩
  have n1 := ok.n1
  have n40 := ok.n40
  unfold tr_law_covers
  simp only [wSs, wS, w1, wT, wE, wA, wX, wV, wP, wC, opn, rdO_d, rdO_o, asD_d, asD_n, KQY, entry, look, put, slotV, argsOk, frzA, frzV, sv_i, sv_b, sv_s, sv_0, sv_l, sv_t, sv_d, sv_n, List.map, List.length, List.replicate, List.cons_append, List.nil_append, Nat.sub_self, biD, isD_1, boolD_b, cmpD, relD_i, opD, addD_i, addD_l, subD_i, intD_i, lenD_l, lenD_t, listD_l, listD_t, tupleD_l, int2D_i, absD_i, toIntD_i, toIntD_b, eqD_i, eqD_b, eqD_s, rngD_1, rngD_2, seqD_l, seqD_t, lstD_l, ixX_l, ixX_t, negX_i, slX_l, rvX_l, repX_i, intX_i, ixD_0, ixD_1, ixD_2, true_and, and_true, ite_self, ixR0, ixR1, wI, wipeG, backG]
  refine ⟨⟨by omega, by omega⟩, by rw [List.length_map, List.length_range]; unfold big; omega, ?_⟩
  refine cLoop_mp (g := fun i : Nat => PyData.int (i : Nat)) (q := fun x : Nat => if (ks.any fun k => hld n (arcAt as k) (x : Nat)) = true then none else some (natD x)) _ [] ?_ ?_
  · intro x hx k' hk'
    unfold tr_law_covers_c2
    simp only [bindT, wSs, wS, w1, wT, wE, wA, wX, wV, wP, wC, opn, rdO_d, rdO_o, asD_d, asD_n, KQY, entry, look, put, slotV, argsOk, frzA, frzV, sv_i, sv_b, sv_s, sv_0, sv_l, sv_t, sv_d, sv_n, List.map, List.length, List.replicate, List.cons_append, List.nil_append, Nat.sub_self, biD, isD_1, boolD_b, cmpD, relD_i, opD, addD_i, addD_l, subD_i, intD_i, lenD_l, lenD_t, listD_l, listD_t, tupleD_l, int2D_i, absD_i, toIntD_i, toIntD_b, eqD_i, eqD_b, eqD_s, rngD_1, rngD_2, seqD_l, seqD_t, lstD_l, ixX_l, ixX_t, negX_i, slX_l, rvX_l, repX_i, intX_i, ixD_0, ixD_1, ixD_2, true_and, and_true, ite_self, wI, wipeG, backG]
    refine ⟨by rw [List.length_map]; unfold big; omega, ?_⟩
    refine cLoop_mp (g := natD) (q := fun k => if hld n (arcAt as k) (x : Nat) = true then some (natD k) else none) _ [] ?_ ?_
    · intro k hk k2 hk2
      have hkk := h1 k hk
      unfold tr_law_covers_c1
      simp only [bindT, natD, wSs, wS, w1, wT, wE, wA, wX, wV, wP, wC, opn, rdO_d, rdO_o, asD_d, asD_n, KQY, entry, look, put, slotV, argsOk, frzA, frzV, sv_i, sv_b, sv_s, sv_0, sv_l, sv_t, sv_d, sv_n, List.map, List.length, List.replicate, List.cons_append, List.nil_append, Nat.sub_self, biD, isD_1, boolD_b, cmpD, relD_i, opD, addD_i, addD_l, subD_i, intD_i, lenD_l, lenD_t, listD_l, listD_t, tupleD_l, int2D_i, absD_i, toIntD_i, toIntD_b, eqD_i, eqD_b, eqD_s, rngD_1, rngD_2, seqD_l, seqD_t, lstD_l, ixX_l, ixX_t, negX_i, slX_l, rvX_l, repX_i, intX_i, ixD_0, ixD_1, ixD_2, true_and, and_true, ite_self, ixR0, ixR1]
      rw [ixD_nat (j := k) rfl (arcAt_it hkk)]
      simp only [arcD, wSs, wS, w1, wT, wE, wA, wX, wV, wP, wC, opn, rdO_d, rdO_o, asD_d, asD_n, KQY, entry, look, put, slotV, argsOk, frzA, frzV, sv_i, sv_b, sv_s, sv_0, sv_l, sv_t, sv_d, sv_n, List.map, List.length, List.replicate, List.cons_append, List.nil_append, Nat.sub_self, biD, isD_1, boolD_b, cmpD, relD_i, opD, addD_i, addD_l, subD_i, intD_i, lenD_l, lenD_t, listD_l, listD_t, tupleD_l, int2D_i, absD_i, toIntD_i, toIntD_b, eqD_i, eqD_b, eqD_s, rngD_1, rngD_2, seqD_l, seqD_t, lstD_l, ixX_l, ixX_t, negX_i, slX_l, rvX_l, repX_i, intX_i, ixD_0, ixD_1, ixD_2, true_and, and_true, ite_self]
      refine call_lholds (by omega) ?_
      cases hc : hld n (arcAt as k) (x : Nat) with
      | true =>
        rw [hc, if_pos rfl] at hk2
        try simp only [wSs, wS, w1, wT, wE, wA, wX, wV, wP, wC, opn, rdO_d, rdO_o, asD_d, asD_n, KQY, entry, look, put, slotV, argsOk, frzA, frzV, sv_i, sv_b, sv_s, sv_0, sv_l, sv_t, sv_d, sv_n, List.map, List.length, List.replicate, List.cons_append, List.nil_append, Nat.sub_self, biD, isD_1, boolD_b, cmpD, relD_i, opD, addD_i, addD_l, subD_i, intD_i, lenD_l, lenD_t, listD_l, listD_t, tupleD_l, int2D_i, absD_i, toIntD_i, toIntD_b, eqD_i, eqD_b, eqD_s, rngD_1, rngD_2, seqD_l, seqD_t, lstD_l, ixX_l, ixX_t, negX_i, slX_l, rvX_l, repX_i, intX_i, ixD_0, ixD_1, ixD_2, true_and, and_true, ite_self, Bool.false_eq_true, if_false, if_true, Bool.not_true, Bool.not_false, ixR0, ixR1, sv_r]
        exact hk2
      | false =>
        rw [hc, if_neg (by decide)] at hk2
        try simp only [wSs, wS, w1, wT, wE, wA, wX, wV, wP, wC, opn, rdO_d, rdO_o, asD_d, asD_n, KQY, entry, look, put, slotV, argsOk, frzA, frzV, sv_i, sv_b, sv_s, sv_0, sv_l, sv_t, sv_d, sv_n, List.map, List.length, List.replicate, List.cons_append, List.nil_append, Nat.sub_self, biD, isD_1, boolD_b, cmpD, relD_i, opD, addD_i, addD_l, subD_i, intD_i, lenD_l, lenD_t, listD_l, listD_t, tupleD_l, int2D_i, absD_i, toIntD_i, toIntD_b, eqD_i, eqD_b, eqD_s, rngD_1, rngD_2, seqD_l, seqD_t, lstD_l, ixX_l, ixX_t, negX_i, slX_l, rvX_l, repX_i, intX_i, ixD_0, ixD_1, ixD_2, true_and, and_true, ite_self, Bool.false_eq_true, if_false, if_true, Bool.not_true, Bool.not_false, ixR0, ixR1, sv_r]
        exact hk2
    · rw [List.nil_append, fm_pick]
      try simp only [wSs, wS, w1, wT, wE, wA, wX, wV, wP, wC, opn, rdO_d, rdO_o, asD_d, asD_n, KQY, entry, look, put, slotV, argsOk, frzA, frzV, sv_i, sv_b, sv_s, sv_0, sv_l, sv_t, sv_d, sv_n, List.map, List.length, List.replicate, List.cons_append, List.nil_append, Nat.sub_self, biD, isD_1, boolD_b, cmpD, relD_i, opD, addD_i, addD_l, subD_i, intD_i, lenD_l, lenD_t, listD_l, listD_t, tupleD_l, int2D_i, absD_i, toIntD_i, toIntD_b, eqD_i, eqD_b, eqD_s, rngD_1, rngD_2, seqD_l, seqD_t, lstD_l, ixX_l, ixX_t, negX_i, slX_l, rvX_l, repX_i, intX_i, ixD_0, ixD_1, ixD_2, true_and, and_true, ite_self, Bool.false_eq_true, if_false, if_true, Bool.not_true, Bool.not_false, ixR0, ixR1, sv_r]
      simp only [eqD_nil]
      refine ⟨by unfold big; decide, ?_⟩
      cases hc : ks.any fun k => hld n (arcAt as k) (x : Nat) with
      | true =>
        have e : ((ks.filter fun k => hld n (arcAt as k) (x : Nat)).map natD).isEmpty = false := by
          obtain ⟨k, hk, hh⟩ := List.any_eq_true.mp hc
          rw [Bool.eq_false_iff, ne_eq, List.isEmpty_iff, List.map_eq_nil_iff]
          intro e
          have : k ∈ ks.filter fun k => hld n (arcAt as k) (x : Nat) := List.mem_filter.mpr ⟨hk, hh⟩
          rw [e] at this
          cases this
        rw [hc, if_pos rfl] at hk'
        simp only [e, Bool.false_eq_true, if_false]
        exact hk'
      | false =>
        have e : ((ks.filter fun k => hld n (arcAt as k) (x : Nat)).map natD).isEmpty = true := by
          rw [List.isEmpty_iff, List.map_eq_nil_iff, List.filter_eq_nil_iff]
          intro k hk hm
          rw [List.any_eq_false] at hc
          exact hc k hk hm
        rw [hc, if_neg (by decide)] at hk'
        simp only [e, if_true]
        exact hk'
  · rw [List.nil_append, fm_drop]
    try simp only [wSs, wS, w1, wT, wE, wA, wX, wV, wP, wC, opn, rdO_d, rdO_o, asD_d, asD_n, KQY, entry, look, put, slotV, argsOk, frzA, frzV, sv_i, sv_b, sv_s, sv_0, sv_l, sv_t, sv_d, sv_n, List.map, List.length, List.replicate, List.cons_append, List.nil_append, Nat.sub_self, biD, isD_1, boolD_b, cmpD, relD_i, opD, addD_i, addD_l, subD_i, intD_i, lenD_l, lenD_t, listD_l, listD_t, tupleD_l, int2D_i, absD_i, toIntD_i, toIntD_b, eqD_i, eqD_b, eqD_s, rngD_1, rngD_2, seqD_l, seqD_t, lstD_l, ixX_l, ixX_t, negX_i, slX_l, rvX_l, repX_i, intX_i, ixD_0, ixD_1, ixD_2, true_and, and_true, ite_self, Bool.false_eq_true, if_false, if_true, Bool.not_true, Bool.not_false, ixR0, ixR1, sv_r]
    simp only [eqD_nil]
    refine ⟨by unfold big; decide, ?_⟩
    refine qb h ?_
    unfold cvB
    rw [List.isEmpty_iff, List.map_eq_nil_iff, List.filter_eq_nil_iff, List.all_eq_true]
    exact ⟨fun h q hq => nn.mpr (h q hq), fun h q hq => nn.mp (h q hq)⟩
/-! ### how far an arc goes on -/
def rch (n : Int) (a : Int × Int) (x : Int) : Int := a.2 - (x - a.1) % n
theorem rch_pos {n x : Int} {a : Int × Int} (h : hld n a x = true) : 1 ≤ rch n a x := by
  unfold hld at h
  unfold rch
  have := of_decide_eq_true h
  omega
end Ac
namespace Ac
open PySem PySem.Spec PyProof.Rows L2
/-! ### the widest arc at a place -/
def widF (n : Int) (as : List (Int × Int)) (x : Int) : Option Nat → List Nat → Option Nat
  | b, [] => b
  | none, k :: r => widF n as x (some k) r
  | some f, k :: r => if rch n (arcAt as f) x < rch n (arcAt as k) x then widF n as x (some k) r else widF n as x (some f) r
def widO (n : Int) (as : List (Int × Int)) (x : Int) : Option Nat := widF n as x none (atB n as x)
def wid (n : Int) (as : List (Int × Int)) (x : Int) : Nat := (widO n as x).getD 0
def mx (n : Int) (as : List (Int × Int)) (x : Int) : Int := rch n (arcAt as (wid n as x)) x
def Cvd (n : Int) (as : List (Int × Int)) : Prop := ∀ x : Int, 0 ≤ x → x < n → atB n as x ≠ []
theorem widF_some {n : Int} {as : List (Int × Int)} {x : Int} : ∀ (ls : List Nat) (b : Nat), ∃ c, widF n as x (some b) ls = some c ∧ (c = b ∨ c ∈ ls) ∧ rch n (arcAt as b) x ≤ rch n (arcAt as c) x ∧ ∀ l ∈ ls, rch n (arcAt as l) x ≤ rch n (arcAt as c) x
  | [], b => ⟨b, rfl, .inl rfl, Int.le_refl _, fun _ h => nomatch h⟩
  | l :: ls, b => by
    unfold widF
    by_cases hc : rch n (arcAt as b) x < rch n (arcAt as l) x
    · rw [if_pos hc]
      obtain ⟨c, h1, h2, h3, h4⟩ := widF_some ls l
      refine ⟨c, h1, .inr (h2.elim (fun e => by rw [e]; exact List.mem_cons_self) fun h => List.mem_cons_of_mem _ h), by omega, fun k hk => ?_⟩
      rcases List.mem_cons.mp hk with rfl | hk
      · exact h3
      · exact h4 k hk
    · rw [if_neg hc]
      obtain ⟨c, h1, h2, h3, h4⟩ := widF_some ls b
      refine ⟨c, h1, h2.elim .inl fun h => .inr (List.mem_cons_of_mem _ h), h3, fun k hk => ?_⟩
      rcases List.mem_cons.mp hk with rfl | hk
      · omega
      · exact h4 k hk
section
variable {n x : Int} {as : List (Int × Int)}
theorem wid_ok (h : atB n as x ≠ []) : widO n as x = some (wid n as x) ∧ wid n as x ∈ atB n as x ∧ ∀ k ∈ atB n as x, rch n (arcAt as k) x ≤ mx n as x := by
  obtain ⟨l, ls, e⟩ := List.exists_cons_of_ne_nil h
  obtain ⟨c, h1, h2, h3, h4⟩ := widF_some (n := n) (as := as) (x := x) ls l
  have e1 : widO n as x = some c := by
    unfold widO
    rw [e]
    exact h1
  have e2 : wid n as x = c := by unfold wid; rw [e1]; rfl
  refine ⟨by rw [e1, e2], ?_, fun k hk => ?_⟩
  · rw [e2, e]
    rcases h2 with rfl | h2
    · exact List.mem_cons_self
    · exact List.mem_cons_of_mem _ h2
  · unfold mx
    rw [e2]
    rw [e] at hk
    rcases List.mem_cons.mp hk with rfl | hk
    · exact h3
    · exact h4 k hk
theorem wid_hld (h : atB n as x ≠ []) : wid n as x < as.length ∧ hld n (arcAt as (wid n as x)) x = true := by
  obtain ⟨hk, hh⟩ := mem_atB.mp (wid_ok h).2.1
  exact ⟨hk, by rw [arcAt_eq hk]; exact hh⟩
theorem mx_pos (h : atB n as x ≠ []) : 1 ≤ mx n as x := rch_pos (wid_hld h).2
theorem mx_ge {k : Nat} (hk : k < as.length) (hh : hld n (arcAt as k) x = true) : rch n (arcAt as k) x ≤ mx n as x := by
  have hm : k ∈ atB n as x := mem_atB.mpr ⟨hk, by rw [← arcAt_eq hk]; exact hh⟩
  exact (wid_ok (fun e => by rw [e] at hm; cases hm)).2.2 k hm
/-- an arc goes on -/
theorem rch_on {a : Int × Int} {t : Int} (ok : arcOk n a) (hh : hld n a x = true) (t0 : 0 ≤ t) (t1 : t < rch n a x) : hld n a ((x + t) % n) = true ∧ rch n a ((x + t) % n) = rch n a x - t := by
  have hn : 0 < n := by have := ok.1; have := ok.2.1; omega
  have h4 := ok.2.2.2
  unfold hld rch at *
  have hh := of_decide_eq_true hh
  have h0 := Int.emod_nonneg (x - a.1) (show n ≠ 0 by omega)
  have e : ((x + t) % n - a.1) % n = (x - a.1) % n + t := by
    have e1 : ((x + t) % n - a.1) % n = ((x - a.1) % n + t) % n := by
      rw [Int.emod_sub_emod, Int.emod_add_emod]
      congr 1
      omega
    rw [e1]
    exact Int.emod_eq_of_lt (by omega) (by omega)
  rw [e]
  exact ⟨decide_eq_true (by omega), by omega⟩
end
/-! ### going round -/
def cvF (n : Int) (as : List (Int × Int)) (x : Int) : Nat → Int → List Nat
  | 0, _ => []
  | f + 1, h => if h < n then wid n as ((x + h) % n) :: cvF n as x f (h + mx n as ((x + h) % n)) else []
def hg (n : Int) (as : List (Int × Int)) (x : Int) : Nat → Int → Int
  | 0, h => h
  | i + 1, h => hg n as x i (h + mx n as ((x + h) % n))
section
variable {n x : Int} {as : List (Int × Int)}
theorem hg_succ : ∀ (i : Nat) (h : Int), hg n as x (i + 1) h = hg n as x i h + mx n as ((x + hg n as x i h) % n)
  | 0, _ => rfl
  | i + 1, h => by
    have := hg_succ i (h + mx n as ((x + h) % n))
    exact this
theorem mod_pl (hn : 0 < n) (y : Int) : 0 ≤ y % n ∧ y % n < n := ⟨Int.emod_nonneg _ (by omega), Int.emod_lt_of_pos _ hn⟩
theorem Cvd.at (hc : Cvd n as) (hn : 0 < n) (y : Int) : atB n as (y % n) ≠ [] := hc _ (mod_pl hn y).1 (mod_pl hn y).2
theorem cvF_len : ∀ (j f : Nat) (h : Int), n ≤ hg n as x j h → (cvF n as x f h).length ≤ j
  | _, 0, _, _ => Nat.zero_le _
  | 0, f + 1, h, hh => by
    have hh : n ≤ h := hh
    unfold cvF
    rw [if_neg (by omega)]
    exact Nat.le_refl _
  | j + 1, f + 1, h, hh => by
    unfold cvF
    by_cases hc : h < n
    · rw [if_pos hc, List.length_cons]
      have := cvF_len j f (h + mx n as ((x + h) % n)) hh
      omega
    · rw [if_neg hc]
      exact Nat.zero_le _
theorem cvF_mem (hc : Cvd n as) (hn : 0 < n) : ∀ {f : Nat} {h : Int} {k : Nat}, k ∈ cvF n as x f h → k < as.length
  | 0, _, _, hk => nomatch hk
  | f + 1, h, k, hk => by
    unfold cvF at hk
    split at hk
    · rcases List.mem_cons.mp hk with rfl | hk
      · exact (wid_hld (hc.at hn _)).1
      · exact cvF_mem hc hn hk
    · cases hk
theorem cvF_cov (ok : RingOk n as) (hc : Cvd n as) : ∀ (f : Nat) (h d : Int), 0 ≤ h → (n - h).toNat ≤ f → h ≤ d → d < n → ∃ k ∈ cvF n as x f h, hld n (arcAt as k) ((x + d) % n) = true
  | 0, h, d, h0, hf, hd, hd2 => by omega
  | f + 1, h, d, h0, hf, hd, hd2 => by
    have n1 := ok.n1
    have hb := hc.at (by omega) (x + h)
    have hw := wid_hld hb
    have hm := mx_pos hb
    unfold cvF
    rw [if_pos (by omega)]
    by_cases hlt : d - h < mx n as ((x + h) % n)
    · refine ⟨_, List.mem_cons_self, ?_⟩
      have := (rch_on (ok.at hw.1) hw.2 (t := d - h) (by omega) hlt).1
      rw [Int.emod_add_emod] at this
      have e : x + h + (d - h) = x + d := by omega
      rw [e] at this
      exact this
    · obtain ⟨k, hk, hh⟩ := cvF_cov ok hc f (h + mx n as ((x + h) % n)) d (by omega) (by omega) (by omega) hd2
      exact ⟨k, List.mem_cons_of_mem _ hk, hh⟩
/-- the farther, the farther -/
theorem hg_mono (ok : RingOk n as) (hc : Cvd n as) : ∀ (j : Nat) (h h' : Int), h ≤ h' → hg n as x j h ≤ hg n as x j h'
  | 0, _, _, hh => hh
  | j + 1, h, h', hh => by
    have n1 := ok.n1
    refine hg_mono ok hc j _ _ ?_
    have hb := hc.at (by omega) (x + h)
    have hb' := hc.at (by omega) (x + h')
    have hw := wid_hld hb
    have hm' := mx_pos hb'
    by_cases hlt : h' - h < mx n as ((x + h) % n)
    · have h1 := rch_on (ok.at hw.1) hw.2 (t := h' - h) (by omega) hlt
      rw [Int.emod_add_emod] at h1
      have e : x + h + (h' - h) = x + h' := by omega
      rw [e] at h1
      have h2 := mx_ge hw.1 h1.1
      rw [h1.2] at h2
      have : rch n (arcAt as (wid n as ((x + h) % n))) ((x + h) % n) = mx n as ((x + h) % n) := rfl
      omega
    · omega
theorem hg_step (hc : Cvd n as) (hn : 0 < n) {h : Int} : ∀ {i j : Nat}, i < j → hg n as x i h + mx n as ((x + hg n as x i h) % n) ≤ hg n as x j h
  | i, 0, hij => absurd hij (Nat.not_lt_zero _)
  | i, j + 1, hij => by
    rcases Nat.lt_or_eq_of_le (Nat.le_of_lt_succ hij) with hlt | rfl
    · have := hg_step hc hn (h := h) hlt
      rw [hg_succ j h]
      have := mx_pos (hc.at hn (x + hg n as x j h))
      omega
    · rw [hg_succ]
      exact Int.le_refl _
end
def cvL (n : Int) (as : List (Int × Int)) (k : Nat) : List Nat := k :: cvF n as (arcAt as k).1 40 (arcAt as k).2
def CovS (n : Int) (as : List (Int × Int)) (S : List Nat) : Prop := (∀ k ∈ S, k < as.length) ∧ Cov' n as S
structure FewC (n : Int) (as : List (Int × Int)) (m : Nat) : Prop where
  ex : ∃ S, CovS n as S ∧ S.length = m
  le : ∀ S, CovS n as S → m ≤ S.length
section
variable {n : Int} {as : List (Int × Int)}
theorem FewC.uniq {m m' : Nat} (h : FewC n as m) (h' : FewC n as m') : m = m' := by
  obtain ⟨S, p1, rfl⟩ := h.ex
  obtain ⟨S', p1', rfl⟩ := h'.ex
  exact Nat.le_antisymm (h.le _ p1') (h'.le _ p1)
theorem cvL_cov (ok : RingOk n as) (hc : Cvd n as) {k : Nat} (hk : k < as.length) : CovS n as (cvL n as k) := by
  have n1 := ok.n1
  have n40 := ok.n40
  have oka := ok.at hk
  have a1 := oka.2.2.1
  refine ⟨fun j hj => ?_, fun y y0 y1 => ?_⟩
  · rcases List.mem_cons.mp hj with rfl | hj
    · exact hk
    · exact cvF_mem hc (by omega) hj
  · have hd := mod_pl (n := n) (by omega) (y - (arcAt as k).1)
    have eb : ((arcAt as k).1 + (y - (arcAt as k).1) % n) % n = y := by
      rw [Int.add_emod_emod]
      have : (arcAt as k).1 + (y - (arcAt as k).1) = y := by omega
      rw [this]
      exact Int.emod_eq_of_lt y0 y1
    by_cases hlt : (y - (arcAt as k).1) % n < (arcAt as k).2
    · exact ⟨k, List.mem_cons_self, by unfold hld; exact decide_eq_true hlt⟩
    · obtain ⟨j, hj, hh⟩ := cvF_cov (x := (arcAt as k).1) ok hc 40 (arcAt as k).2 ((y - (arcAt as k).1) % n) (by omega) (by omega) (by omega) hd.2
      rw [eb] at hh
      exact ⟨j, List.mem_cons_of_mem _ hj, hh⟩
theorem cvd_of {S : List Nat} (h : CovS n as S) : Cvd n as := fun x x0 x1 e => by
  obtain ⟨k, hk, hh⟩ := h.2 x x0 x1
  have hkl := h.1 k hk
  have : k ∈ atB n as x := mem_atB.mpr ⟨hkl, by rw [← arcAt_eq hkl]; exact hh⟩
  rw [e] at this
  cases this
/-- of fewest that cover, going on from any one, as many are enough -/
theorem gre_opt {m : Nat} {S : List Nat} {first : Nat} (ok : RingOk n as) (hm : FewC n as m) (hS : CovS n as S) (hl : S.length = m) (hf : first ∈ S) : n ≤ hg n as (arcAt as first).1 (m - 1) (arcAt as first).2 := by
  have n1 := ok.n1
  have hc := cvd_of hS
  have okf := ok.at (hS.1 first hf)
  have hmp : 1 ≤ m := by rw [← hl]; exact List.length_pos_of_mem hf
  refine Classical.byContradiction fun hno => ?_
  have hno : hg n as (arcAt as first).1 (m - 1) (arcAt as first).2 < n := by omega
  -- heights and places
  have hL : (arcAt as first).2 = hg n as (arcAt as first).1 0 (arcAt as first).2 := rfl
  have hup : ∀ i j, i < j → hg n as (arcAt as first).1 i (arcAt as first).2 + mx n as (((arcAt as first).1 + hg n as (arcAt as first).1 i (arcAt as first).2) % n) ≤ hg n as (arcAt as first).1 j (arcAt as first).2 := fun i j hij => hg_step hc (by omega) hij
  have hmx : ∀ i, 1 ≤ mx n as (((arcAt as first).1 + hg n as (arcAt as first).1 i (arcAt as first).2) % n) := fun i => mx_pos (hc.at (by omega) _)
  generalize hx : (arcAt as first).1 = x at hno hup hmx hL
  generalize hHd : (fun i => hg n as x i (arcAt as first).2) = Hf
  have hHi : ∀ i, hg n as x i (arcAt as first).2 = Hf i := fun i => by rw [← hHd]
  simp only [hHi] at hno hup hmx hL
  have hge : ∀ i, (arcAt as first).2 ≤ Hf i := fun i => by
    cases i with
    | zero => omega
    | succ i => have := hup 0 (i + 1) (by omega); have := hmx 0; omega
  have hlt : ∀ i, i < m → Hf i < n := fun i hi => by
    rcases Nat.lt_or_ge i (m - 1) with h | h
    · have := hup i (m - 1) h; have := hmx i; omega
    · have e : i = m - 1 := by omega
      rw [e]; exact hno
  have a1 := okf.2.2.1
  -- who covers each place
  have hex : ∃ g : Nat → Nat, ∀ i, i < m → g i ∈ S ∧ hld n (arcAt as (g i)) ((x + Hf i) % n) = true := by
    refine ⟨fun i => open Classical in if h : ∃ k ∈ S, hld n (arcAt as k) ((x + Hf i) % n) = true then Classical.choose h else 0, fun i _ => ?_⟩
    have h := hS.2 ((x + Hf i) % n) (mod_pl (by omega) _).1 (mod_pl (by omega) _).2
    dsimp only
    rw [dif_pos h]
    exact Classical.choose_spec h
  obtain ⟨g, hg'⟩ := hex
  have hpos : ∀ i, i < m → ((x + Hf i) % n - x) % n = Hf i := fun i hi => by
    rw [Int.emod_sub_emod]
    have e : x + Hf i - x = Hf i := by omega
    rw [e]
    exact Int.emod_eq_of_lt (by have := hge i; omega) (hlt i hi)
  have hne : ∀ i, i < m → g i ≠ first := fun i hi e => by
    have h2 := (hg' i hi).2
    rw [e] at h2
    unfold hld at h2
    have h2 := of_decide_eq_true h2
    rw [hx, hpos i hi] at h2
    have := hge i
    omega
  have hinj : ∀ i j, i < j → j < m → g i ≠ g j := fun i j hij hj e => by
    have hi : i < m := by omega
    obtain ⟨s1, h1⟩ := hg' i hi
    obtain ⟨s2, h2⟩ := hg' j hj
    rw [← e] at h2
    have hkl := hS.1 _ s1
    have oka := ok.at hkl
    have hr := mx_ge hkl h1
    have hst := hup i j hij
    have hm1 := hmx i
    have hnfi := hne i hi
    generalize g i = k at h1 h2 hr hkl oka s1 hnfi
    have hj1 := hlt j hj
    have hi0 := hge i
    unfold hld at h1 h2
    unfold rch at hr
    have h1 := of_decide_eq_true h1
    have h2 := of_decide_eq_true h2
    have b4 := oka.2.2.2
    have u0 := mod_pl (n := n) (by omega) ((x + Hf i) % n - (arcAt as k).1)
    have v0 := mod_pl (n := n) (by omega) ((x + Hf j) % n - (arcAt as k).1)
    generalize hu : ((x + Hf i) % n - (arcAt as k).1) % n = u at h1 hr u0
    generalize hv : ((x + Hf j) % n - (arcAt as k).1) % n = v at h2 v0
    have ed : (v - u) % n = (Hf j - Hf i) % n := by
      rw [← hu, ← hv, Int.emod_sub_emod, Int.sub_emod_emod]
      have e3 : (x + Hf j) % n - (arcAt as k).1 - ((x + Hf i) % n - (arcAt as k).1) = (x + Hf j) % n - (x + Hf i) % n := by omega
      rw [e3, Int.emod_sub_emod, Int.sub_emod_emod]
      congr 1
      omega
    by_cases huv : u ≤ v
    · rw [Int.emod_eq_of_lt (show 0 ≤ v - u by omega) (by omega), Int.emod_eq_of_lt (show 0 ≤ Hf j - Hf i by omega) (by omega)] at ed
      omega
    · -- it holds all of the first one
      have ed2 : u - v = n - (Hf j - Hf i) := by
        have e5 : (v - u) % n = v - u + n := by
          rw [← Int.add_emod_right]
          exact Int.emod_eq_of_lt (by omega) (by omega)
        rw [e5, Int.emod_eq_of_lt (show 0 ≤ Hf j - Hf i by omega) (by omega)] at ed
        omega
      have hall : ∀ y, 0 ≤ y → y < n → hld n (arcAt as first) y = true → hld n (arcAt as k) y = true := fun y y0 y1 hy => by
        unfold hld at hy ⊢
        have hy := of_decide_eq_true hy
        rw [hx] at hy
        have w0 := mod_pl (n := n) (by omega) (y - x)
        generalize hw : (y - x) % n = w at hy w0
        have ey : (y - (arcAt as k).1) % n = (v + (n - Hf j + w)) % n := by
          rw [← hv, ← hw, Int.emod_add_emod]
          have e6 : (x + Hf j) % n - (arcAt as k).1 + (n - Hf j + (y - x) % n) = (x + Hf j) % n + (n - Hf j - (arcAt as k).1 + (y - x) % n) := by omega
          rw [e6, Int.emod_add_emod]
          have e7 : x + Hf j + (n - Hf j - (arcAt as k).1 + (y - x) % n) = (y - x) % n + (x - (arcAt as k).1) + n := by omega
          rw [e7, Int.add_emod_right, Int.emod_add_emod]
          congr 1
          omega
        rw [ey]
        have := hge i
        rw [Int.emod_eq_of_lt (by omega) (by omega)]
        exact decide_eq_true (by omega)
      have := hm.le (S.erase first) ⟨fun q hq => hS.1 q (List.mem_of_mem_erase hq), fun y y0 y1 => by
        obtain ⟨q, hq, hh⟩ := hS.2 y y0 y1
        by_cases hqf : q = first
        · subst hqf
          exact ⟨k, (List.mem_erase_of_ne hnfi).mpr s1, hall y y0 y1 hh⟩
        · exact ⟨q, (List.mem_erase_of_ne hqf).mpr hq, hh⟩⟩
      rw [List.length_erase_of_mem hf, hl] at this
      omega
  have := nodup_len (l := (List.range m).map g) (P := S.erase first) (by
    rw [List.Nodup, List.pairwise_map]
    refine List.Pairwise.imp_of_mem (fun {i j} hi hj hij => hinj i j hij (List.mem_range.mp hj)) List.pairwise_lt_range) fun q hq => by
    obtain ⟨i, hi, rfl⟩ := List.mem_map.mp hq
    have hi := List.mem_range.mp hi
    exact (List.mem_erase_of_ne (hne i hi)).mpr (hg' i hi).1
  rw [List.length_map, List.length_range, List.length_erase_of_mem hf, hl] at this
  omega
end
end Ac
namespace Ac
open PySem PySem.Spec PyProof.Rows L2
/-! ### reach_from, widest_at, cover_from -/
def Sreach_from : Summ := Summ.cond fun ds => match ds with
  | [.int n, .tuple [.int s, .int m], .int x] => some (0 < n, .inl (.dat (.int (m - (x - s) % n))))
  | _ => none
def trreach_from : Sms Unit :=
  (.cons (.one (.ret (.op .Sub (.ix (.var 1) (.int 1)) (.op .Mod (.op .Sub (.var 2) (.ix (.var 1) (.int 0))) (.var 0)))))
    .nil)

@[simp] theorem run_reach_from {n s m x : Int} {Q : Val → Prop} {Y : Nat → Prop} : Sreach_from.run [.int n, .tuple [.int s, .int m], .int x] Q Y = (0 < n ∧ Q (.dat (.int (m - (x - s) % n)))) := rfl
theorem w_reach_from : WOk Sreach_from 3 3 trreach_from := WOk.cond fun ds p r e => by
  split at e
  · cases e
    refine ⟨rfl, fun hp Q Y h => ?_⟩
    unfold trreach_from
    simp only [wSs, wS, w1, wT, wE, wA, wX, wV, wP, wC, opn, rdO_d, rdO_o, asD_d, asD_n, KQY, entry, look, put, slotV, argsOk, frzA, frzV, sv_i, sv_b, sv_s, sv_0, sv_l, sv_t, sv_d, sv_n, List.map, List.length, List.replicate, List.cons_append, List.nil_append, Nat.sub_self, biD, isD_1, boolD_b, cmpD, relD_i, opD, addD_i, addD_l, subD_i, intD_i, lenD_l, lenD_t, listD_l, listD_t, tupleD_l, int2D_i, absD_i, toIntD_i, toIntD_b, eqD_i, eqD_b, eqD_s, rngD_1, rngD_2, seqD_l, seqD_t, lstD_l, ixX_l, ixX_t, negX_i, slX_l, rvX_l, repX_i, intX_i, ixD_0, ixD_1, ixD_2, true_and, and_true, ite_self]
    exact ⟨hp, h⟩
  · cases e
def optN : Option Nat → D
  | none => .none
  | some k => natD k
def Swidest_at : Summ where
  run ds Q _ := ∃ (n : Int) (as : List (Int × Int)) (x : Int), ds = [ringD n as, .int x] ∧ RingOk n as ∧ 0 ≤ x ∧ x < n ∧ Q (.dat (optN (widO n as x)))
  mono := fun h1 _ ⟨n, as, x, e, ok, x0, x1, q⟩ => ⟨n, as, x, e, ok, x0, x1, h1 _ q⟩
theorem call_widest_at {n x : Int} {as : List (Int × Int)} {Q : Val → Prop} {Y : Nat → Prop} (ok : RingOk n as) (x0 : 0 ≤ x) (x1 : x < n) (h : Q (.dat (optN (widO n as x)))) : Swidest_at.run [ringD n as, .int x] Q Y := ⟨n, as, x, rfl, ok, x0, x1, h⟩
def trwidest_at_b1 : Sms Unit :=
  (.cons (.ite (.or (.isn true (.var 2)) (.cmp .Gt (.call "reach_from" Sreach_from (.cons (.ix (.var 0) (.int 0)) (.cons (.ix (.ix (.var 0) (.int 1)) (.var 3)) (.cons (.var 1) .nil)))) (.call "reach_from" Sreach_from (.cons (.ix (.var 0) (.int 0)) (.cons (.ix (.ix (.var 0) (.int 1)) (.var 2)) (.cons (.var 1) .nil))))))
    (.cons (.one (.asg 2 (.var 3)))
    .nil)
    .nil)
    .nil)
def trwidest_at : Sms Unit :=
  (.cons (.one (.asg 2 .non))
    (.cons (.for (.nm 3) (.seq (.call "arcs_at" Sarcs_at (.cons (.var 0) (.cons (.var 1) .nil))))
    trwidest_at_b1)
    (.cons (.one (.ret (.var 2)))
    .nil)))

theorem w_widest_at : WOk Swidest_at 2 4 trwidest_at := fun ds Q Y h => by
  obtain ⟨n, as, x, rfl, ok, x0, x1, h⟩ := h
  refine ⟨rfl, ?_⟩
  have n1 := ok.n1
  have hal := atB_len (n := n) (as := as) (p := x)
  have hlen := ok.len
  unfold trwidest_at
  simp only [wSs, wS, w1, wT, wE, wA, wX, wV, wP, wC, opn, rdO_d, rdO_o, asD_d, asD_n, KQY, entry, look, put, slotV, argsOk, frzA, frzV, sv_i, sv_b, sv_s, sv_0, sv_l, sv_t, sv_d, sv_n, List.map, List.length, List.replicate, List.cons_append, List.nil_append, Nat.sub_self, biD, isD_1, boolD_b, cmpD, relD_i, opD, addD_i, addD_l, subD_i, intD_i, lenD_l, lenD_t, listD_l, listD_t, tupleD_l, int2D_i, absD_i, toIntD_i, toIntD_b, eqD_i, eqD_b, eqD_s, rngD_1, rngD_2, seqD_l, seqD_t, lstD_l, ixX_l, ixX_t, negX_i, slX_l, rvX_l, repX_i, intX_i, ixD_0, ixD_1, ixD_2, true_and, and_true, ite_self, wJ]
  refine call_arcs_at ok x0 x1 ?_
  try simp only [wSs, wS, w1, wT, wE, wA, wX, wV, wP, wC, opn, rdO_d, rdO_o, asD_d, asD_n, KQY, entry, look, put, slotV, argsOk, frzA, frzV, sv_i, sv_b, sv_s, sv_0, sv_l, sv_t, sv_d, sv_n, List.map, List.length, List.replicate, List.cons_append, List.nil_append, Nat.sub_self, biD, isD_1, boolD_b, cmpD, relD_i, opD, addD_i, addD_l, subD_i, intD_i, lenD_l, lenD_t, listD_l, listD_t, tupleD_l, int2D_i, absD_i, toIntD_i, toIntD_b, eqD_i, eqD_b, eqD_s, rngD_1, rngD_2, seqD_l, seqD_t, lstD_l, ixX_l, ixX_t, negX_i, slX_l, rvX_l, repX_i, intX_i, ixD_0, ixD_1, ixD_2, true_and, and_true, ite_self, Bool.false_eq_true, if_false, if_true, Bool.not_true, Bool.not_false, ixR0, ixR1, sv_r]
  refine ⟨by rw [List.length_map]; unfold big; omega, ?_⟩
  refine fLoop_mp (g := natD) (fun done rest Γ _ => ∃ (b : Option Nat) (x3 : Option Val), Γ = [some (.dat (ringD n as)), some (.dat (.int x)), some (.dat (optN b)), x3] ∧ widF n as x b rest = widO n as x ∧ (∀ k ∈ rest, k < as.length) ∧ ∀ f, b = some f → f < as.length) ?_ ?_ _ [] _ _ ⟨none, _, rfl, rfl, fun k hk => (mem_atB.mp hk).1, fun f e => nomatch e⟩
  · rintro done Γ u ⟨b, x3, rfl, hb, _, _⟩
    have e : b = widO n as x := by rw [← hb]; cases b <;> rfl
    rw [← e] at h
    simp only [wSs, wS, w1, wT, wE, wA, wX, wV, wP, wC, opn, rdO_d, rdO_o, asD_d, asD_n, KQY, entry, look, put, slotV, argsOk, frzA, frzV, sv_i, sv_b, sv_s, sv_0, sv_l, sv_t, sv_d, sv_n, List.map, List.length, List.replicate, List.cons_append, List.nil_append, Nat.sub_self, biD, isD_1, boolD_b, cmpD, relD_i, opD, addD_i, addD_l, subD_i, intD_i, lenD_l, lenD_t, listD_l, listD_t, tupleD_l, int2D_i, absD_i, toIntD_i, toIntD_b, eqD_i, eqD_b, eqD_s, rngD_1, rngD_2, seqD_l, seqD_t, lstD_l, ixX_l, ixX_t, negX_i, slX_l, rvX_l, repX_i, intX_i, ixD_0, ixD_1, ixD_2, true_and, and_true, ite_self]
    exact h
  · rintro done k r Γ u K' ⟨b, x3, rfl, hb, hr, hf⟩ hnx hct hbk hrt hex
    have hk := hr k List.mem_cons_self
    unfold trwidest_at_b1
    simp only [bindT, natD, wSs, wS, w1, wT, wE, wA, wX, wV, wP, wC, opn, rdO_d, rdO_o, asD_d, asD_n, KQY, entry, look, put, slotV, argsOk, frzA, frzV, sv_i, sv_b, sv_s, sv_0, sv_l, sv_t, sv_d, sv_n, List.map, List.length, List.replicate, List.cons_append, List.nil_append, Nat.sub_self, biD, isD_1, boolD_b, cmpD, relD_i, opD, addD_i, addD_l, subD_i, intD_i, lenD_l, lenD_t, listD_l, listD_t, tupleD_l, int2D_i, absD_i, toIntD_i, toIntD_b, eqD_i, eqD_b, eqD_s, rngD_1, rngD_2, seqD_l, seqD_t, lstD_l, ixX_l, ixX_t, negX_i, slX_l, rvX_l, repX_i, intX_i, ixD_0, ixD_1, ixD_2, true_and, and_true, ite_self]
    cases b with
    | none =>
      simp only [optN, noneD, if_true, wSs, wS, w1, wT, wE, wA, wX, wV, wP, wC, opn, rdO_d, rdO_o, asD_d, asD_n, KQY, entry, look, put, slotV, argsOk, frzA, frzV, sv_i, sv_b, sv_s, sv_0, sv_l, sv_t, sv_d, sv_n, List.map, List.length, List.replicate, List.cons_append, List.nil_append, Nat.sub_self, biD, isD_1, boolD_b, cmpD, relD_i, opD, addD_i, addD_l, subD_i, intD_i, lenD_l, lenD_t, listD_l, listD_t, tupleD_l, int2D_i, absD_i, toIntD_i, toIntD_b, eqD_i, eqD_b, eqD_s, rngD_1, rngD_2, seqD_l, seqD_t, lstD_l, ixX_l, ixX_t, negX_i, slX_l, rvX_l, repX_i, intX_i, ixD_0, ixD_1, ixD_2, true_and, and_true, ite_self]
      exact hnx _ _ ⟨some k, _, rfl, hb, fun j hj => hr j (List.mem_cons_of_mem _ hj), fun f e => by cases e; exact hk⟩
    | some f =>
      have hf' := hf f rfl
      simp only [optN, natD, noneD, Bool.false_eq_true, if_false, wSs, wS, w1, wT, wE, wA, wX, wV, wP, wC, opn, rdO_d, rdO_o, asD_d, asD_n, KQY, entry, look, put, slotV, argsOk, frzA, frzV, sv_i, sv_b, sv_s, sv_0, sv_l, sv_t, sv_d, sv_n, List.map, List.length, List.replicate, List.cons_append, List.nil_append, Nat.sub_self, biD, isD_1, boolD_b, cmpD, relD_i, opD, addD_i, addD_l, subD_i, intD_i, lenD_l, lenD_t, listD_l, listD_t, tupleD_l, int2D_i, absD_i, toIntD_i, toIntD_b, eqD_i, eqD_b, eqD_s, rngD_1, rngD_2, seqD_l, seqD_t, lstD_l, ixX_l, ixX_t, negX_i, slX_l, rvX_l, repX_i, intX_i, ixD_0, ixD_1, ixD_2, true_and, and_true, ite_self, ixR0, ixR1]
      rw [ixD_nat (j := k) rfl (arcAt_it hk)]
      simp only [arcD, run_reach_from, wSs, wS, w1, wT, wE, wA, wX, wV, wP, wC, opn, rdO_d, rdO_o, asD_d, asD_n, KQY, entry, look, put, slotV, argsOk, frzA, frzV, sv_i, sv_b, sv_s, sv_0, sv_l, sv_t, sv_d, sv_n, List.map, List.length, List.replicate, List.cons_append, List.nil_append, Nat.sub_self, biD, isD_1, boolD_b, cmpD, relD_i, opD, addD_i, addD_l, subD_i, intD_i, lenD_l, lenD_t, listD_l, listD_t, tupleD_l, int2D_i, absD_i, toIntD_i, toIntD_b, eqD_i, eqD_b, eqD_s, rngD_1, rngD_2, seqD_l, seqD_t, lstD_l, ixX_l, ixX_t, negX_i, slX_l, rvX_l, repX_i, intX_i, ixD_0, ixD_1, ixD_2, true_and, and_true, ite_self, ixR0, ixR1]
      refine ⟨by omega, ?_⟩
      rw [ixD_nat (j := f) rfl (arcAt_it hf')]
      simp only [arcD, run_reach_from, wSs, wS, w1, wT, wE, wA, wX, wV, wP, wC, opn, rdO_d, rdO_o, asD_d, asD_n, KQY, entry, look, put, slotV, argsOk, frzA, frzV, sv_i, sv_b, sv_s, sv_0, sv_l, sv_t, sv_d, sv_n, List.map, List.length, List.replicate, List.cons_append, List.nil_append, Nat.sub_self, biD, isD_1, boolD_b, cmpD, relD_i, opD, addD_i, addD_l, subD_i, intD_i, lenD_l, lenD_t, listD_l, listD_t, tupleD_l, int2D_i, absD_i, toIntD_i, toIntD_b, eqD_i, eqD_b, eqD_s, rngD_1, rngD_2, seqD_l, seqD_t, lstD_l, ixX_l, ixX_t, negX_i, slX_l, rvX_l, repX_i, intX_i, ixD_0, ixD_1, ixD_2, true_and, and_true, ite_self, ixR0, ixR1]
      refine ⟨by omega, ?_⟩
      unfold widF at hb
      unfold rch at hb
      by_cases hc : (arcAt as f).2 - (x - (arcAt as f).1) % n < (arcAt as k).2 - (x - (arcAt as k).1) % n
      · rw [if_pos hc] at hb
        simp only [hc, decide_true, if_true, wSs, wS, w1, wT, wE, wA, wX, wV, wP, wC, opn, rdO_d, rdO_o, asD_d, asD_n, KQY, entry, look, put, slotV, argsOk, frzA, frzV, sv_i, sv_b, sv_s, sv_0, sv_l, sv_t, sv_d, sv_n, List.map, List.length, List.replicate, List.cons_append, List.nil_append, Nat.sub_self, biD, isD_1, boolD_b, cmpD, relD_i, opD, addD_i, addD_l, subD_i, intD_i, lenD_l, lenD_t, listD_l, listD_t, tupleD_l, int2D_i, absD_i, toIntD_i, toIntD_b, eqD_i, eqD_b, eqD_s, rngD_1, rngD_2, seqD_l, seqD_t, lstD_l, ixX_l, ixX_t, negX_i, slX_l, rvX_l, repX_i, intX_i, ixD_0, ixD_1, ixD_2, true_and, and_true, ite_self]
        exact hnx _ _ ⟨some k, _, rfl, hb, fun j hj => hr j (List.mem_cons_of_mem _ hj), fun f e => by cases e; exact hk⟩
      · rw [if_neg hc] at hb
        simp only [hc, decide_false, Bool.false_eq_true, if_false, wSs, wS, w1, wT, wE, wA, wX, wV, wP, wC, opn, rdO_d, rdO_o, asD_d, asD_n, KQY, entry, look, put, slotV, argsOk, frzA, frzV, sv_i, sv_b, sv_s, sv_0, sv_l, sv_t, sv_d, sv_n, List.map, List.length, List.replicate, List.cons_append, List.nil_append, Nat.sub_self, biD, isD_1, boolD_b, cmpD, relD_i, opD, addD_i, addD_l, subD_i, intD_i, lenD_l, lenD_t, listD_l, listD_t, tupleD_l, int2D_i, absD_i, toIntD_i, toIntD_b, eqD_i, eqD_b, eqD_s, rngD_1, rngD_2, seqD_l, seqD_t, lstD_l, ixX_l, ixX_t, negX_i, slX_l, rvX_l, repX_i, intX_i, ixD_0, ixD_1, ixD_2, true_and, and_true, ite_self]
        exact hnx _ _ ⟨some f, _, rfl, hb, fun j hj => hr j (List.mem_cons_of_mem _ hj), hf⟩
def Scover_from : Summ where
  run ds Q _ := ∃ (n : Int) (as : List (Int × Int)) (k : Nat), ds = [ringD n as, natD k] ∧ RingOk n as ∧ Cvd n as ∧ k < as.length ∧ Q (.new ((cvL n as k).map natD))
  mono := fun h1 _ ⟨n, as, k, e, ok, hc, hk, q⟩ => ⟨n, as, k, e, ok, hc, hk, h1 _ q⟩
theorem call_cover_from {n : Int} {as : List (Int × Int)} {k : Nat} {Q : Val → Prop} {Y : Nat → Prop} (ok : RingOk n as) (hc : Cvd n as) (hk : k < as.length) (h : Q (.new ((cvL n as k).map natD))) : Scover_from.run [ringD n as, natD k] Q Y := ⟨n, as, k, rfl, ok, hc, hk, h⟩
def trcover_from_b1 : Sms Unit :=
  (.cons (.one (.asg 7 (.op .Mod (.op .Add (.var 5) (.var 6)) (.var 2))))
    (.cons (.one (.app 4 (.call "widest_at" Swidest_at (.cons (.var 0) (.cons (.var 7) .nil)))))
    (.cons (.one (.aug 6 .Add (.call "reach_from" Sreach_from (.cons (.var 2) (.cons (.ix (.var 3) (.ix (.var 4) (.neg (.int 1)))) (.cons (.var 7) .nil))))))
    .nil)))
def trcover_from : Sms Unit :=
  (.cons (.one (.asgT [2, 3] (.var 0)))
    (.cons (.one (.asg 4 (.ls (.cons (.var 1) .nil))))
    (.cons (.one (.asg 5 (.ix (.ix (.var 3) (.var 1)) (.int 0))))
    (.cons (.one (.asg 6 (.ix (.ix (.var 3) (.var 1)) (.int 1))))
    (.cons (.whl (.cmp .Lt (.var 6) (.var 2))
    trcover_from_b1)
    (.cons (.one (.ret (.var 4)))
    .nil))))))

theorem cvF_ge {n x h : Int} {as : List (Int × Int)} {f : Nat} (hh : n ≤ h) : cvF n as x f h = [] := by
  cases f with
  | zero => rfl
  | succ f => unfold cvF; rw [if_neg (by omega)]
theorem w_cover_from : WOk Scover_from 2 8 trcover_from := fun ds Q Y h => by
  obtain ⟨n, as, k, rfl, ok, hcv, hk, h⟩ := h
  refine ⟨rfl, ?_⟩
  have n1 := ok.n1
  have n40 := ok.n40
  have oka := ok.at hk
  have a1 := oka.2.2.1
  unfold trcover_from
  simp only [wSs, wS, w1, wT, wE, wA, wX, wV, wP, wC, opn, rdO_d, rdO_o, asD_d, asD_n, KQY, entry, look, put, slotV, argsOk, frzA, frzV, sv_i, sv_b, sv_s, sv_0, sv_l, sv_t, sv_d, sv_n, List.map, List.length, List.replicate, List.cons_append, List.nil_append, Nat.sub_self, biD, isD_1, boolD_b, cmpD, relD_i, opD, addD_i, addD_l, subD_i, intD_i, lenD_l, lenD_t, listD_l, listD_t, tupleD_l, int2D_i, absD_i, toIntD_i, toIntD_b, eqD_i, eqD_b, eqD_s, rngD_1, rngD_2, seqD_l, seqD_t, lstD_l, ixX_l, ixX_t, negX_i, slX_l, rvX_l, repX_i, intX_i, ixD_0, ixD_1, ixD_2, true_and, and_true, ite_self, ringD, putAll, natD]
  rw [ixD_nat (j := k) rfl (arcAt_it hk)]
  simp only [arcD, wSs, wS, w1, wT, wE, wA, wX, wV, wP, wC, opn, rdO_d, rdO_o, asD_d, asD_n, KQY, entry, look, put, slotV, argsOk, frzA, frzV, sv_i, sv_b, sv_s, sv_0, sv_l, sv_t, sv_d, sv_n, List.map, List.length, List.replicate, List.cons_append, List.nil_append, Nat.sub_self, biD, isD_1, boolD_b, cmpD, relD_i, opD, addD_i, addD_l, subD_i, intD_i, lenD_l, lenD_t, listD_l, listD_t, tupleD_l, int2D_i, absD_i, toIntD_i, toIntD_b, eqD_i, eqD_b, eqD_s, rngD_1, rngD_2, seqD_l, seqD_t, lstD_l, ixX_l, ixX_t, negX_i, slX_l, rvX_l, repX_i, intX_i, ixD_0, ixD_1, ixD_2, true_and, and_true, ite_self]
  refine ⟨by unfold big; decide, ?_⟩
  try rw [ixD_nat (j := k) rfl (arcAt_it hk)]
  simp only [arcD, wSs, wS, w1, wT, wE, wA, wX, wV, wP, wC, opn, rdO_d, rdO_o, asD_d, asD_n, KQY, entry, look, put, slotV, argsOk, frzA, frzV, sv_i, sv_b, sv_s, sv_0, sv_l, sv_t, sv_d, sv_n, List.map, List.length, List.replicate, List.cons_append, List.nil_append, Nat.sub_self, biD, isD_1, boolD_b, cmpD, relD_i, opD, addD_i, addD_l, subD_i, intD_i, lenD_l, lenD_t, listD_l, listD_t, tupleD_l, int2D_i, absD_i, toIntD_i, toIntD_b, eqD_i, eqD_b, eqD_s, rngD_1, rngD_2, seqD_l, seqD_t, lstD_l, ixX_l, ixX_t, negX_i, slX_l, rvX_l, repX_i, intX_i, ixD_0, ixD_1, ixD_2, true_and, and_true, ite_self]
  refine ⟨fun m Γ _ => ∃ (S : List Nat) (held : Int) (f : Nat) (x7 : Option Val), Γ = [some (.dat (ringD n as)), some (.dat (natD k)), some (.dat (.int n)), some (.dat (.list (as.map arcD))), some (.own (S.map natD)), some (.dat (.int (arcAt as k).1)), some (.dat (.int held)), x7] ∧ m = (n - held).toNat ∧ (S.length : Int) ≤ held ∧ (n - held).toNat ≤ f ∧ S.length ≤ 40 ∧ S ++ cvF n as (arcAt as k).1 f held = cvL n as k, ⟨_, [k], (arcAt as k).2, 40, none, rfl, rfl, by simpa using a1, by omega, by simp, rfl⟩, ?_⟩
  rintro m Γ u ⟨S, held, f, x7, rfl, rfl, hSl, hf, hS40, hS⟩
  simp only [wSs, wS, w1, wT, wE, wA, wX, wV, wP, wC, opn, rdO_d, rdO_o, asD_d, asD_n, KQY, entry, look, put, slotV, argsOk, frzA, frzV, sv_i, sv_b, sv_s, sv_0, sv_l, sv_t, sv_d, sv_n, List.map, List.length, List.replicate, List.cons_append, List.nil_append, Nat.sub_self, biD, isD_1, boolD_b, cmpD, relD_i, opD, addD_i, addD_l, subD_i, intD_i, lenD_l, lenD_t, listD_l, listD_t, tupleD_l, int2D_i, absD_i, toIntD_i, toIntD_b, eqD_i, eqD_b, eqD_s, rngD_1, rngD_2, seqD_l, seqD_t, lstD_l, ixX_l, ixX_t, negX_i, slX_l, rvX_l, repX_i, intX_i, ixD_0, ixD_1, ixD_2, true_and, and_true, ite_self]
  by_cases hc : held < n
  · simp only [hc, decide_true, if_true]
    have hm := mod_pl (n := n) (by omega) ((arcAt as k).1 + held)
    have hat := hcv.at (n := n) (by omega) ((arcAt as k).1 + held)
    obtain ⟨hw1, hw2⟩ := wid_hld hat
    have hmx := mx_pos hat
    have hwo := (wid_ok hat).1
    unfold trcover_from_b1
    simp only [wSs, wS, w1, wT, wE, wA, wX, wV, wP, wC, opn, rdO_d, rdO_o, asD_d, asD_n, KQY, entry, look, put, slotV, argsOk, frzA, frzV, sv_i, sv_b, sv_s, sv_0, sv_l, sv_t, sv_d, sv_n, List.map, List.length, List.replicate, List.cons_append, List.nil_append, Nat.sub_self, biD, isD_1, boolD_b, cmpD, relD_i, opD, addD_i, addD_l, subD_i, intD_i, lenD_l, lenD_t, listD_l, listD_t, tupleD_l, int2D_i, absD_i, toIntD_i, toIntD_b, eqD_i, eqD_b, eqD_s, rngD_1, rngD_2, seqD_l, seqD_t, lstD_l, ixX_l, ixX_t, negX_i, slX_l, rvX_l, repX_i, intX_i, ixD_0, ixD_1, ixD_2, true_and, and_true, ite_self]
    refine ⟨by omega, call_widest_at ok hm.1 hm.2 ?_⟩
    rw [hwo]
    simp only [optN, natD, wSs, wS, w1, wT, wE, wA, wX, wV, wP, wC, opn, rdO_d, rdO_o, asD_d, asD_n, KQY, entry, look, put, slotV, argsOk, frzA, frzV, sv_i, sv_b, sv_s, sv_0, sv_l, sv_t, sv_d, sv_n, List.map, List.length, List.replicate, List.cons_append, List.nil_append, Nat.sub_self, biD, isD_1, boolD_b, cmpD, relD_i, opD, addD_i, addD_l, subD_i, intD_i, lenD_l, lenD_t, listD_l, listD_t, tupleD_l, int2D_i, absD_i, toIntD_i, toIntD_b, eqD_i, eqD_b, eqD_s, rngD_1, rngD_2, seqD_l, seqD_t, lstD_l, ixX_l, ixX_t, negX_i, slX_l, rvX_l, repX_i, intX_i, ixD_0, ixD_1, ixD_2, true_and, and_true, ite_self]
    refine ⟨by rw [List.length_map]; unfold big; omega, ?_⟩
    rw [ixD_last]
    try simp only [wSs, wS, w1, wT, wE, wA, wX, wV, wP, wC, opn, rdO_d, rdO_o, asD_d, asD_n, KQY, entry, look, put, slotV, argsOk, frzA, frzV, sv_i, sv_b, sv_s, sv_0, sv_l, sv_t, sv_d, sv_n, List.map, List.length, List.replicate, List.cons_append, List.nil_append, Nat.sub_self, biD, isD_1, boolD_b, cmpD, relD_i, opD, addD_i, addD_l, subD_i, intD_i, lenD_l, lenD_t, listD_l, listD_t, tupleD_l, int2D_i, absD_i, toIntD_i, toIntD_b, eqD_i, eqD_b, eqD_s, rngD_1, rngD_2, seqD_l, seqD_t, lstD_l, ixX_l, ixX_t, negX_i, slX_l, rvX_l, repX_i, intX_i, ixD_0, ixD_1, ixD_2, true_and, and_true, ite_self, Bool.false_eq_true, if_false, if_true, Bool.not_true, Bool.not_false, ixR0, ixR1, sv_r]
    rw [ixD_nat (j := wid n as (((arcAt as k).1 + held) % n)) rfl (arcAt_it hw1)]
    simp only [arcD, run_reach_from, wSs, wS, w1, wT, wE, wA, wX, wV, wP, wC, opn, rdO_d, rdO_o, asD_d, asD_n, KQY, entry, look, put, slotV, argsOk, frzA, frzV, sv_i, sv_b, sv_s, sv_0, sv_l, sv_t, sv_d, sv_n, List.map, List.length, List.replicate, List.cons_append, List.nil_append, Nat.sub_self, biD, isD_1, boolD_b, cmpD, relD_i, opD, addD_i, addD_l, subD_i, intD_i, lenD_l, lenD_t, listD_l, listD_t, tupleD_l, int2D_i, absD_i, toIntD_i, toIntD_b, eqD_i, eqD_b, eqD_s, rngD_1, rngD_2, seqD_l, seqD_t, lstD_l, ixX_l, ixX_t, negX_i, slX_l, rvX_l, repX_i, intX_i, ixD_0, ixD_1, ixD_2, true_and, and_true, ite_self]
    refine ⟨by omega, ?_⟩
    have emx : (arcAt as (wid n as (((arcAt as k).1 + held) % n))).2 - (((arcAt as k).1 + held) % n - (arcAt as (wid n as (((arcAt as k).1 + held) % n))).1) % n = mx n as (((arcAt as k).1 + held) % n) := rfl
    rw [emx]
    cases f with
    | zero => omega
    | succ f =>
      unfold cvF at hS
      rw [if_pos hc] at hS
      refine ⟨(n - (held + mx n as (((arcAt as k).1 + held) % n))).toNat, by omega, S ++ [wid n as (((arcAt as k).1 + held) % n)], held + mx n as (((arcAt as k).1 + held) % n), f, some (.dat (.int (((arcAt as k).1 + held) % n))), by rw [List.map_append]; rfl, rfl, by rw [List.length_append, List.length_singleton]; omega, by omega, by rw [List.length_append, List.length_singleton]; omega, by rw [List.append_assoc]; exact hS⟩
  · simp only [hc, decide_false, Bool.false_eq_true, if_false, wSs, wS, w1, wT, wE, wA, wX, wV, wP, wC, opn, rdO_d, rdO_o, asD_d, asD_n, KQY, entry, look, put, slotV, argsOk, frzA, frzV, sv_i, sv_b, sv_s, sv_0, sv_l, sv_t, sv_d, sv_n, List.map, List.length, List.replicate, List.cons_append, List.nil_append, Nat.sub_self, biD, isD_1, boolD_b, cmpD, relD_i, opD, addD_i, addD_l, subD_i, intD_i, lenD_l, lenD_t, listD_l, listD_t, tupleD_l, int2D_i, absD_i, toIntD_i, toIntD_b, eqD_i, eqD_b, eqD_s, rngD_1, rngD_2, seqD_l, seqD_t, lstD_l, ixX_l, ixX_t, negX_i, slX_l, rvX_l, repX_i, intX_i, ixD_0, ixD_1, ixD_2, true_and, and_true, ite_self]
    rw [cvF_ge (by omega), List.append_nil] at hS
    rw [hS]
    exact h
/-! ### fewest_arcs -/
theorem fewC_ex {n : Int} {as : List (Int × Int)} : ∀ (b : Nat) (S : List Nat), S.length ≤ b → CovS n as S → ∃ m, FewC n as m
  | 0, S, hl, hS => ⟨0, ⟨S, hS, by omega⟩, fun _ _ => Nat.zero_le _⟩
  | b + 1, S, hl, hS => by
    by_cases h : ∃ T, CovS n as T ∧ T.length ≤ b
    · obtain ⟨T, hT, hTl⟩ := h
      exact fewC_ex b T hTl hT
    · refine ⟨b + 1, ⟨S, hS, ?_⟩, fun T hT => ?_⟩
      · have : ¬ S.length ≤ b := fun hh => h ⟨S, hS, hh⟩
        omega
      · have : ¬ T.length ≤ b := fun hh => h ⟨T, hT, hh⟩
        omega
theorem cvd_cov {n : Int} {as : List (Int × Int)} (hc : Cvd n as) : CovS n as (List.range as.length) := ⟨fun k hk => List.mem_range.mp hk, fun x x0 x1 => by
  obtain ⟨k, hk⟩ := List.exists_mem_of_ne_nil _ (hc x x0 x1)
  obtain ⟨hkl, hh⟩ := mem_atB.mp hk
  exact ⟨k, List.mem_range.mpr hkl, by rw [arcAt_eq hkl]; exact hh⟩⟩
theorem Cvd.few {n : Int} {as : List (Int × Int)} (hc : Cvd n as) : ∃ m, FewC n as m := fewC_ex _ _ (Nat.le_refl _) (cvd_cov hc)
theorem FewC.cvd {n : Int} {as : List (Int × Int)} {m : Nat} (h : FewC n as m) : Cvd n as := by
  obtain ⟨S, hS, _⟩ := h.ex
  exact cvd_of hS
theorem CovS.ne {n : Int} {as : List (Int × Int)} {S : List Nat} (hn : 1 ≤ n) (h : CovS n as S) : S ≠ [] := fun e => by
  obtain ⟨k, hk, _⟩ := h.2 0 (Int.le_refl _) (by omega)
  rw [e] at hk
  cases hk
theorem not_nodup : ∀ {l : List Nat}, ¬ l.Nodup → ∃ r : List Nat, r.length < l.length ∧ ∀ x, x ∈ r ↔ x ∈ l
  | [], h => absurd List.nodup_nil h
  | a :: t, h => by
    by_cases ha : a ∈ t
    · exact ⟨t, by simp, fun x => ⟨fun hx => List.mem_cons_of_mem _ hx, fun hx => (List.mem_cons.mp hx).elim (fun e => by rw [e]; exact ha) id⟩⟩
    · obtain ⟨r, h1, h2⟩ := not_nodup (l := t) fun hn => h (List.nodup_cons.mpr ⟨ha, hn⟩)
      exact ⟨a :: r, by simpa using h1, fun x => by rw [List.mem_cons, List.mem_cons, h2]⟩
theorem FewC.nodup {n : Int} {as : List (Int × Int)} {m : Nat} {S : List Nat} (h : FewC n as m) (hS : CovS n as S) (hl : S.length = m) : S.Nodup := by
  refine Classical.byContradiction fun hn => ?_
  obtain ⟨r, h1, h2⟩ := not_nodup hn
  have := h.le r ⟨fun k hk => hS.1 k ((h2 k).mp hk), fun x x0 x1 => by
    obtain ⟨k, hk, hh⟩ := hS.2 x x0 x1
    exact ⟨k, (h2 k).mpr hk, hh⟩⟩
  omega
noncomputable def faL (n : Int) (as : List (Int × Int)) : List Int := srt ((bst none ((List.range as.length).map fun k => natI (cvL n as k))).getD [])
structure FC (n : Int) (as : List (Int × Int)) (P : List Int) : Prop where
  few : FewC n as P.length
  ris : P.Pairwise (· < ·)
  nat : ∃ ks : List Nat, P = natI ks ∧ CovS n as ks
theorem natI_len {ks : List Nat} : (natI ks).length = ks.length := by unfold natI; rw [List.length_map]
theorem mem_natI {ks : List Nat} {m : Int} : m ∈ natI ks ↔ ∃ k ∈ ks, ((k : Nat) : Int) = m := by unfold natI; exact List.mem_map
theorem natI_back {l : List Int} (h : ∀ m ∈ l, 0 ≤ m) : l = natI (l.map Int.toNat) := by
  unfold natI
  rw [List.map_map]
  conv => lhs; rw [← List.map_id l]
  refine List.map_congr_left fun m hm => ?_
  have := h m hm
  show m = ((m.toNat : Nat) : Int)
  omega
theorem faL_ok {n : Int} {as : List (Int × Int)} (ok : RingOk n as) (hc : Cvd n as) : FC n as (faL n as) := by
  have n1 := ok.n1
  obtain ⟨m, hm⟩ := hc.few
  obtain ⟨S, hS, hSl⟩ := hm.ex
  obtain ⟨first, hf⟩ := List.exists_mem_of_ne_nil _ (hS.ne n1)
  have hfl := hS.1 first hf
  have hmp : 1 ≤ m := by rw [← hSl]; exact List.length_pos_of_mem hf
  have hgo := cvF_len (n := n) (as := as) _ 40 _ (gre_opt ok hm hS hSl hf)
  obtain ⟨c, h1, h2, h3⟩ := bst_none (ls := (List.range as.length).map fun k => natI (cvL n as k)) (by
    intro e
    have := congrArg List.length e
    rw [List.length_map, List.length_range] at this
    simp at this
    rw [this] at hfl
    cases hfl)
  have e : faL n as = srt c := by unfold faL; rw [h1]; rfl
  obtain ⟨k, hk, rfl⟩ := List.mem_map.mp h2
  have hk := List.mem_range.mp hk
  have hcov := cvL_cov ok hc hk
  have h4 := h3 _ (List.mem_map.mpr ⟨first, List.mem_range.mpr hfl, rfl⟩)
  rw [natI_len, natI_len] at h4
  have h5 := hm.le _ hcov
  have h6 : (cvL n as first).length ≤ m := by unfold cvL; rw [List.length_cons]; omega
  have hl : (cvL n as k).length = m := by omega
  have hnd := hm.nodup hcov hl
  have hnn : ∀ y ∈ srt (natI (cvL n as k)), 0 ≤ y := fun y hy => by
    rw [srt_mem] at hy
    obtain ⟨j, _, rfl⟩ := mem_natI.mp hy
    omega
  rw [e]
  refine ⟨by rw [srt_len, natI_len, hl]; exact hm, srt_lt ?_, _, natI_back hnn, ?_, ?_⟩
  · unfold natI
    rw [List.Nodup, List.pairwise_map]
    exact List.Pairwise.imp (fun h e => h (by omega)) hnd
  · intro j hj
    obtain ⟨y, hy, rfl⟩ := List.mem_map.mp hj
    rw [srt_mem] at hy
    obtain ⟨i, hi, rfl⟩ := mem_natI.mp hy
    rw [Int.toNat_natCast]
    exact hcov.1 i hi
  · intro x x0 x1
    obtain ⟨j, hj, hh⟩ := hcov.2 x x0 x1
    refine ⟨j, List.mem_map.mpr ⟨(j : Nat), ?_, Int.toNat_natCast _⟩, hh⟩
    rw [srt_mem]
    exact mem_natI.mpr ⟨j, hj, rfl⟩
def Ffewest_arcs : RF where
  run n as ds Q Y := ds = [] ∧ (¬ Cvd n as → Q (.dat .none)) ∧ (Cvd n as → Q (.new ((faL n as).map .int)))
  mono := fun h1 h2 q => ⟨q.1, fun h => h1 _ (q.2.1 h), fun h => h1 _ (q.2.2 h)⟩
def Sfewest_arcs : Summ := Summ.ring 0 Ffewest_arcs
theorem call_fewest_arcs {n : Int} {as : List (Int × Int)} {Q : Val → Prop} {Y : Nat → Prop} (ok : RingOk n as) (hc : Cvd n as) (h : Q (.new ((faL n as).map .int))) : Sfewest_arcs.run [ringD n as] Q Y := ring_ok rfl ok ⟨rfl, fun hn => absurd hc hn, fun _ => h⟩
theorem call_fewest_arcs0 {n : Int} {as : List (Int × Int)} {Q : Val → Prop} {Y : Nat → Prop} (ok : RingOk n as) (hc : ¬ Cvd n as) (h : Q (.dat .none)) : Sfewest_arcs.run [ringD n as] Q Y := ring_ok rfl ok ⟨rfl, fun _ => h, fun hn => absurd hn hc⟩
def trfewest_arcs_c1 : Es Unit :=
  (.cons (.cmp .Eq (.call "arcs_at" Sarcs_at (.cons (.var 0) (.cons (.var 1) .nil))) (.ls .nil)) .nil)
def trfewest_arcs_b1 : Sms Unit :=
  (.cons (.one (.asg 4 (.call "cover_from" Scover_from (.cons (.var 0) (.cons (.var 3) .nil)))))
    (.cons (.ite (.or (.isn true (.var 2)) (.cmp .Lt (.bi .len (.cons (.var 4) .nil)) (.bi .len (.cons (.var 2) .nil))))
    (.cons (.one (.asg 2 (.var 4)))
    .nil)
    .nil)
    .nil))
def trfewest_arcs : Sms Unit :=
  (.cons (.one (.expr (.call "need_ring" Sneed_ring (.cons (.var 0) .nil))))
    (.cons (.ite (.cmp .NotEq (.comp [1] (.nm 1) (.rng (.cons (.ix (.var 0) (.int 0)) .nil)) trfewest_arcs_c1 (.var 1)) (.ls .nil))
    (.cons (.one (.ret .non))
    .nil)
    .nil)
    (.cons (.one (.asg 2 .non))
    (.cons (.for (.nm 3) (.rng (.cons (.bi .len (.cons (.ix (.var 0) (.int 1)) .nil)) .nil))
    trfewest_arcs_b1)
    (.cons (.one (.ret (.bi .sorted (.cons (.var 2) .nil))))
    .nil)))))

theorem cvF_lenf {n x : Int} {as : List (Int × Int)} : ∀ {f : Nat} {h : Int}, (cvF n as x f h).length ≤ f
  | 0, _ => Nat.le_refl _
  | f + 1, h => by
    unfold cvF
    split
    · rw [List.length_cons]
      have := cvF_lenf (n := n) (x := x) (as := as) (f := f) (h := h + mx n as ((x + h) % n))
      omega
    · exact Nat.zero_le _
theorem cvL_len41 {n : Int} {as : List (Int × Int)} {k : Nat} : (cvL n as k).length ≤ 41 := by
  unfold cvL
  rw [List.length_cons]
  have := cvF_lenf (n := n) (x := (arcAt as k).1) (as := as) (f := 40) (h := (arcAt as k).2)
  omega
theorem fa_b1 {n : Int} {as : List (Int × Int)} {k : Nat} {b : Option (List Int)} {x1 x4 : Option Val} {K : Kn Unit} {u : Unit} (ok : RingOk n as) (hc : Cvd n as) (hk : k < as.length)
    (hK : ∀ (c : Option (List Int)) (x4 : Option Val), (∀ r, bst c r = bst b (natI (cvL n as k) :: r)) → K.nx [some (.dat (ringD n as)), x1, some (.dat (optL c)), some (.dat (natD k)), x4] u) :
    wSs trfewest_arcs_b1 [some (.dat (ringD n as)), x1, some (.dat (optL b)), some (.dat (natD k)), x4] u K := by
  have hl41 := cvL_len41 (n := n) (as := as) (k := k)
  unfold trfewest_arcs_b1
  simp only [wSs, wS, w1, wT, wE, wA, wX, wV, wP, wC, opn, rdO_d, rdO_o, asD_d, asD_n, KQY, entry, look, put, slotV, argsOk, frzA, frzV, sv_i, sv_b, sv_s, sv_0, sv_l, sv_t, sv_d, sv_n, List.map, List.length, List.replicate, List.cons_append, List.nil_append, Nat.sub_self, biD, isD_1, boolD_b, cmpD, relD_i, opD, addD_i, addD_l, subD_i, intD_i, lenD_l, lenD_t, listD_l, listD_t, tupleD_l, int2D_i, absD_i, toIntD_i, toIntD_b, eqD_i, eqD_b, eqD_s, rngD_1, rngD_2, seqD_l, seqD_t, lstD_l, ixX_l, ixX_t, negX_i, slX_l, rvX_l, repX_i, intX_i, ixD_0, ixD_1, ixD_2, true_and, and_true, ite_self]
  refine call_cover_from ok hc hk ?_
  have e : (cvL n as k).map natD = (natI (cvL n as k)).map .int := by rw [natI_D]
  rw [e]
  have hl : (natI (cvL n as k)).length ≤ 41 := by rw [natI_len]; exact hl41
  generalize natI (cvL n as k) = c at hl hK
  try simp only [wSs, wS, w1, wT, wE, wA, wX, wV, wP, wC, opn, rdO_d, rdO_o, asD_d, asD_n, KQY, entry, look, put, slotV, argsOk, frzA, frzV, sv_i, sv_b, sv_s, sv_0, sv_l, sv_t, sv_d, sv_n, List.map, List.length, List.replicate, List.cons_append, List.nil_append, Nat.sub_self, biD, isD_1, boolD_b, cmpD, relD_i, opD, addD_i, addD_l, subD_i, intD_i, lenD_l, lenD_t, listD_l, listD_t, tupleD_l, int2D_i, absD_i, toIntD_i, toIntD_b, eqD_i, eqD_b, eqD_s, rngD_1, rngD_2, seqD_l, seqD_t, lstD_l, ixX_l, ixX_t, negX_i, slX_l, rvX_l, repX_i, intX_i, ixD_0, ixD_1, ixD_2, true_and, and_true, ite_self, Bool.false_eq_true, if_false, if_true, Bool.not_true, Bool.not_false, ixR0, ixR1, sv_r]
  cases b with
  | none =>
    simp only [optL, noneD, if_true, wSs, wS, w1, wT, wE, wA, wX, wV, wP, wC, opn, rdO_d, rdO_o, asD_d, asD_n, KQY, entry, look, put, slotV, argsOk, frzA, frzV, sv_i, sv_b, sv_s, sv_0, sv_l, sv_t, sv_d, sv_n, List.map, List.length, List.replicate, List.cons_append, List.nil_append, Nat.sub_self, biD, isD_1, boolD_b, cmpD, relD_i, opD, addD_i, addD_l, subD_i, intD_i, lenD_l, lenD_t, listD_l, listD_t, tupleD_l, int2D_i, absD_i, toIntD_i, toIntD_b, eqD_i, eqD_b, eqD_s, rngD_1, rngD_2, seqD_l, seqD_t, lstD_l, ixX_l, ixX_t, negX_i, slX_l, rvX_l, repX_i, intX_i, ixD_0, ixD_1, ixD_2, true_and, and_true, ite_self]
    exact hK (some c) _ fun r => rfl
  | some l =>
    simp only [optL, noneD, Bool.false_eq_true, if_false, if_true, wSs, wS, w1, wT, wE, wA, wX, wV, wP, wC, opn, rdO_d, rdO_o, asD_d, asD_n, KQY, entry, look, put, slotV, argsOk, frzA, frzV, sv_i, sv_b, sv_s, sv_0, sv_l, sv_t, sv_d, sv_n, List.map, List.length, List.replicate, List.cons_append, List.nil_append, Nat.sub_self, biD, isD_1, boolD_b, cmpD, relD_i, opD, addD_i, addD_l, subD_i, intD_i, lenD_l, lenD_t, listD_l, listD_t, tupleD_l, int2D_i, absD_i, toIntD_i, toIntD_b, eqD_i, eqD_b, eqD_s, rngD_1, rngD_2, seqD_l, seqD_t, lstD_l, ixX_l, ixX_t, negX_i, slX_l, rvX_l, repX_i, intX_i, ixD_0, ixD_1, ixD_2, true_and, and_true, ite_self, List.length_map]
    by_cases hc : (c.length : Int) < l.length
    · simp only [hc, decide_true, if_true]
      refine hK (some c) _ fun r => ?_
      show _ = if c.length < l.length then bst (some c) r else bst (some l) r
      rw [if_pos (by omega)]
    · simp only [hc, decide_false, Bool.false_eq_true, if_false]
      refine hK (some l) _ fun r => ?_
      show _ = if c.length < l.length then bst (some c) r else bst (some l) r
      rw [if_neg (by omega)]
theorem w_fewest_arcs : WOk Sfewest_arcs 1 5 trfewest_arcs := WOk.ring (fun d r Q Y hl hr h0 => by
    obtain rfl := List.length_eq_zero_iff.mp hl
    unfold trfewest_arcs
    simp only [wSs, wS, w1, wT, wE, wA, wX, wV, wP, wC, opn, rdO_d, rdO_o, asD_d, asD_n, KQY, entry, look, put, slotV, argsOk, frzA, frzV, sv_i, sv_b, sv_s, sv_0, sv_l, sv_t, sv_d, sv_n, List.map, List.length, List.replicate, List.cons_append, List.nil_append, Nat.sub_self, biD, isD_1, boolD_b, cmpD, relD_i, opD, addD_i, addD_l, subD_i, intD_i, lenD_l, lenD_t, listD_l, listD_t, tupleD_l, int2D_i, absD_i, toIntD_i, toIntD_b, eqD_i, eqD_b, eqD_s, rngD_1, rngD_2, seqD_l, seqD_t, lstD_l, ixX_l, ixX_t, negX_i, slX_l, rvX_l, repX_i, intX_i, ixD_0, ixD_1, ixD_2, true_and, and_true, ite_self, run_need_ring]
    simpa [hr] using h0) (fun n as r Q Y hl ok h => by
    obtain ⟨rfl, hno, hyes⟩ := h
    have n1 := ok.n1
    have n40 := ok.n40
    have hlen := ok.len
    unfold trfewest_arcs
    simp only [wSs, wS, w1, wT, wE, wA, wX, wV, wP, wC, opn, rdO_d, rdO_o, asD_d, asD_n, KQY, entry, look, put, slotV, argsOk, frzA, frzV, sv_i, sv_b, sv_s, sv_0, sv_l, sv_t, sv_d, sv_n, List.map, List.length, List.replicate, List.cons_append, List.nil_append, Nat.sub_self, biD, isD_1, boolD_b, cmpD, relD_i, opD, addD_i, addD_l, subD_i, intD_i, lenD_l, lenD_t, listD_l, listD_t, tupleD_l, int2D_i, absD_i, toIntD_i, toIntD_b, eqD_i, eqD_b, eqD_s, rngD_1, rngD_2, seqD_l, seqD_t, lstD_l, ixX_l, ixX_t, negX_i, slX_l, rvX_l, repX_i, intX_i, ixD_0, ixD_1, ixD_2, true_and, and_true, ite_self, run_need_ring, isRing_ringD ok, if_true, ixR0, ixR1, wI, wipeG, backG]
    refine ⟨⟨by omega, by omega⟩, by rw [List.length_map, List.length_range]; unfold big; omega, ?_⟩
    refine cLoop_mp (g := fun i : Nat => PyData.int (i : Nat)) (q := fun x : Nat => if (atB n as ((x : Nat) : Int)).isEmpty = true then some (natD x) else none) _ [] ?_ ?_
    · intro x hx k' hk'
      have hx := List.mem_range.mp hx
      unfold trfewest_arcs_c1
      simp only [bindT, wSs, wS, w1, wT, wE, wA, wX, wV, wP, wC, opn, rdO_d, rdO_o, asD_d, asD_n, KQY, entry, look, put, slotV, argsOk, frzA, frzV, sv_i, sv_b, sv_s, sv_0, sv_l, sv_t, sv_d, sv_n, List.map, List.length, List.replicate, List.cons_append, List.nil_append, Nat.sub_self, biD, isD_1, boolD_b, cmpD, relD_i, opD, addD_i, addD_l, subD_i, intD_i, lenD_l, lenD_t, listD_l, listD_t, tupleD_l, int2D_i, absD_i, toIntD_i, toIntD_b, eqD_i, eqD_b, eqD_s, rngD_1, rngD_2, seqD_l, seqD_t, lstD_l, ixX_l, ixX_t, negX_i, slX_l, rvX_l, repX_i, intX_i, ixD_0, ixD_1, ixD_2, true_and, and_true, ite_self]
      refine call_arcs_at ok (by omega) (by omega) ?_
      try simp only [wSs, wS, w1, wT, wE, wA, wX, wV, wP, wC, opn, rdO_d, rdO_o, asD_d, asD_n, KQY, entry, look, put, slotV, argsOk, frzA, frzV, sv_i, sv_b, sv_s, sv_0, sv_l, sv_t, sv_d, sv_n, List.map, List.length, List.replicate, List.cons_append, List.nil_append, Nat.sub_self, biD, isD_1, boolD_b, cmpD, relD_i, opD, addD_i, addD_l, subD_i, intD_i, lenD_l, lenD_t, listD_l, listD_t, tupleD_l, int2D_i, absD_i, toIntD_i, toIntD_b, eqD_i, eqD_b, eqD_s, rngD_1, rngD_2, seqD_l, seqD_t, lstD_l, ixX_l, ixX_t, negX_i, slX_l, rvX_l, repX_i, intX_i, ixD_0, ixD_1, ixD_2, true_and, and_true, ite_self, Bool.false_eq_true, if_false, if_true, Bool.not_true, Bool.not_false, ixR0, ixR1, sv_r]
      simp only [eqD_nil]
      refine ⟨by unfold big; decide, ?_⟩
      have e : ((atB n as ((x : Nat) : Int)).map natD).isEmpty = (atB n as ((x : Nat) : Int)).isEmpty := by cases atB n as ((x : Nat) : Int) <;> rfl
      rw [e]
      cases hb : (atB n as ((x : Nat) : Int)).isEmpty with
      | true =>
        rw [hb, if_pos rfl] at hk'
        try simp only [wSs, wS, w1, wT, wE, wA, wX, wV, wP, wC, opn, rdO_d, rdO_o, asD_d, asD_n, KQY, entry, look, put, slotV, argsOk, frzA, frzV, sv_i, sv_b, sv_s, sv_0, sv_l, sv_t, sv_d, sv_n, List.map, List.length, List.replicate, List.cons_append, List.nil_append, Nat.sub_self, biD, isD_1, boolD_b, cmpD, relD_i, opD, addD_i, addD_l, subD_i, intD_i, lenD_l, lenD_t, listD_l, listD_t, tupleD_l, int2D_i, absD_i, toIntD_i, toIntD_b, eqD_i, eqD_b, eqD_s, rngD_1, rngD_2, seqD_l, seqD_t, lstD_l, ixX_l, ixX_t, negX_i, slX_l, rvX_l, repX_i, intX_i, ixD_0, ixD_1, ixD_2, true_and, and_true, ite_self, Bool.false_eq_true, if_false, if_true, Bool.not_true, Bool.not_false, ixR0, ixR1, sv_r]
        exact hk'
      | false =>
        rw [hb, if_neg (by decide)] at hk'
        try simp only [wSs, wS, w1, wT, wE, wA, wX, wV, wP, wC, opn, rdO_d, rdO_o, asD_d, asD_n, KQY, entry, look, put, slotV, argsOk, frzA, frzV, sv_i, sv_b, sv_s, sv_0, sv_l, sv_t, sv_d, sv_n, List.map, List.length, List.replicate, List.cons_append, List.nil_append, Nat.sub_self, biD, isD_1, boolD_b, cmpD, relD_i, opD, addD_i, addD_l, subD_i, intD_i, lenD_l, lenD_t, listD_l, listD_t, tupleD_l, int2D_i, absD_i, toIntD_i, toIntD_b, eqD_i, eqD_b, eqD_s, rngD_1, rngD_2, seqD_l, seqD_t, lstD_l, ixX_l, ixX_t, negX_i, slX_l, rvX_l, repX_i, intX_i, ixD_0, ixD_1, ixD_2, true_and, and_true, ite_self, Bool.false_eq_true, if_false, if_true, Bool.not_true, Bool.not_false, ixR0, ixR1, sv_r]
        exact hk'
    · rw [List.nil_append, fm_pick]
      try simp only [wSs, wS, w1, wT, wE, wA, wX, wV, wP, wC, opn, rdO_d, rdO_o, asD_d, asD_n, KQY, entry, look, put, slotV, argsOk, frzA, frzV, sv_i, sv_b, sv_s, sv_0, sv_l, sv_t, sv_d, sv_n, List.map, List.length, List.replicate, List.cons_append, List.nil_append, Nat.sub_self, biD, isD_1, boolD_b, cmpD, relD_i, opD, addD_i, addD_l, subD_i, intD_i, lenD_l, lenD_t, listD_l, listD_t, tupleD_l, int2D_i, absD_i, toIntD_i, toIntD_b, eqD_i, eqD_b, eqD_s, rngD_1, rngD_2, seqD_l, seqD_t, lstD_l, ixX_l, ixX_t, negX_i, slX_l, rvX_l, repX_i, intX_i, ixD_0, ixD_1, ixD_2, true_and, and_true, ite_self, Bool.false_eq_true, if_false, if_true, Bool.not_true, Bool.not_false, ixR0, ixR1, sv_r]
      simp only [eqD_nil]
      refine ⟨by unfold big; decide, ?_⟩
      cases he : (((List.range n.toNat).filter fun x : Nat => (atB n as ((x : Nat) : Int)).isEmpty).map natD).isEmpty with
      | false =>
        have hnc : ¬ Cvd n as := fun hcv => by
          rw [Bool.eq_false_iff, ne_eq, List.isEmpty_iff, List.map_eq_nil_iff, List.filter_eq_nil_iff] at he
          refine he fun x hx hb => ?_
          have hx := List.mem_range.mp hx
          exact hcv x (by omega) (by omega) (List.isEmpty_iff.mp hb)
        try simp only [wSs, wS, w1, wT, wE, wA, wX, wV, wP, wC, opn, rdO_d, rdO_o, asD_d, asD_n, KQY, entry, look, put, slotV, argsOk, frzA, frzV, sv_i, sv_b, sv_s, sv_0, sv_l, sv_t, sv_d, sv_n, List.map, List.length, List.replicate, List.cons_append, List.nil_append, Nat.sub_self, biD, isD_1, boolD_b, cmpD, relD_i, opD, addD_i, addD_l, subD_i, intD_i, lenD_l, lenD_t, listD_l, listD_t, tupleD_l, int2D_i, absD_i, toIntD_i, toIntD_b, eqD_i, eqD_b, eqD_s, rngD_1, rngD_2, seqD_l, seqD_t, lstD_l, ixX_l, ixX_t, negX_i, slX_l, rvX_l, repX_i, intX_i, ixD_0, ixD_1, ixD_2, true_and, and_true, ite_self, Bool.false_eq_true, if_false, if_true, Bool.not_true, Bool.not_false, ixR0, ixR1, sv_r]
        exact hno hnc
      | true =>
        have hcv : Cvd n as := fun x x0 x1 e => by
          rw [List.isEmpty_iff, List.map_eq_nil_iff, List.filter_eq_nil_iff] at he
          refine he x.toNat (List.mem_range.mpr (by omega)) ?_
          have ex : ((x.toNat : Nat) : Int) = x := by omega
          rw [ex, e]
          rfl
        have h := hyes hcv
        try simp only [wSs, wS, w1, wT, wE, wA, wX, wV, wP, wC, opn, rdO_d, rdO_o, asD_d, asD_n, KQY, entry, look, put, slotV, argsOk, frzA, frzV, sv_i, sv_b, sv_s, sv_0, sv_l, sv_t, sv_d, sv_n, List.map, List.length, List.replicate, List.cons_append, List.nil_append, Nat.sub_self, biD, isD_1, boolD_b, cmpD, relD_i, opD, addD_i, addD_l, subD_i, intD_i, lenD_l, lenD_t, listD_l, listD_t, tupleD_l, int2D_i, absD_i, toIntD_i, toIntD_b, eqD_i, eqD_b, eqD_s, rngD_1, rngD_2, seqD_l, seqD_t, lstD_l, ixX_l, ixX_t, negX_i, slX_l, rvX_l, repX_i, intX_i, ixD_0, ixD_1, ixD_2, true_and, and_true, ite_self, Bool.false_eq_true, if_false, if_true, Bool.not_true, Bool.not_false, ixR0, ixR1, sv_r]
        simp only [wJ, ixR0, ixR1, wSs, wS, w1, wT, wE, wA, wX, wV, wP, wC, opn, rdO_d, rdO_o, asD_d, asD_n, KQY, entry, look, put, slotV, argsOk, frzA, frzV, sv_i, sv_b, sv_s, sv_0, sv_l, sv_t, sv_d, sv_n, List.map, List.length, List.replicate, List.cons_append, List.nil_append, Nat.sub_self, biD, isD_1, boolD_b, cmpD, relD_i, opD, addD_i, addD_l, subD_i, intD_i, lenD_l, lenD_t, listD_l, listD_t, tupleD_l, int2D_i, absD_i, toIntD_i, toIntD_b, eqD_i, eqD_b, eqD_s, rngD_1, rngD_2, seqD_l, seqD_t, lstD_l, ixX_l, ixX_t, negX_i, slX_l, rvX_l, repX_i, intX_i, ixD_0, ixD_1, ixD_2, true_and, and_true, ite_self]
        simp only [List.length_map]
        refine ⟨⟨by omega, by omega⟩, by rw [List.length_range]; unfold big; omega, ?_⟩
        rw [Int.toNat_natCast]
        refine fLoop_mp (g := fun i : Nat => PyData.int (i : Nat)) (fun done rest Γ _ => ∃ (b : Option (List Int)) (x1 x3 x4 : Option Val), Γ = [some (.dat (ringD n as)), x1, some (.dat (optL b)), x3, x4] ∧ bst b (rest.map fun k => natI (cvL n as k)) = bst none ((List.range as.length).map fun k => natI (cvL n as k)) ∧ ∀ y ∈ rest, y < as.length) ?_ ?_ _ [] _ _ ⟨none, _, _, _, rfl, rfl, fun y hy => List.mem_range.mp hy⟩
        · rintro done Γ u ⟨b, x1, x3, x4, rfl, hb, _⟩
          have hne : as.length ≠ 0 := fun e0 => by
            have := hcv 0 (Int.le_refl _) (by omega)
            obtain ⟨j, hj⟩ := List.exists_mem_of_ne_nil _ this
            have := (mem_atB.mp hj).1
            omega
          obtain ⟨c, h1, _, _⟩ := bst_none (ls := (List.range as.length).map fun k => natI (cvL n as k)) (by
            intro e
            have := congrArg List.length e
            rw [List.length_map, List.length_range] at this
            exact hne this)
          have hbc : b = some c := by rw [← h1, ← hb]; cases b <;> rfl
          subst hbc
          simp only [wSs, wS, w1, wT, wE, wA, wX, wV, wP, wC, opn, rdO_d, rdO_o, asD_d, asD_n, KQY, entry, look, put, slotV, argsOk, frzA, frzV, sv_i, sv_b, sv_s, sv_0, sv_l, sv_t, sv_d, sv_n, List.map, List.length, List.replicate, List.cons_append, List.nil_append, Nat.sub_self, biD, isD_1, boolD_b, cmpD, relD_i, opD, addD_i, addD_l, subD_i, intD_i, lenD_l, lenD_t, listD_l, listD_t, tupleD_l, int2D_i, absD_i, toIntD_i, toIntD_b, eqD_i, eqD_b, eqD_s, rngD_1, rngD_2, seqD_l, seqD_t, lstD_l, ixX_l, ixX_t, negX_i, slX_l, rvX_l, repX_i, intX_i, ixD_0, ixD_1, ixD_2, true_and, and_true, ite_self, optL, sortedD]
          refine ⟨c, intsD_map c, fun ns' p1 p2 => ?_⟩
          have e : faL n as = srt c := by unfold faL; rw [h1]; rfl
          rw [srt_uniq p1 p2, ← e]
          exact h
        · rintro done k r Γ u K' ⟨b, x1, x3, x4, rfl, hb, hm⟩ hnx hct hbk hrt hex
          simp only [bindT, put]
          refine fa_b1 ok hcv (hm k List.mem_cons_self) fun c y4 hc => hnx _ _ ⟨c, _, _, _, rfl, ?_, fun y hy => hm y (List.mem_cons_of_mem _ hy)⟩
          rw [hc, ← List.map_cons (f := fun k => natI (cvL n as k))]
          exact hb)
end Ac
namespace Ac
open PySem PySem.Spec PyProof.Rows L2
/-! ### the law's fewest arcs -/
def stF (n : Int) (as : List (Int × Int)) (x : Int) : Int := if (atB n as x).isEmpty then 0 else mx n as x
section
variable {n x : Int} {as : List (Int × Int)}
theorem stF_max {m : Int} (hm : m ∈ (0 : Int) :: (as.filter fun a => hld n a x).map fun a => rch n a x) (hmax : ∀ y ∈ (0 : Int) :: (as.filter fun a => hld n a x).map fun a => rch n a x, y ≤ m) : m = stF n as x := by
  have hall : ∀ y ∈ (as.filter fun a => hld n a x).map fun a => rch n a x, ∃ k, k < as.length ∧ hld n (arcAt as k) x = true ∧ rch n (arcAt as k) x = y := fun y hy => by
    obtain ⟨a, ha, rfl⟩ := List.mem_map.mp hy
    obtain ⟨ha, hh⟩ := List.mem_filter.mp ha
    obtain ⟨k, hk, rfl⟩ := List.getElem_of_mem ha
    exact ⟨k, hk, by rw [arcAt_eq hk]; exact hh, by rw [arcAt_eq hk]⟩
  unfold stF
  by_cases hb : atB n as x = []
  · rw [hb, if_pos (show ([] : List Nat).isEmpty = true from rfl)]
    rcases List.mem_cons.mp hm with h | h
    · exact h
    · obtain ⟨k, hk, hh, _⟩ := hall _ h
      have : k ∈ atB n as x := mem_atB.mpr ⟨hk, by rw [← arcAt_eq hk]; exact hh⟩
      rw [hb] at this
      cases this
  · rw [if_neg (by rw [List.isEmpty_iff]; exact hb)]
    obtain ⟨hw1, hw2⟩ := wid_hld hb
    have hp := mx_pos hb
    have hge := hmax (mx n as x) (List.mem_cons_of_mem _ (List.mem_map.mpr ⟨arcAt as (wid n as x), List.mem_filter.mpr ⟨by rw [arcAt_eq hw1]; exact List.getElem_mem _, hw2⟩, rfl⟩))
    rcases List.mem_cons.mp hm with h | h
    · omega
    · obtain ⟨k, hk, hh, e⟩ := hall _ h
      have := mx_ge hk hh
      omega
theorem stF_cvd (hc : Cvd n as) (x0 : 0 ≤ x) (x1 : x < n) : stF n as x = mx n as x := by
  unfold stF
  rw [if_neg (by rw [List.isEmpty_iff]; exact hc x x0 x1)]
end
def stL (n : Int) (as : List (Int × Int)) : List Int := (List.range n.toNat).map fun x : Nat => stF n as x
theorem stL_zero {n : Int} {as : List (Int × Int)} : (0 : Int) ∈ stL n as ↔ ¬ Cvd n as := by
  constructor
  · intro h hc
    obtain ⟨x, hx, e⟩ := List.mem_map.mp h
    have hx := List.mem_range.mp hx
    rw [stF_cvd hc (by omega) (by omega)] at e
    have := mx_pos (hc x (by omega) (by omega))
    omega
  · intro h
    refine Classical.byContradiction fun hno => h fun x x0 x1 e => hno (List.mem_map.mpr ⟨x.toNat, List.mem_range.mpr (by omega), ?_⟩)
    have ex : ((x.toNat : Nat) : Int) = x := by omega
    rw [ex]
    unfold stF
    rw [e]
    rfl
def S_law_fewest : Summ where
  run ds Q _ := ∃ (n : Int) (as : List (Int × Int)), ds = [ringD n as] ∧ RingOk n as ∧ (¬ Cvd n as → Q (.dat .none)) ∧ (∀ m, FewC n as m → Q (.dat (.int (m : Nat))))
  mono := fun h1 _ ⟨n, as, e, ok, q1, q2⟩ => ⟨n, as, e, ok, fun h => h1 _ (q1 h), fun m h => h1 _ (q2 m h)⟩
theorem call_lfewest {n : Int} {as : List (Int × Int)} {m : Nat} {Q : Val → Prop} {Y : Nat → Prop} (ok : RingOk n as) (hm : FewC n as m) (h : Q (.dat (.int (m : Nat)))) : S_law_fewest.run [ringD n as] Q Y := ⟨n, as, rfl, ok, fun hn => absurd hm.cvd hn, fun m' hm' => by rw [hm'.uniq hm]; exact h⟩
theorem call_lfewest0 {n : Int} {as : List (Int × Int)} {Q : Val → Prop} {Y : Nat → Prop} (ok : RingOk n as) (hc : ¬ Cvd n as) (h : Q (.dat .none)) : S_law_fewest.run [ringD n as] Q Y := ⟨n, as, rfl, ok, fun _ => h, fun m hm => absurd hm.cvd hc⟩
def tr_law_fewest_c1 : Es Unit :=
  (.cons (.cmp .Lt (.op .Mod (.op .Sub (.var 4) (.var 5)) (.var 1)) (.var 6)) .nil)
def tr_law_fewest_e1 : E Unit :=
  (.op .Sub (.var 6) (.op .Mod (.op .Sub (.var 4) (.var 5)) (.var 1)))
def tr_law_fewest_b1 : Sms Unit :=
  (.cons (.one (.app 3 (.bi .maxL (.cons (.op .Add (.ls (.cons (.int 0) .nil)) (.comp [5, 6] (.tp [5, 6]) (.seq (.var 2)) tr_law_fewest_c1 tr_law_fewest_e1)) .nil))))
    .nil)
def tr_law_fewest_b2 : Sms Unit :=
  (.cons (.one (.asg 8 (.op .Add (.var 8) (.ix (.var 3) (.var 4)))))
    (.cons (.one (.asg 4 (.op .Mod (.op .Add (.var 4) (.ix (.var 3) (.var 4))) (.var 1))))
    (.cons (.one (.asg 9 (.op .Add (.var 9) (.int 1))))
    .nil)))
def tr_law_fewest_b3 : Sms Unit :=
  (.cons (.one (.asg 4 (.var 5)))
    (.cons (.one (.asg 8 (.int 0)))
    (.cons (.one (.asg 9 (.int 0)))
    (.cons (.whl (.cmp .Lt (.var 8) (.var 1))
    tr_law_fewest_b2)
    (.cons (.ite (.or (.isn true (.var 7)) (.cmp .Lt (.var 9) (.var 7)))
    (.cons (.one (.asg 7 (.var 9)))
    .nil)
    .nil)
    .nil)))))
def tr_law_fewest : Sms Unit :=
  (.cons (.one (.asgT [1, 2] (.var 0)))
    (.cons (.one (.asg 3 (.ls .nil)))
    (.cons (.for (.nm 4) (.rng (.cons (.var 1) .nil))
    tr_law_fewest_b1)
    (.cons (.ite (.cmp .In (.int 0) (.var 3))
    (.cons (.one (.ret .non))
    .nil)
    .nil)
    (.cons (.one (.asg 7 .non))
    (.cons (.for (.tp [5, 6]) (.seq (.var 2))
    tr_law_fewest_b3)
    (.cons (.one (.ret (.var 7)))
    .nil)))))))

theorem lf_b1 {n : Int} {as : List (Int × Int)} {x : Nat} {L : List Int} {K : Kn Unit} {u : Unit} (ok : RingOk n as) (hx : (x : Int) < n) (hL : L.length ≤ 40)
    (hK : K.nx [some (.dat (ringD n as)), some (.dat (.int n)), some (.dat (.list (as.map arcD))), some (.own ((L ++ [stF n as x]).map .int)), some (.dat (.int (x : Nat))), none, none, none, none, none] u) :
    wSs tr_law_fewest_b1 [some (.dat (ringD n as)), some (.dat (.int n)), some (.dat (.list (as.map arcD))), some (.own (L.map .int)), some (.dat (.int (x : Nat))), none, none, none, none, none] u K := by
  have n1 := ok.n1
  have hlen := ok.len
  unfold tr_law_fewest_b1
  simp only [wSs, wS, w1, wT, wE, wA, wX, wV, wP, wC, opn, rdO_d, rdO_o, asD_d, asD_n, KQY, entry, look, put, slotV, argsOk, frzA, frzV, sv_i, sv_b, sv_s, sv_0, sv_l, sv_t, sv_d, sv_n, List.map, List.length, List.replicate, List.cons_append, List.nil_append, Nat.sub_self, biD, isD_1, boolD_b, cmpD, relD_i, opD, addD_i, addD_l, subD_i, intD_i, lenD_l, lenD_t, listD_l, listD_t, tupleD_l, int2D_i, absD_i, toIntD_i, toIntD_b, eqD_i, eqD_b, eqD_s, rngD_1, rngD_2, seqD_l, seqD_t, lstD_l, ixX_l, ixX_t, negX_i, slX_l, rvX_l, repX_i, intX_i, ixD_0, ixD_1, ixD_2, true_and, and_true, ite_self, wI, wipeG, backG]
  refine ⟨by unfold big; decide, by rw [List.length_map]; exact big20 ok.len, ?_⟩
  refine cLoop_mp (g := arcD) (q := fun a => if hld n a (x : Nat) = true then some (.int (rch n a (x : Nat))) else none) _ [] ?_ ?_
  · intro a ha k' hk'
    unfold tr_law_fewest_c1 tr_law_fewest_e1
    simp only [bindT, arcD, putAll, wSs, wS, w1, wT, wE, wA, wX, wV, wP, wC, opn, rdO_d, rdO_o, asD_d, asD_n, KQY, entry, look, put, slotV, argsOk, frzA, frzV, sv_i, sv_b, sv_s, sv_0, sv_l, sv_t, sv_d, sv_n, List.map, List.length, List.replicate, List.cons_append, List.nil_append, Nat.sub_self, biD, isD_1, boolD_b, cmpD, relD_i, opD, addD_i, addD_l, subD_i, intD_i, lenD_l, lenD_t, listD_l, listD_t, tupleD_l, int2D_i, absD_i, toIntD_i, toIntD_b, eqD_i, eqD_b, eqD_s, rngD_1, rngD_2, seqD_l, seqD_t, lstD_l, ixX_l, ixX_t, negX_i, slX_l, rvX_l, repX_i, intX_i, ixD_0, ixD_1, ixD_2, true_and, and_true, ite_self]
    refine ⟨by omega, ?_⟩
    unfold hld at hk'
    cases hc : decide (((x : Nat) - a.1) % n < a.2) with
    | true =>
      rw [hc, if_pos rfl] at hk'
      try simp only [wSs, wS, w1, wT, wE, wA, wX, wV, wP, wC, opn, rdO_d, rdO_o, asD_d, asD_n, KQY, entry, look, put, slotV, argsOk, frzA, frzV, sv_i, sv_b, sv_s, sv_0, sv_l, sv_t, sv_d, sv_n, List.map, List.length, List.replicate, List.cons_append, List.nil_append, Nat.sub_self, biD, isD_1, boolD_b, cmpD, relD_i, opD, addD_i, addD_l, subD_i, intD_i, lenD_l, lenD_t, listD_l, listD_t, tupleD_l, int2D_i, absD_i, toIntD_i, toIntD_b, eqD_i, eqD_b, eqD_s, rngD_1, rngD_2, seqD_l, seqD_t, lstD_l, ixX_l, ixX_t, negX_i, slX_l, rvX_l, repX_i, intX_i, ixD_0, ixD_1, ixD_2, true_and, and_true, ite_self, Bool.false_eq_true, if_false, if_true, Bool.not_true, Bool.not_false, ixR0, ixR1, sv_r]
      exact ⟨by omega, hk'⟩
    | false =>
      rw [hc, if_neg (by decide)] at hk'
      try simp only [wSs, wS, w1, wT, wE, wA, wX, wV, wP, wC, opn, rdO_d, rdO_o, asD_d, asD_n, KQY, entry, look, put, slotV, argsOk, frzA, frzV, sv_i, sv_b, sv_s, sv_0, sv_l, sv_t, sv_d, sv_n, List.map, List.length, List.replicate, List.cons_append, List.nil_append, Nat.sub_self, biD, isD_1, boolD_b, cmpD, relD_i, opD, addD_i, addD_l, subD_i, intD_i, lenD_l, lenD_t, listD_l, listD_t, tupleD_l, int2D_i, absD_i, toIntD_i, toIntD_b, eqD_i, eqD_b, eqD_s, rngD_1, rngD_2, seqD_l, seqD_t, lstD_l, ixX_l, ixX_t, negX_i, slX_l, rvX_l, repX_i, intX_i, ixD_0, ixD_1, ixD_2, true_and, and_true, ite_self, Bool.false_eq_true, if_false, if_true, Bool.not_true, Bool.not_false, ixR0, ixR1, sv_r]
      exact hk'
  · rw [List.nil_append, fm_pick]
    try simp only [wSs, wS, w1, wT, wE, wA, wX, wV, wP, wC, opn, rdO_d, rdO_o, asD_d, asD_n, KQY, entry, look, put, slotV, argsOk, frzA, frzV, sv_i, sv_b, sv_s, sv_0, sv_l, sv_t, sv_d, sv_n, List.map, List.length, List.replicate, List.cons_append, List.nil_append, Nat.sub_self, biD, isD_1, boolD_b, cmpD, relD_i, opD, addD_i, addD_l, subD_i, intD_i, lenD_l, lenD_t, listD_l, listD_t, tupleD_l, int2D_i, absD_i, toIntD_i, toIntD_b, eqD_i, eqD_b, eqD_s, rngD_1, rngD_2, seqD_l, seqD_t, lstD_l, ixX_l, ixX_t, negX_i, slX_l, rvX_l, repX_i, intX_i, ixD_0, ixD_1, ixD_2, true_and, and_true, ite_self, Bool.false_eq_true, if_false, if_true, Bool.not_true, Bool.not_false, ixR0, ixR1, sv_r]
    have hfl : (as.filter fun a => hld n a (x : Nat)).length ≤ 20 := Nat.le_trans (List.length_filter_le _ _) hlen
    refine ⟨by rw [List.length_map]; unfold big; omega, ?_⟩
    have el : PyData.int 0 :: (as.filter fun a => hld n a (x : Nat)).map (fun a => PyData.int (rch n a (x : Nat))) = ((0 : Int) :: (as.filter fun a => hld n a (x : Nat)).map fun a => rch n a (x : Nat)).map .int := by
      rw [List.map_cons, List.map_map]
      rfl
    rw [el]
    simp only [maxLD]
    refine ⟨_, intsD_map _, by simp, fun m hm hmax => ?_⟩
    rw [stF_max hm hmax]
    try simp only [wSs, wS, w1, wT, wE, wA, wX, wV, wP, wC, opn, rdO_d, rdO_o, asD_d, asD_n, KQY, entry, look, put, slotV, argsOk, frzA, frzV, sv_i, sv_b, sv_s, sv_0, sv_l, sv_t, sv_d, sv_n, List.map, List.length, List.replicate, List.cons_append, List.nil_append, Nat.sub_self, biD, isD_1, boolD_b, cmpD, relD_i, opD, addD_i, addD_l, subD_i, intD_i, lenD_l, lenD_t, listD_l, listD_t, tupleD_l, int2D_i, absD_i, toIntD_i, toIntD_b, eqD_i, eqD_b, eqD_s, rngD_1, rngD_2, seqD_l, seqD_t, lstD_l, ixX_l, ixX_t, negX_i, slX_l, rvX_l, repX_i, intX_i, ixD_0, ixD_1, ixD_2, true_and, and_true, ite_self, Bool.false_eq_true, if_false, if_true, Bool.not_true, Bool.not_false, ixR0, ixR1, sv_r]
    rw [List.map_append] at hK
    exact ⟨by rw [List.length_map]; unfold big; omega, hK⟩
def optI : Option Nat → D
  | none => .none
  | some k => .int (k : Nat)
theorem lf_b3 {n : Int} {as : List (Int × Int)} {a : Int × Int} {b : Option Nat} {m : Nat} {x4 x8 x9 : Option Val} {K : Kn Unit} {u : Unit} (ok : RingOk n as) (hm : FewC n as m) (ha : a ∈ as)
    (hK : ∀ (c : Nat) (d : Option Nat) (x4 x8 x9 : Option Val), m ≤ c → (n ≤ hg n as a.1 m 0 → c ≤ m) → ((d = some c ∧ ∀ b', b = some b' → c < b') ∨ (d = b ∧ ∃ b', b = some b' ∧ b' ≤ c)) → K.nx [some (.dat (ringD n as)), some (.dat (.int n)), some (.dat (.list (as.map arcD))), some (.own ((stL n as).map .int)), x4, some (.dat (.int a.1)), some (.dat (.int a.2)), some (.dat (optI d)), x8, x9] u) :
    wSs tr_law_fewest_b3 [some (.dat (ringD n as)), some (.dat (.int n)), some (.dat (.list (as.map arcD))), some (.own ((stL n as).map .int)), x4, some (.dat (.int a.1)), some (.dat (.int a.2)), some (.dat (optI b)), x8, x9] u K := by
  have n1 := ok.n1
  have hcv := hm.cvd
  have oka := ok.arcs a ha
  have a0 := oka.1
  have a1 := oka.2.1
  unfold tr_law_fewest_b3
  simp only [wSs, wS, w1, wT, wE, wA, wX, wV, wP, wC, opn, rdO_d, rdO_o, asD_d, asD_n, KQY, entry, look, put, slotV, argsOk, frzA, frzV, sv_i, sv_b, sv_s, sv_0, sv_l, sv_t, sv_d, sv_n, List.map, List.length, List.replicate, List.cons_append, List.nil_append, Nat.sub_self, biD, isD_1, boolD_b, cmpD, relD_i, opD, addD_i, addD_l, subD_i, intD_i, lenD_l, lenD_t, listD_l, listD_t, tupleD_l, int2D_i, absD_i, toIntD_i, toIntD_b, eqD_i, eqD_b, eqD_s, rngD_1, rngD_2, seqD_l, seqD_t, lstD_l, ixX_l, ixX_t, negX_i, slX_l, rvX_l, repX_i, intX_i, ixD_0, ixD_1, ixD_2, true_and, and_true, ite_self]
  refine ⟨fun mm Γ _ => ∃ (c : Nat) (held x : Int), Γ = [some (.dat (ringD n as)), some (.dat (.int n)), some (.dat (.list (as.map arcD))), some (.own ((stL n as).map .int)), some (.dat (.int x)), some (.dat (.int a.1)), some (.dat (.int a.2)), some (.dat (optI b)), some (.dat (.int held)), some (.dat (.int (c : Nat)))] ∧ mm = (n - held).toNat ∧ held = hg n as a.1 c 0 ∧ x = (a.1 + held) % n ∧ ∀ i, i < c → hg n as a.1 i 0 < n, ⟨_, 0, 0, a.1, rfl, rfl, rfl, by rw [Int.add_zero]; exact (Int.emod_eq_of_lt a0 a1).symm, fun i hi => absurd hi (Nat.not_lt_zero _)⟩, ?_⟩
  rintro mm Γ u ⟨c, held, x, rfl, rfl, hh, hx, hbef⟩
  simp only [wSs, wS, w1, wT, wE, wA, wX, wV, wP, wC, opn, rdO_d, rdO_o, asD_d, asD_n, KQY, entry, look, put, slotV, argsOk, frzA, frzV, sv_i, sv_b, sv_s, sv_0, sv_l, sv_t, sv_d, sv_n, List.map, List.length, List.replicate, List.cons_append, List.nil_append, Nat.sub_self, biD, isD_1, boolD_b, cmpD, relD_i, opD, addD_i, addD_l, subD_i, intD_i, lenD_l, lenD_t, listD_l, listD_t, tupleD_l, int2D_i, absD_i, toIntD_i, toIntD_b, eqD_i, eqD_b, eqD_s, rngD_1, rngD_2, seqD_l, seqD_t, lstD_l, ixX_l, ixX_t, negX_i, slX_l, rvX_l, repX_i, intX_i, ixD_0, ixD_1, ixD_2, true_and, and_true, ite_self]
  by_cases hc : held < n
  · simp only [hc, decide_true, if_true]
    have hpl := mod_pl (n := n) (by omega) (a.1 + held)
    rw [← hx] at hpl
    have hst := stF_cvd (n := n) (as := as) hcv hpl.1 hpl.2
    have hpos := mx_pos (hcv x hpl.1 hpl.2)
    have hit : ((stL n as).map PyData.int)[x.toNat]? = some (.int (mx n as x)) := by
      unfold stL
      rw [List.map_map, List.getElem?_map, List.getElem?_range (by omega)]
      have ex : ((x.toNat : Nat) : Int) = x := by omega
      show some (PyData.int (stF n as ((x.toNat : Nat) : Int))) = _
      rw [ex, hst]
    unfold tr_law_fewest_b2
    simp only [wSs, wS, w1, wT, wE, wA, wX, wV, wP, wC, opn, rdO_d, rdO_o, asD_d, asD_n, KQY, entry, look, put, slotV, argsOk, frzA, frzV, sv_i, sv_b, sv_s, sv_0, sv_l, sv_t, sv_d, sv_n, List.map, List.length, List.replicate, List.cons_append, List.nil_append, Nat.sub_self, biD, isD_1, boolD_b, cmpD, relD_i, opD, addD_i, addD_l, subD_i, intD_i, lenD_l, lenD_t, listD_l, listD_t, tupleD_l, int2D_i, absD_i, toIntD_i, toIntD_b, eqD_i, eqD_b, eqD_s, rngD_1, rngD_2, seqD_l, seqD_t, lstD_l, ixX_l, ixX_t, negX_i, slX_l, rvX_l, repX_i, intX_i, ixD_0, ixD_1, ixD_2, true_and, and_true, ite_self]
    rw [ixD_nat (i := x) (j := x.toNat) (by omega) hit]
    simp only [wSs, wS, w1, wT, wE, wA, wX, wV, wP, wC, opn, rdO_d, rdO_o, asD_d, asD_n, KQY, entry, look, put, slotV, argsOk, frzA, frzV, sv_i, sv_b, sv_s, sv_0, sv_l, sv_t, sv_d, sv_n, List.map, List.length, List.replicate, List.cons_append, List.nil_append, Nat.sub_self, biD, isD_1, boolD_b, cmpD, relD_i, opD, addD_i, addD_l, subD_i, intD_i, lenD_l, lenD_t, listD_l, listD_t, tupleD_l, int2D_i, absD_i, toIntD_i, toIntD_b, eqD_i, eqD_b, eqD_s, rngD_1, rngD_2, seqD_l, seqD_t, lstD_l, ixX_l, ixX_t, negX_i, slX_l, rvX_l, repX_i, intX_i, ixD_0, ixD_1, ixD_2, true_and, and_true, ite_self]
    rw [ixD_nat (i := x) (j := x.toNat) (by omega) hit]
    simp only [wSs, wS, w1, wT, wE, wA, wX, wV, wP, wC, opn, rdO_d, rdO_o, asD_d, asD_n, KQY, entry, look, put, slotV, argsOk, frzA, frzV, sv_i, sv_b, sv_s, sv_0, sv_l, sv_t, sv_d, sv_n, List.map, List.length, List.replicate, List.cons_append, List.nil_append, Nat.sub_self, biD, isD_1, boolD_b, cmpD, relD_i, opD, addD_i, addD_l, subD_i, intD_i, lenD_l, lenD_t, listD_l, listD_t, tupleD_l, int2D_i, absD_i, toIntD_i, toIntD_b, eqD_i, eqD_b, eqD_s, rngD_1, rngD_2, seqD_l, seqD_t, lstD_l, ixX_l, ixX_t, negX_i, slX_l, rvX_l, repX_i, intX_i, ixD_0, ixD_1, ixD_2, true_and, and_true, ite_self]
    refine ⟨by omega, (n - (held + mx n as x)).toNat, by omega, c + 1, held + mx n as x, (x + mx n as x) % n, rfl, rfl, ?_, ?_, fun i hi => ?_⟩
    · rw [hg_succ, ← hh, ← hx]
    · rw [hx, Int.emod_add_emod, Int.add_assoc]
    · rcases Nat.lt_or_eq_of_le (Nat.le_of_lt_succ hi) with h | rfl
      · exact hbef i h
      · rw [← hh]; exact hc
  · simp only [hc, decide_false, Bool.false_eq_true, if_false]
    have hge : n ≤ hg n as a.1 c 0 := by omega
    have hmc : m ≤ c := by
      have h1 := cvF_len (n := n) (as := as) (x := a.1) c n.toNat 0 hge
      have h2 := hm.le (cvF n as a.1 n.toNat 0) ⟨fun k hk => cvF_mem hcv (by omega) hk, fun y y0 y1 => by
        have hd := mod_pl (n := n) (by omega) (y - a.1)
        have eb : (a.1 + (y - a.1) % n) % n = y := by
          rw [Int.add_emod_emod]
          have : a.1 + (y - a.1) = y := by omega
          rw [this]
          exact Int.emod_eq_of_lt y0 y1
        obtain ⟨k, hk, hh⟩ := cvF_cov (x := a.1) ok hcv n.toNat 0 ((y - a.1) % n) (by omega) (by omega) hd.1 hd.2
        rw [eb] at hh
        exact ⟨k, hk, hh⟩⟩
      omega
    have hcm : n ≤ hg n as a.1 m 0 → c ≤ m := fun h => by
      refine Classical.byContradiction fun hn => ?_
      have := hbef m (by omega)
      omega
    cases b with
    | none =>
      simp only [optI, noneD, if_true, wSs, wS, w1, wT, wE, wA, wX, wV, wP, wC, opn, rdO_d, rdO_o, asD_d, asD_n, KQY, entry, look, put, slotV, argsOk, frzA, frzV, sv_i, sv_b, sv_s, sv_0, sv_l, sv_t, sv_d, sv_n, List.map, List.length, List.replicate, List.cons_append, List.nil_append, Nat.sub_self, biD, isD_1, boolD_b, cmpD, relD_i, opD, addD_i, addD_l, subD_i, intD_i, lenD_l, lenD_t, listD_l, listD_t, tupleD_l, int2D_i, absD_i, toIntD_i, toIntD_b, eqD_i, eqD_b, eqD_s, rngD_1, rngD_2, seqD_l, seqD_t, lstD_l, ixX_l, ixX_t, negX_i, slX_l, rvX_l, repX_i, intX_i, ixD_0, ixD_1, ixD_2, true_and, and_true, ite_self]
      exact hK c (some c) _ _ _ hmc hcm (.inl ⟨rfl, fun b' e => nomatch e⟩)
    | some b' =>
      simp only [optI, noneD, Bool.false_eq_true, if_false, if_true, wSs, wS, w1, wT, wE, wA, wX, wV, wP, wC, opn, rdO_d, rdO_o, asD_d, asD_n, KQY, entry, look, put, slotV, argsOk, frzA, frzV, sv_i, sv_b, sv_s, sv_0, sv_l, sv_t, sv_d, sv_n, List.map, List.length, List.replicate, List.cons_append, List.nil_append, Nat.sub_self, biD, isD_1, boolD_b, cmpD, relD_i, opD, addD_i, addD_l, subD_i, intD_i, lenD_l, lenD_t, listD_l, listD_t, tupleD_l, int2D_i, absD_i, toIntD_i, toIntD_b, eqD_i, eqD_b, eqD_s, rngD_1, rngD_2, seqD_l, seqD_t, lstD_l, ixX_l, ixX_t, negX_i, slX_l, rvX_l, repX_i, intX_i, ixD_0, ixD_1, ixD_2, true_and, and_true, ite_self]
      by_cases hlt : ((c : Nat) : Int) < (b' : Nat)
      · simp only [hlt, decide_true, if_true, wSs, wS, w1, wT, wE, wA, wX, wV, wP, wC, opn, rdO_d, rdO_o, asD_d, asD_n, KQY, entry, look, put, slotV, argsOk, frzA, frzV, sv_i, sv_b, sv_s, sv_0, sv_l, sv_t, sv_d, sv_n, List.map, List.length, List.replicate, List.cons_append, List.nil_append, Nat.sub_self, biD, isD_1, boolD_b, cmpD, relD_i, opD, addD_i, addD_l, subD_i, intD_i, lenD_l, lenD_t, listD_l, listD_t, tupleD_l, int2D_i, absD_i, toIntD_i, toIntD_b, eqD_i, eqD_b, eqD_s, rngD_1, rngD_2, seqD_l, seqD_t, lstD_l, ixX_l, ixX_t, negX_i, slX_l, rvX_l, repX_i, intX_i, ixD_0, ixD_1, ixD_2, true_and, and_true, ite_self]
        exact hK c (some c) _ _ _ hmc hcm (.inl ⟨rfl, fun b'' e => by cases e; omega⟩)
      · simp only [hlt, decide_false, Bool.false_eq_true, if_false, wSs, wS, w1, wT, wE, wA, wX, wV, wP, wC, opn, rdO_d, rdO_o, asD_d, asD_n, KQY, entry, look, put, slotV, argsOk, frzA, frzV, sv_i, sv_b, sv_s, sv_0, sv_l, sv_t, sv_d, sv_n, List.map, List.length, List.replicate, List.cons_append, List.nil_append, Nat.sub_self, biD, isD_1, boolD_b, cmpD, relD_i, opD, addD_i, addD_l, subD_i, intD_i, lenD_l, lenD_t, listD_l, listD_t, tupleD_l, int2D_i, absD_i, toIntD_i, toIntD_b, eqD_i, eqD_b, eqD_s, rngD_1, rngD_2, seqD_l, seqD_t, lstD_l, ixX_l, ixX_t, negX_i, slX_l, rvX_l, repX_i, intX_i, ixD_0, ixD_1, ixD_2, true_and, and_true, ite_self]
        exact hK c (some b') _ _ _ hmc hcm (.inr ⟨rfl, b', rfl, by omega⟩)
theorem hg_good {n : Int} {as : List (Int × Int)} {m : Nat} (ok : RingOk n as) (hm : FewC n as m) : ∃ a ∈ as, n ≤ hg n as a.1 m 0 := by
  have n1 := ok.n1
  have hcv := hm.cvd
  obtain ⟨S, hS, hl⟩ := hm.ex
  obtain ⟨first, hf⟩ := List.exists_mem_of_ne_nil _ (hS.ne n1)
  have hfl := hS.1 first hf
  have oka := ok.at hfl
  have hmp : 1 ≤ m := by rw [← hl]; exact List.length_pos_of_mem hf
  refine ⟨arcAt as first, by rw [arcAt_eq hfl]; exact List.getElem_mem _, ?_⟩
  have h1 := gre_opt ok hm hS hl hf
  obtain ⟨m', rfl⟩ : ∃ m', m = m' + 1 := ⟨m - 1, by omega⟩
  rw [Nat.add_sub_cancel] at h1
  refine Int.le_trans h1 (hg_mono ok hcv m' _ _ ?_)
  have e : ((arcAt as first).1 + 0) % n = (arcAt as first).1 := by rw [Int.add_zero]; exact Int.emod_eq_of_lt oka.1 oka.2.1
  rw [e, Int.zero_add]
  have hr : rch n (arcAt as first) (arcAt as first).1 = (arcAt as first).2 := by unfold rch; rw [Int.sub_self, Int.zero_emod, Int.sub_zero]
  have hh : hld n (arcAt as first) (arcAt as first).1 = true := by
    unfold hld
    rw [Int.sub_self, Int.zero_emod]
    have := oka.2.2.1
    exact decide_eq_true (by omega)
  have := mx_ge hfl hh
  omega
theorem w_law_fewest : WOk S_law_fewest 1 10 tr_law_fewest := fun ds Q Y h => by
  obtain ⟨n, as, rfl, ok, hno, hyes⟩ := h
  refine ⟨rfl, ?_⟩
  have n1 := ok.n1
  have n40 := ok.n40
  have hlen := ok.len
  unfold tr_law_fewest
  simp only [wSs, wS, w1, wT, wE, wA, wX, wV, wP, wC, opn, rdO_d, rdO_o, asD_d, asD_n, KQY, entry, look, put, slotV, argsOk, frzA, frzV, sv_i, sv_b, sv_s, sv_0, sv_l, sv_t, sv_d, sv_n, List.map, List.length, List.replicate, List.cons_append, List.nil_append, Nat.sub_self, biD, isD_1, boolD_b, cmpD, relD_i, opD, addD_i, addD_l, subD_i, intD_i, lenD_l, lenD_t, listD_l, listD_t, tupleD_l, int2D_i, absD_i, toIntD_i, toIntD_b, eqD_i, eqD_b, eqD_s, rngD_1, rngD_2, seqD_l, seqD_t, lstD_l, ixX_l, ixX_t, negX_i, slX_l, rvX_l, repX_i, intX_i, ixD_0, ixD_1, ixD_2, true_and, and_true, ite_self, ringD, putAll, wJ]
  refine ⟨by unfold big; decide, ⟨by omega, by omega⟩, by rw [List.length_map, List.length_range]; unfold big; omega, ?_⟩
  refine fLoop_mp (g := fun i : Nat => PyData.int (i : Nat)) (fun done rest Γ _ => ∃ (x4 : Option Val), Γ = [some (.dat (ringD n as)), some (.dat (.int n)), some (.dat (.list (as.map arcD))), some (.own ((done.map fun x : Nat => stF n as x).map .int)), x4, none, none, none, none, none] ∧ done ++ rest = List.range n.toNat) ?_ ?_ _ [] _ _ ⟨_, rfl, rfl⟩
  · rintro done Γ u ⟨x4, rfl, hd⟩
    rw [List.append_nil] at hd
    subst hd
    have es : (List.range n.toNat).map (fun x : Nat => stF n as x) = stL n as := rfl
    rw [es]
    simp only [wSs, wS, w1, wT, wE, wA, wX, wV, wP, wC, opn, rdO_d, rdO_o, asD_d, asD_n, KQY, entry, look, put, slotV, argsOk, frzA, frzV, sv_i, sv_b, sv_s, sv_0, sv_l, sv_t, sv_d, sv_n, List.map, List.length, List.replicate, List.cons_append, List.nil_append, Nat.sub_self, biD, isD_1, boolD_b, cmpD, relD_i, opD, addD_i, addD_l, subD_i, intD_i, lenD_l, lenD_t, listD_l, listD_t, tupleD_l, int2D_i, absD_i, toIntD_i, toIntD_b, eqD_i, eqD_b, eqD_s, rngD_1, rngD_2, seqD_l, seqD_t, lstD_l, ixX_l, ixX_t, negX_i, slX_l, rvX_l, repX_i, intX_i, ixD_0, ixD_1, ixD_2, true_and, and_true, ite_self, memD_ints, Bool.false_eq_true, if_false]
    by_cases hcv : Cvd n as
    · have hz : ¬ (0 : Int) ∈ stL n as := fun h => stL_zero.mp h hcv
      simp only [hz, decide_false, Bool.false_eq_true, if_false, wSs, wS, w1, wT, wE, wA, wX, wV, wP, wC, opn, rdO_d, rdO_o, asD_d, asD_n, KQY, entry, look, put, slotV, argsOk, frzA, frzV, sv_i, sv_b, sv_s, sv_0, sv_l, sv_t, sv_d, sv_n, List.map, List.length, List.replicate, List.cons_append, List.nil_append, Nat.sub_self, biD, isD_1, boolD_b, cmpD, relD_i, opD, addD_i, addD_l, subD_i, intD_i, lenD_l, lenD_t, listD_l, listD_t, tupleD_l, int2D_i, absD_i, toIntD_i, toIntD_b, eqD_i, eqD_b, eqD_s, rngD_1, rngD_2, seqD_l, seqD_t, lstD_l, ixX_l, ixX_t, negX_i, slX_l, rvX_l, repX_i, intX_i, ixD_0, ixD_1, ixD_2, true_and, and_true, ite_self]
      obtain ⟨m, hm⟩ := hcv.few
      obtain ⟨g, hg1, hg2⟩ := hg_good ok hm
      refine ⟨by rw [List.length_map]; exact big20 ok.len, ?_⟩
      refine fLoop_mp (g := arcD) (fun done rest Γ _ => ∃ (b : Option Nat) (x4 x5 x6 x8 x9 : Option Val), Γ = [some (.dat (ringD n as)), some (.dat (.int n)), some (.dat (.list (as.map arcD))), some (.own ((stL n as).map .int)), x4, x5, x6, some (.dat (optI b)), x8, x9] ∧ done ++ rest = as ∧ (∀ c, b = some c → m ≤ c) ∧ (g ∈ done → ∃ c, b = some c ∧ c ≤ m)) ?_ ?_ _ [] _ _ ⟨none, _, _, _, _, _, rfl, rfl, (fun c e => nomatch e), (fun h => nomatch h)⟩
      · rintro done Γ u ⟨b, y4, y5, y6, y8, y9, rfl, hd, h1, h2⟩
        rw [List.append_nil] at hd
        rw [hd] at h2
        obtain ⟨c, rfl, hc⟩ := h2 hg1
        have := h1 c rfl
        have e : c = m := by omega
        simp only [wSs, wS, w1, wT, wE, wA, wX, wV, wP, wC, opn, rdO_d, rdO_o, asD_d, asD_n, KQY, entry, look, put, slotV, argsOk, frzA, frzV, sv_i, sv_b, sv_s, sv_0, sv_l, sv_t, sv_d, sv_n, List.map, List.length, List.replicate, List.cons_append, List.nil_append, Nat.sub_self, biD, isD_1, boolD_b, cmpD, relD_i, opD, addD_i, addD_l, subD_i, intD_i, lenD_l, lenD_t, listD_l, listD_t, tupleD_l, int2D_i, absD_i, toIntD_i, toIntD_b, eqD_i, eqD_b, eqD_s, rngD_1, rngD_2, seqD_l, seqD_t, lstD_l, ixX_l, ixX_t, negX_i, slX_l, rvX_l, repX_i, intX_i, ixD_0, ixD_1, ixD_2, true_and, and_true, ite_self, optI]
        rw [e]
        exact hyes m hm
      · rintro done a r Γ u K' ⟨b, y4, y5, y6, y8, y9, rfl, hd, h1, h2⟩ hnx hct hbk hrt hex
        have ha : a ∈ as := by rw [← hd]; simp
        simp only [bindT, arcD, putAll, put]
        refine lf_b3 ok hm ha fun c d z4 z8 z9 hmc hcm hdd => hnx _ _ ⟨d, _, _, _, _, _, rfl, by rw [List.append_assoc]; exact hd, fun c' e => ?_, fun hgd => ?_⟩
        · rcases hdd with ⟨rfl, _⟩ | ⟨rfl, _⟩
          · cases e; exact hmc
          · exact h1 c' e
        · rcases List.mem_append.mp hgd with hgd | hgd
          · obtain ⟨c0, e0, hc0⟩ := h2 hgd
            rcases hdd with ⟨rfl, hlt⟩ | ⟨rfl, _⟩
            · have := hlt c0 e0
              exact ⟨c, rfl, by omega⟩
            · exact ⟨c0, e0, hc0⟩
          · have eg : g = a := by simpa using hgd
            have hc' := hcm (by rw [← eg]; exact hg2)
            rcases hdd with ⟨rfl, _⟩ | ⟨rfl, b', rfl, hb'⟩
            · exact ⟨c, rfl, hc'⟩
            · exact ⟨b', rfl, by omega⟩
    · have hz : (0 : Int) ∈ stL n as := stL_zero.mpr hcv
      simp only [hz, decide_true, if_true, wSs, wS, w1, wT, wE, wA, wX, wV, wP, wC, opn, rdO_d, rdO_o, asD_d, asD_n, KQY, entry, look, put, slotV, argsOk, frzA, frzV, sv_i, sv_b, sv_s, sv_0, sv_l, sv_t, sv_d, sv_n, List.map, List.length, List.replicate, List.cons_append, List.nil_append, Nat.sub_self, biD, isD_1, boolD_b, cmpD, relD_i, opD, addD_i, addD_l, subD_i, intD_i, lenD_l, lenD_t, listD_l, listD_t, tupleD_l, int2D_i, absD_i, toIntD_i, toIntD_b, eqD_i, eqD_b, eqD_s, rngD_1, rngD_2, seqD_l, seqD_t, lstD_l, ixX_l, ixX_t, negX_i, slX_l, rvX_l, repX_i, intX_i, ixD_0, ixD_1, ixD_2, true_and, and_true, ite_self]
      exact hno hcv
  · rintro done x r Γ u K' ⟨x4, rfl, hd⟩ hnx hct hbk hrt hex
    have hl := congrArg List.length hd
    rw [List.length_append, List.length_range, List.length_cons] at hl
    have hx : x < n.toNat := List.mem_range.mp (by rw [← hd]; simp)
    simp only [bindT, put]
    refine lf_b1 ok (by omega) (by rw [List.length_map]; omega) (hnx _ _ ⟨some (.dat (.int (x : Nat))), ?_, by rw [List.append_assoc]; exact hd⟩)
    rw [show (done ++ [x]).map (fun x : Nat => stF n as x) = done.map (fun x : Nat => stF n as x) ++ [stF n as x] from List.map_append]
/-! ### arcs more -/
def E_law_filled : ESumm Unit where
  run vs s Q Y := ∃ n as, vs = [.hdl 2, .dat (ringD n as)] ∧ RingOk n as ∧ ∀ bs, RingOk n bs → Q (.dat (ringD n bs)) ()
  mono := fun h1 _ ⟨n, as, e, ok, q⟩ => ⟨n, as, e, ok, fun bs h => h1 _ _ (q bs h)⟩
def tr_law_filled_b1 : Sms Unit :=
  (.cons (.ite (.an (.cmp .Eq (.callT "_law_over" S_law_over 2 4 5) (.ls .nil)) (.cmp .Lt (.bi .len (.cons (.var 4) .nil)) (.int 20)))
    (.cons (.one (.ins 4 (.calE "_law_take" E_law_take (.cons (.var 0) (.cons (.op .Add (.bi .len (.cons (.var 4) .nil)) (.int 1)) .nil))) (.tp (.cons (.var 5) (.cons (.bi .min2 (.cons (.var 2) (.cons (.op .Add (.int 1) (.calE "_law_take" E_law_take (.cons (.var 0) (.cons (.op .Add (.int 1) (.op .FloorDiv (.var 2) (.int 3))) .nil)))) .nil))) .nil)))))
    .nil)
    .nil)
    .nil)
def tr_law_filled : Sms Unit :=
  (.cons (.one (.asgT [2, 3] (.var 1)))
    (.cons (.one (.asg 4 (.bi .list (.cons (.var 3) .nil))))
    (.cons (.for (.nm 5) (.rng (.cons (.var 2) .nil))
    tr_law_filled_b1)
    (.cons (.one (.ret (.tp (.cons (.var 2) (.cons (.var 4) .nil)))))
    .nil))))

theorem free_natD {ks : List Nat} : freeV (.new (ks.map natD)) = true := by
  show (ks.map natD).all scal = true
  rw [List.all_map, List.all_eq_true]
  intro k hk
  rfl
theorem map_insI {α β : Type} {f : α → β} {a : α} : ∀ {l : List α} {i : Nat}, (l.insertIdx i a).map f = (l.map f).insertIdx i (f a)
  | l, 0 => by simp
  | [], i + 1 => by simp
  | b :: l, i + 1 => by
    rw [List.insertIdx_succ_cons, List.map_cons, List.map_cons, List.insertIdx_succ_cons, map_insI]
theorem mem_insI {α : Type} {a b : α} : ∀ {l : List α} {i : Nat}, b ∈ l.insertIdx i a → b = a ∨ b ∈ l
  | l, 0, h => by
    rw [List.insertIdx_zero] at h
    exact List.mem_cons.mp h
  | [], i + 1, h => .inr (by simpa using h)
  | c :: l, i + 1, h => by
    rw [List.insertIdx_succ_cons] at h
    rcases List.mem_cons.mp h with rfl | h
    · exact .inr List.mem_cons_self
    · exact (mem_insI h).imp id fun h => List.mem_cons_of_mem _ h
theorem w_law_filled : WOkE E_law_filled 2 6 tr_law_filled := fun ws s Q Y h => by
  obtain ⟨n, as, rfl, ok, h⟩ := h
  refine ⟨rfl, ?_⟩
  have n1 := ok.n1
  have n40 := ok.n40
  have hlen := ok.len
  unfold tr_law_filled
  simp only [wSs, wS, w1, wT, wE, wA, wX, wV, wP, wC, opn, rdO_d, rdO_o, asD_d, asD_n, KQY, entry, look, put, slotV, argsOk, frzA, frzV, sv_i, sv_b, sv_s, sv_0, sv_l, sv_t, sv_d, sv_n, List.map, List.length, List.replicate, List.cons_append, List.nil_append, Nat.sub_self, biD, isD_1, boolD_b, cmpD, relD_i, opD, addD_i, addD_l, subD_i, intD_i, lenD_l, lenD_t, listD_l, listD_t, tupleD_l, int2D_i, absD_i, toIntD_i, toIntD_b, eqD_i, eqD_b, eqD_s, rngD_1, rngD_2, seqD_l, seqD_t, lstD_l, ixX_l, ixX_t, negX_i, slX_l, rvX_l, repX_i, intX_i, ixD_0, ixD_1, ixD_2, true_and, and_true, ite_self, KE2, ringD, putAll, wJ]
  refine ⟨⟨by omega, by omega⟩, by rw [List.length_map, List.length_range]; unfold big; omega, ?_⟩
  refine fLoop_mp (g := fun i : Nat => PyData.int (i : Nat)) (fun done rest Γ _ => ∃ (bs : List (Int × Int)) (x5 : Option Val), Γ = [some (.hdl 2), some (.dat (ringD n as)), some (.dat (.int n)), some (.dat (.list (as.map arcD))), some (.own (bs.map arcD)), x5] ∧ RingOk n bs ∧ ∀ i ∈ rest, i < n.toNat) ?_ ?_ _ [] _ _ ⟨as, _, rfl, ok, fun i hi => List.mem_range.mp hi⟩
  · rintro done Γ u ⟨bs, x5, rfl, okb, _⟩
    simp only [wSs, wS, w1, wT, wE, wA, wX, wV, wP, wC, opn, rdO_d, rdO_o, asD_d, asD_n, KQY, entry, look, put, slotV, argsOk, frzA, frzV, sv_i, sv_b, sv_s, sv_0, sv_l, sv_t, sv_d, sv_n, List.map, List.length, List.replicate, List.cons_append, List.nil_append, Nat.sub_self, biD, isD_1, boolD_b, cmpD, relD_i, opD, addD_i, addD_l, subD_i, intD_i, lenD_l, lenD_t, listD_l, listD_t, tupleD_l, int2D_i, absD_i, toIntD_i, toIntD_b, eqD_i, eqD_b, eqD_s, rngD_1, rngD_2, seqD_l, seqD_t, lstD_l, ixX_l, ixX_t, negX_i, slX_l, rvX_l, repX_i, intX_i, ixD_0, ixD_1, ixD_2, true_and, and_true, ite_self]
    exact ⟨by unfold big; decide, h bs okb⟩
  · rintro done x r Γ u K' ⟨bs, x5, rfl, okb, hr⟩ hnx hct hbk hrt hex
    have hx := hr x List.mem_cons_self
    have hbl := okb.len
    unfold tr_law_filled_b1
    simp only [bindT, wSs, wS, w1, wT, wE, wA, wX, wV, wP, wC, opn, rdO_d, rdO_o, asD_d, asD_n, KQY, entry, look, put, slotV, argsOk, frzA, frzV, sv_i, sv_b, sv_s, sv_0, sv_l, sv_t, sv_d, sv_n, List.map, List.length, List.replicate, List.cons_append, List.nil_append, Nat.sub_self, biD, isD_1, boolD_b, cmpD, relD_i, opD, addD_i, addD_l, subD_i, intD_i, lenD_l, lenD_t, listD_l, listD_t, tupleD_l, int2D_i, absD_i, toIntD_i, toIntD_b, eqD_i, eqD_b, eqD_s, rngD_1, rngD_2, seqD_l, seqD_t, lstD_l, ixX_l, ixX_t, negX_i, slX_l, rvX_l, repX_i, intX_i, ixD_0, ixD_1, ixD_2, true_and, and_true, ite_self]
    refine call_over okb ⟨free_natD, ?_⟩
    try simp only [wSs, wS, w1, wT, wE, wA, wX, wV, wP, wC, opn, rdO_d, rdO_o, asD_d, asD_n, KQY, entry, look, put, slotV, argsOk, frzA, frzV, sv_i, sv_b, sv_s, sv_0, sv_l, sv_t, sv_d, sv_n, List.map, List.length, List.replicate, List.cons_append, List.nil_append, Nat.sub_self, biD, isD_1, boolD_b, cmpD, relD_i, opD, addD_i, addD_l, subD_i, intD_i, lenD_l, lenD_t, listD_l, listD_t, tupleD_l, int2D_i, absD_i, toIntD_i, toIntD_b, eqD_i, eqD_b, eqD_s, rngD_1, rngD_2, seqD_l, seqD_t, lstD_l, ixX_l, ixX_t, negX_i, slX_l, rvX_l, repX_i, intX_i, ixD_0, ixD_1, ixD_2, true_and, and_true, ite_self, Bool.false_eq_true, if_false, if_true, Bool.not_true, Bool.not_false, ixR0, ixR1, sv_r]
    simp only [eqD_nil]
    refine ⟨by unfold big; decide, ?_⟩
    cases ho : ((atB n bs ((x : Nat) : Int)).map natD).isEmpty with
    | false =>
      try simp only [wSs, wS, w1, wT, wE, wA, wX, wV, wP, wC, opn, rdO_d, rdO_o, asD_d, asD_n, KQY, entry, look, put, slotV, argsOk, frzA, frzV, sv_i, sv_b, sv_s, sv_0, sv_l, sv_t, sv_d, sv_n, List.map, List.length, List.replicate, List.cons_append, List.nil_append, Nat.sub_self, biD, isD_1, boolD_b, cmpD, relD_i, opD, addD_i, addD_l, subD_i, intD_i, lenD_l, lenD_t, listD_l, listD_t, tupleD_l, int2D_i, absD_i, toIntD_i, toIntD_b, eqD_i, eqD_b, eqD_s, rngD_1, rngD_2, seqD_l, seqD_t, lstD_l, ixX_l, ixX_t, negX_i, slX_l, rvX_l, repX_i, intX_i, ixD_0, ixD_1, ixD_2, true_and, and_true, ite_self, Bool.false_eq_true, if_false, if_true, Bool.not_true, Bool.not_false, ixR0, ixR1, sv_r]
      exact hnx _ _ ⟨bs, _, rfl, okb, fun i hi => hr i (List.mem_cons_of_mem _ hi)⟩
    | true =>
      try simp only [wSs, wS, w1, wT, wE, wA, wX, wV, wP, wC, opn, rdO_d, rdO_o, asD_d, asD_n, KQY, entry, look, put, slotV, argsOk, frzA, frzV, sv_i, sv_b, sv_s, sv_0, sv_l, sv_t, sv_d, sv_n, List.map, List.length, List.replicate, List.cons_append, List.nil_append, Nat.sub_self, biD, isD_1, boolD_b, cmpD, relD_i, opD, addD_i, addD_l, subD_i, intD_i, lenD_l, lenD_t, listD_l, listD_t, tupleD_l, int2D_i, absD_i, toIntD_i, toIntD_b, eqD_i, eqD_b, eqD_s, rngD_1, rngD_2, seqD_l, seqD_t, lstD_l, ixX_l, ixX_t, negX_i, slX_l, rvX_l, repX_i, intX_i, ixD_0, ixD_1, ixD_2, true_and, and_true, ite_self, Bool.false_eq_true, if_false, if_true, Bool.not_true, Bool.not_false, ixR0, ixR1, sv_r]
      simp only [List.length_map]
      by_cases hl20 : ((bs.length : Nat) : Int) < 20
      · simp only [hl20, decide_true, if_true, wSs, wS, w1, wT, wE, wA, wX, wV, wP, wC, opn, rdO_d, rdO_o, asD_d, asD_n, KQY, entry, look, put, slotV, argsOk, frzA, frzV, sv_i, sv_b, sv_s, sv_0, sv_l, sv_t, sv_d, sv_n, List.map, List.length, List.replicate, List.cons_append, List.nil_append, Nat.sub_self, biD, isD_1, boolD_b, cmpD, relD_i, opD, addD_i, addD_l, subD_i, intD_i, lenD_l, lenD_t, listD_l, listD_t, tupleD_l, int2D_i, absD_i, toIntD_i, toIntD_b, eqD_i, eqD_b, eqD_s, rngD_1, rngD_2, seqD_l, seqD_t, lstD_l, ixX_l, ixX_t, negX_i, slX_l, rvX_l, repX_i, intX_i, ixD_0, ixD_1, ixD_2, true_and, and_true, ite_self, run_takeC, eq_self, List.length_map]
        refine ⟨⟨by omega, by omega⟩, fun t t0 t1 => ?_⟩
        try simp only [wSs, wS, w1, wT, wE, wA, wX, wV, wP, wC, opn, rdO_d, rdO_o, asD_d, asD_n, KQY, entry, look, put, slotV, argsOk, frzA, frzV, sv_i, sv_b, sv_s, sv_0, sv_l, sv_t, sv_d, sv_n, List.map, List.length, List.replicate, List.cons_append, List.nil_append, Nat.sub_self, biD, isD_1, boolD_b, cmpD, relD_i, opD, addD_i, addD_l, subD_i, intD_i, lenD_l, lenD_t, listD_l, listD_t, tupleD_l, int2D_i, absD_i, toIntD_i, toIntD_b, eqD_i, eqD_b, eqD_s, rngD_1, rngD_2, seqD_l, seqD_t, lstD_l, ixX_l, ixX_t, negX_i, slX_l, rvX_l, repX_i, intX_i, ixD_0, ixD_1, ixD_2, true_and, and_true, ite_self, Bool.false_eq_true, if_false, if_true, Bool.not_true, Bool.not_false, ixR0, ixR1, sv_r]
        try simp only [run_takeC, eq_self, true_and, wSs, wS, w1, wT, wE, wA, wX, wV, wP, wC, opn, rdO_d, rdO_o, asD_d, asD_n, KQY, entry, look, put, slotV, argsOk, frzA, frzV, sv_i, sv_b, sv_s, sv_0, sv_l, sv_t, sv_d, sv_n, List.map, List.length, List.replicate, List.cons_append, List.nil_append, Nat.sub_self, biD, isD_1, boolD_b, cmpD, relD_i, opD, addD_i, addD_l, subD_i, intD_i, lenD_l, lenD_t, listD_l, listD_t, tupleD_l, int2D_i, absD_i, toIntD_i, toIntD_b, eqD_i, eqD_b, eqD_s, rngD_1, rngD_2, seqD_l, seqD_t, lstD_l, ixX_l, ixX_t, negX_i, slX_l, rvX_l, repX_i, intX_i, ixD_0, ixD_1, ixD_2, true_and, and_true, ite_self]
        have h3 : 0 ≤ n / 3 := Int.ediv_nonneg (by omega) (by decide)
        have h4 : n / 3 < 40 := by omega
        refine ⟨by decide, ⟨by omega, by omega⟩, fun q q0 q1 => ?_⟩
        try simp only [wSs, wS, w1, wT, wE, wA, wX, wV, wP, wC, opn, rdO_d, rdO_o, asD_d, asD_n, KQY, entry, look, put, slotV, argsOk, frzA, frzV, sv_i, sv_b, sv_s, sv_0, sv_l, sv_t, sv_d, sv_n, List.map, List.length, List.replicate, List.cons_append, List.nil_append, Nat.sub_self, biD, isD_1, boolD_b, cmpD, relD_i, opD, addD_i, addD_l, subD_i, intD_i, lenD_l, lenD_t, listD_l, listD_t, tupleD_l, int2D_i, absD_i, toIntD_i, toIntD_b, eqD_i, eqD_b, eqD_s, rngD_1, rngD_2, seqD_l, seqD_t, lstD_l, ixX_l, ixX_t, negX_i, slX_l, rvX_l, repX_i, intX_i, ixD_0, ixD_1, ixD_2, true_and, and_true, ite_self, Bool.false_eq_true, if_false, if_true, Bool.not_true, Bool.not_false, ixR0, ixR1, sv_r]
        refine ⟨by unfold big; decide, by unfold big; omega, by omega, by omega, ?_⟩
        have ha : arcOk n (((x : Nat) : Int), if 1 + q < n then 1 + q else n) := by
          refine ⟨?_, ?_, ?_, ?_⟩
          · show (0 : Int) ≤ ((x : Nat) : Int); omega
          · show ((x : Nat) : Int) < n; omega
          · show 1 ≤ (if 1 + q < n then 1 + q else n); split <;> omega
          · show (if 1 + q < n then 1 + q else n) ≤ n; split <;> omega
        refine hnx _ _ ⟨bs.insertIdx t.toNat (((x : Nat) : Int), if 1 + q < n then 1 + q else n), _, by rw [map_insI]; rfl, ⟨n1, n40, ?_, fun a haa => ?_⟩, fun i hi => hr i (List.mem_cons_of_mem _ hi)⟩
        · rw [List.length_insertIdx]
          split <;> omega
        · rcases mem_insI haa with rfl | haa
          · exact ha
          · exact okb.arcs a haa
      · simp only [hl20, decide_false, Bool.false_eq_true, if_false]
        exact hnx _ _ ⟨bs, _, rfl, okb, fun i hi => hr i (List.mem_cons_of_mem _ hi)⟩
end Ac
namespace Ac
open PySem PySem.Spec PyProof.Rows L2
/-! ### a law's end -/
structure DefAt (K : PySem.W.Frag) (mg : Str → Option Value) (x : Str) (st : Stmt) (ps : List Str) : Prop where
  ex : ∃ f fd, Fun K x x st f fd ∧ mg x = some (.ref f) ∧ Binds K fd ps [] ∧ ∀ (s : Shared) (us : List Value), us.length = ps.length → BindsTo s fd ⟨us, []⟩ (ps.zip us)
theorem defAt_mk {K : PySem.W.Frag} {h : Heap} {mg : Str → Option Value} {x : Str} {st : Stmt} {ps : List Str} {f : Addr} {oc : Value} {od an : Option Addr} {osl : Array (Option Value)} {kV doc pm cdv ct : Value} (X : K.In h) (G : h.Ns mainGlobals mg)
    (a : PySem.W.nsIn K mainGlobals x = some (some (.ref f))) (l : K.lookup f = some ⟨oc, od, .func (PySem.W.fnOf x x (defArgs st) (defBody st) (defScope st) .none kV doc pm an cdv ct), osl⟩) (c : PySem.W.codeIn K cdv x = true) (k : PySem.W.keepIn K (.ref f) = true)
    (b : ∀ (kV doc pm : Value) (an : Option Addr) (cdv ct : Value) (us : List Value), us.length = ps.length → bindArgs (PySem.W.fnOf x x (defArgs st) (defBody st) (defScope st) .none kV doc pm an cdv ct) ⟨us, []⟩ = pure (ps.zip us)) : DefAt K mg x st ps :=
  let F := fun_mk (st := st) l c k
  ⟨⟨_, _, F, PySem.W.mg_of X G a, F.binds b, fun s us hl => .of_eq (b _ _ _ _ _ _ us hl)⟩⟩
/-- no list stands in the module itself -/
def noLst (K : PySem.W.Frag) : Bool := K.all fun p => !(p.2.cls == .type "list")
theorem lookup_mem {K : PySem.W.Frag} {a : Addr} {o : Obj} : K.lookup a = some o → ∃ p ∈ K, p.2 = o := by
  induction K with
  | nil => intro h; cases h
  | cons q r ih =>
    intro h
    obtain ⟨b, u⟩ := q
    rw [List.lookup_cons] at h
    split at h
    · cases h
      exact ⟨_, List.mem_cons_self, rfl⟩
    · obtain ⟨p, h1, h2⟩ := ih h
      exact ⟨p, List.mem_cons_of_mem _ h1, h2⟩
def emptyA : KA := fun _ => none
theorem law_sp {cl : Nat → Addr} {H : Hp} {a : Addr} {ns : List Int} (hl : ns.length ≤ 63) (h : Rd H a (.lst (ns.map V.int))) : spE rmD cl Elaw [.ref a] H (fun v _ => v = .bl true) fun _ _ _ => False := by
  refine ⟨H, emptyA, (), [.dat (.list (ns.map .int))], Sub.refl H, fun a o _ n => n rfl, fun a k h => (nomatch (show (none : Option Kd) = some k from h)), Paired.cons (Rp.lst h (RpL.ints ns)) .nil, ?_⟩
  refine ⟨ns, rfl, hl, fun x H' F' A' _ _ _ _ _ _ rv => ?_⟩
  cases rv
  rfl
theorem noLst_at {K : PySem.W.Frag} {h : Heap} {a : Addr} {vs : List Value} (hn : noLst K = true) (X : K.In h) (e : h.get? a = some { cls := .type "list", data := .seq vs.toArray }) : K.lookup a = none := by
  cases q : K.lookup a with
  | none => rfl
  | some o =>
    have e2 := X a o q
    rw [e] at e2
    cases e2
    obtain ⟨p, hp, e3⟩ := lookup_mem q
    have := List.all_eq_true.mp hn p hp
    rw [e3] at this
    simp at this
theorem all_nil {α : Type} {p : α → Prop} : ∀ x ∈ ([] : List α), p x := fun _ h => nomatch h
theorem all_cons {α : Type} {p : α → Prop} {a : α} {l : List α} (h : p a) (r : ∀ x ∈ l, p x) : ∀ x ∈ a :: l, p x := fun x hx => by
  cases hx with
  | head => exact h
  | tail _ hx => exact r x hx
theorem cn_nil {mg : Str → Option Value} : ∀ (x : Str) (i : Int), ([] : List (Str × Int)).lookup x = some i → ∃ u, mg x = some (.int i u) := fun _ _ h => nomatch h
theorem cn_cons {mg : Str → Option Value} {a : Str} {v : Int} {u : Tok} {l : List (Str × Int)} (h : mg a = some (.int v u)) (r : ∀ (x : Str) (i : Int), l.lookup x = some i → ∃ u, mg x = some (.int i u)) : ∀ (x : Str) (i : Int), ((a, v) :: l).lookup x = some i → ∃ u, mg x = some (.int i u) := fun x i e => by
  rw [List.lookup_cons] at e
  split at e
  · rename_i hx
    cases e
    have : x = a := by simpa using hx
    subst this
    exact ⟨u, h⟩
  · exact r x i e
theorem ex_nil {K : PySem.W.Frag} {mg : Str → Option Value} {cl : Nat → Addr} : ∀ (x : Str) (n : Nat), (x, n) ∈ ([] : List (Str × Nat)) → ExF0 K mg x (cl n) := fun _ _ h => nomatch h
theorem ex_cons {K : PySem.W.Frag} {mg : Str → Option Value} {cl : Nat → Addr} {a : Str} {v : Nat} {l : List (Str × Nat)} (h : ExF0 K mg a (cl v)) (r : ∀ (x : Str) (n : Nat), (x, n) ∈ l → ExF0 K mg x (cl n)) : ∀ (x : Str) (n : Nat), (x, n) ∈ (a, v) :: l → ExF0 K mg x (cl n) := fun x n hx => by
  cases hx with
  | head => exact h
  | tail _ hx => exact r x n hx
theorem exF_mk {K : PySem.W.Frag} {h : Heap} {mg : Str → Option Value} {x : Str} {C : Addr} (X : K.In h) (G : h.Ns mainGlobals mg) (a : PySem.W.nsIn K mainGlobals x = some (some (.ref C)))
    (e : PySem.W.excIn K C [.type "ValueError", .type "Exception", .type "BaseException", .type "object"] "ValueError.__new__" = true) (k : PySem.W.keepIn K (.ref C) = true) (b : PySem.W.subIn K (.ref C) (.type "BaseException") = some true) (t : PySem.W.typeIn K (.ref C) = some (.type "type")) : ExF0 K mg x C :=
  ⟨PySem.W.mg_of X G a, e, k, b, t⟩
theorem walk_ofC {l : PySem.W.OpenLaw} {n k : Nat} {q : Program} {loose : List Str} {XP : (Str → Option Value) → Heap → Prop} {YP : World → Heap → Prop} {d : DefRec} {K : Params → PySem.W.Frag} {x : Str}
    (hn : l.most = some n) (hn2 : n ≤ 63) (hdf : d.params.defaults = []) (hr : Room k callerA)
    (hi : importsNone q = true) (hY : ∀ (w : World) (h : Heap), YP w h → (K w.params).In h)
    (F : ∀ (w : World) (mg : Str → Option Value) (fa : Addr) (h : Heap), (K w.params).In h → h.Ns mainGlobals mg → mg d.name = some (.ref fa) →
      ∃ (cl : Nat → Addr) (fd : FuncData), noLst (K w.params) = true ∧ (∀ (s : Shared) (u : Value), BindsTo s fd ⟨[u], []⟩ [(x, u)]) ∧
        ∀ base : Heap, (K w.params).In base → base.Ns mainGlobals mg → SmB base → FnG l.prog w (K w.params) mg base k fa fd [x] (spE rmD cl Elaw)) :
    PySem.W.WalkO q loose XP YP l.row.toRowW d [] (fun f vs => PySem.call f vs) := by
  refine Att.attach_call hn hdf fun w s₀ s₁ mg mb fa o pm cd doc a vs ns G Y ho hd hcd hmg hobj hints hlen hg => ?_
  have KX := hY w _ Y
  obtain ⟨cl, fd, hno, hb, hF⟩ := F w mg fa _ KX G.T.g hmg
  obtain ⟨mm, hmm, _⟩ := (G.T.seer hi).mods
  exact lawG (hsm := hmm) KX G.T.g G.T.b G.T.builtins G.T.nolimit hg hobj hints (Nat.le_trans (Nat.le_trans hlen hn2) (by decide)) hr (noLst_at hno KX hobj) hF hb fun H hS => law_sp (Nat.le_trans hlen hn2) hS
end Ac
namespace Ac
open PySem PySem.Spec PyProof.Rows L2
def trlaw_r1 : Sms Unit :=
  (.cons (.one (.asg 7 (.bi .list (.cons (.var 6) .nil))))
    (.cons (.one (.app 6 (.int 0)))
    (.cons (.ite (.or (.cmp .NotEq (.call "fewest_arcs" Sfewest_arcs (.cons (.var 4) .nil)) (.var 7)) (.cmp .NotEq (.var 4) (.var 3)))
    (.cons (.one (.ret (.bl false)))
    .nil)
    .nil)
    .nil)))
def trlaw_r2 : Sms Unit :=
  (.cons (.one (.asg 4 (.call "_law_copy" S_law_copy (.cons (.var 3) .nil))))
    (.cons (.one (.asg 5 (.call "_law_fewest" S_law_fewest (.cons (.var 3) .nil))))
    (.cons (.one (.asg 6 (.call "fewest_arcs" Sfewest_arcs (.cons (.var 4) .nil))))
    (.cons (.ite (.isn true (.var 5))
    (.cons (.ite (.or (.isn false (.var 6)) (.cmp .NotEq (.var 4) (.var 3)))
    (.cons (.one (.ret (.bl false)))
    .nil)
    .nil)
    .nil)
    (.cons (.ite (.or (.nt (.call "_law_rising" S_law_rising (.cons (.var 6) (.cons (.bi .len (.cons (.ix (.var 3) (.int 1)) .nil)) .nil)))) (.or (.cmp .NotEq (.bi .len (.cons (.var 6) .nil)) (.var 5)) (.nt (.call "_law_covers" S_law_covers (.cons (.var 3) (.cons (.var 6) .nil))))))
    (.cons (.one (.ret (.bl false)))
    .nil)
    .nil)
    trlaw_r1))
    .nil))))
def trlaw_b1 : Sms Unit :=
  (.cons (.one (.asg 2 (.calE "_law_store" E_law_store (.cons (.call "_law_cell" S_law_cell (.cons (.var 0) (.cons (.var 1) .nil))) .nil))))
    (.cons (.one (.asg 3 (.calE "_law_ring" E_law_ring (.cons (.var 2) .nil))))
    (.cons (.ite (.cmp .Gt (.calE "_law_take" E_law_take (.cons (.var 2) (.cons (.int 3) .nil))) (.int 0))
    (.cons (.one (.asg 3 (.calE "_law_filled" E_law_filled (.cons (.var 2) (.cons (.var 3) .nil)))))
    .nil)
    .nil)
    trlaw_r2)))
def trlaw : Sms Unit :=
  (.cons (.for (.nm 1) (.rng (.cons (.bi .min2 (.cons (.bi .max2 (.cons (.bi .len (.cons (.var 0) .nil)) (.cons (.int 3) .nil))) (.cons (.int 12) .nil))) .nil))
    trlaw_b1)
    (.cons (.one (.ret (.an (.isn true (.call "fewest_arcs" Sfewest_arcs (.cons (.tp (.cons (.int 3) (.cons (.ls .nil) .nil))) .nil))) (.cmp .In (.call "fewest_arcs" Sfewest_arcs (.cons (.tp (.cons (.int 1) (.cons (.ls (.cons (.tp (.cons (.int 0) (.cons (.int 1) .nil))) (.cons (.tp (.cons (.int 0) (.cons (.int 1) .nil))) .nil))) .nil))) .nil)) (.tp (.cons (.ls (.cons (.int 0) .nil)) (.cons (.ls (.cons (.int 1) .nil)) .nil)))))))
    .nil))

theorem law_r1 {n : Int} {as : List (Int × Int)} {x0 x1 x2 x5 x7 : Option Val} {K : Kn Unit} {u : Unit} (ok : RingOk n as) (hc : Cvd n as) (hl : (faL n as).length ≤ 40)
    (hK : ∀ x4 x5 x6 x7 : Option Val, K.nx [x0, x1, x2, some (.dat (ringD n as)), x4, x5, x6, x7] u) :
    wSs trlaw_r1 [x0, x1, x2, some (.dat (ringD n as)), some (.dat (ringD n as)), x5, some (.own ((faL n as).map .int)), x7] u K := by
  unfold trlaw_r1
  simp only [wSs, wS, w1, wT, wE, wA, wX, wV, wP, wC, opn, rdO_d, rdO_o, asD_d, asD_n, KQY, entry, look, put, slotV, argsOk, frzA, frzV, sv_i, sv_b, sv_s, sv_0, sv_l, sv_t, sv_d, sv_n, List.map, List.length, List.replicate, List.cons_append, List.nil_append, Nat.sub_self, biD, isD_1, boolD_b, cmpD, relD_i, opD, addD_i, addD_l, subD_i, intD_i, lenD_l, lenD_t, listD_l, listD_t, tupleD_l, int2D_i, absD_i, toIntD_i, toIntD_b, eqD_i, eqD_b, eqD_s, rngD_1, rngD_2, seqD_l, seqD_t, lstD_l, ixX_l, ixX_t, negX_i, slX_l, rvX_l, repX_i, intX_i, ixD_0, ixD_1, ixD_2, true_and, and_true, ite_self]
  refine ⟨by rw [List.length_map]; unfold big; omega, call_fewest_arcs ok hc ?_⟩
  try simp only [wSs, wS, w1, wT, wE, wA, wX, wV, wP, wC, opn, rdO_d, rdO_o, asD_d, asD_n, KQY, entry, look, put, slotV, argsOk, frzA, frzV, sv_i, sv_b, sv_s, sv_0, sv_l, sv_t, sv_d, sv_n, List.map, List.length, List.replicate, List.cons_append, List.nil_append, Nat.sub_self, biD, isD_1, boolD_b, cmpD, relD_i, opD, addD_i, addD_l, subD_i, intD_i, lenD_l, lenD_t, listD_l, listD_t, tupleD_l, int2D_i, absD_i, toIntD_i, toIntD_b, eqD_i, eqD_b, eqD_s, rngD_1, rngD_2, seqD_l, seqD_t, lstD_l, ixX_l, ixX_t, negX_i, slX_l, rvX_l, repX_i, intX_i, ixD_0, ixD_1, ixD_2, true_and, and_true, ite_self, Bool.false_eq_true, if_false, if_true, Bool.not_true, Bool.not_false, ixR0, ixR1, sv_r]
  refine eqD_self (okc_ints _) ?_
  try simp only [wSs, wS, w1, wT, wE, wA, wX, wV, wP, wC, opn, rdO_d, rdO_o, asD_d, asD_n, KQY, entry, look, put, slotV, argsOk, frzA, frzV, sv_i, sv_b, sv_s, sv_0, sv_l, sv_t, sv_d, sv_n, List.map, List.length, List.replicate, List.cons_append, List.nil_append, Nat.sub_self, biD, isD_1, boolD_b, cmpD, relD_i, opD, addD_i, addD_l, subD_i, intD_i, lenD_l, lenD_t, listD_l, listD_t, tupleD_l, int2D_i, absD_i, toIntD_i, toIntD_b, eqD_i, eqD_b, eqD_s, rngD_1, rngD_2, seqD_l, seqD_t, lstD_l, ixX_l, ixX_t, negX_i, slX_l, rvX_l, repX_i, intX_i, ixD_0, ixD_1, ixD_2, true_and, and_true, ite_self, Bool.false_eq_true, if_false, if_true, Bool.not_true, Bool.not_false, ixR0, ixR1, sv_r]
  refine eqD_self (okc_ring n as) ?_
  try simp only [wSs, wS, w1, wT, wE, wA, wX, wV, wP, wC, opn, rdO_d, rdO_o, asD_d, asD_n, KQY, entry, look, put, slotV, argsOk, frzA, frzV, sv_i, sv_b, sv_s, sv_0, sv_l, sv_t, sv_d, sv_n, List.map, List.length, List.replicate, List.cons_append, List.nil_append, Nat.sub_self, biD, isD_1, boolD_b, cmpD, relD_i, opD, addD_i, addD_l, subD_i, intD_i, lenD_l, lenD_t, listD_l, listD_t, tupleD_l, int2D_i, absD_i, toIntD_i, toIntD_b, eqD_i, eqD_b, eqD_s, rngD_1, rngD_2, seqD_l, seqD_t, lstD_l, ixX_l, ixX_t, negX_i, slX_l, rvX_l, repX_i, intX_i, ixD_0, ixD_1, ixD_2, true_and, and_true, ite_self, Bool.false_eq_true, if_false, if_true, Bool.not_true, Bool.not_false, ixR0, ixR1, sv_r]
  exact hK _ _ _ _
theorem law_r2 {n : Int} {as : List (Int × Int)} {x0 x1 x2 x4 x5 x6 x7 : Option Val} {K : Kn Unit} {u : Unit} (ok : RingOk n as)
    (hK : ∀ x4 x5 x6 x7 : Option Val, K.nx [x0, x1, x2, some (.dat (ringD n as)), x4, x5, x6, x7] ()) :
    wSs trlaw_r2 [x0, x1, x2, some (.dat (ringD n as)), x4, x5, x6, x7] u K := by
  have hlen := ok.len
  unfold trlaw_r2
  simp only [wSs, wS, w1, wT, wE, wA, wX, wV, wP, wC, opn, rdO_d, rdO_o, asD_d, asD_n, KQY, entry, look, put, slotV, argsOk, frzA, frzV, sv_i, sv_b, sv_s, sv_0, sv_l, sv_t, sv_d, sv_n, List.map, List.length, List.replicate, List.cons_append, List.nil_append, Nat.sub_self, biD, isD_1, boolD_b, cmpD, relD_i, opD, addD_i, addD_l, subD_i, intD_i, lenD_l, lenD_t, listD_l, listD_t, tupleD_l, int2D_i, absD_i, toIntD_i, toIntD_b, eqD_i, eqD_b, eqD_s, rngD_1, rngD_2, seqD_l, seqD_t, lstD_l, ixX_l, ixX_t, negX_i, slX_l, rvX_l, repX_i, intX_i, ixD_0, ixD_1, ixD_2, true_and, and_true, ite_self]
  refine ⟨(n, as), rfl, trivial, ?_⟩
  try simp only [wSs, wS, w1, wT, wE, wA, wX, wV, wP, wC, opn, rdO_d, rdO_o, asD_d, asD_n, KQY, entry, look, put, slotV, argsOk, frzA, frzV, sv_i, sv_b, sv_s, sv_0, sv_l, sv_t, sv_d, sv_n, List.map, List.length, List.replicate, List.cons_append, List.nil_append, Nat.sub_self, biD, isD_1, boolD_b, cmpD, relD_i, opD, addD_i, addD_l, subD_i, intD_i, lenD_l, lenD_t, listD_l, listD_t, tupleD_l, int2D_i, absD_i, toIntD_i, toIntD_b, eqD_i, eqD_b, eqD_s, rngD_1, rngD_2, seqD_l, seqD_t, lstD_l, ixX_l, ixX_t, negX_i, slX_l, rvX_l, repX_i, intX_i, ixD_0, ixD_1, ixD_2, true_and, and_true, ite_self, Bool.false_eq_true, if_false, if_true, Bool.not_true, Bool.not_false, ixR0, ixR1, sv_r]
  by_cases hc : Cvd n as
  · obtain ⟨hfew, hris, ks, hks, hcov⟩ := faL_ok ok hc
    refine call_lfewest ok hfew ?_
    try simp only [wSs, wS, w1, wT, wE, wA, wX, wV, wP, wC, opn, rdO_d, rdO_o, asD_d, asD_n, KQY, entry, look, put, slotV, argsOk, frzA, frzV, sv_i, sv_b, sv_s, sv_0, sv_l, sv_t, sv_d, sv_n, List.map, List.length, List.replicate, List.cons_append, List.nil_append, Nat.sub_self, biD, isD_1, boolD_b, cmpD, relD_i, opD, addD_i, addD_l, subD_i, intD_i, lenD_l, lenD_t, listD_l, listD_t, tupleD_l, int2D_i, absD_i, toIntD_i, toIntD_b, eqD_i, eqD_b, eqD_s, rngD_1, rngD_2, seqD_l, seqD_t, lstD_l, ixX_l, ixX_t, negX_i, slX_l, rvX_l, repX_i, intX_i, ixD_0, ixD_1, ixD_2, true_and, and_true, ite_self, Bool.false_eq_true, if_false, if_true, Bool.not_true, Bool.not_false, ixR0, ixR1, sv_r]
    refine call_fewest_arcs ok hc ?_
    have hkl : (faL n as).length = ks.length := by rw [hks, natI_len]
    have hlt : ks.Pairwise (· < ·) := by
      rw [hks] at hris
      unfold natI at hris
      rw [List.pairwise_map] at hris
      exact hris.imp fun h => by omega
    have hk20 : ks.length ≤ 20 := by
      have := nodup_len (l := ks) (P := List.range as.length) (hlt.imp fun h => by omega) fun k hk => List.mem_range.mpr (hcov.1 k hk)
      rw [List.length_range] at this
      omega
    have hmd : (faL n as).map PyData.int = ks.map natD := by rw [hks, natI_D]
    try simp only [wSs, wS, w1, wT, wE, wA, wX, wV, wP, wC, opn, rdO_d, rdO_o, asD_d, asD_n, KQY, entry, look, put, slotV, argsOk, frzA, frzV, sv_i, sv_b, sv_s, sv_0, sv_l, sv_t, sv_d, sv_n, List.map, List.length, List.replicate, List.cons_append, List.nil_append, Nat.sub_self, biD, isD_1, boolD_b, cmpD, relD_i, opD, addD_i, addD_l, subD_i, intD_i, lenD_l, lenD_t, listD_l, listD_t, tupleD_l, int2D_i, absD_i, toIntD_i, toIntD_b, eqD_i, eqD_b, eqD_s, rngD_1, rngD_2, seqD_l, seqD_t, lstD_l, ixX_l, ixX_t, negX_i, slX_l, rvX_l, repX_i, intX_i, ixD_0, ixD_1, ixD_2, true_and, and_true, ite_self, Bool.false_eq_true, if_false, if_true, Bool.not_true, Bool.not_false, ixR0, ixR1, sv_r]
    simp only [noneD, Bool.false_eq_true, if_false, wSs, wS, w1, wT, wE, wA, wX, wV, wP, wC, opn, rdO_d, rdO_o, asD_d, asD_n, KQY, entry, look, put, slotV, argsOk, frzA, frzV, sv_i, sv_b, sv_s, sv_0, sv_l, sv_t, sv_d, sv_n, List.map, List.length, List.replicate, List.cons_append, List.nil_append, Nat.sub_self, biD, isD_1, boolD_b, cmpD, relD_i, opD, addD_i, addD_l, subD_i, intD_i, lenD_l, lenD_t, listD_l, listD_t, tupleD_l, int2D_i, absD_i, toIntD_i, toIntD_b, eqD_i, eqD_b, eqD_s, rngD_1, rngD_2, seqD_l, seqD_t, lstD_l, ixX_l, ixX_t, negX_i, slX_l, rvX_l, repX_i, intX_i, ixD_0, ixD_1, ixD_2, true_and, and_true, ite_self, ixR0, ixR1]
    try simp only [List.length_map]
    refine call_rising (show ((faL n as).map PyData.int).length ≤ 90000 by rw [List.length_map]; omega) ?_
    have er : risD (.list ((faL n as).map .int)) as.length = true := by
      rw [risD_ints]
      refine ⟨fun m hm => ?_, hris⟩
      rw [hks] at hm
      obtain ⟨k, hk, rfl⟩ := mem_natI.mp hm
      have := hcov.1 k hk
      omega
    rw [er]
    try simp only [wSs, wS, w1, wT, wE, wA, wX, wV, wP, wC, opn, rdO_d, rdO_o, asD_d, asD_n, KQY, entry, look, put, slotV, argsOk, frzA, frzV, sv_i, sv_b, sv_s, sv_0, sv_l, sv_t, sv_d, sv_n, List.map, List.length, List.replicate, List.cons_append, List.nil_append, Nat.sub_self, biD, isD_1, boolD_b, cmpD, relD_i, opD, addD_i, addD_l, subD_i, intD_i, lenD_l, lenD_t, listD_l, listD_t, tupleD_l, int2D_i, absD_i, toIntD_i, toIntD_b, eqD_i, eqD_b, eqD_s, rngD_1, rngD_2, seqD_l, seqD_t, lstD_l, ixX_l, ixX_t, negX_i, slX_l, rvX_l, repX_i, intX_i, ixD_0, ixD_1, ixD_2, true_and, and_true, ite_self, Bool.false_eq_true, if_false, if_true, Bool.not_true, Bool.not_false, ixR0, ixR1, sv_r]
    simp only [List.length_map, decide_true, Bool.not_true, Bool.false_eq_true, if_false]
    rw [hmd]
    refine call_lcovers ok hcov.1 (by omega) ?_
    rw [cvB_iff.mpr hcov.2, ← hmd]
    try simp only [wSs, wS, w1, wT, wE, wA, wX, wV, wP, wC, opn, rdO_d, rdO_o, asD_d, asD_n, KQY, entry, look, put, slotV, argsOk, frzA, frzV, sv_i, sv_b, sv_s, sv_0, sv_l, sv_t, sv_d, sv_n, List.map, List.length, List.replicate, List.cons_append, List.nil_append, Nat.sub_self, biD, isD_1, boolD_b, cmpD, relD_i, opD, addD_i, addD_l, subD_i, intD_i, lenD_l, lenD_t, listD_l, listD_t, tupleD_l, int2D_i, absD_i, toIntD_i, toIntD_b, eqD_i, eqD_b, eqD_s, rngD_1, rngD_2, seqD_l, seqD_t, lstD_l, ixX_l, ixX_t, negX_i, slX_l, rvX_l, repX_i, intX_i, ixD_0, ixD_1, ixD_2, true_and, and_true, ite_self, Bool.false_eq_true, if_false, if_true, Bool.not_true, Bool.not_false, ixR0, ixR1, sv_r]
    exact law_r1 ok hc (by omega) hK
  · refine call_lfewest0 ok hc ?_
    try simp only [wSs, wS, w1, wT, wE, wA, wX, wV, wP, wC, opn, rdO_d, rdO_o, asD_d, asD_n, KQY, entry, look, put, slotV, argsOk, frzA, frzV, sv_i, sv_b, sv_s, sv_0, sv_l, sv_t, sv_d, sv_n, List.map, List.length, List.replicate, List.cons_append, List.nil_append, Nat.sub_self, biD, isD_1, boolD_b, cmpD, relD_i, opD, addD_i, addD_l, subD_i, intD_i, lenD_l, lenD_t, listD_l, listD_t, tupleD_l, int2D_i, absD_i, toIntD_i, toIntD_b, eqD_i, eqD_b, eqD_s, rngD_1, rngD_2, seqD_l, seqD_t, lstD_l, ixX_l, ixX_t, negX_i, slX_l, rvX_l, repX_i, intX_i, ixD_0, ixD_1, ixD_2, true_and, and_true, ite_self, Bool.false_eq_true, if_false, if_true, Bool.not_true, Bool.not_false, ixR0, ixR1, sv_r]
    refine call_fewest_arcs0 ok hc ?_
    try simp only [wSs, wS, w1, wT, wE, wA, wX, wV, wP, wC, opn, rdO_d, rdO_o, asD_d, asD_n, KQY, entry, look, put, slotV, argsOk, frzA, frzV, sv_i, sv_b, sv_s, sv_0, sv_l, sv_t, sv_d, sv_n, List.map, List.length, List.replicate, List.cons_append, List.nil_append, Nat.sub_self, biD, isD_1, boolD_b, cmpD, relD_i, opD, addD_i, addD_l, subD_i, intD_i, lenD_l, lenD_t, listD_l, listD_t, tupleD_l, int2D_i, absD_i, toIntD_i, toIntD_b, eqD_i, eqD_b, eqD_s, rngD_1, rngD_2, seqD_l, seqD_t, lstD_l, ixX_l, ixX_t, negX_i, slX_l, rvX_l, repX_i, intX_i, ixD_0, ixD_1, ixD_2, true_and, and_true, ite_self, Bool.false_eq_true, if_false, if_true, Bool.not_true, Bool.not_false, ixR0, ixR1, sv_r]
    simp only [noneD, Bool.false_eq_true, if_false, if_true, Bool.not_true, wSs, wS, w1, wT, wE, wA, wX, wV, wP, wC, opn, rdO_d, rdO_o, asD_d, asD_n, KQY, entry, look, put, slotV, argsOk, frzA, frzV, sv_i, sv_b, sv_s, sv_0, sv_l, sv_t, sv_d, sv_n, List.map, List.length, List.replicate, List.cons_append, List.nil_append, Nat.sub_self, biD, isD_1, boolD_b, cmpD, relD_i, opD, addD_i, addD_l, subD_i, intD_i, lenD_l, lenD_t, listD_l, listD_t, tupleD_l, int2D_i, absD_i, toIntD_i, toIntD_b, eqD_i, eqD_b, eqD_s, rngD_1, rngD_2, seqD_l, seqD_t, lstD_l, ixX_l, ixX_t, negX_i, slX_l, rvX_l, repX_i, intX_i, ixD_0, ixD_1, ixD_2, true_and, and_true, ite_self]
    refine eqD_self (okc_ring n as) ?_
    try simp only [wSs, wS, w1, wT, wE, wA, wX, wV, wP, wC, opn, rdO_d, rdO_o, asD_d, asD_n, KQY, entry, look, put, slotV, argsOk, frzA, frzV, sv_i, sv_b, sv_s, sv_0, sv_l, sv_t, sv_d, sv_n, List.map, List.length, List.replicate, List.cons_append, List.nil_append, Nat.sub_self, biD, isD_1, boolD_b, cmpD, relD_i, opD, addD_i, addD_l, subD_i, intD_i, lenD_l, lenD_t, listD_l, listD_t, tupleD_l, int2D_i, absD_i, toIntD_i, toIntD_b, eqD_i, eqD_b, eqD_s, rngD_1, rngD_2, seqD_l, seqD_t, lstD_l, ixX_l, ixX_t, negX_i, slX_l, rvX_l, repX_i, intX_i, ixD_0, ixD_1, ixD_2, true_and, and_true, ite_self, Bool.false_eq_true, if_false, if_true, Bool.not_true, Bool.not_false, ixR0, ixR1, sv_r]
    exact hK _ _ _ _
theorem okA : RingOk 3 [] := ⟨by decide, by decide, by decide, fun a h => nomatch h⟩
theorem okB : RingOk 1 [(0, 1), (0, 1)] := ⟨by decide, by decide, by decide, fun a h => by
  simp at h
  rcases h with rfl
  exact ⟨by decide, by decide, by decide, by decide⟩⟩
theorem cvdA : ¬ Cvd 3 [] := fun h => h 0 (by decide) (by decide) rfl
theorem covB : CovS 1 [(0, 1), (0, 1)] [0] := ⟨fun k hk => by simp at hk; subst hk; decide, fun x x0 x1 => by
  have e : x = 0 := by omega
  subst e
  exact ⟨0, by simp, by decide⟩⟩
theorem faB : faL 1 [(0, 1), (0, 1)] = [0] ∨ faL 1 [(0, 1), (0, 1)] = [1] := by
  obtain ⟨hfew, hris, ks, hks, hcov⟩ := faL_ok okB (cvd_of covB)
  have h1 := hfew.le _ covB
  have hkl : (faL 1 [(0, 1), (0, 1)]).length = ks.length := by rw [hks, natI_len]
  rw [hkl] at h1
  cases ks with
  | nil => exact absurd rfl (hcov.ne (by decide))
  | cons k r =>
    cases r with
    | cons => simp at h1
    | nil =>
      have : k < 2 := hcov.1 k List.mem_cons_self
      have e : k = 0 ∨ k = 1 := by omega
      rw [hks]
      rcases e with rfl | rfl
      · exact .inl rfl
      · exact .inr rfl
theorem w_law : WOkE Elaw 1 8 trlaw := fun ws s Q Y h => by
  obtain ⟨ns, rfl, hl, h⟩ := Elaw_run h
  refine ⟨rfl, ?_⟩
  unfold trlaw
  simp only [wSs, wS, w1, wT, wE, wA, wX, wV, wP, wC, opn, rdO_d, rdO_o, asD_d, asD_n, KQY, entry, look, put, slotV, argsOk, frzA, frzV, sv_i, sv_b, sv_s, sv_0, sv_l, sv_t, sv_d, sv_n, List.map, List.length, List.replicate, List.cons_append, List.nil_append, Nat.sub_self, biD, isD_1, boolD_b, cmpD, relD_i, opD, addD_i, addD_l, subD_i, intD_i, lenD_l, lenD_t, listD_l, listD_t, tupleD_l, int2D_i, absD_i, toIntD_i, toIntD_b, eqD_i, eqD_b, eqD_s, rngD_1, rngD_2, seqD_l, seqD_t, lstD_l, ixX_l, ixX_t, negX_i, slX_l, rvX_l, repX_i, intX_i, ixD_0, ixD_1, ixD_2, true_and, and_true, ite_self, KE2, wJ, List.length_map]
  have hmn : (if (12 : Int) < (if (3 : Int) > (ns.length : Nat) then 3 else ((ns.length : Nat) : Int)) then 12 else (if (3 : Int) > (ns.length : Nat) then 3 else ((ns.length : Nat) : Int))) ≤ 12 ∧ 0 ≤ (if (12 : Int) < (if (3 : Int) > (ns.length : Nat) then 3 else ((ns.length : Nat) : Int)) then 12 else (if (3 : Int) > (ns.length : Nat) then 3 else ((ns.length : Nat) : Int))) := by split <;> split <;> omega
  generalize (if (12 : Int) < (if (3 : Int) > (ns.length : Nat) then 3 else ((ns.length : Nat) : Int)) then 12 else (if (3 : Int) > (ns.length : Nat) then 3 else ((ns.length : Nat) : Int))) = mn at hmn
  refine ⟨⟨by omega, by omega⟩, by rw [List.length_range]; unfold big; omega, ?_⟩
  refine fLoop_mp (g := fun i : Nat => PyData.int (i : Nat)) (fun done rest Γ _ => ∃ x1 x2 x3 x4 x5 x6 x7 : Option Val, Γ = [some (.dat (.list (ns.map .int))), x1, x2, x3, x4, x5, x6, x7] ∧ ∀ i ∈ rest, i < 12) ?_ ?_ _ [] _ _ ⟨_, _, _, _, _, _, _, rfl, fun i hi => by have := List.mem_range.mp hi; omega⟩
  · rintro done Γ u ⟨x1, x2, x3, x4, x5, x6, x7, rfl, _⟩
    refine ⟨by unfold big; decide, by unfold big; decide, call_fewest_arcs0 (as := []) okA cvdA ?_⟩
    try simp only [wSs, wS, w1, wT, wE, wA, wX, wV, wP, wC, opn, rdO_d, rdO_o, asD_d, asD_n, KQY, entry, look, put, slotV, argsOk, frzA, frzV, sv_i, sv_b, sv_s, sv_0, sv_l, sv_t, sv_d, sv_n, List.map, List.length, List.replicate, List.cons_append, List.nil_append, Nat.sub_self, biD, isD_1, boolD_b, cmpD, relD_i, opD, addD_i, addD_l, subD_i, intD_i, lenD_l, lenD_t, listD_l, listD_t, tupleD_l, int2D_i, absD_i, toIntD_i, toIntD_b, eqD_i, eqD_b, eqD_s, rngD_1, rngD_2, seqD_l, seqD_t, lstD_l, ixX_l, ixX_t, negX_i, slX_l, rvX_l, repX_i, intX_i, ixD_0, ixD_1, ixD_2, true_and, and_true, ite_self, Bool.false_eq_true, if_false, if_true, Bool.not_true, Bool.not_false, ixR0, ixR1, sv_r]
    simp only [noneD, if_true, wSs, wS, w1, wT, wE, wA, wX, wV, wP, wC, opn, rdO_d, rdO_o, asD_d, asD_n, KQY, entry, look, put, slotV, argsOk, frzA, frzV, sv_i, sv_b, sv_s, sv_0, sv_l, sv_t, sv_d, sv_n, List.map, List.length, List.replicate, List.cons_append, List.nil_append, Nat.sub_self, biD, isD_1, boolD_b, cmpD, relD_i, opD, addD_i, addD_l, subD_i, intD_i, lenD_l, lenD_t, listD_l, listD_t, tupleD_l, int2D_i, absD_i, toIntD_i, toIntD_b, eqD_i, eqD_b, eqD_s, rngD_1, rngD_2, seqD_l, seqD_t, lstD_l, ixX_l, ixX_t, negX_i, slX_l, rvX_l, repX_i, intX_i, ixD_0, ixD_1, ixD_2, true_and, and_true, ite_self]
    refine ⟨by unfold big; decide, by unfold big; decide, by unfold big; decide, by unfold big; decide, call_fewest_arcs (as := [(0, 1), (0, 1)]) okB (cvd_of covB) ?_⟩
    try simp only [wSs, wS, w1, wT, wE, wA, wX, wV, wP, wC, opn, rdO_d, rdO_o, asD_d, asD_n, KQY, entry, look, put, slotV, argsOk, frzA, frzV, sv_i, sv_b, sv_s, sv_0, sv_l, sv_t, sv_d, sv_n, List.map, List.length, List.replicate, List.cons_append, List.nil_append, Nat.sub_self, biD, isD_1, boolD_b, cmpD, relD_i, opD, addD_i, addD_l, subD_i, intD_i, lenD_l, lenD_t, listD_l, listD_t, tupleD_l, int2D_i, absD_i, toIntD_i, toIntD_b, eqD_i, eqD_b, eqD_s, rngD_1, rngD_2, seqD_l, seqD_t, lstD_l, ixX_l, ixX_t, negX_i, slX_l, rvX_l, repX_i, intX_i, ixD_0, ixD_1, ixD_2, true_and, and_true, ite_self, Bool.false_eq_true, if_false, if_true, Bool.not_true, Bool.not_false, ixR0, ixR1, sv_r]
    refine ⟨by unfold big; decide, by unfold big; decide, by unfold big; decide, ?_⟩
    simp only [memD]
    rcases faB with e | e
    · rw [e]
      exact .inr ⟨trivial, by decide, by decide, h⟩
    · rw [e]
      exact .inr ⟨trivial, by decide, by decide, h⟩
  · rintro done i r Γ u K' ⟨x1, x2, x3, x4, x5, x6, x7, rfl, hd⟩ hnx hct hbk hrt hex
    have hi := hd i List.mem_cons_self
    unfold trlaw_b1
    simp only [bindT, wSs, wS, w1, wT, wE, wA, wX, wV, wP, wC, opn, rdO_d, rdO_o, asD_d, asD_n, KQY, entry, look, put, slotV, argsOk, frzA, frzV, sv_i, sv_b, sv_s, sv_0, sv_l, sv_t, sv_d, sv_n, List.map, List.length, List.replicate, List.cons_append, List.nil_append, Nat.sub_self, biD, isD_1, boolD_b, cmpD, relD_i, opD, addD_i, addD_l, subD_i, intD_i, lenD_l, lenD_t, listD_l, listD_t, tupleD_l, int2D_i, absD_i, toIntD_i, toIntD_b, eqD_i, eqD_b, eqD_s, rngD_1, rngD_2, seqD_l, seqD_t, lstD_l, ixX_l, ixX_t, negX_i, slX_l, rvX_l, repX_i, intX_i, ixD_0, ixD_1, ixD_2, true_and, and_true, ite_self]
    refine call_cell (by omega) (by omega) fun c => ?_
    try simp only [wSs, wS, w1, wT, wE, wA, wX, wV, wP, wC, opn, rdO_d, rdO_o, asD_d, asD_n, KQY, entry, look, put, slotV, argsOk, frzA, frzV, sv_i, sv_b, sv_s, sv_0, sv_l, sv_t, sv_d, sv_n, List.map, List.length, List.replicate, List.cons_append, List.nil_append, Nat.sub_self, biD, isD_1, boolD_b, cmpD, relD_i, opD, addD_i, addD_l, subD_i, intD_i, lenD_l, lenD_t, listD_l, listD_t, tupleD_l, int2D_i, absD_i, toIntD_i, toIntD_b, eqD_i, eqD_b, eqD_s, rngD_1, rngD_2, seqD_l, seqD_t, lstD_l, ixX_l, ixX_t, negX_i, slX_l, rvX_l, repX_i, intX_i, ixD_0, ixD_1, ixD_2, true_and, and_true, ite_self, Bool.false_eq_true, if_false, if_true, Bool.not_true, Bool.not_false, ixR0, ixR1, sv_r]
    simp only [run_storeC, wSs, wS, w1, wT, wE, wA, wX, wV, wP, wC, opn, rdO_d, rdO_o, asD_d, asD_n, KQY, entry, look, put, slotV, argsOk, frzA, frzV, sv_i, sv_b, sv_s, sv_0, sv_l, sv_t, sv_d, sv_n, List.map, List.length, List.replicate, List.cons_append, List.nil_append, Nat.sub_self, biD, isD_1, boolD_b, cmpD, relD_i, opD, addD_i, addD_l, subD_i, intD_i, lenD_l, lenD_t, listD_l, listD_t, tupleD_l, int2D_i, absD_i, toIntD_i, toIntD_b, eqD_i, eqD_b, eqD_s, rngD_1, rngD_2, seqD_l, seqD_t, lstD_l, ixX_l, ixX_t, negX_i, slX_l, rvX_l, repX_i, intX_i, ixD_0, ixD_1, ixD_2, true_and, and_true, ite_self, run_ringC, eq_self]
    intro n as ok
    simp only [run_takeC, eq_self, true_and, wSs, wS, w1, wT, wE, wA, wX, wV, wP, wC, opn, rdO_d, rdO_o, asD_d, asD_n, KQY, entry, look, put, slotV, argsOk, frzA, frzV, sv_i, sv_b, sv_s, sv_0, sv_l, sv_t, sv_d, sv_n, List.map, List.length, List.replicate, List.cons_append, List.nil_append, Nat.sub_self, biD, isD_1, boolD_b, cmpD, relD_i, opD, addD_i, addD_l, subD_i, intD_i, lenD_l, lenD_t, listD_l, listD_t, tupleD_l, int2D_i, absD_i, toIntD_i, toIntD_b, eqD_i, eqD_b, eqD_s, rngD_1, rngD_2, seqD_l, seqD_t, lstD_l, ixX_l, ixX_t, negX_i, slX_l, rvX_l, repX_i, intX_i, ixD_0, ixD_1, ixD_2, true_and, and_true, ite_self]
    refine ⟨⟨by decide, by decide⟩, fun t t0 t1 => ?_⟩
    by_cases ht : 0 < t
    · simp only [ht, decide_true, if_true, wSs, wS, w1, wT, wE, wA, wX, wV, wP, wC, opn, rdO_d, rdO_o, asD_d, asD_n, KQY, entry, look, put, slotV, argsOk, frzA, frzV, sv_i, sv_b, sv_s, sv_0, sv_l, sv_t, sv_d, sv_n, List.map, List.length, List.replicate, List.cons_append, List.nil_append, Nat.sub_self, biD, isD_1, boolD_b, cmpD, relD_i, opD, addD_i, addD_l, subD_i, intD_i, lenD_l, lenD_t, listD_l, listD_t, tupleD_l, int2D_i, absD_i, toIntD_i, toIntD_b, eqD_i, eqD_b, eqD_s, rngD_1, rngD_2, seqD_l, seqD_t, lstD_l, ixX_l, ixX_t, negX_i, slX_l, rvX_l, repX_i, intX_i, ixD_0, ixD_1, ixD_2, true_and, and_true, ite_self]
      refine ⟨n, as, rfl, ok, fun bs okb => ?_⟩
      try simp only [wSs, wS, w1, wT, wE, wA, wX, wV, wP, wC, opn, rdO_d, rdO_o, asD_d, asD_n, KQY, entry, look, put, slotV, argsOk, frzA, frzV, sv_i, sv_b, sv_s, sv_0, sv_l, sv_t, sv_d, sv_n, List.map, List.length, List.replicate, List.cons_append, List.nil_append, Nat.sub_self, biD, isD_1, boolD_b, cmpD, relD_i, opD, addD_i, addD_l, subD_i, intD_i, lenD_l, lenD_t, listD_l, listD_t, tupleD_l, int2D_i, absD_i, toIntD_i, toIntD_b, eqD_i, eqD_b, eqD_s, rngD_1, rngD_2, seqD_l, seqD_t, lstD_l, ixX_l, ixX_t, negX_i, slX_l, rvX_l, repX_i, intX_i, ixD_0, ixD_1, ixD_2, true_and, and_true, ite_self, Bool.false_eq_true, if_false, if_true, Bool.not_true, Bool.not_false, ixR0, ixR1, sv_r]
      exact law_r2 okb fun _ _ _ _ => hnx _ _ ⟨_, _, _, _, _, _, _, rfl, fun j hj => hd j (List.mem_cons_of_mem _ hj)⟩
    · simp only [ht, decide_false, Bool.false_eq_true, if_false, wSs, wS, w1, wT, wE, wA, wX, wV, wP, wC, opn, rdO_d, rdO_o, asD_d, asD_n, KQY, entry, look, put, slotV, argsOk, frzA, frzV, sv_i, sv_b, sv_s, sv_0, sv_l, sv_t, sv_d, sv_n, List.map, List.length, List.replicate, List.cons_append, List.nil_append, Nat.sub_self, biD, isD_1, boolD_b, cmpD, relD_i, opD, addD_i, addD_l, subD_i, intD_i, lenD_l, lenD_t, listD_l, listD_t, tupleD_l, int2D_i, absD_i, toIntD_i, toIntD_b, eqD_i, eqD_b, eqD_s, rngD_1, rngD_2, seqD_l, seqD_t, lstD_l, ixX_l, ixX_t, negX_i, slX_l, rvX_l, repX_i, intX_i, ixD_0, ixD_1, ixD_2, true_and, and_true, ite_self]
      exact law_r2 ok fun _ _ _ _ => hnx _ _ ⟨_, _, _, _, _, _, _, rfl, fun j hj => hd j (List.mem_cons_of_mem _ hj)⟩
end Ac
namespace Ac
open PySem PySem.Spec PyProof.Rows L2
def topS (i : Nat) : Stmt := PySem.Challenge.pw_arcpins_k14_fewest_arcs.main.body.getD i (.Pass ⟨0, 0, 0, 0⟩)
abbrev sis_number : Stmt := topS 7
abbrev sis_arc : Stmt := topS 8
abbrev sis_ring : Stmt := topS 9
abbrev sneed_ring : Stmt := topS 10
abbrev sneed_place : Stmt := topS 11
abbrev sholds : Stmt := topS 12
abbrev sarcs_at : Stmt := topS 13
abbrev sreach_from : Stmt := topS 15
abbrev swidest_at : Stmt := topS 16
abbrev scover_from : Stmt := topS 17
abbrev sfewest_arcs : Stmt := topS 18
abbrev s_law_cell : Stmt := topS 20
abbrev s_law_store : Stmt := topS 21
abbrev s_law_take : Stmt := topS 22
abbrev s_law_ring : Stmt := topS 23
abbrev s_law_holds : Stmt := topS 24
abbrev s_law_over : Stmt := topS 25
abbrev s_law_whole : Stmt := topS 26
abbrev s_law_rising : Stmt := topS 27
abbrev s_law_copy : Stmt := topS 28
abbrev s_law_covers : Stmt := topS 29
abbrev s_law_fewest : Stmt := topS 30
abbrev s_law_filled : Stmt := topS 31
abbrev slaw : Stmt := topS 32
/-! ### the store, by hand -/
section
variable {P : Program} {w : World} {K : PySem.W.Frag} {mg : Str → Option Value} {base : Heap} {cl : Nat → Addr}
theorem scTake : FnScope ["store", "many", "told", "one"] ["store", "many"] (defScope s_law_take) := ⟨rfl, rfl, rfl, by decide +kernel, rfl, by decide +kernel, by decide +kernel⟩
theorem ok_law_take {f : Addr} {fd : FuncData} (F : Fun K "_law_take" "_law_take" s_law_take f fd) : FnG P w K mg base 1 f fd ["store", "many"] (spE rmD cl E_law_take) := by
  refine fnG_of F scTake (fun vs H Q E h => ?_) (fun cdv A outer s H vs Q E hr hgd h => ?_)
  · obtain ⟨F0, A0, s0, ws, fh, fz, ok, rl, q⟩ := h
    change (Etake 2).run ws s0 _ _ at q
    rw [Paired.length rl]
    unfold Etake at q
    dsimp only at q
    split at q
    · rfl
    · exact q.elim
  · obtain ⟨F0, A0, s0, ws, fh, fz, ok, rl, q⟩ := h
    change (Etake 2).run ws s0 _ _ at q
    unfold Etake at q
    dsimp only at q
    split at q
    · rename_i t m
      obtain ⟨rfl, ⟨hm, hm2⟩, q⟩ := q
      obtain ⟨d, x, y, z, rfl, hAd, hd⟩ : ∃ d x y z, vs = [.ref d, .int m] ∧ A0 d = some .pool ∧ H d = some (.lst [.int x, .int y, .int z]) := by
        cases rl with
        | cons h1 h2 =>
          cases h2 with
          | cons h2 h3 =>
            cases h3
            cases h2
            obtain ⟨d, k, rfl, hd, ht⟩ := h1
            cases k with
            | pool =>
              obtain ⟨x, y, z, e1⟩ := ok d _ hd
              exact ⟨d, x, y, z, rfl, hd, e1⟩
            | _ => cases ht
      refine ⟨_, pss_cons (ps_if (pt_cmpR op_gt (pe_ix ix_list (pv 0) pe_int (fun _ _ => rfl)) pe_int (nomark _))
          (pss_cons (ps_set (i := 2) scTake.nd rfl (.inl rfl) (pe_op op_mod (pe_ix ix_list (pv 0) pe_int (fun _ _ => rfl)) (pv 1)))
          (pss_cons (ps_asg (pe_op op_fdiv (pe_ix ix_list (pv 0) pe_int (fun _ _ => rfl)) (pv 1)) (pg_sub (pv 0) pe_int L2.set_list))
          (pss_one (ps_ret (pv 2))))) pss_nil)
        (pss_cons (ps_asg (pe_op op_add (pe_ix ix_list (pv 0) pe_int (fun _ _ => rfl)) pe_int) (pg_sub (pv 0) pe_int L2.set_list))
        (pss_cons (ps_set (i := 3) scTake.nd rfl (.inl rfl) (pe_op op_mod (pe_op op_mul (pe_op op_add (pe_ix ix_list (pv 0) pe_int (fun _ _ => rfl)) (pe_op op_mul pe_int (pe_ix ix_list (pv 0) pe_int (fun _ _ => rfl)))) pe_int) pe_int))
        (pss_cons (ps_set (i := 3) scTake.nd rfl (.inl rfl) (pe_op op_mod (pe_op op_mul (pv 3) (pv 3)) pe_int))
        (pss_cons (ps_set (i := 3) scTake.nd rfl (.inl rfl) (pe_op op_mod (pe_op op_mul (pe_op op_add (pv 3) (pe_op op_mul pe_int (pe_ix ix_list (pv 0) pe_int (fun _ _ => rfl)))) pe_int) pe_int))
        (pss_one (ps_ret (pe_op op_mod (pe_op op_fdiv (pv 3) pe_int) (pv 1)))))))), ?_⟩
      have fin : ∀ (r ax ay az : Int), 0 ≤ r → r < m → Q (.int r) (upd H d (.lst [.int ax, .int ay, .int az])) := fun r ax ay az h0 h1 => by
        have keep : ∀ b o, H b = some o → A0 b = none → (upd H d (.lst [.int ax, .int ay, .int az])) b = some o := fun b o e n => by
          rw [upd_ne (fun z => by rw [z, hAd] at n; cases n)]
          exact e
        refine q r h0 h1 (.int r) _ F0 A0 ⟨rmD.le_refl A0, fun b o e n => ⟨keep b o e (Classical.not_not.mp n), n⟩⟩ (Sub.refl F0) (fun b o e => keep b o (fh b o e) (Classical.not_not.mp (fz b o e))) fz (fun _ _ _ => rfl) (okK_upd ok hAd ⟨ax, ay, az, upd_same⟩) (.int r)
      have hdl : SqL K H d [.int x, .int y, .int z] := .inl (.inl hd)
      refine ⟨.ref d, rfl, d, _, 0, .int x, rfl, rfl, hdl, rfl, x, 0, rfl, rfl, _, rfl, ite2 (fun e => ?A) (fun e => ?B)⟩
      case A =>
        refine ⟨.ref d, rfl, d, _, 0, .int x, rfl, rfl, hdl, rfl, .int m, rfl, x, m, rfl, rfl, hm, ?_⟩
        refine ⟨.ref d, rfl, d, _, 0, .int x, rfl, rfl, hdl, rfl, .int m, rfl, x, m, rfl, rfl, ⟨hm, hm2⟩, .ref d, rfl, d, _, 0, 0, rfl, rfl, hd, rfl, ?_⟩
        exact ⟨_, rfl, fin _ (x / m) y z (Int.emod_nonneg _ (by omega)) (Int.emod_lt_of_pos _ hm)⟩
      case B =>
        refine ⟨.ref d, rfl, d, _, 2, .int z, rfl, rfl, hdl, rfl, z, 1, rfl, rfl, .ref d, rfl, d, _, 2, 2, rfl, rfl, hd, rfl, ?_⟩
        have hd2 : SqL K (upd H d (.lst [.int x, .int y, .int (z + 1)])) d [.int x, .int y, .int (z + 1)] := .inl (.inl upd_same)
        refine ⟨.ref d, rfl, d, _, 1, .int y, rfl, rfl, hd2, rfl, .ref d, rfl, d, _, 2, .int (z + 1), rfl, rfl, hd2, rfl, 7919, z + 1, rfl, rfl, .inl ⟨by decide, by decide⟩, y, _, rfl, rfl, _, 48271, rfl, rfl, .inr ⟨by decide, by decide⟩, _, 2147483647, rfl, rfl, by show (0 : Int) < 2147483647; decide, ?_⟩
        have b1 : 0 ≤ (y + 7919 * (z + 1)) * 48271 % 2147483647 := Int.emod_nonneg _ (by decide)
        have b2 : (y + 7919 * (z + 1)) * 48271 % 2147483647 < 2147483647 := Int.emod_lt_of_pos _ (by decide)
        refine ⟨_, rfl, _, rfl, _, _, rfl, rfl, .inl ⟨Int.lt_of_lt_of_le (by decide) b1, Int.lt_trans b2 (by decide)⟩, _, 2147483629, rfl, rfl, by show (0 : Int) < 2147483629; decide, ?_⟩
        refine ⟨_, rfl, .ref d, rfl, d, _, 2, .int (z + 1), rfl, rfl, hd2, rfl, 40692, z + 1, rfl, rfl, .inl ⟨by decide, by decide⟩, _, _, rfl, rfl, _, 69621, rfl, rfl, .inr ⟨by decide, by decide⟩, _, 2147483587, rfl, rfl, by show (0 : Int) < 2147483587; decide, ?_⟩
        refine ⟨_, rfl, _, 8, rfl, rfl, ⟨by show (0 : Int) < 8; decide, by show (8 : Int) < 1073741824; decide⟩, .int m, rfl, _, m, rfl, rfl, hm, ?_⟩
        exact fin _ x y (z + 1) (Int.emod_nonneg _ (by omega)) (Int.emod_lt_of_pos _ hm)
    · exact q.elim
theorem scStore : FnScope ["cell", "great"] ["cell"] (defScope s_law_store) := ⟨rfl, rfl, rfl, by decide +kernel, rfl, by decide +kernel, by decide +kernel⟩
theorem ok_law_store {f : Addr} {fd : FuncData} (F : Fun K "_law_store" "_law_store" s_law_store f fd) : FnG P w K mg base 1 f fd ["cell"] (spE rmD cl E_law_store) := by
  refine fnG_of F scStore (fun vs H Q E h => ?_) (fun cdv A outer s H vs Q E hr hgd h => ?_)
  · obtain ⟨F0, A0, s0, ws, fh, fz, ok, rl, q⟩ := h
    rw [Paired.length rl]
    unfold E_law_store at q
    dsimp only at q
    split at q
    · rfl
    · exact q.elim
  · obtain ⟨F0, A0, s0, ws, fh, fz, ok, rl, q⟩ := h
    unfold E_law_store at q
    dsimp only at q
    split at q
    · rename_i c
      obtain rfl : vs = [.int c] := by
        cases rl with
        | cons h1 h2 =>
          cases h2
          cases h1
          rfl
      refine ⟨_, pss_cons (ps_set (i := 1) scStore.nd rfl (.inl rfl) pe_int)
        (pss_cons (ps_if (pt_cmpR op_ge (pv 0) (pe_op op_pow pe_int pe_int) (nomark _)) (pss_one (ps_set (i := 1) scStore.nd rfl (.inl rfl) (pv 0))) pss_nil)
        (pss_one (ps_ret (pe_lst (pa_cons (pv 1) (pa_cons (pe_op op_mod (pv 0) pe_int) (pa_cons pe_int pa_nil))))))), ?_⟩
      have fin : ∀ (ax ay az : Int) (d : Addr), H d = none → Q (.ref d) (upd H d (.lst [.int ax, .int ay, .int az])) := fun ax ay az d hd => by
        have hAd : A0 d = none := by
          cases e : A0 d with
          | none => rfl
          | some k => exact absurd hd (okK_some (ok d k e))
        refine q (.ref d) _ F0 (newC A0 d) ⟨fun b k hb => ?_, fun b u e n => ⟨upd_sub hd b u e, ?_⟩⟩ (Sub.refl F0) (fun b u e => upd_sub hd b u (fh b u e)) (fun b u e => ?_) (fun _ _ _ => rfl) ?_ ⟨d, .pool, rfl, by unfold newC; rw [if_pos rfl], rfl⟩
        · unfold newC
          rw [if_neg (fun e => by rw [e, hAd] at hb; cases hb)]
          exact hb
        · show ¬ (newC A0 d b ≠ none)
          unfold newC
          rw [if_neg (ne_of_none e hd)]
          exact n
        · show ¬ (newC A0 d b ≠ none)
          unfold newC
          rw [if_neg (ne_of_none (fh b u e) hd)]
          exact fz b u e
        · intro b k hb
          unfold newC at hb
          by_cases e1 : b = d
          · subst e1
            rw [if_pos rfl] at hb
            cases hb
            exact ⟨ax, ay, az, upd_same⟩
          · rw [if_neg e1] at hb
            refine okK_le (fun c j hc => ?_) (okK_same (ok b k hb) (upd_ne e1))
            unfold newC
            rw [if_neg (fun e => by rw [e, hAd] at hc; cases hc)]
            exact hc
      refine ⟨_, rfl, 10, 18, rfl, rfl, ⟨by decide, by decide, by decide⟩, c, _, rfl, rfl, _, rfl, ite2 (fun e => ?_) (fun e => ?_)⟩
      · exact ⟨_, rfl, _, rfl, _, rfl, c, 2147483629, rfl, rfl, by show (0 : Int) < 2147483629; decide, by show 3 ≤ sizeLine; decide, fun d hd => fin _ _ _ d hd⟩
      · exact ⟨_, rfl, _, rfl, c, 2147483629, rfl, rfl, by show (0 : Int) < 2147483629; decide, by show 3 ≤ sizeLine; decide, fun d hd => fin _ _ _ d hd⟩
    · exact q.elim
end
def bnL : List Str := ["len", "min", "max", "sum", "sorted", "list", "tuple", "abs", "int", "str", "isinstance", "bool", "range", "enumerate", "zip", "set", "repr", "dict"]
def cnL : List (Str × Int) := [("MOST_PLACES", 40), ("MOST_ARCS", 20)]
def exL : List (Str × Nat) := [("NoRing", 0), ("NoPlace", 2)]
def GXL (x : Str) (n : Nat) : Prop := (x, n) ∈ exL
section
variable {P : Program} {w : World} {K : PySem.W.Frag} {mg : Str → Option Value} {base : Heap} {cl : Nat → Addr}
theorem g_law_store (T : Top K mg base bnL cnL GXL cl) (d : DefAt K mg "_law_store" s_law_store ["cell"]) : GoodE0 rmD cl P w K mg base 1 "_law_store" E_law_store := by
  obtain ⟨f, fd, F, hm, hb, _⟩ := d.ex
  exact ⟨f, fd, _, ok_law_store F , hm, F.kp, hb⟩
theorem g_law_take (T : Top K mg base bnL cnL GXL cl) (d : DefAt K mg "_law_take" s_law_take ["store", "many"]) : GoodE0 rmD cl P w K mg base 1 "_law_take" E_law_take := by
  obtain ⟨f, fd, F, hm, hb, _⟩ := d.ex
  exact ⟨f, fd, _, ok_law_take F , hm, F.kp, hb⟩
theorem sc_law_ring : FnScope ["store", "n", "top", "arcs", "k", "start", "many", "way", "begin", "held", "at"] ["store"] (defScope s_law_ring) := ⟨rfl, rfl, rfl, by decide +kernel, rfl, by decide +kernel, by decide +kernel⟩
theorem ch_law_ring : chSs tr_law_ring (txt ["store", "n", "top", "arcs", "k", "start", "many", "way", "begin", "held", "at"] (defScope s_law_ring) bnL cnL) (defBody s_law_ring) = true := by decide +kernel
theorem g_law_ring (T : Top K mg base bnL cnL GXL cl) (d : DefAt K mg "_law_ring" s_law_ring ["store"]) (h_law_take : GoodE0 rmD cl P w K mg base 1 "_law_take" E_law_take) : GoodE0 rmD cl P w K mg base 2 "_law_ring" E_law_ring := by
  obtain ⟨f, fd, F, hm, hb, _⟩ := d.ex
  refine fn_goodE (rm := rmD) F hm sc_law_ring hb T (G := GoodP0 cl P w K mg base 1) (GE := GoodE0 rmD cl P w K mg base 1) (fun _ _ h => h) (fun _ _ h => h) tr_law_ring ch_law_ring ?_ w_law_ring
  unfold tr_law_ring
  simp [fnSs, fnS, fn1, fnE, fnEs, fnI, GXL, exL, tr_law_ring_r1, tr_law_ring_r2, tr_law_ring_b1, h_law_take]
theorem sc_law_copy : FnScope ["ring"] ["ring"] (defScope s_law_copy) := ⟨rfl, rfl, rfl, by decide +kernel, rfl, by decide +kernel, by decide +kernel⟩
theorem ch_law_copy : chSs tr_law_copy (txt ["ring"] (defScope s_law_copy) bnL cnL) (defBody s_law_copy) = true := by decide +kernel
theorem g_law_copy (T : Top K mg base bnL cnL GXL cl) (d : DefAt K mg "_law_copy" s_law_copy ["ring"]) : GoodP0 cl P w K mg base 1 "_law_copy" S_law_copy := by
  obtain ⟨f, fd, F, hm, hb, _⟩ := d.ex
  refine fn_good F hm sc_law_copy hb T (fun _ _ h => h) tr_law_copy ch_law_copy ?_ w_law_copy
  unfold tr_law_copy
  simp [fnSs, fnS, fn1, fnE, fnEs, fnI, GXL, exL]
theorem sc_law_fewest : FnScope ["ring", "n", "arcs", "steps", "x", "start", "many", "found", "held", "count"] ["ring"] (defScope s_law_fewest) := ⟨rfl, rfl, rfl, by decide +kernel, rfl, by decide +kernel, by decide +kernel⟩
theorem ch_law_fewest : chSs tr_law_fewest (txt ["ring", "n", "arcs", "steps", "x", "start", "many", "found", "held", "count"] (defScope s_law_fewest) bnL cnL) (defBody s_law_fewest) = true := by decide +kernel
theorem g_law_fewest (T : Top K mg base bnL cnL GXL cl) (d : DefAt K mg "_law_fewest" s_law_fewest ["ring"]) : GoodP0 cl P w K mg base 1 "_law_fewest" S_law_fewest := by
  obtain ⟨f, fd, F, hm, hb, _⟩ := d.ex
  refine fn_good F hm sc_law_fewest hb T (fun _ _ h => h) tr_law_fewest ch_law_fewest ?_ w_law_fewest
  unfold tr_law_fewest
  simp [fnSs, fnS, fn1, fnE, fnEs, fnI, GXL, exL, tr_law_fewest_c1, tr_law_fewest_e1, tr_law_fewest_b1, tr_law_fewest_b2, tr_law_fewest_b3]
theorem scis_number : FnScope ["thing", "beyond"] ["thing", "beyond"] (defScope sis_number) := ⟨rfl, rfl, rfl, by decide +kernel, rfl, by decide +kernel, by decide +kernel⟩
theorem chis_number : chSs tris_number (txt ["thing", "beyond"] (defScope sis_number) bnL cnL) (defBody sis_number) = true := by decide +kernel
theorem gis_number (T : Top K mg base bnL cnL GXL cl) (d : DefAt K mg "is_number" sis_number ["thing", "beyond"]) : GoodP0 cl P w K mg base 1 "is_number" Sis_number := by
  obtain ⟨f, fd, F, hm, hb, _⟩ := d.ex
  refine fn_good F hm scis_number hb T (fun _ _ h => h) tris_number chis_number ?_ w_is_number
  unfold tris_number
  simp [fnSs, fnS, fn1, fnE, fnEs, fnI, GXL, exL]
theorem scis_arc : FnScope ["thing", "n"] ["thing", "n"] (defScope sis_arc) := ⟨rfl, rfl, rfl, by decide +kernel, rfl, by decide +kernel, by decide +kernel⟩
theorem chis_arc : chSs tris_arc (txt ["thing", "n"] (defScope sis_arc) bnL cnL) (defBody sis_arc) = true := by decide +kernel
theorem gis_arc (T : Top K mg base bnL cnL GXL cl) (d : DefAt K mg "is_arc" sis_arc ["thing", "n"]) (his_number : GoodP0 cl P w K mg base 1 "is_number" Sis_number) : GoodP0 cl P w K mg base 2 "is_arc" Sis_arc := by
  obtain ⟨f, fd, F, hm, hb, _⟩ := d.ex
  refine fn_good F hm scis_arc hb T (fun _ _ h => h) tris_arc chis_arc ?_ w_is_arc
  unfold tris_arc
  simp [fnSs, fnS, fn1, fnE, fnEs, fnI, GXL, exL, his_number]
theorem scis_ring : FnScope ["thing", "arc"] ["thing"] (defScope sis_ring) := ⟨rfl, rfl, rfl, by decide +kernel, rfl, by decide +kernel, by decide +kernel⟩
theorem chis_ring : chSs tris_ring (txt ["thing", "arc"] (defScope sis_ring) bnL cnL) (defBody sis_ring) = true := by decide +kernel
theorem gis_ring (T : Top K mg base bnL cnL GXL cl) (d : DefAt K mg "is_ring" sis_ring ["thing"]) (his_number : GoodP0 cl P w K mg base 1 "is_number" Sis_number) (his_arc : GoodP0 cl P w K mg base 2 "is_arc" Sis_arc) : GoodP0 cl P w K mg base 3 "is_ring" Sis_ring := by
  obtain ⟨f, fd, F, hm, hb, _⟩ := d.ex
  replace his_number := his_number.mono (show 1 ≤ 2 by decide)
  refine fn_good F hm scis_ring hb T (fun _ _ h => h) tris_ring chis_ring ?_ w_is_ring
  unfold tris_ring
  simp [fnSs, fnS, fn1, fnE, fnEs, fnI, GXL, exL, tris_ring_c1, his_number, his_arc]
theorem scneed_ring : FnScope ["thing"] ["thing"] (defScope sneed_ring) := ⟨rfl, rfl, rfl, by decide +kernel, rfl, by decide +kernel, by decide +kernel⟩
theorem chneed_ring : chSs trneed_ring (txt ["thing"] (defScope sneed_ring) bnL cnL) (defBody sneed_ring) = true := by decide +kernel
theorem gneed_ring (T : Top K mg base bnL cnL GXL cl) (d : DefAt K mg "need_ring" sneed_ring ["thing"]) (his_ring : GoodP0 cl P w K mg base 3 "is_ring" Sis_ring) : GoodP0 cl P w K mg base 4 "need_ring" Sneed_ring := by
  obtain ⟨f, fd, F, hm, hb, _⟩ := d.ex
  refine fn_good F hm scneed_ring hb T (fun _ _ h => h) trneed_ring chneed_ring ?_ w_need_ring
  unfold trneed_ring
  simp [fnSs, fnS, fn1, fnE, fnEs, fnI, GXL, exL, his_ring]
theorem screach_from : FnScope ["n", "arc", "x"] ["n", "arc", "x"] (defScope sreach_from) := ⟨rfl, rfl, rfl, by decide +kernel, rfl, by decide +kernel, by decide +kernel⟩
theorem chreach_from : chSs trreach_from (txt ["n", "arc", "x"] (defScope sreach_from) bnL cnL) (defBody sreach_from) = true := by decide +kernel
theorem greach_from (T : Top K mg base bnL cnL GXL cl) (d : DefAt K mg "reach_from" sreach_from ["n", "arc", "x"]) : GoodP0 cl P w K mg base 1 "reach_from" Sreach_from := by
  obtain ⟨f, fd, F, hm, hb, _⟩ := d.ex
  refine fn_good F hm screach_from hb T (fun _ _ h => h) trreach_from chreach_from ?_ w_reach_from
  unfold trreach_from
  simp [fnSs, fnS, fn1, fnE, fnEs, fnI, GXL, exL]
theorem scneed_place : FnScope ["ring", "thing"] ["ring", "thing"] (defScope sneed_place) := ⟨rfl, rfl, rfl, by decide +kernel, rfl, by decide +kernel, by decide +kernel⟩
theorem chneed_place : chSs trneed_place (txt ["ring", "thing"] (defScope sneed_place) bnL cnL) (defBody sneed_place) = true := by decide +kernel
theorem gneed_place (T : Top K mg base bnL cnL GXL cl) (d : DefAt K mg "need_place" sneed_place ["ring", "thing"]) (his_number : GoodP0 cl P w K mg base 1 "is_number" Sis_number) : GoodP0 cl P w K mg base 2 "need_place" Sneed_place := by
  obtain ⟨f, fd, F, hm, hb, _⟩ := d.ex
  refine fn_good F hm scneed_place hb T (fun _ _ h => h) trneed_place chneed_place ?_ w_need_place
  unfold trneed_place
  simp [fnSs, fnS, fn1, fnE, fnEs, fnI, GXL, exL, his_number]
theorem scholds : FnScope ["n", "arc", "place"] ["n", "arc", "place"] (defScope sholds) := ⟨rfl, rfl, rfl, by decide +kernel, rfl, by decide +kernel, by decide +kernel⟩
theorem chholds : chSs trholds (txt ["n", "arc", "place"] (defScope sholds) bnL cnL) (defBody sholds) = true := by decide +kernel
theorem gholds (T : Top K mg base bnL cnL GXL cl) (d : DefAt K mg "holds" sholds ["n", "arc", "place"]) : GoodP0 cl P w K mg base 1 "holds" Sholds := by
  obtain ⟨f, fd, F, hm, hb, _⟩ := d.ex
  refine fn_good F hm scholds hb T (fun _ _ h => h) trholds chholds ?_ w_holds
  unfold trholds
  simp [fnSs, fnS, fn1, fnE, fnEs, fnI, GXL, exL]
theorem scarcs_at : FnScope ["ring", "place", "k", "arc"] ["ring", "place"] (defScope sarcs_at) := ⟨rfl, rfl, rfl, by decide +kernel, rfl, by decide +kernel, by decide +kernel⟩
theorem charcs_at : chSs trarcs_at (txt ["ring", "place", "k", "arc"] (defScope sarcs_at) bnL cnL) (defBody sarcs_at) = true := by decide +kernel
theorem garcs_at (T : Top K mg base bnL cnL GXL cl) (d : DefAt K mg "arcs_at" sarcs_at ["ring", "place"]) (hneed_ring : GoodP0 cl P w K mg base 4 "need_ring" Sneed_ring) (hneed_place : GoodP0 cl P w K mg base 2 "need_place" Sneed_place) (hholds : GoodP0 cl P w K mg base 1 "holds" Sholds) : GoodP0 cl P w K mg base 5 "arcs_at" Sarcs_at := by
  obtain ⟨f, fd, F, hm, hb, _⟩ := d.ex
  replace hneed_place := hneed_place.mono (show 2 ≤ 4 by decide)
  replace hholds := hholds.mono (show 1 ≤ 4 by decide)
  refine fn_good F hm scarcs_at hb T (fun _ _ h => h) trarcs_at charcs_at ?_ w_arcs_at
  unfold trarcs_at
  simp [fnSs, fnS, fn1, fnE, fnEs, fnI, GXL, exL, trarcs_at_c1, hneed_ring, hneed_place, hholds]
theorem scwidest_at : FnScope ["ring", "x", "found", "k"] ["ring", "x"] (defScope swidest_at) := ⟨rfl, rfl, rfl, by decide +kernel, rfl, by decide +kernel, by decide +kernel⟩
theorem chwidest_at : chSs trwidest_at (txt ["ring", "x", "found", "k"] (defScope swidest_at) bnL cnL) (defBody swidest_at) = true := by decide +kernel
theorem gwidest_at (T : Top K mg base bnL cnL GXL cl) (d : DefAt K mg "widest_at" swidest_at ["ring", "x"]) (harcs_at : GoodP0 cl P w K mg base 5 "arcs_at" Sarcs_at) (hreach_from : GoodP0 cl P w K mg base 1 "reach_from" Sreach_from) : GoodP0 cl P w K mg base 6 "widest_at" Swidest_at := by
  obtain ⟨f, fd, F, hm, hb, _⟩ := d.ex
  replace hreach_from := hreach_from.mono (show 1 ≤ 5 by decide)
  refine fn_good F hm scwidest_at hb T (fun _ _ h => h) trwidest_at chwidest_at ?_ w_widest_at
  unfold trwidest_at
  simp [fnSs, fnS, fn1, fnE, fnEs, fnI, GXL, exL, trwidest_at_b1, harcs_at, hreach_from]
theorem sccover_from : FnScope ["ring", "first", "n", "arcs", "found", "x", "held", "place"] ["ring", "first"] (defScope scover_from) := ⟨rfl, rfl, rfl, by decide +kernel, rfl, by decide +kernel, by decide +kernel⟩
theorem chcover_from : chSs trcover_from (txt ["ring", "first", "n", "arcs", "found", "x", "held", "place"] (defScope scover_from) bnL cnL) (defBody scover_from) = true := by decide +kernel
theorem gcover_from (T : Top K mg base bnL cnL GXL cl) (d : DefAt K mg "cover_from" scover_from ["ring", "first"]) (hreach_from : GoodP0 cl P w K mg base 1 "reach_from" Sreach_from) (hwidest_at : GoodP0 cl P w K mg base 6 "widest_at" Swidest_at) : GoodP0 cl P w K mg base 7 "cover_from" Scover_from := by
  obtain ⟨f, fd, F, hm, hb, _⟩ := d.ex
  replace hreach_from := hreach_from.mono (show 1 ≤ 6 by decide)
  refine fn_good F hm sccover_from hb T (fun _ _ h => h) trcover_from chcover_from ?_ w_cover_from
  unfold trcover_from
  simp [fnSs, fnS, fn1, fnE, fnEs, fnI, GXL, exL, trcover_from_b1, hreach_from, hwidest_at]
theorem scfewest_arcs : FnScope ["ring", "x", "best", "first", "found"] ["ring"] (defScope sfewest_arcs) := ⟨rfl, rfl, rfl, by decide +kernel, rfl, by decide +kernel, by decide +kernel⟩
theorem chfewest_arcs : chSs trfewest_arcs (txt ["ring", "x", "best", "first", "found"] (defScope sfewest_arcs) bnL cnL) (defBody sfewest_arcs) = true := by decide +kernel
theorem gfewest_arcs (T : Top K mg base bnL cnL GXL cl) (d : DefAt K mg "fewest_arcs" sfewest_arcs ["ring"]) (hneed_ring : GoodP0 cl P w K mg base 4 "need_ring" Sneed_ring) (hcover_from : GoodP0 cl P w K mg base 7 "cover_from" Scover_from) (harcs_at : GoodP0 cl P w K mg base 5 "arcs_at" Sarcs_at) : GoodP0 cl P w K mg base 8 "fewest_arcs" Sfewest_arcs := by
  obtain ⟨f, fd, F, hm, hb, _⟩ := d.ex
  replace hneed_ring := hneed_ring.mono (show 4 ≤ 7 by decide)
  replace harcs_at := harcs_at.mono (show 5 ≤ 7 by decide)
  refine fn_good F hm scfewest_arcs hb T (fun _ _ h => h) trfewest_arcs chfewest_arcs ?_ w_fewest_arcs
  unfold trfewest_arcs
  simp [fnSs, fnS, fn1, fnE, fnEs, fnI, GXL, exL, trfewest_arcs_c1, trfewest_arcs_b1, hneed_ring, hcover_from, harcs_at]
theorem sc_law_cell : FnScope ["script", "k"] ["script", "k"] (defScope s_law_cell) := ⟨rfl, rfl, rfl, by decide +kernel, rfl, by decide +kernel, by decide +kernel⟩
theorem ch_law_cell : chSs tr_law_cell (txt ["script", "k"] (defScope s_law_cell) bnL cnL) (defBody s_law_cell) = true := by decide +kernel
theorem g_law_cell (T : Top K mg base bnL cnL GXL cl) (d : DefAt K mg "_law_cell" s_law_cell ["script", "k"]) : GoodP0 cl P w K mg base 1 "_law_cell" S_law_cell := by
  obtain ⟨f, fd, F, hm, hb, _⟩ := d.ex
  refine fn_good F hm sc_law_cell hb T (fun _ _ h => h) tr_law_cell ch_law_cell ?_ w_law_cell
  unfold tr_law_cell
  simp [fnSs, fnS, fn1, fnE, fnEs, fnI, GXL, exL]
theorem sc_law_holds : FnScope ["n", "arc", "place"] ["n", "arc", "place"] (defScope s_law_holds) := ⟨rfl, rfl, rfl, by decide +kernel, rfl, by decide +kernel, by decide +kernel⟩
theorem ch_law_holds : chSs tr_law_holds (txt ["n", "arc", "place"] (defScope s_law_holds) bnL cnL) (defBody s_law_holds) = true := by decide +kernel
theorem g_law_holds (T : Top K mg base bnL cnL GXL cl) (d : DefAt K mg "_law_holds" s_law_holds ["n", "arc", "place"]) : GoodP0 cl P w K mg base 1 "_law_holds" S_law_holds := by
  obtain ⟨f, fd, F, hm, hb, _⟩ := d.ex
  refine fn_good F hm sc_law_holds hb T (fun _ _ h => h) tr_law_holds ch_law_holds ?_ w_law_holds
  unfold tr_law_holds
  simp [fnSs, fnS, fn1, fnE, fnEs, fnI, GXL, exL]
theorem sc_law_over : FnScope ["ring", "x", "k", "arc"] ["ring", "x"] (defScope s_law_over) := ⟨rfl, rfl, rfl, by decide +kernel, rfl, by decide +kernel, by decide +kernel⟩
theorem ch_law_over : chSs tr_law_over (txt ["ring", "x", "k", "arc"] (defScope s_law_over) bnL cnL) (defBody s_law_over) = true := by decide +kernel
theorem g_law_over (T : Top K mg base bnL cnL GXL cl) (d : DefAt K mg "_law_over" s_law_over ["ring", "x"]) (h_law_holds : GoodP0 cl P w K mg base 1 "_law_holds" S_law_holds) : GoodP0 cl P w K mg base 2 "_law_over" S_law_over := by
  obtain ⟨f, fd, F, hm, hb, _⟩ := d.ex
  refine fn_good F hm sc_law_over hb T (fun _ _ h => h) tr_law_over ch_law_over ?_ w_law_over
  unfold tr_law_over
  simp [fnSs, fnS, fn1, fnE, fnEs, fnI, GXL, exL, tr_law_over_c1, h_law_holds]
theorem sc_law_filled : FnScope ["store", "ring", "n", "arcs", "found", "x"] ["store", "ring"] (defScope s_law_filled) := ⟨rfl, rfl, rfl, by decide +kernel, rfl, by decide +kernel, by decide +kernel⟩
theorem ch_law_filled : chSs tr_law_filled (txt ["store", "ring", "n", "arcs", "found", "x"] (defScope s_law_filled) bnL cnL) (defBody s_law_filled) = true := by decide +kernel
theorem g_law_filled (T : Top K mg base bnL cnL GXL cl) (d : DefAt K mg "_law_filled" s_law_filled ["store", "ring"]) (h_law_over : GoodP0 cl P w K mg base 2 "_law_over" S_law_over) (h_law_take : GoodE0 rmD cl P w K mg base 1 "_law_take" E_law_take) : GoodE0 rmD cl P w K mg base 3 "_law_filled" E_law_filled := by
  obtain ⟨f, fd, F, hm, hb, _⟩ := d.ex
  replace h_law_take := h_law_take.mono (show 1 ≤ 2 by decide)
  refine fn_goodE (rm := rmD) F hm sc_law_filled hb T (G := GoodP0 cl P w K mg base 2) (GE := GoodE0 rmD cl P w K mg base 2) (fun _ _ h => h) (fun _ _ h => h) tr_law_filled ch_law_filled ?_ w_law_filled
  unfold tr_law_filled
  simp [fnSs, fnS, fn1, fnE, fnEs, fnI, GXL, exL, tr_law_filled_b1, h_law_over, h_law_take]
theorem sc_law_whole : FnScope ["thing"] ["thing"] (defScope s_law_whole) := ⟨rfl, rfl, rfl, by decide +kernel, rfl, by decide +kernel, by decide +kernel⟩
theorem ch_law_whole : chSs tr_law_whole (txt ["thing"] (defScope s_law_whole) bnL cnL) (defBody s_law_whole) = true := by decide +kernel
theorem g_law_whole (T : Top K mg base bnL cnL GXL cl) (d : DefAt K mg "_law_whole" s_law_whole ["thing"]) : GoodP0 cl P w K mg base 1 "_law_whole" S_law_whole := by
  obtain ⟨f, fd, F, hm, hb, _⟩ := d.ex
  refine fn_good F hm sc_law_whole hb T (fun _ _ h => h) tr_law_whole ch_law_whole ?_ w_law_whole
  unfold tr_law_whole
  simp [fnSs, fnS, fn1, fnE, fnEs, fnI, GXL, exL]
theorem sc_law_rising : FnScope ["thing", "beyond", "one", "k"] ["thing", "beyond"] (defScope s_law_rising) := ⟨rfl, rfl, rfl, by decide +kernel, rfl, by decide +kernel, by decide +kernel⟩
theorem ch_law_rising : chSs tr_law_rising (txt ["thing", "beyond", "one", "k"] (defScope s_law_rising) bnL cnL) (defBody s_law_rising) = true := by decide +kernel
theorem g_law_rising (T : Top K mg base bnL cnL GXL cl) (d : DefAt K mg "_law_rising" s_law_rising ["thing", "beyond"]) (h_law_whole : GoodP0 cl P w K mg base 1 "_law_whole" S_law_whole) : GoodP0 cl P w K mg base 2 "_law_rising" S_law_rising := by
  obtain ⟨f, fd, F, hm, hb, _⟩ := d.ex
  refine fn_good F hm sc_law_rising hb T (fun _ _ h => h) tr_law_rising ch_law_rising ?_ w_law_rising
  unfold tr_law_rising
  simp [fnSs, fnS, fn1, fnE, fnEs, fnI, GXL, exL, tr_law_rising_c1, tr_law_rising_c2, h_law_whole]
theorem sc_law_covers : FnScope ["ring", "some", "x", "k"] ["ring", "some"] (defScope s_law_covers) := ⟨rfl, rfl, rfl, by decide +kernel, rfl, by decide +kernel, by decide +kernel⟩
theorem ch_law_covers : chSs tr_law_covers (txt ["ring", "some", "x", "k"] (defScope s_law_covers) bnL cnL) (defBody s_law_covers) = true := by decide +kernel
theorem g_law_covers (T : Top K mg base bnL cnL GXL cl) (d : DefAt K mg "_law_covers" s_law_covers ["ring", "some"]) (h_law_holds : GoodP0 cl P w K mg base 1 "_law_holds" S_law_holds) : GoodP0 cl P w K mg base 2 "_law_covers" S_law_covers := by
  obtain ⟨f, fd, F, hm, hb, _⟩ := d.ex
  refine fn_good F hm sc_law_covers hb T (fun _ _ h => h) tr_law_covers ch_law_covers ?_ w_law_covers
  unfold tr_law_covers
  simp [fnSs, fnS, fn1, fnE, fnEs, fnI, GXL, exL, tr_law_covers_c1, tr_law_covers_c2, h_law_holds]
theorem sclaw : FnScope ["script", "at", "store", "ring", "handed", "due", "found", "kept"] ["script"] (defScope slaw) := ⟨rfl, rfl, rfl, by decide +kernel, rfl, by decide +kernel, by decide +kernel⟩
theorem chlaw : chSs trlaw (txt ["script", "at", "store", "ring", "handed", "due", "found", "kept"] (defScope slaw) bnL cnL) (defBody slaw) = true := by decide +kernel
theorem glaw {f : Addr} {fd : FuncData} (T : Top K mg base bnL cnL GXL cl) (F : Fun K "law" "law" slaw f fd) (h_law_store : GoodE0 rmD cl P w K mg base 1 "_law_store" E_law_store) (h_law_ring : GoodE0 rmD cl P w K mg base 2 "_law_ring" E_law_ring) (h_law_copy : GoodP0 cl P w K mg base 1 "_law_copy" S_law_copy) (h_law_fewest : GoodP0 cl P w K mg base 1 "_law_fewest" S_law_fewest) (hfewest_arcs : GoodP0 cl P w K mg base 8 "fewest_arcs" Sfewest_arcs) (h_law_cell : GoodP0 cl P w K mg base 1 "_law_cell" S_law_cell) (h_law_take : GoodE0 rmD cl P w K mg base 1 "_law_take" E_law_take) (h_law_filled : GoodE0 rmD cl P w K mg base 3 "_law_filled" E_law_filled) (h_law_rising : GoodP0 cl P w K mg base 2 "_law_rising" S_law_rising) (h_law_covers : GoodP0 cl P w K mg base 2 "_law_covers" S_law_covers) : FnG P w K mg base 9 f fd ["script"] (spE rmD cl Elaw) := by
  replace h_law_store := h_law_store.mono (show 1 ≤ 8 by decide)
  replace h_law_ring := h_law_ring.mono (show 2 ≤ 8 by decide)
  replace h_law_copy := h_law_copy.mono (show 1 ≤ 8 by decide)
  replace h_law_fewest := h_law_fewest.mono (show 1 ≤ 8 by decide)
  replace h_law_cell := h_law_cell.mono (show 1 ≤ 8 by decide)
  replace h_law_take := h_law_take.mono (show 1 ≤ 8 by decide)
  replace h_law_filled := h_law_filled.mono (show 3 ≤ 8 by decide)
  replace h_law_rising := h_law_rising.mono (show 2 ≤ 8 by decide)
  replace h_law_covers := h_law_covers.mono (show 2 ≤ 8 by decide)
  refine fn_okE (rm := rmD) F sclaw T (G := GoodP0 cl P w K mg base 8) (GE := GoodE0 rmD cl P w K mg base 8) (fun _ _ h => h) (fun _ _ h => h) trlaw chlaw ?_ w_law
  unfold trlaw
  simp [fnSs, fnS, fn1, fnE, fnEs, fnI, GXL, exL, trlaw_r1, trlaw_r2, trlaw_b1, h_law_store, h_law_ring, h_law_copy, h_law_fewest, hfewest_arcs, h_law_cell, h_law_take, h_law_filled, h_law_rising, h_law_covers]
theorem all_mk {h : Heap} {fa : Addr} (X : K.In h) (G : h.Ns mainGlobals mg) (hfa : mg "law" = some (.ref fa))
    {t_MOST_PLACES : Tok}
    {t_MOST_ARCS : Tok}
    {C_NoRing : Addr}
    {C_NoPlace : Addr}
    {f__law_store : Addr} {od__law_store an__law_store : Option Addr} {sl__law_store : Array (Option Value)} {oc__law_store kV__law_store dc__law_store pm__law_store cd__law_store ct__law_store : Value}
    {f__law_take : Addr} {od__law_take an__law_take : Option Addr} {sl__law_take : Array (Option Value)} {oc__law_take kV__law_take dc__law_take pm__law_take cd__law_take ct__law_take : Value}
    {f__law_ring : Addr} {od__law_ring an__law_ring : Option Addr} {sl__law_ring : Array (Option Value)} {oc__law_ring kV__law_ring dc__law_ring pm__law_ring cd__law_ring ct__law_ring : Value}
    {f__law_copy : Addr} {od__law_copy an__law_copy : Option Addr} {sl__law_copy : Array (Option Value)} {oc__law_copy kV__law_copy dc__law_copy pm__law_copy cd__law_copy ct__law_copy : Value}
    {f__law_fewest : Addr} {od__law_fewest an__law_fewest : Option Addr} {sl__law_fewest : Array (Option Value)} {oc__law_fewest kV__law_fewest dc__law_fewest pm__law_fewest cd__law_fewest ct__law_fewest : Value}
    {f_is_number : Addr} {od_is_number an_is_number : Option Addr} {sl_is_number : Array (Option Value)} {oc_is_number kV_is_number dc_is_number pm_is_number cd_is_number ct_is_number : Value}
    {f_is_arc : Addr} {od_is_arc an_is_arc : Option Addr} {sl_is_arc : Array (Option Value)} {oc_is_arc kV_is_arc dc_is_arc pm_is_arc cd_is_arc ct_is_arc : Value}
    {f_is_ring : Addr} {od_is_ring an_is_ring : Option Addr} {sl_is_ring : Array (Option Value)} {oc_is_ring kV_is_ring dc_is_ring pm_is_ring cd_is_ring ct_is_ring : Value}
    {f_need_ring : Addr} {od_need_ring an_need_ring : Option Addr} {sl_need_ring : Array (Option Value)} {oc_need_ring kV_need_ring dc_need_ring pm_need_ring cd_need_ring ct_need_ring : Value}
    {f_reach_from : Addr} {od_reach_from an_reach_from : Option Addr} {sl_reach_from : Array (Option Value)} {oc_reach_from kV_reach_from dc_reach_from pm_reach_from cd_reach_from ct_reach_from : Value}
    {f_need_place : Addr} {od_need_place an_need_place : Option Addr} {sl_need_place : Array (Option Value)} {oc_need_place kV_need_place dc_need_place pm_need_place cd_need_place ct_need_place : Value}
    {f_holds : Addr} {od_holds an_holds : Option Addr} {sl_holds : Array (Option Value)} {oc_holds kV_holds dc_holds pm_holds cd_holds ct_holds : Value}
    {f_arcs_at : Addr} {od_arcs_at an_arcs_at : Option Addr} {sl_arcs_at : Array (Option Value)} {oc_arcs_at kV_arcs_at dc_arcs_at pm_arcs_at cd_arcs_at ct_arcs_at : Value}
    {f_widest_at : Addr} {od_widest_at an_widest_at : Option Addr} {sl_widest_at : Array (Option Value)} {oc_widest_at kV_widest_at dc_widest_at pm_widest_at cd_widest_at ct_widest_at : Value}
    {f_cover_from : Addr} {od_cover_from an_cover_from : Option Addr} {sl_cover_from : Array (Option Value)} {oc_cover_from kV_cover_from dc_cover_from pm_cover_from cd_cover_from ct_cover_from : Value}
    {f_fewest_arcs : Addr} {od_fewest_arcs an_fewest_arcs : Option Addr} {sl_fewest_arcs : Array (Option Value)} {oc_fewest_arcs kV_fewest_arcs dc_fewest_arcs pm_fewest_arcs cd_fewest_arcs ct_fewest_arcs : Value}
    {f__law_cell : Addr} {od__law_cell an__law_cell : Option Addr} {sl__law_cell : Array (Option Value)} {oc__law_cell kV__law_cell dc__law_cell pm__law_cell cd__law_cell ct__law_cell : Value}
    {f__law_holds : Addr} {od__law_holds an__law_holds : Option Addr} {sl__law_holds : Array (Option Value)} {oc__law_holds kV__law_holds dc__law_holds pm__law_holds cd__law_holds ct__law_holds : Value}
    {f__law_over : Addr} {od__law_over an__law_over : Option Addr} {sl__law_over : Array (Option Value)} {oc__law_over kV__law_over dc__law_over pm__law_over cd__law_over ct__law_over : Value}
    {f__law_filled : Addr} {od__law_filled an__law_filled : Option Addr} {sl__law_filled : Array (Option Value)} {oc__law_filled kV__law_filled dc__law_filled pm__law_filled cd__law_filled ct__law_filled : Value}
    {f__law_whole : Addr} {od__law_whole an__law_whole : Option Addr} {sl__law_whole : Array (Option Value)} {oc__law_whole kV__law_whole dc__law_whole pm__law_whole cd__law_whole ct__law_whole : Value}
    {f__law_rising : Addr} {od__law_rising an__law_rising : Option Addr} {sl__law_rising : Array (Option Value)} {oc__law_rising kV__law_rising dc__law_rising pm__law_rising cd__law_rising ct__law_rising : Value}
    {f__law_covers : Addr} {od__law_covers an__law_covers : Option Addr} {sl__law_covers : Array (Option Value)} {oc__law_covers kV__law_covers dc__law_covers pm__law_covers cd__law_covers ct__law_covers : Value}
    {f_law : Addr} {od_law an_law : Option Addr} {sl_law : Array (Option Value)} {oc_law kV_law dc_law pm_law cd_law ct_law : Value}
    (z_len : PySem.W.nsIn K mainGlobals "len" = some none)
    (z_min : PySem.W.nsIn K mainGlobals "min" = some none)
    (z_max : PySem.W.nsIn K mainGlobals "max" = some none)
    (z_sum : PySem.W.nsIn K mainGlobals "sum" = some none)
    (z_sorted : PySem.W.nsIn K mainGlobals "sorted" = some none)
    (z_list : PySem.W.nsIn K mainGlobals "list" = some none)
    (z_tuple : PySem.W.nsIn K mainGlobals "tuple" = some none)
    (z_abs : PySem.W.nsIn K mainGlobals "abs" = some none)
    (z_int : PySem.W.nsIn K mainGlobals "int" = some none)
    (z_str : PySem.W.nsIn K mainGlobals "str" = some none)
    (z_isinstance : PySem.W.nsIn K mainGlobals "isinstance" = some none)
    (z_bool : PySem.W.nsIn K mainGlobals "bool" = some none)
    (z_range : PySem.W.nsIn K mainGlobals "range" = some none)
    (z_enumerate : PySem.W.nsIn K mainGlobals "enumerate" = some none)
    (z_zip : PySem.W.nsIn K mainGlobals "zip" = some none)
    (z_set : PySem.W.nsIn K mainGlobals "set" = some none)
    (z_repr : PySem.W.nsIn K mainGlobals "repr" = some none)
    (z_dict : PySem.W.nsIn K mainGlobals "dict" = some none)
    (n_MOST_PLACES : PySem.W.nsIn K mainGlobals "MOST_PLACES" = some (some (.int 40 t_MOST_PLACES)))
    (n_MOST_ARCS : PySem.W.nsIn K mainGlobals "MOST_ARCS" = some (some (.int 20 t_MOST_ARCS)))
    (xa_NoRing : PySem.W.nsIn K mainGlobals "NoRing" = some (some (.ref C_NoRing)))
    (xe_NoRing : PySem.W.excIn K C_NoRing [.type "ValueError", .type "Exception", .type "BaseException", .type "object"] "ValueError.__new__" = true)
    (xk_NoRing : PySem.W.keepIn K (.ref C_NoRing) = true)
    (xb_NoRing : PySem.W.subIn K (.ref C_NoRing) (.type "BaseException") = some true)
    (xt_NoRing : PySem.W.typeIn K (.ref C_NoRing) = some (.type "type"))
    (xa_NoPlace : PySem.W.nsIn K mainGlobals "NoPlace" = some (some (.ref C_NoPlace)))
    (xe_NoPlace : PySem.W.excIn K C_NoPlace [.type "ValueError", .type "Exception", .type "BaseException", .type "object"] "ValueError.__new__" = true)
    (xk_NoPlace : PySem.W.keepIn K (.ref C_NoPlace) = true)
    (xb_NoPlace : PySem.W.subIn K (.ref C_NoPlace) (.type "BaseException") = some true)
    (xt_NoPlace : PySem.W.typeIn K (.ref C_NoPlace) = some (.type "type"))
    (a__law_store : PySem.W.nsIn K mainGlobals "_law_store" = some (some (.ref f__law_store)))
    (l__law_store : K.lookup f__law_store = some ⟨oc__law_store, od__law_store, .func (PySem.W.fnOf "_law_store" "_law_store" (defArgs s_law_store) (defBody s_law_store) (defScope s_law_store) .none kV__law_store dc__law_store pm__law_store an__law_store cd__law_store ct__law_store), sl__law_store⟩)
    (c__law_store : PySem.W.codeIn K cd__law_store "_law_store" = true)
    (k__law_store : PySem.W.keepIn K (.ref f__law_store) = true)
    (a__law_take : PySem.W.nsIn K mainGlobals "_law_take" = some (some (.ref f__law_take)))
    (l__law_take : K.lookup f__law_take = some ⟨oc__law_take, od__law_take, .func (PySem.W.fnOf "_law_take" "_law_take" (defArgs s_law_take) (defBody s_law_take) (defScope s_law_take) .none kV__law_take dc__law_take pm__law_take an__law_take cd__law_take ct__law_take), sl__law_take⟩)
    (c__law_take : PySem.W.codeIn K cd__law_take "_law_take" = true)
    (k__law_take : PySem.W.keepIn K (.ref f__law_take) = true)
    (a__law_ring : PySem.W.nsIn K mainGlobals "_law_ring" = some (some (.ref f__law_ring)))
    (l__law_ring : K.lookup f__law_ring = some ⟨oc__law_ring, od__law_ring, .func (PySem.W.fnOf "_law_ring" "_law_ring" (defArgs s_law_ring) (defBody s_law_ring) (defScope s_law_ring) .none kV__law_ring dc__law_ring pm__law_ring an__law_ring cd__law_ring ct__law_ring), sl__law_ring⟩)
    (c__law_ring : PySem.W.codeIn K cd__law_ring "_law_ring" = true)
    (k__law_ring : PySem.W.keepIn K (.ref f__law_ring) = true)
    (a__law_copy : PySem.W.nsIn K mainGlobals "_law_copy" = some (some (.ref f__law_copy)))
    (l__law_copy : K.lookup f__law_copy = some ⟨oc__law_copy, od__law_copy, .func (PySem.W.fnOf "_law_copy" "_law_copy" (defArgs s_law_copy) (defBody s_law_copy) (defScope s_law_copy) .none kV__law_copy dc__law_copy pm__law_copy an__law_copy cd__law_copy ct__law_copy), sl__law_copy⟩)
    (c__law_copy : PySem.W.codeIn K cd__law_copy "_law_copy" = true)
    (k__law_copy : PySem.W.keepIn K (.ref f__law_copy) = true)
    (a__law_fewest : PySem.W.nsIn K mainGlobals "_law_fewest" = some (some (.ref f__law_fewest)))
    (l__law_fewest : K.lookup f__law_fewest = some ⟨oc__law_fewest, od__law_fewest, .func (PySem.W.fnOf "_law_fewest" "_law_fewest" (defArgs s_law_fewest) (defBody s_law_fewest) (defScope s_law_fewest) .none kV__law_fewest dc__law_fewest pm__law_fewest an__law_fewest cd__law_fewest ct__law_fewest), sl__law_fewest⟩)
    (c__law_fewest : PySem.W.codeIn K cd__law_fewest "_law_fewest" = true)
    (k__law_fewest : PySem.W.keepIn K (.ref f__law_fewest) = true)
    (a_is_number : PySem.W.nsIn K mainGlobals "is_number" = some (some (.ref f_is_number)))
    (l_is_number : K.lookup f_is_number = some ⟨oc_is_number, od_is_number, .func (PySem.W.fnOf "is_number" "is_number" (defArgs sis_number) (defBody sis_number) (defScope sis_number) .none kV_is_number dc_is_number pm_is_number an_is_number cd_is_number ct_is_number), sl_is_number⟩)
    (c_is_number : PySem.W.codeIn K cd_is_number "is_number" = true)
    (k_is_number : PySem.W.keepIn K (.ref f_is_number) = true)
    (a_is_arc : PySem.W.nsIn K mainGlobals "is_arc" = some (some (.ref f_is_arc)))
    (l_is_arc : K.lookup f_is_arc = some ⟨oc_is_arc, od_is_arc, .func (PySem.W.fnOf "is_arc" "is_arc" (defArgs sis_arc) (defBody sis_arc) (defScope sis_arc) .none kV_is_arc dc_is_arc pm_is_arc an_is_arc cd_is_arc ct_is_arc), sl_is_arc⟩)
    (c_is_arc : PySem.W.codeIn K cd_is_arc "is_arc" = true)
    (k_is_arc : PySem.W.keepIn K (.ref f_is_arc) = true)
    (a_is_ring : PySem.W.nsIn K mainGlobals "is_ring" = some (some (.ref f_is_ring)))
    (l_is_ring : K.lookup f_is_ring = some ⟨oc_is_ring, od_is_ring, .func (PySem.W.fnOf "is_ring" "is_ring" (defArgs sis_ring) (defBody sis_ring) (defScope sis_ring) .none kV_is_ring dc_is_ring pm_is_ring an_is_ring cd_is_ring ct_is_ring), sl_is_ring⟩)
    (c_is_ring : PySem.W.codeIn K cd_is_ring "is_ring" = true)
    (k_is_ring : PySem.W.keepIn K (.ref f_is_ring) = true)
    (a_need_ring : PySem.W.nsIn K mainGlobals "need_ring" = some (some (.ref f_need_ring)))
    (l_need_ring : K.lookup f_need_ring = some ⟨oc_need_ring, od_need_ring, .func (PySem.W.fnOf "need_ring" "need_ring" (defArgs sneed_ring) (defBody sneed_ring) (defScope sneed_ring) .none kV_need_ring dc_need_ring pm_need_ring an_need_ring cd_need_ring ct_need_ring), sl_need_ring⟩)
    (c_need_ring : PySem.W.codeIn K cd_need_ring "need_ring" = true)
    (k_need_ring : PySem.W.keepIn K (.ref f_need_ring) = true)
    (a_reach_from : PySem.W.nsIn K mainGlobals "reach_from" = some (some (.ref f_reach_from)))
    (l_reach_from : K.lookup f_reach_from = some ⟨oc_reach_from, od_reach_from, .func (PySem.W.fnOf "reach_from" "reach_from" (defArgs sreach_from) (defBody sreach_from) (defScope sreach_from) .none kV_reach_from dc_reach_from pm_reach_from an_reach_from cd_reach_from ct_reach_from), sl_reach_from⟩)
    (c_reach_from : PySem.W.codeIn K cd_reach_from "reach_from" = true)
    (k_reach_from : PySem.W.keepIn K (.ref f_reach_from) = true)
    (a_need_place : PySem.W.nsIn K mainGlobals "need_place" = some (some (.ref f_need_place)))
    (l_need_place : K.lookup f_need_place = some ⟨oc_need_place, od_need_place, .func (PySem.W.fnOf "need_place" "need_place" (defArgs sneed_place) (defBody sneed_place) (defScope sneed_place) .none kV_need_place dc_need_place pm_need_place an_need_place cd_need_place ct_need_place), sl_need_place⟩)
    (c_need_place : PySem.W.codeIn K cd_need_place "need_place" = true)
    (k_need_place : PySem.W.keepIn K (.ref f_need_place) = true)
    (a_holds : PySem.W.nsIn K mainGlobals "holds" = some (some (.ref f_holds)))
    (l_holds : K.lookup f_holds = some ⟨oc_holds, od_holds, .func (PySem.W.fnOf "holds" "holds" (defArgs sholds) (defBody sholds) (defScope sholds) .none kV_holds dc_holds pm_holds an_holds cd_holds ct_holds), sl_holds⟩)
    (c_holds : PySem.W.codeIn K cd_holds "holds" = true)
    (k_holds : PySem.W.keepIn K (.ref f_holds) = true)
    (a_arcs_at : PySem.W.nsIn K mainGlobals "arcs_at" = some (some (.ref f_arcs_at)))
    (l_arcs_at : K.lookup f_arcs_at = some ⟨oc_arcs_at, od_arcs_at, .func (PySem.W.fnOf "arcs_at" "arcs_at" (defArgs sarcs_at) (defBody sarcs_at) (defScope sarcs_at) .none kV_arcs_at dc_arcs_at pm_arcs_at an_arcs_at cd_arcs_at ct_arcs_at), sl_arcs_at⟩)
    (c_arcs_at : PySem.W.codeIn K cd_arcs_at "arcs_at" = true)
    (k_arcs_at : PySem.W.keepIn K (.ref f_arcs_at) = true)
    (a_widest_at : PySem.W.nsIn K mainGlobals "widest_at" = some (some (.ref f_widest_at)))
    (l_widest_at : K.lookup f_widest_at = some ⟨oc_widest_at, od_widest_at, .func (PySem.W.fnOf "widest_at" "widest_at" (defArgs swidest_at) (defBody swidest_at) (defScope swidest_at) .none kV_widest_at dc_widest_at pm_widest_at an_widest_at cd_widest_at ct_widest_at), sl_widest_at⟩)
    (c_widest_at : PySem.W.codeIn K cd_widest_at "widest_at" = true)
    (k_widest_at : PySem.W.keepIn K (.ref f_widest_at) = true)
    (a_cover_from : PySem.W.nsIn K mainGlobals "cover_from" = some (some (.ref f_cover_from)))
    (l_cover_from : K.lookup f_cover_from = some ⟨oc_cover_from, od_cover_from, .func (PySem.W.fnOf "cover_from" "cover_from" (defArgs scover_from) (defBody scover_from) (defScope scover_from) .none kV_cover_from dc_cover_from pm_cover_from an_cover_from cd_cover_from ct_cover_from), sl_cover_from⟩)
    (c_cover_from : PySem.W.codeIn K cd_cover_from "cover_from" = true)
    (k_cover_from : PySem.W.keepIn K (.ref f_cover_from) = true)
    (a_fewest_arcs : PySem.W.nsIn K mainGlobals "fewest_arcs" = some (some (.ref f_fewest_arcs)))
    (l_fewest_arcs : K.lookup f_fewest_arcs = some ⟨oc_fewest_arcs, od_fewest_arcs, .func (PySem.W.fnOf "fewest_arcs" "fewest_arcs" (defArgs sfewest_arcs) (defBody sfewest_arcs) (defScope sfewest_arcs) .none kV_fewest_arcs dc_fewest_arcs pm_fewest_arcs an_fewest_arcs cd_fewest_arcs ct_fewest_arcs), sl_fewest_arcs⟩)
    (c_fewest_arcs : PySem.W.codeIn K cd_fewest_arcs "fewest_arcs" = true)
    (k_fewest_arcs : PySem.W.keepIn K (.ref f_fewest_arcs) = true)
    (a__law_cell : PySem.W.nsIn K mainGlobals "_law_cell" = some (some (.ref f__law_cell)))
    (l__law_cell : K.lookup f__law_cell = some ⟨oc__law_cell, od__law_cell, .func (PySem.W.fnOf "_law_cell" "_law_cell" (defArgs s_law_cell) (defBody s_law_cell) (defScope s_law_cell) .none kV__law_cell dc__law_cell pm__law_cell an__law_cell cd__law_cell ct__law_cell), sl__law_cell⟩)
    (c__law_cell : PySem.W.codeIn K cd__law_cell "_law_cell" = true)
    (k__law_cell : PySem.W.keepIn K (.ref f__law_cell) = true)
    (a__law_holds : PySem.W.nsIn K mainGlobals "_law_holds" = some (some (.ref f__law_holds)))
    (l__law_holds : K.lookup f__law_holds = some ⟨oc__law_holds, od__law_holds, .func (PySem.W.fnOf "_law_holds" "_law_holds" (defArgs s_law_holds) (defBody s_law_holds) (defScope s_law_holds) .none kV__law_holds dc__law_holds pm__law_holds an__law_holds cd__law_holds ct__law_holds), sl__law_holds⟩)
    (c__law_holds : PySem.W.codeIn K cd__law_holds "_law_holds" = true)
    (k__law_holds : PySem.W.keepIn K (.ref f__law_holds) = true)
    (a__law_over : PySem.W.nsIn K mainGlobals "_law_over" = some (some (.ref f__law_over)))
    (l__law_over : K.lookup f__law_over = some ⟨oc__law_over, od__law_over, .func (PySem.W.fnOf "_law_over" "_law_over" (defArgs s_law_over) (defBody s_law_over) (defScope s_law_over) .none kV__law_over dc__law_over pm__law_over an__law_over cd__law_over ct__law_over), sl__law_over⟩)
    (c__law_over : PySem.W.codeIn K cd__law_over "_law_over" = true)
    (k__law_over : PySem.W.keepIn K (.ref f__law_over) = true)
    (a__law_filled : PySem.W.nsIn K mainGlobals "_law_filled" = some (some (.ref f__law_filled)))
    (l__law_filled : K.lookup f__law_filled = some ⟨oc__law_filled, od__law_filled, .func (PySem.W.fnOf "_law_filled" "_law_filled" (defArgs s_law_filled) (defBody s_law_filled) (defScope s_law_filled) .none kV__law_filled dc__law_filled pm__law_filled an__law_filled cd__law_filled ct__law_filled), sl__law_filled⟩)
    (c__law_filled : PySem.W.codeIn K cd__law_filled "_law_filled" = true)
    (k__law_filled : PySem.W.keepIn K (.ref f__law_filled) = true)
    (a__law_whole : PySem.W.nsIn K mainGlobals "_law_whole" = some (some (.ref f__law_whole)))
    (l__law_whole : K.lookup f__law_whole = some ⟨oc__law_whole, od__law_whole, .func (PySem.W.fnOf "_law_whole" "_law_whole" (defArgs s_law_whole) (defBody s_law_whole) (defScope s_law_whole) .none kV__law_whole dc__law_whole pm__law_whole an__law_whole cd__law_whole ct__law_whole), sl__law_whole⟩)
    (c__law_whole : PySem.W.codeIn K cd__law_whole "_law_whole" = true)
    (k__law_whole : PySem.W.keepIn K (.ref f__law_whole) = true)
    (a__law_rising : PySem.W.nsIn K mainGlobals "_law_rising" = some (some (.ref f__law_rising)))
    (l__law_rising : K.lookup f__law_rising = some ⟨oc__law_rising, od__law_rising, .func (PySem.W.fnOf "_law_rising" "_law_rising" (defArgs s_law_rising) (defBody s_law_rising) (defScope s_law_rising) .none kV__law_rising dc__law_rising pm__law_rising an__law_rising cd__law_rising ct__law_rising), sl__law_rising⟩)
    (c__law_rising : PySem.W.codeIn K cd__law_rising "_law_rising" = true)
    (k__law_rising : PySem.W.keepIn K (.ref f__law_rising) = true)
    (a__law_covers : PySem.W.nsIn K mainGlobals "_law_covers" = some (some (.ref f__law_covers)))
    (l__law_covers : K.lookup f__law_covers = some ⟨oc__law_covers, od__law_covers, .func (PySem.W.fnOf "_law_covers" "_law_covers" (defArgs s_law_covers) (defBody s_law_covers) (defScope s_law_covers) .none kV__law_covers dc__law_covers pm__law_covers an__law_covers cd__law_covers ct__law_covers), sl__law_covers⟩)
    (c__law_covers : PySem.W.codeIn K cd__law_covers "_law_covers" = true)
    (k__law_covers : PySem.W.keepIn K (.ref f__law_covers) = true)
    (a_law : PySem.W.nsIn K mainGlobals "law" = some (some (.ref f_law)))
    (l_law : K.lookup f_law = some ⟨oc_law, od_law, .func (PySem.W.fnOf "law" "law" (defArgs slaw) (defBody slaw) (defScope slaw) .none kV_law dc_law pm_law an_law cd_law ct_law), sl_law⟩)
    (c_law : PySem.W.codeIn K cd_law "law" = true)
    (k_law : PySem.W.keepIn K (.ref f_law) = true)
    (noL : noLst K = true) :
    ∃ (cl : Nat → Addr) (fd : FuncData), noLst K = true ∧ (∀ (s : Shared) (v : Value), BindsTo s fd ⟨[v], []⟩ [("script", v)]) ∧ ∀ base : Heap, K.In base → base.Ns mainGlobals mg → SmB base → FnG P w K mg base 9 fa fd ["script"] (spE rmD cl Elaw) := by
  have d__law_store : DefAt K mg "_law_store" s_law_store ["cell"] := defAt_mk X G a__law_store l__law_store c__law_store k__law_store fun _ _ _ _ _ _ us hl => match us, hl with | [_], _ => rfl
  have d__law_take : DefAt K mg "_law_take" s_law_take ["store", "many"] := defAt_mk X G a__law_take l__law_take c__law_take k__law_take fun _ _ _ _ _ _ us hl => match us, hl with | [_, _], _ => rfl
  have d__law_ring : DefAt K mg "_law_ring" s_law_ring ["store"] := defAt_mk X G a__law_ring l__law_ring c__law_ring k__law_ring fun _ _ _ _ _ _ us hl => match us, hl with | [_], _ => rfl
  have d__law_copy : DefAt K mg "_law_copy" s_law_copy ["ring"] := defAt_mk X G a__law_copy l__law_copy c__law_copy k__law_copy fun _ _ _ _ _ _ us hl => match us, hl with | [_], _ => rfl
  have d__law_fewest : DefAt K mg "_law_fewest" s_law_fewest ["ring"] := defAt_mk X G a__law_fewest l__law_fewest c__law_fewest k__law_fewest fun _ _ _ _ _ _ us hl => match us, hl with | [_], _ => rfl
  have d_is_number : DefAt K mg "is_number" sis_number ["thing", "beyond"] := defAt_mk X G a_is_number l_is_number c_is_number k_is_number fun _ _ _ _ _ _ us hl => match us, hl with | [_, _], _ => rfl
  have d_is_arc : DefAt K mg "is_arc" sis_arc ["thing", "n"] := defAt_mk X G a_is_arc l_is_arc c_is_arc k_is_arc fun _ _ _ _ _ _ us hl => match us, hl with | [_, _], _ => rfl
  have d_is_ring : DefAt K mg "is_ring" sis_ring ["thing"] := defAt_mk X G a_is_ring l_is_ring c_is_ring k_is_ring fun _ _ _ _ _ _ us hl => match us, hl with | [_], _ => rfl
  have d_need_ring : DefAt K mg "need_ring" sneed_ring ["thing"] := defAt_mk X G a_need_ring l_need_ring c_need_ring k_need_ring fun _ _ _ _ _ _ us hl => match us, hl with | [_], _ => rfl
  have d_reach_from : DefAt K mg "reach_from" sreach_from ["n", "arc", "x"] := defAt_mk X G a_reach_from l_reach_from c_reach_from k_reach_from fun _ _ _ _ _ _ us hl => match us, hl with | [_, _, _], _ => rfl
  have d_need_place : DefAt K mg "need_place" sneed_place ["ring", "thing"] := defAt_mk X G a_need_place l_need_place c_need_place k_need_place fun _ _ _ _ _ _ us hl => match us, hl with | [_, _], _ => rfl
  have d_holds : DefAt K mg "holds" sholds ["n", "arc", "place"] := defAt_mk X G a_holds l_holds c_holds k_holds fun _ _ _ _ _ _ us hl => match us, hl with | [_, _, _], _ => rfl
  have d_arcs_at : DefAt K mg "arcs_at" sarcs_at ["ring", "place"] := defAt_mk X G a_arcs_at l_arcs_at c_arcs_at k_arcs_at fun _ _ _ _ _ _ us hl => match us, hl with | [_, _], _ => rfl
  have d_widest_at : DefAt K mg "widest_at" swidest_at ["ring", "x"] := defAt_mk X G a_widest_at l_widest_at c_widest_at k_widest_at fun _ _ _ _ _ _ us hl => match us, hl with | [_, _], _ => rfl
  have d_cover_from : DefAt K mg "cover_from" scover_from ["ring", "first"] := defAt_mk X G a_cover_from l_cover_from c_cover_from k_cover_from fun _ _ _ _ _ _ us hl => match us, hl with | [_, _], _ => rfl
  have d_fewest_arcs : DefAt K mg "fewest_arcs" sfewest_arcs ["ring"] := defAt_mk X G a_fewest_arcs l_fewest_arcs c_fewest_arcs k_fewest_arcs fun _ _ _ _ _ _ us hl => match us, hl with | [_], _ => rfl
  have d__law_cell : DefAt K mg "_law_cell" s_law_cell ["script", "k"] := defAt_mk X G a__law_cell l__law_cell c__law_cell k__law_cell fun _ _ _ _ _ _ us hl => match us, hl with | [_, _], _ => rfl
  have d__law_holds : DefAt K mg "_law_holds" s_law_holds ["n", "arc", "place"] := defAt_mk X G a__law_holds l__law_holds c__law_holds k__law_holds fun _ _ _ _ _ _ us hl => match us, hl with | [_, _, _], _ => rfl
  have d__law_over : DefAt K mg "_law_over" s_law_over ["ring", "x"] := defAt_mk X G a__law_over l__law_over c__law_over k__law_over fun _ _ _ _ _ _ us hl => match us, hl with | [_, _], _ => rfl
  have d__law_filled : DefAt K mg "_law_filled" s_law_filled ["store", "ring"] := defAt_mk X G a__law_filled l__law_filled c__law_filled k__law_filled fun _ _ _ _ _ _ us hl => match us, hl with | [_, _], _ => rfl
  have d__law_whole : DefAt K mg "_law_whole" s_law_whole ["thing"] := defAt_mk X G a__law_whole l__law_whole c__law_whole k__law_whole fun _ _ _ _ _ _ us hl => match us, hl with | [_], _ => rfl
  have d__law_rising : DefAt K mg "_law_rising" s_law_rising ["thing", "beyond"] := defAt_mk X G a__law_rising l__law_rising c__law_rising k__law_rising fun _ _ _ _ _ _ us hl => match us, hl with | [_, _], _ => rfl
  have d__law_covers : DefAt K mg "_law_covers" s_law_covers ["ring", "some"] := defAt_mk X G a__law_covers l__law_covers c__law_covers k__law_covers fun _ _ _ _ _ _ us hl => match us, hl with | [_, _], _ => rfl
  have d_law : DefAt K mg "law" slaw ["script"] := defAt_mk X G a_law l_law c_law k_law fun _ _ _ _ _ _ us hl => match us, hl with | [_], _ => rfl
  obtain ⟨f, fd, F, hm, hb, bt⟩ := d_law.ex
  have e := hfa.symm.trans hm
  cases e
  refine ⟨(fun n => match n with | 0 => C_NoRing | 2 => C_NoPlace | _ => 0), fd, noL, fun s v => bt s [v] rfl, fun base _ _ hsm => ?_⟩
  have T : Top K mg base bnL cnL GXL (fun n => match n with | 0 => C_NoRing | 2 => C_NoPlace | _ => 0) := {
    sm := hsm
    bn := all_cons (PySem.W.mg_none_of X G z_len) (all_cons (PySem.W.mg_none_of X G z_min) (all_cons (PySem.W.mg_none_of X G z_max) (all_cons (PySem.W.mg_none_of X G z_sum) (all_cons (PySem.W.mg_none_of X G z_sorted) (all_cons (PySem.W.mg_none_of X G z_list) (all_cons (PySem.W.mg_none_of X G z_tuple) (all_cons (PySem.W.mg_none_of X G z_abs) (all_cons (PySem.W.mg_none_of X G z_int) (all_cons (PySem.W.mg_none_of X G z_str) (all_cons (PySem.W.mg_none_of X G z_isinstance) (all_cons (PySem.W.mg_none_of X G z_bool) (all_cons (PySem.W.mg_none_of X G z_range) (all_cons (PySem.W.mg_none_of X G z_enumerate) (all_cons (PySem.W.mg_none_of X G z_zip) (all_cons (PySem.W.mg_none_of X G z_set) (all_cons (PySem.W.mg_none_of X G z_repr) (all_cons (PySem.W.mg_none_of X G z_dict) (all_nil))))))))))))))))))
    cn := cn_cons (PySem.W.mg_of X G n_MOST_PLACES) (cn_cons (PySem.W.mg_of X G n_MOST_ARCS) (cn_nil))
    gx := ex_cons (exF_mk X G xa_NoRing xe_NoRing xk_NoRing xb_NoRing xt_NoRing) (ex_cons (exF_mk X G xa_NoPlace xe_NoPlace xk_NoPlace xb_NoPlace xt_NoPlace) (ex_nil)) }
  have h_law_store := g_law_store (P := P) (w := w) (base := base) T d__law_store 
  have h_law_take := g_law_take (P := P) (w := w) (base := base) T d__law_take 
  have h_law_ring := g_law_ring (P := P) (w := w) (base := base) T d__law_ring h_law_take
  have h_law_copy := g_law_copy (P := P) (w := w) (base := base) T d__law_copy 
  have h_law_fewest := g_law_fewest (P := P) (w := w) (base := base) T d__law_fewest 
  have his_number := gis_number (P := P) (w := w) (base := base) T d_is_number 
  have his_arc := gis_arc (P := P) (w := w) (base := base) T d_is_arc his_number
  have his_ring := gis_ring (P := P) (w := w) (base := base) T d_is_ring his_number his_arc
  have hneed_ring := gneed_ring (P := P) (w := w) (base := base) T d_need_ring his_ring
  have hreach_from := greach_from (P := P) (w := w) (base := base) T d_reach_from 
  have hneed_place := gneed_place (P := P) (w := w) (base := base) T d_need_place his_number
  have hholds := gholds (P := P) (w := w) (base := base) T d_holds 
  have harcs_at := garcs_at (P := P) (w := w) (base := base) T d_arcs_at hneed_ring hneed_place hholds
  have hwidest_at := gwidest_at (P := P) (w := w) (base := base) T d_widest_at harcs_at hreach_from
  have hcover_from := gcover_from (P := P) (w := w) (base := base) T d_cover_from hreach_from hwidest_at
  have hfewest_arcs := gfewest_arcs (P := P) (w := w) (base := base) T d_fewest_arcs hneed_ring hcover_from harcs_at
  have h_law_cell := g_law_cell (P := P) (w := w) (base := base) T d__law_cell 
  have h_law_holds := g_law_holds (P := P) (w := w) (base := base) T d__law_holds 
  have h_law_over := g_law_over (P := P) (w := w) (base := base) T d__law_over h_law_holds
  have h_law_filled := g_law_filled (P := P) (w := w) (base := base) T d__law_filled h_law_over h_law_take
  have h_law_whole := g_law_whole (P := P) (w := w) (base := base) T d__law_whole 
  have h_law_rising := g_law_rising (P := P) (w := w) (base := base) T d__law_rising h_law_whole
  have h_law_covers := g_law_covers (P := P) (w := w) (base := base) T d__law_covers h_law_holds
  exact glaw T F h_law_store h_law_ring h_law_copy h_law_fewest hfewest_arcs h_law_cell h_law_take h_law_filled h_law_rising h_law_covers
end
end Ac
open PySem PySem.W PyProof.Rows
set_option maxRecDepth 100000 in
set_option maxHeartbeats 0 in
theorem PySem.Challenge.cw_arcpins_k14_fewest_arcs_holds : PySem.Challenge.rw_arcpins_k14_fewest_arcs.Holds := by
  w_on; o_law; k_head; (case hw => w_witness2)
  k_fill
  refine Ac.walk_ofC (l := PySem.Challenge.rw_arcpins_k14_fewest_arcs) (n := 63) (k := 9) (x := "script") rfl (by decide) rfl ⟨rfl, by decide, by decide⟩ (by first | rfl | decide +kernel) (fun w h Y => PySem.W.kIn_of Y) ?F
  case F =>
    intro w mg fa h KX G hmg
    refine' Ac.all_mk KX G hmg ?z_len ?z_min ?z_max ?z_sum ?z_sorted ?z_list ?z_tuple ?z_abs ?z_int ?z_str ?z_isinstance ?z_bool ?z_range ?z_enumerate ?z_zip ?z_set ?z_repr ?z_dict ?n_MOST_PLACES ?n_MOST_ARCS ?xa_NoRing ?xe_NoRing ?xk_NoRing ?xb_NoRing ?xt_NoRing ?xa_NoPlace ?xe_NoPlace ?xk_NoPlace ?xb_NoPlace ?xt_NoPlace ?a__law_store ?l__law_store ?c__law_store ?k__law_store ?a__law_take ?l__law_take ?c__law_take ?k__law_take ?a__law_ring ?l__law_ring ?c__law_ring ?k__law_ring ?a__law_copy ?l__law_copy ?c__law_copy ?k__law_copy ?a__law_fewest ?l__law_fewest ?c__law_fewest ?k__law_fewest ?a_is_number ?l_is_number ?c_is_number ?k_is_number ?a_is_arc ?l_is_arc ?c_is_arc ?k_is_arc ?a_is_ring ?l_is_ring ?c_is_ring ?k_is_ring ?a_need_ring ?l_need_ring ?c_need_ring ?k_need_ring ?a_reach_from ?l_reach_from ?c_reach_from ?k_reach_from ?a_need_place ?l_need_place ?c_need_place ?k_need_place ?a_holds ?l_holds ?c_holds ?k_holds ?a_arcs_at ?l_arcs_at ?c_arcs_at ?k_arcs_at ?a_widest_at ?l_widest_at ?c_widest_at ?k_widest_at ?a_cover_from ?l_cover_from ?c_cover_from ?k_cover_from ?a_fewest_arcs ?l_fewest_arcs ?c_fewest_arcs ?k_fewest_arcs ?a__law_cell ?l__law_cell ?c__law_cell ?k__law_cell ?a__law_holds ?l__law_holds ?c__law_holds ?k__law_holds ?a__law_over ?l__law_over ?c__law_over ?k__law_over ?a__law_filled ?l__law_filled ?c__law_filled ?k__law_filled ?a__law_whole ?l__law_whole ?c__law_whole ?k__law_whole ?a__law_rising ?l__law_rising ?c__law_rising ?k__law_rising ?a__law_covers ?l__law_covers ?c__law_covers ?k__law_covers ?a_law ?l_law ?c_law ?k_law ?noL
    (case z_len => k_is); (case z_min => k_is); (case z_max => k_is); (case z_sum => k_is); (case z_sorted => k_is); (case z_list => k_is); (case z_tuple => k_is); (case z_abs => k_is); (case z_int => k_is); (case z_str => k_is); (case z_isinstance => k_is); (case z_bool => k_is); (case z_range => k_is); (case z_enumerate => k_is); (case z_zip => k_is); (case z_set => k_is); (case z_repr => k_is); (case z_dict => k_is); (case n_MOST_PLACES => k_is); (case n_MOST_ARCS => k_is); (case xa_NoRing => k_is); (case xe_NoRing => first | k_exc | k_is); (case xk_NoRing => k_is); (case xb_NoRing => k_is); (case xt_NoRing => k_is); (case xa_NoPlace => k_is); (case xe_NoPlace => first | k_exc | k_is); (case xk_NoPlace => k_is); (case xb_NoPlace => k_is); (case xt_NoPlace => k_is); (case a__law_store => k_is); (case l__law_store => k_is); (case c__law_store => k_is); (case k__law_store => k_is); (case a__law_take => k_is); (case l__law_take => k_is); (case c__law_take => k_is); (case k__law_take => k_is); (case a__law_ring => k_is); (case l__law_ring => k_is); (case c__law_ring => k_is); (case k__law_ring => k_is); (case a__law_copy => k_is); (case l__law_copy => k_is); (case c__law_copy => k_is); (case k__law_copy => k_is); (case a__law_fewest => k_is); (case l__law_fewest => k_is); (case c__law_fewest => k_is); (case k__law_fewest => k_is); (case a_is_number => k_is); (case l_is_number => k_is); (case c_is_number => k_is); (case k_is_number => k_is); (case a_is_arc => k_is); (case l_is_arc => k_is); (case c_is_arc => k_is); (case k_is_arc => k_is); (case a_is_ring => k_is); (case l_is_ring => k_is); (case c_is_ring => k_is); (case k_is_ring => k_is); (case a_need_ring => k_is); (case l_need_ring => k_is); (case c_need_ring => k_is); (case k_need_ring => k_is); (case a_reach_from => k_is); (case l_reach_from => k_is); (case c_reach_from => k_is); (case k_reach_from => k_is); (case a_need_place => k_is); (case l_need_place => k_is); (case c_need_place => k_is); (case k_need_place => k_is); (case a_holds => k_is); (case l_holds => k_is); (case c_holds => k_is); (case k_holds => k_is); (case a_arcs_at => k_is); (case l_arcs_at => k_is); (case c_arcs_at => k_is); (case k_arcs_at => k_is); (case a_widest_at => k_is); (case l_widest_at => k_is); (case c_widest_at => k_is); (case k_widest_at => k_is); (case a_cover_from => k_is); (case l_cover_from => k_is); (case c_cover_from => k_is); (case k_cover_from => k_is); (case a_fewest_arcs => k_is); (case l_fewest_arcs => k_is); (case c_fewest_arcs => k_is); (case k_fewest_arcs => k_is); (case a__law_cell => k_is); (case l__law_cell => k_is); (case c__law_cell => k_is); (case k__law_cell => k_is); (case a__law_holds => k_is); (case l__law_holds => k_is); (case c__law_holds => k_is); (case k__law_holds => k_is); (case a__law_over => k_is); (case l__law_over => k_is); (case c__law_over => k_is); (case k__law_over => k_is); (case a__law_filled => k_is); (case l__law_filled => k_is); (case c__law_filled => k_is); (case k__law_filled => k_is); (case a__law_whole => k_is); (case l__law_whole => k_is); (case c__law_whole => k_is); (case k__law_whole => k_is); (case a__law_rising => k_is); (case l__law_rising => k_is); (case c__law_rising => k_is); (case k__law_rising => k_is); (case a__law_covers => k_is); (case l__law_covers => k_is); (case c__law_covers => k_is); (case k__law_covers => k_is); (case a_law => k_is); (case l_law => k_is); (case c_law => k_is); (case k_law => k_is); (case noL => first | rfl | k_is)
