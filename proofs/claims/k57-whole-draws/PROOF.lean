import PyProof.Rows.All
import HandS.ForMost
import HandS.ForExc
import HandS.Wide
import HandS.IsInst
import HandS.Zip
import HandS.Conv
import HandS.SortInts
import HandS.Gcd
import HandS.Style
import HandS.TupAny
import HandS.TupMul
import HandS.Evl
import KE.DataEq
import HandS.TupLe
import KE.DataMinMax
import HandS.Flow
import HandS.Walk
import HandS.Iter
import KE.GoesEnum
import PySem.Challenge.RW_currentkept_k57_whole_draws
import HandS.EndBits
set_option Elab.async false
set_option linter.all false
set_option maxRecDepth 100000
set_option maxHeartbeats 4000000
/-! # Mir1: a small language of values, its evaluator (no heap in sight) -/
namespace Mir
open PySem

/-! ## values -/
inductive D where
  | none | bool (b : Bool) | int (i : Int) | str (s : Str) | list (xs : List D) | tup (xs : List D) | fn (n : Nat) | scr (ns : List Int)
  deriving Inhabited

mutual
/-- the same datum as the library writes it (a def's place is no datum) -/
def D.py : D → PyData
  | .none => .none
  | .bool b => .bool b
  | .int i => .int i
  | .str s => .str s
  | .list xs => .list (D.pys xs)
  | .tup xs => .tuple (D.pys xs)
  | .fn _ => .none
  | .scr _ => .none
def D.pys : List D → List PyData
  | [] => []
  | x :: xs => D.py x :: D.pys xs
end
mutual
/-- no def within -/
def D.pl : D → Bool
  | .list xs => D.pls xs
  | .tup xs => D.pls xs
  | .fn _ => false
  | .scr _ => false
  | _ => true
def D.pls : List D → Bool
  | [] => true
  | x :: xs => D.pl x && D.pls xs
end
mutual
def D.dep : D → Nat
  | .list xs => D.deps xs + 1
  | .tup xs => D.deps xs + 1
  | _ => 0
def D.deps : List D → Nat
  | [] => 0
  | x :: xs => max (D.dep x) (D.deps xs)
end
mutual
/-- == of Python -/
def D.eqv : D → D → Bool
  | .none, .none => true
  | .bool a, .bool b => a == b
  | .bool a, .int j => (if a then 1 else 0) == j
  | .int i, .bool b => i == (if b then 1 else 0)
  | .int i, .int j => i == j
  | .str x, .str y => x == y
  | .list xs, .list ys => D.eqvs xs ys
  | .tup xs, .tup ys => D.eqvs xs ys
  | _, _ => false
def D.eqvs : List D → List D → Bool
  | [], [] => true
  | x :: xs, y :: ys => D.eqv x y && D.eqvs xs ys
  | _, _ => false
end

/-! ## results, slots -/
inductive R (α : Type) where
  | ok (a : α) | exc (c : Nat) | no
/-- an exception is no answer here -/
def R.noX {α : Type} : R α → R α
  | .ok a => .ok a
  | _ => .no
def R.bind {α β : Type} (r : R α) (f : α → R β) : R β :=
  match r with
  | .ok a => f a
  | .exc c => .exc c
  | .no => .no
@[simp] theorem R.bind_ok {α β : Type} (a : α) (f : α → R β) : (R.ok a).bind f = f a := rfl
@[simp] theorem R.bind_exc {α β : Type} (c : Nat) (f : α → R β) : (R.exc c : R α).bind f = .exc c := rfl
@[simp] theorem R.bind_no {α β : Type} (f : α → R β) : (R.no : R α).bind f = .no := rfl
theorem R.bind_eq_ok {α β : Type} {r : R α} {f : α → R β} {b : β} (h : r.bind f = .ok b) : ∃ a, r = .ok a ∧ f a = .ok b := by
  cases r with
  | ok a => exact ⟨a, rfl, h⟩
  | exc c => cases h
  | no => cases h

/-- own: its list may change; lock: it is walked, nobody changes it; froz: it is shared for good -/
inductive LS where
  | own | lock | froz
  deriving DecidableEq
/-- a name's content: nothing, a shared value, a list of its own (pin: a parameter that the caller lends) -/
inductive Slot where
  | emp | sh (d : D) | li (ds : List D) (pin : Bool) (st : LS)
abbrev G := List Slot
/-- an operand: a value, a new list that nobody else holds, a name's own list -/
inductive Opd where
  | val (d : D) | tmp (ds : List D) | slot (i : Nat)
def Slot.d : Slot → D
  | .emp => .none
  | .sh d => d
  | .li ds _ _ => .list ds
def look (Γ : G) : Opd → D
  | .val d => d
  | .tmp ds => .list ds
  | .slot i => (Γ[i]?.getD .emp).d
/-- a name is stored -/
def setS (Γ : G) (i : Nat) (s : Slot) : R G :=
  match Γ[i]? with
  | none => .no
  | some (.li _ true _) => .no
  | some (.li _ _ .lock) => .no
  | some _ => .ok (Γ.set i s)
/-- a list of a name's own becomes shared -/
def freeze (Γ : G) (i : Nat) : R (D × G) :=
  match Γ[i]? with
  | some (.sh d) => .ok (d, Γ)
  | some (.li ds _ .froz) => .ok (.list ds, Γ)
  | some (.li ds true .own) => .ok (.list ds, Γ.set i (.li ds true .froz))
  | some (.li ds false .own) => .ok (.list ds, Γ.set i (.sh (.list ds)))
  | _ => .no
/-- an operand is handed on as a value -/
def toVal (r : Opd × G) : R (D × G) :=
  match r.1 with
  | .val d => .ok (d, r.2)
  | .tmp ds => .ok (.list ds, r.2)
  | .slot i => freeze r.2 i

/-! ## the language -/
inductive B2 where
  | add | sub | mul | fdiv | mod | pow
inductive C2 where
  | eq | ne | lt | le | gt | ge | isN | notN | inn | nin
inductive Ty where
  | int | bool | str | tuple | list
inductive Bf where
  | len | abs | min | max | sum | sorted | int | all | any | isi (t : Ty) | gcd
inductive Tg where
  | nm (i : Nat) | tp (is : List Nat)
mutual
inductive Ex where
  | var (i : Nat) | lit (d : D) | glb (g : Nat)
  | bin (op : B2) (a b : Ex) | neg (a : Ex)
  | cmp (op : C2) (a b : Ex) | chn (op op' : C2) (a b c : Ex)
  | and (a b : Ex) | or (a b : Ex) | not (a : Ex) | ite (c a b : Ex)
  | tup (es : Exs) | lst (es : Exs)
  | ix (a i : Ex) | slc (a : Ex) (lo hi : Exs) | rev (a : Ex)
  | call (f : Nat) (es : Exs) | blt (b : Bf) (es : Exs)
  | pop0 (i : Nat) | popi (i : Nat) (e : Ex)
  | lsq (e : Ex) | tsq (e : Ex) | lrg (es : Exs) | trg (es : Exs)
  | comp (tg : Tg) (it : It) (cs : Exs) (elt : Ex) (own : List Nat)
inductive Exs where
  | nil | cons (e : Ex) (es : Exs)
inductive It where
  | sq (e : Ex) | rng (es : Exs) | zip (a b : Ex) | enm (e : Ex)
end
inductive Sx where
  | skip | seq (a b : Sx)
  | asg (tg : Tg) (e : Ex) | par (i j : Nat) (a b : Ex)
  | sto (i : Nat) (x e : Ex) | app (i : Nat) (e : Ex)
  | ife (c : Ex) (a b : Sx) | forr (tg : Tg) (it : It) (body : Sx) | whl (c : Ex) (body : Sx)
  | ret (e : Ex) | retN | exp (e : Ex) | rse (c : Nat) | brk | cnt | bad

/-! ## operations by values -/
def bigOk (i j : Int) : Bool := decide (i.natAbs.log2 + j.natAbs.log2 < 100000000)
def line (n : Nat) : Bool := decide (n ≤ 16000000)
def b2 (op : B2) (x y : D) : R Opd :=
  match op, x, y with
  | .add, .int i, .int j => .ok (.val (.int (i + j)))
  | .sub, .int i, .int j => .ok (.val (.int (i - j)))
  | .mul, .int i, .int j => if bigOk i j then .ok (.val (.int (i * j))) else .no
  | .fdiv, .int i, .int j => if j ≠ 0 ∧ j.natAbs.log2 < 9000 then .ok (.val (.int (i.fdiv j))) else .no
  | .mod, .int i, .int j => if j ≠ 0 then .ok (.val (.int (i.fmod j))) else .no
  | .pow, .int i, .int j => if 0 ≤ j ∧ j ≤ 1000000 ∧ i.natAbs < 18446744073709551616 then .ok (.val (.int (i ^ j.toNat))) else .no
  | .add, .str a, .str b => if line (a.length + b.length) then .ok (.val (.str (a ++ b))) else .no
  | .add, .list a, .list b => if line (a.length + b.length) then .ok (.tmp (a ++ b)) else .no
  | .add, .tup a, .tup b => if line (a.length + b.length) then .ok (.val (.tup (a ++ b))) else .no
  | .mul, .list a, .int k => if line (a.length * k.toNat) && decide (-(2 ^ 62) ≤ k ∧ k ≤ 2 ^ 62) then .ok (.tmp (List.replicate k.toNat a).flatten) else .no
  | .mul, .tup a, .int k => if decide (-(2 ^ 62) ≤ k ∧ k ≤ 1000 ∧ a.length ≤ 1000) then .ok (.val (.tup (List.replicate k.toNat a).flatten)) else .no
  | _, _, _ => .no
def eqOk (d e : D) : Bool := D.pl d && D.pl e && (decide (D.dep d ≤ 64) || decide (D.dep e ≤ 64))
def D.isNone : D → Bool
  | .none => true
  | _ => false
def inOk (d : D) (xs : List D) : Bool := D.pl d && D.pls xs && (decide (D.dep d ≤ 64) || decide (D.deps xs ≤ 64))
def c2 (op : C2) (d e : D) : R Bool :=
  match op with
  | .eq => if eqOk d e then .ok (D.eqv d e) else .no
  | .ne => if eqOk d e then .ok (!D.eqv d e) else .no
  | .lt => match d, e with | .int i, .int j => .ok (decide (i < j)) | _, _ => .no
  | .le => match d, e with | .int i, .int j => .ok (decide (i ≤ j)) | _, _ => .no
  | .gt => match d, e with | .int i, .int j => .ok (decide (j < i)) | _, _ => .no
  | .ge => match d, e with | .int i, .int j => .ok (decide (j ≤ i)) | _, _ => .no
  | .isN => match d, e with | d, .none => .ok d.isNone | .bool a, .bool b => .ok (decide (a = b)) | _, _ => .no
  | .notN => match d, e with | d, .none => .ok (!d.isNone) | .bool a, .bool b => .ok (!decide (a = b)) | _, _ => .no
  | .inn => match e with
    | .list xs => if inOk d xs then .ok (xs.any fun y => D.eqv y d) else .no
    | .tup xs => if inOk d xs then .ok (xs.any fun y => D.eqv y d) else .no
    | _ => .no
  | .nin => match e with
    | .list xs => if inOk d xs then .ok (!xs.any fun y => D.eqv y d) else .no
    | .tup xs => if inOk d xs then .ok (!xs.any fun y => D.eqv y d) else .no
    | _ => .no
def truth : D → R Bool
  | .none => .ok false
  | .bool b => .ok b
  | .int i => .ok (i != 0)
  | .str s => if line s.length then .ok (s.length != 0) else .no
  | .list xs => .ok (!xs.isEmpty)
  | .tup xs => .ok (!xs.isEmpty)
  | .fn _ => .no
  | .scr _ => .no
def ixOf (n : Nat) (i : Int) : Option Nat := L2.ixN n i
def ixD (d i : D) : R D :=
  match d, i with
  | .list xs, .int i => match L2.atI xs i with | some x => .ok x | none => .no
  | .tup xs, .int i => match L2.atI xs i with | some x => .ok x | none => .no
  | .str z, .int i => if line z.length then (match L2.atI z.cps.toList i with | some c => .ok (.str ⟨#[c]⟩) | none => .no) else .no
  | _, _ => .no
def cut (xs : List D) (lo hi : Option Int) : List D := (xs.drop (HT.sIx xs.length 0 lo)).take (HT.sIx xs.length xs.length hi - HT.sIx xs.length 0 lo)
/-- a slice's part, if it is written -/
def bound : List D → R (Option Int)
  | [] => .ok none
  | [.int i] => .ok (some i)
  | _ => .no
def slD1 (d : D) (l h : Option Int) : R Opd :=
  match d with
  | .list xs => .ok (.tmp (cut xs l h))
  | .tup xs => .ok (.val (.tup (cut xs l h)))
  | _ => .no
def slD (d : D) (lo hi : List D) : R Opd := (bound lo).bind fun l => (bound hi).bind fun h => slD1 d l h
def revD : D → R Opd
  | .list xs => .ok (.tmp xs.reverse)
  | _ => .no
def intsOf : List D → Option (List Int)
  | [] => some []
  | .int i :: r => (intsOf r).map (i :: ·)
  | _ :: _ => none
def boolsOf : List D → Option (List Bool)
  | [] => some []
  | .bool i :: r => (boolsOf r).map (i :: ·)
  | _ :: _ => none
def isTy : Ty → D → R Bool
  | _, .fn _ => .no
  | _, .scr _ => .no
  | .int, .int _ => .ok true
  | .int, .bool _ => .ok true
  | .int, _ => .ok false
  | .bool, .bool _ => .ok true
  | .bool, _ => .ok false
  | .str, .str _ => .ok true
  | .str, _ => .ok false
  | .tuple, .tup _ => .ok true
  | .tuple, _ => .ok false
  | .list, .list _ => .ok true
  | .list, _ => .ok false
def insI (x : Int) : List Int → List Int
  | [] => [x]
  | y :: ys => if x ≤ y then x :: y :: ys else y :: insI x ys
def sortI (xs : List Int) : List Int := xs.foldr insI []
def minL : List Int → Option Int
  | [] => none
  | x :: xs => some (xs.foldl (fun a b => if b < a then b else a) x)
def maxL : List Int → Option Int
  | [] => none
  | x :: xs => some (xs.foldl (fun a b => if a < b then b else a) x)
def seqOf : D → Option (List D)
  | .list xs => some xs
  | .tup xs => some xs
  | _ => none
def bapp (b : Bf) (ds : List D) : R Opd :=
  match b, ds with
  | .len, [.list xs] => .ok (.val (.int xs.length))
  | .len, [.tup xs] => .ok (.val (.int xs.length))
  | .len, [.str z] => if line z.length then .ok (.val (.int z.length)) else .no
  | .abs, [.int i] => .ok (.val (.int (if i < 0 then -i else i)))
  | .min, [.int i, .int j] => .ok (.val (.int (if j < i then j else i)))
  | .max, [.int i, .int j] => .ok (.val (.int (if j > i then j else i)))
  | .min, [.list xs] => match intsOf xs with
    | some ns => (match minL ns with | some m => .ok (.val (.int m)) | none => .no)
    | none => .no
  | .max, [.list xs] => match intsOf xs with
    | some ns => (match maxL ns with | some m => .ok (.val (.int m)) | none => .no)
    | none => .no
  | .min, [.tup xs] => match intsOf xs with
    | some ns => (match minL ns with | some m => .ok (.val (.int m)) | none => .no)
    | none => .no
  | .max, [.tup xs] => match intsOf xs with
    | some ns => (match maxL ns with | some m => .ok (.val (.int m)) | none => .no)
    | none => .no
  | .sum, [.list xs] => match intsOf xs with | some ns => .ok (.val (.int ns.sum)) | none => .no
  | .sorted, [.list xs] => match intsOf xs with | some ns => .ok (.tmp ((sortI ns).map .int)) | none => .no
  | .sorted, [.tup xs] => match intsOf xs with | some ns => .ok (.tmp ((sortI ns).map .int)) | none => .no
  | .int, [.int i] => .ok (.val (.int i))
  | .int, [.bool k] => .ok (.val (.int (if k then 1 else 0)))
  | .all, [.list xs] => match boolsOf xs with | some bs => .ok (.val (.bool (bs.all id))) | none => .no
  | .any, [.list xs] => match boolsOf xs with | some bs => .ok (.val (.bool (bs.any id))) | none => .no
  | .isi t, [d] => (isTy t d).bind fun b => .ok (.val (.bool b))
  | .gcd, [.int a, .int b] => .ok (.val (.int (Nat.gcd a.natAbs b.natAbs : Nat)))
  | _, _ => .no

/-! ## calls: how operands become a callee's slots, and what comes back -/
/-- what a call of def f with such slots gives: the value, whether it is a new list of nobody's, the slots lent behind it -/
abbrev CallT := Nat → List Slot → R (D × Bool × List Slot)
structure Sem where
  call : CallT
  con : Nat → D
def lend (Γ : G) : Opd → Slot
  | .val d => .sh d
  | .tmp ds => .li ds true .own
  | .slot i => match Γ[i]? with
    | some (.li ds _ .froz) => .sh (.list ds)
    | some (.li ds _ st) => .li ds true st
    | some s => s
    | none => .emp
/-- the names whose own lists are lent -/
def lent (Γ : G) : List Opd → List Nat
  | [] => []
  | .slot i :: r => (match Γ[i]? with
    | some (.li _ _ .froz) => lent Γ r
    | some (.li _ _ _) => i :: lent Γ r
    | _ => lent Γ r)
  | _ :: r => lent Γ r
def nodupB : List Nat → Bool
  | [] => true
  | x :: xs => !xs.contains x && nodupB xs
/-- a lent list comes back -/
def back1 (Γ : G) (i : Nat) (s : Slot) : R G :=
  match Γ[i]?, s with
  | some (.li _ p st), .li ds' true st' =>
    (match p, st, st' with
     | _, .own, .own => .ok (Γ.set i (.li ds' p .own))
     | _, .lock, .lock => .ok (Γ.set i (.li ds' p .lock))
     | true, .own, .froz => .ok (Γ.set i (.li ds' true .froz))
     | false, .own, .froz => .ok (Γ.set i (.sh (.list ds')))
     | _, _, _ => .no)
  | _, _ => .no
def back (Γ : G) : List Opd → List Slot → R G
  | [], [] => .ok Γ
  | .slot i :: r, s :: ss => (match Γ[i]? with
    | some (.li _ _ .froz) => back Γ r ss
    | some (.li _ _ _) => (back1 Γ i s).bind fun Γ' => back Γ' r ss
    | _ => back Γ r ss)
  | _ :: r, _ :: ss => back Γ r ss
  | _, _ => .no
def runCall (C : CallT) (f : Nat) (os : List Opd) (Γ : G) : R (Opd × G) :=
  if nodupB (lent Γ os) then
    (C f (os.map (lend Γ))).bind fun r => (back Γ os r.2.2).bind fun Γ' =>
      match r.2.1, r.1 with
      | true, .list ds => .ok (.tmp ds, Γ')
      | true, _ => .no
      | false, d => .ok (.val d, Γ')
  else .no

/-! ## what is walked -/
def rangeL (lo hi : Int) : List D := (List.range (hi - lo).toNat).map fun k => .int (lo + (k : Nat))
def rangeDn (a b : Int) : List D := (List.range (a - b).toNat).map fun k => .int (a - (k : Nat))
def rngOk (i : Int) : Bool := decide (-(2 ^ 62) ≤ i ∧ i < 2 ^ 62)
def rngD : List D → R (List D)
  | [.int n] => if rngOk n then .ok (rangeL 0 n) else .no
  | [.int a, .int b] => if rngOk a && rngOk b then .ok (rangeL a b) else .no
  | [.int a, .int b, .int c] => if rngOk a && (rngOk b && c == -1) then .ok (rangeDn a b) else .no
  | _ => .no
def rngX (ds : List D) : R (List D) := (rngD ds).bind fun xs => if line xs.length then .ok xs else .no
def seqX : D → R (List D)
  | .list xs => .ok xs
  | .tup xs => .ok xs
  | .scr ns => .ok (ns.map .int)
  | _ => .no
def zipD : List D → List D → List D
  | x :: xs, y :: ys => .tup [x, y] :: zipD xs ys
  | _, _ => []
def enmD : Nat → List D → List D
  | _, [] => []
  | k, x :: xs => .tup [.int (k : Nat), x] :: enmD (k + 1) xs
def signsD (z : Str) : List D := z.cps.toList.map fun c => .str ⟨#[c]⟩
def itemsD : D → R (List D)
  | .list xs => .ok xs
  | .tup xs => .ok xs
  | .str z => .ok (signsD z)
  | .scr ns => .ok (ns.map .int)
  | _ => .no
/-- the places whose own lists are walked -/
def walked (Γ : G) : Opd → List Nat
  | .slot i => (match Γ[i]? with | some (.li _ _ .own) => [i] | _ => [])
  | _ => []
def lock1 (Γ : G) (i : Nat) : G :=
  match Γ[i]? with
  | some (.li ds p .own) => Γ.set i (.li ds p .lock)
  | _ => Γ
def unlock1 (Γ : G) (i : Nat) : G :=
  match Γ[i]? with
  | some (.li ds p .lock) => Γ.set i (.li ds p .own)
  | _ => Γ
def lockAll (Γ : G) (is : List Nat) : G := is.foldl lock1 Γ
def unlockAll (Γ : G) (is : List Nat) : G := is.foldl unlock1 Γ
def bindNs : List Nat → List D → G → R G
  | [], [], Γ => .ok Γ
  | i :: is, d :: ds, Γ => (setS Γ i (.sh d)).bind fun Γ' => bindNs is ds Γ'
  | _, _, _ => .no
def bindTg (tg : Tg) (d : D) (Γ : G) : R G :=
  match tg, d with
  | .nm i, d => setS Γ i (.sh d)
  | .tp is, .tup ds => if ds.length = is.length then bindNs is ds Γ else .no
  | .tp _, _ => .no
/-- the block's own names forgotten; none of them may hold a list of its own -/
def wipeG (Γ : G) : List Nat → R G
  | [] => .ok Γ
  | i :: is => (wipeG Γ is).bind fun Γ' => match Γ'[i]? with
    | some (.li _ _ _) => .no
    | some _ => .ok (Γ'.set i .emp)
    | none => .no
/-- behind the block: its own names as they were -/
def restG (Γ0 Γ : G) : List Nat → G
  | [] => Γ
  | i :: is => (restG Γ0 Γ is).set i (Γ0[i]?.getD .emp)
def loopC (f : D → G → R (Option D × G)) : List D → List D → G → R (List D × G)
  | [], acc, Γ => .ok (acc, Γ)
  | x :: xs, acc, Γ => (f x Γ).bind fun r => match r.1 with
    | some y => if line acc.length then loopC f xs (acc ++ [y]) r.2 else .no
    | none => loopC f xs acc r.2

def part (r : R (List Opd × G)) : R (Option Int × G) := r.bind fun r => (bound (r.1.map (look r.2))).bind fun l => .ok (l, r.2)
def isLi (Γ : G) (i : Nat) : Bool :=
  match Γ[i]? with
  | some (.li _ _ _) => true
  | _ => false

/-! ## expressions -/
mutual
def ev (E : Sem) : Ex → G → R (Opd × G)
  | .var i, Γ => (match Γ[i]? with
    | some (.sh d) => .ok (.val d, Γ)
    | some (.li _ _ _) => .ok (.slot i, Γ)
    | _ => .no)
  | .lit d, Γ => .ok (.val d, Γ)
  | .glb g, Γ => .ok (.val (E.con g), Γ)
  | .bin op a b, Γ => (ev E a Γ).bind fun r1 => (ev E b r1.2).bind fun r2 => (b2 op (look r2.2 r1.1) (look r2.2 r2.1)).bind fun o => .ok (o, r2.2)
  | .neg a, Γ => (ev E a Γ).bind fun r => match look r.2 r.1 with
    | .int i => .ok (.val (.int (-i)), r.2)
    | _ => .no
  | .cmp op a b, Γ => (ev E a Γ).bind fun r1 => (ev E b r1.2).bind fun r2 => (c2 op (look r2.2 r1.1) (look r2.2 r2.1)).bind fun t => .ok (.val (.bool t), r2.2)
  | .chn op op' a b c, Γ => (ev E a Γ).bind fun r1 => (ev E b r1.2).bind fun r2 => (c2 op (look r2.2 r1.1) (look r2.2 r2.1)).bind fun t =>
      if t then (ev E c r2.2).bind fun r3 => (c2 op' (look r3.2 r2.1) (look r3.2 r3.1)).bind fun t' => .ok (.val (.bool t'), r3.2) else .ok (.val (.bool false), r2.2)
  | .and a b, Γ => (ev E a Γ).bind fun r => (truth (look r.2 r.1)).bind fun t => if t then ev E b r.2 else .ok r
  | .or a b, Γ => (ev E a Γ).bind fun r => (truth (look r.2 r.1)).bind fun t => if t then .ok r else ev E b r.2
  | .not a, Γ => (ev E a Γ).bind fun r => (truth (look r.2 r.1)).bind fun t => .ok (.val (.bool !t), r.2)
  | .ite c a b, Γ => (ev E c Γ).bind fun r => (truth (look r.2 r.1)).bind fun t => if t then ev E a r.2 else ev E b r.2
  | .tup es, Γ => (evV E es Γ).bind fun r => if line r.1.length then .ok (.val (.tup r.1), r.2) else .no
  | .lst es, Γ => (evV E es Γ).bind fun r => if line r.1.length then .ok (.tmp r.1, r.2) else .no
  | .ix a i, Γ => (ev E a Γ).bind fun r1 => (ev E i r1.2).bind fun r2 => (ixD (look r2.2 r1.1) (look r2.2 r2.1)).bind fun d => .ok (.val d, r2.2)
  | .slc a lo hi, Γ => (ev E a Γ).bind fun r1 => (part (evs E lo r1.2)).bind fun r2 => (part (evs E hi r2.2)).bind fun r3 => (slD1 (look r3.2 r1.1) r2.1 r3.1).bind fun o => .ok (o, r3.2)
  | .rev a, Γ => (ev E a Γ).bind fun r => (revD (look r.2 r.1)).bind fun o => .ok (o, r.2)
  | .call f es, Γ => (evs E es Γ).bind fun r => runCall E.call f r.1 r.2
  | .blt b es, Γ => (evs E es Γ).bind fun r => (bapp b (r.1.map (look r.2))).bind fun o => .ok (o, r.2)
  | .pop0 i, Γ => (match Γ[i]? with
    | some (.li ds p .own) => (match ds[ds.length - 1]? with
      | some d => .ok (.val d, Γ.set i (.li ds.dropLast p .own))
      | none => .no)
    | _ => .no)
  | .popi i e, Γ => if isLi Γ i then (ev E e Γ).bind fun r => (match r.2[i]?, look r.2 r.1 with
    | some (.li ds p .own), .int k => if decide (-(2 ^ 63) ≤ k ∧ k < 2 ^ 63) then (match seqIndex? k ds.length with
        | some j => (match ds[j]? with
          | some d => .ok (.val d, r.2.set i (.li (ds.eraseIdx j) p .own))
          | none => .no)
        | none => .no) else .no
    | _, _ => .no) else .no
  | .lsq e, Γ => (ev E e Γ).bind fun r => (seqX (look r.2 r.1)).bind fun xs => .ok (.tmp xs, r.2)
  | .tsq e, Γ => (ev E e Γ).bind fun r => (seqX (look r.2 r.1)).bind fun xs => .ok (.val (.tup xs), r.2)
  | .lrg es, Γ => (evs E es Γ).bind fun r => (rngX (r.1.map (look r.2))).bind fun xs => .ok (.tmp xs, r.2)
  | .trg es, Γ => (evs E es Γ).bind fun r => (rngX (r.1.map (look r.2))).bind fun xs => .ok (.val (.tup xs), r.2)
  | .comp tg it cs elt own, Γ => (evI E it Γ).bind fun r => (wipeG (lockAll r.2.2 r.2.1) own).bind fun Γ0 =>
      (loopC (fun x Γ1 => R.noX ((bindTg tg x Γ1).bind fun Γ2 => (evC E cs Γ2).bind fun q =>
        if q.1 then (ev E elt q.2).bind fun y => (toVal y).bind fun z => (wipeG z.2 own).bind fun Γ3 => .ok (some z.1, Γ3)
        else (wipeG q.2 own).bind fun Γ3 => .ok (none, Γ3))) r.1 [] Γ0).bind fun q =>
      .ok (.tmp q.1, unlockAll (restG r.2.2 q.2 own) r.2.1)
/-- operands, each as it stands -/
def evs (E : Sem) : Exs → G → R (List Opd × G)
  | .nil, Γ => .ok ([], Γ)
  | .cons e es, Γ => (ev E e Γ).bind fun r => (evs E es r.2).bind fun q => .ok (r.1 :: q.1, q.2)
/-- values, each handed on -/
def evV (E : Sem) : Exs → G → R (List D × G)
  | .nil, Γ => .ok ([], Γ)
  | .cons e es, Γ => (ev E e Γ).bind fun r => (toVal r).bind fun z => (evV E es z.2).bind fun q => .ok (z.1 :: q.1, q.2)
/-- a comprehension's tests (none or one) -/
def evC (E : Sem) : Exs → G → R (Bool × G)
  | .nil, Γ => .ok (true, Γ)
  | .cons e .nil, Γ => (ev E e Γ).bind fun r => (truth (look r.2 r.1)).bind fun t => .ok (t, r.2)
  | .cons _ (.cons _ _), _ => .no
/-- the items that are walked, the names whose own lists they are -/
def evI (E : Sem) : It → G → R (List D × List Nat × G)
  | .sq e, Γ => (ev E e Γ).bind fun r => (itemsD (look r.2 r.1)).bind fun xs => .ok (xs, walked r.2 r.1, r.2)
  | .rng es, Γ => (evs E es Γ).bind fun r => (rngD (r.1.map (look r.2))).bind fun xs => .ok (xs, [], r.2)
  | .zip a b, Γ => (ev E a Γ).bind fun r1 => (ev E b r1.2).bind fun r2 => (match look r2.2 r1.1, look r2.2 r2.1 with
    | .list xs, .list ys => .ok (zipD xs ys, walked r2.2 r1.1 ++ walked r2.2 r2.1, r2.2)
    | .tup xs, .tup ys => .ok (zipD xs ys, [], r2.2)
    | _, _ => .no)
  | .enm e, Γ => (ev E e Γ).bind fun r => (match look r.2 r.1 with
    | .list xs => .ok (enmD 0 xs, walked r.2 r.1, r.2)
    | .tup xs => .ok (enmD 0 xs, [], r.2)
    | _ => .no)
end

/-! ## statements -/
inductive Fl where
  | nx | bk | ct | rt (d : D) (own : Bool)
def loopF (b : D → G → R (Fl × G)) : List D → G → R (Fl × G)
  | [], Γ => .ok (.nx, Γ)
  | d :: ds, Γ => (b d Γ).bind fun r => (match r.1 with
    | .nx => loopF b ds r.2
    | .ct => loopF b ds r.2
    | .bk => .ok (.nx, r.2)
    | .rt d o => .ok (.rt d o, r.2))
def loopW (c : G → R (Bool × G)) (b : G → R (Fl × G)) : Nat → G → R (Fl × G)
  | 0, _ => .no
  | n + 1, Γ => (c Γ).bind fun t => if t.1 then (b t.2).bind fun r => (match r.1 with
    | .nx => loopW c b n r.2
    | .ct => loopW c b n r.2
    | .bk => .ok (.nx, r.2)
    | .rt d o => .ok (.rt d o, r.2)) else .ok (.nx, t.2)
/-- more turns than any while of the program takes -/
def wFuel : Nat := 100000
/-- what a name gets of an operand -/
def keep (r : Opd × G) : R (Slot × G) :=
  match r.1 with
  | .val d => .ok (.sh d, r.2)
  | .tmp ds => .ok (.li ds false .own, r.2)
  | .slot i => (freeze r.2 i).bind fun z => .ok (.sh z.1, z.2)
def retOf (r : Opd × G) : R (Fl × G) :=
  match r.1 with
  | .val d => .ok (.rt d false, r.2)
  | .tmp ds => .ok (.rt (.list ds) true, r.2)
  | .slot i => (match r.2[i]? with
    | some (.li ds false .own) => .ok (.rt (.list ds) true, r.2.set i .emp)
    | _ => (freeze r.2 i).bind fun z => .ok (.rt z.1 false, z.2))
def ex (E : Sem) : Sx → G → R (Fl × G)
  | .skip, Γ => .ok (.nx, Γ)
  | .seq a b, Γ => (ex E a Γ).bind fun r => (match r.1 with
    | .nx => ex E b r.2
    | f => .ok (f, r.2))
  | .asg (.nm i) e, Γ => (ev E e Γ).bind fun r => (keep r).bind fun k => (setS k.2 i k.1).bind fun Γ' => .ok (.nx, Γ')
  | .asg (.tp is) e, Γ => (ev E e Γ).bind fun r => (toVal r).bind fun z => (bindTg (.tp is) z.1 z.2).bind fun Γ' => .ok (.nx, Γ')
  | .par i j a b, Γ => (ev E a Γ).bind fun r1 => (keep r1).bind fun k1 => (ev E b k1.2).bind fun r2 => (keep r2).bind fun k2 => (setS k2.2 i k1.1).bind fun Γ1 => (setS Γ1 j k2.1).bind fun Γ2 => .ok (.nx, Γ2)
  | .sto i x e, Γ => (ev E e Γ).bind fun r => (toVal r).bind fun z => if isLi z.2 i then (ev E x z.2).bind fun q => (match q.2[i]?, look q.2 q.1 with
    | some (.li ds p .own), .int k => (match L2.ixN ds.length k with
      | some j => .ok (.nx, q.2.set i (.li (ds.set j z.1) p .own))
      | none => .no)
    | _, _ => .no) else .no
  | .app i e, Γ => if isLi Γ i then (ev E e Γ).bind fun r => (toVal r).bind fun z => (match z.2[i]? with
    | some (.li ds p .own) => if line ds.length then .ok (.nx, z.2.set i (.li (ds ++ [z.1]) p .own)) else .no
    | _ => .no) else .no
  | .ife c a b, Γ => (ev E c Γ).bind fun r => (truth (look r.2 r.1)).bind fun t => if t then ex E a r.2 else ex E b r.2
  | .forr tg it body, Γ => (evI E it Γ).bind fun r => (loopF (fun x Γ1 => (bindTg tg x Γ1).bind fun Γ2 => ex E body Γ2) r.1 (lockAll r.2.2 r.2.1)).bind fun q => .ok (q.1, unlockAll q.2 r.2.1)
  | .whl c body, Γ => loopW (fun Γ1 => (ev E c Γ1).bind fun r => (truth (look r.2 r.1)).bind fun t => .ok (t, r.2)) (fun Γ1 => ex E body Γ1) wFuel Γ
  | .ret e, Γ => (ev E e Γ).bind retOf
  | .retN, Γ => .ok (.rt .none false, Γ)
  | .exp e, Γ => (ev E e Γ).bind fun r => .ok (.nx, r.2)
  | .rse c, _ => .exc c
  | .brk, Γ => .ok (.bk, Γ)
  | .cnt, Γ => .ok (.ct, Γ)
  | .bad, _ => .no

/-! ## defs -/
structure Fn where
  np : Nat
  ns : Nat
  body : Sx
/-- a lent slot as it is handed back -/
def fin1 : Slot → Slot
  | .li ds true st => .li ds true st
  | _ => .emp
def finish (np : Nat) (r : R (Fl × G)) : R (D × Bool × List Slot) :=
  r.bind fun q => (match q.1 with
    | .nx => .ok (.none, false, (q.2.take np).map fin1)
    | .rt d o => .ok (d, o, (q.2.take np).map fin1)
    | _ => .no)
def runFn (E : Sem) (fn : Fn) (args : List Slot) : R (D × Bool × List Slot) :=
  if args.length = fn.np then finish fn.np (ex E fn.body (args ++ List.replicate (fn.ns - fn.np) .emp)) else .no
structure Tab where
  fns : List Fn
  con : Nat → D
/-- calls, at most n deep -/
def callN (T : Tab) : Nat → CallT
  | 0, _, _ => .no
  | n + 1, f, args => match T.fns[f]? with
    | some fn => runFn ⟨callN T n, T.con⟩ fn args
    | none => .no
end Mir

set_option Elab.async false
set_option linter.all false
set_option maxRecDepth 100000
set_option maxHeartbeats 4000000
/-! # Mir2: how data, slots and results stand in an abstract heap -/
namespace Mir
open PySem L2

/-! ## data in a heap; A: the addresses that they keep clear of -/
/-- a tuple that is tracked and clear of A, or one of the written part -/
def ST (K : PySem.W.Frag) (A : Addr → Prop) (H : Hp) (a : Addr) (vs : List V) : Prop :=
  (Rd H a (.tup vs) ∧ ¬ A a) ∨ ∃ (o : Obj) (its : Array Value) (n : Nat), K.lookup a = some o ∧ o.cls = .type "tuple" ∧ o.data = .seq its n ∧ its.size ≤ sizeLine ∧ Vals vs its.toList
def SS (K : PySem.W.Frag) (A : Addr → Prop) (H : Hp) (a : Addr) (vs : List V) : Prop :=
  (Rd H a (.lst vs) ∧ ¬ A a) ∨ ∃ (o : Obj) (its : Array Value) (n : Nat), K.lookup a = some o ∧ o.cls = .type "list" ∧ o.dict = none ∧ o.data = .seq its n ∧ its.size ≤ sizeLine ∧ Vals vs its.toList
section
variable (K : PySem.W.Frag) (A : Addr → Prop) (H : Hp)
mutual
def DV : D → V → Prop
  | .none, v => v = .non
  | .bool b, v => v = .bl b
  | .int i, v => v = .int i
  | .str s, v => v = .str s
  | .list xs, v => ∃ a vs, v = .ref a ∧ (H a = some (.lst vs) ∧ ¬ A a) ∧ DVs xs vs
  | .tup xs, v => ∃ a vs, v = .ref a ∧ ST K A H a vs ∧ DVs xs vs
  | .fn _, _ => False
  | .scr ns, v => ∃ a, v = .ref a ∧ SS K A H a (ns.map V.int)
def DVs : List D → List V → Prop
  | [], vs => vs = []
  | x :: xs, vs => ∃ v r, vs = v :: r ∧ DV x v ∧ DVs xs r
end
end
/-- as DV, but a list may itself be one of A's -/
def PV (K : PySem.W.Frag) (A : Addr → Prop) (H : Hp) (d : D) (v : V) : Prop :=
  match d with
  | .list xs => ∃ a vs, v = .ref a ∧ H a = some (.lst vs) ∧ DVs K A H xs vs
  | d => DV K A H d v

section
variable {K : PySem.W.Frag} {A A' : Addr → Prop} {H H' : Hp} {d : D} {v : V} {ds es : List D} {vs ws : List V}
theorem ST.sq {a : Addr} (h : ST K A H a vs) : SqT K H a vs := by
  rcases h with ⟨h, _⟩ | h
  · exact .inl h
  · exact .inr h
theorem SS.sq {a : Addr} (h : SS K A H a vs) : SqL K H a vs := by
  rcases h with ⟨h, _⟩ | h
  · exact .inl h
  · exact .inr h
theorem rd_mono {a : Addr} {o : HO} (h : Rd H a o) (f : ∀ a o, ¬ A a → H a = some o → H' a = some o) (n : ¬ A a) : Rd H' a o := by
  rcases h with h | ⟨u, h⟩
  · exact .inl (f a _ n h)
  · exact .inr ⟨u, f a _ n h⟩
theorem rd_some {a : Addr} {o : HO} (h : Rd H a o) : ∃ u, H a = some u := by
  rcases h with h | ⟨u, h⟩
  · exact ⟨_, h⟩
  · exact ⟨_, h⟩
/-- what data ask of a step: what is clear of A stays, and what was there is not newly taken into A -/
structure Mv (A A' : Addr → Prop) (H H' : Hp) : Prop where
  st : ∀ a o, ¬ A a → H a = some o → H' a = some o
  na : ∀ a o, H a = some o → A' a → A a
mutual
theorem DV.mv (m : Mv A A' H H') : ∀ {d : D} {v : V}, DV K A H d v → DV K A' H' d v
  | .none, _, h => h
  | .bool _, _, h => h
  | .int _, _, h => h
  | .str _, _, h => h
  | .list xs, v, h => by
    unfold DV at h ⊢
    obtain ⟨a, vs, e, ⟨h1, h2⟩, h3⟩ := h
    exact ⟨a, vs, e, ⟨m.st a _ h2 h1, fun z => h2 (m.na a _ h1 z)⟩, DVs.mv m h3⟩
  | .tup xs, v, h => by
    unfold DV at h ⊢
    obtain ⟨a, vs, e, h1, h3⟩ := h
    refine ⟨a, vs, e, ?_, DVs.mv m h3⟩
    rcases h1 with ⟨h1, h2⟩ | h1
    · obtain ⟨u, hu⟩ := rd_some h1
      exact .inl ⟨rd_mono h1 m.st h2, fun z => h2 (m.na a u hu z)⟩
    · exact .inr h1
  | .fn _, _, h => h
  | .scr _, v, h => by
    unfold DV at h ⊢
    obtain ⟨a, e, h1⟩ := h
    refine ⟨a, e, ?_⟩
    rcases h1 with ⟨h1, h2⟩ | h1
    · obtain ⟨u, hu⟩ := rd_some h1
      exact .inl ⟨rd_mono h1 m.st h2, fun z => h2 (m.na a u hu z)⟩
    · exact .inr h1
theorem DVs.mv (m : Mv A A' H H') : ∀ {ds : List D} {vs : List V}, DVs K A H ds vs → DVs K A' H' ds vs
  | [], _, h => h
  | d :: ds, vs, h => by
    unfold DVs at h ⊢
    obtain ⟨v, r, e, h1, h2⟩ := h
    exact ⟨v, r, e, DV.mv m h1, DVs.mv m h2⟩
end
theorem DV.pv (h : DV K A H d v) : PV K A H d v := by
  cases d with
  | list xs =>
    unfold DV at h
    obtain ⟨a, vs, e, ⟨h1, _⟩, h3⟩ := h
    exact ⟨a, vs, e, h1, h3⟩
  | _ => exact h
theorem DVs.length : ∀ {ds : List D} {vs : List V}, DVs K A H ds vs → vs.length = ds.length
  | [], vs, h => by unfold DVs at h; subst h; rfl
  | d :: ds, vs, h => by
    unfold DVs at h
    obtain ⟨v, r, e, _, h2⟩ := h
    rw [e, List.length_cons, List.length_cons, DVs.length h2]
theorem DVs.nil : DVs K A H [] [] := by unfold DVs; rfl
theorem DVs.cons (h : DV K A H d v) (t : DVs K A H ds vs) : DVs K A H (d :: ds) (v :: vs) := by
  unfold DVs
  exact ⟨v, vs, rfl, h, t⟩
theorem DVs.get : ∀ {ds : List D} {vs : List V} {i : Nat} {d : D}, DVs K A H ds vs → ds[i]? = some d → ∃ v, vs[i]? = some v ∧ DV K A H d v
  | [], _, _, _, _, e => by simp at e
  | d :: ds, vs, i, x, h, e => by
    unfold DVs at h
    obtain ⟨v, r, rfl, h1, h2⟩ := h
    cases i with
    | zero => simp at e; subst e; exact ⟨v, rfl, h1⟩
    | succ i => exact DVs.get (i := i) h2 (by simpa using e)
theorem DVs.getV : ∀ {ds : List D} {vs : List V} {i : Nat} {v : V}, DVs K A H ds vs → vs[i]? = some v → ∃ d, ds[i]? = some d ∧ DV K A H d v
  | [], _, _, _, h, e => by unfold DVs at h; subst h; simp at e
  | d :: ds, vs, i, x, h, e => by
    unfold DVs at h
    obtain ⟨v, r, rfl, h1, h2⟩ := h
    cases i with
    | zero => simp at e; subst e; exact ⟨d, rfl, h1⟩
    | succ i => exact DVs.getV (i := i) h2 (by simpa using e)
theorem DVs.append : ∀ {ds es : List D} {vs ws : List V}, DVs K A H ds vs → DVs K A H es ws → DVs K A H (ds ++ es) (vs ++ ws)
  | [], _, _, _, h, t => by unfold DVs at h; subst h; exact t
  | d :: ds, es, vs, ws, h, t => by
    unfold DVs at h
    obtain ⟨v, r, rfl, h1, h2⟩ := h
    exact DVs.cons h1 (DVs.append h2 t)
theorem DVs.take : ∀ {ds : List D} {vs : List V} (n : Nat), DVs K A H ds vs → DVs K A H (ds.take n) (vs.take n)
  | _, _, 0, _ => by simp [DVs.nil]
  | [], vs, n + 1, h => by unfold DVs at h; subst h; simp [DVs.nil]
  | d :: ds, vs, n + 1, h => by
    unfold DVs at h
    obtain ⟨v, r, rfl, h1, h2⟩ := h
    exact DVs.cons h1 (DVs.take n h2)
theorem DVs.drop : ∀ {ds : List D} {vs : List V} (n : Nat), DVs K A H ds vs → DVs K A H (ds.drop n) (vs.drop n)
  | _, _, 0, h => h
  | [], vs, n + 1, h => by unfold DVs at h; subst h; simp [DVs.nil]
  | d :: ds, vs, n + 1, h => by
    unfold DVs at h
    obtain ⟨v, r, rfl, h1, h2⟩ := h
    exact DVs.drop n h2
theorem DVs.reverse : ∀ {ds : List D} {vs : List V}, DVs K A H ds vs → DVs K A H ds.reverse vs.reverse
  | [], vs, h => by unfold DVs at h; subst h; exact DVs.nil
  | d :: ds, vs, h => by
    unfold DVs at h
    obtain ⟨v, r, rfl, h1, h2⟩ := h
    rw [List.reverse_cons, List.reverse_cons]
    exact (DVs.reverse h2).append (DVs.cons h1 DVs.nil)
theorem DVs.set : ∀ {ds : List D} {vs : List V} (i : Nat), DVs K A H ds vs → DV K A H d v → DVs K A H (ds.set i d) (vs.set i v)
  | [], vs, i, h, _ => by unfold DVs at h; subst h; exact DVs.nil
  | e :: ds, vs, i, h, q => by
    unfold DVs at h
    obtain ⟨w, r, rfl, h1, h2⟩ := h
    cases i with
    | zero => exact DVs.cons q h2
    | succ i => exact DVs.cons h1 (DVs.set i h2 q)
theorem DVs.eraseIdx : ∀ {ds : List D} {vs : List V} (i : Nat), DVs K A H ds vs → DVs K A H (ds.eraseIdx i) (vs.eraseIdx i)
  | [], vs, i, h => by unfold DVs at h; subst h; exact DVs.nil
  | e :: ds, vs, i, h => by
    unfold DVs at h
    obtain ⟨w, r, rfl, h1, h2⟩ := h
    cases i with
    | zero => exact h2
    | succ i => exact DVs.cons h1 (DVs.eraseIdx i h2)
theorem DVs.dropLast {ds : List D} {vs : List V} (h : DVs K A H ds vs) : DVs K A H ds.dropLast vs.dropLast := by
  rw [List.dropLast_eq_take, List.dropLast_eq_take, h.length]
  exact h.take _
theorem DVs.rep {ds : List D} {vs : List V} (h : DVs K A H ds vs) : ∀ k : Nat, DVs K A H (List.replicate k ds).flatten (List.replicate k vs).flatten
  | 0 => by simp [DVs.nil]
  | k + 1 => by
    rw [List.replicate_succ, List.replicate_succ, List.flatten_cons, List.flatten_cons]
    exact h.append (DVs.rep h k)
theorem DVs.ints : ∀ {ns : List Int} {ds : List D} {vs : List V}, DVs K A H ds vs → intsOf ds = some ns → vs = ns.map V.int
  | ns, [], vs, h, e => by
    unfold DVs at h
    unfold intsOf at e
    cases e
    rw [h]; rfl
  | ns, d :: ds, vs, h, e => by
    unfold DVs at h
    obtain ⟨v, r, rfl, h1, h2⟩ := h
    cases d with
    | int i =>
      unfold intsOf at e
      cases q : intsOf ds with
      | none => rw [q] at e; cases e
      | some ms =>
        rw [q] at e
        cases e
        unfold DV at h1
        rw [h1, DVs.ints h2 q]
        rfl
    | _ => cases e
theorem DVs.bools : ∀ {ns : List Bool} {ds : List D} {vs : List V}, DVs K A H ds vs → boolsOf ds = some ns → vs = ns.map V.bl
  | ns, [], vs, h, e => by
    unfold DVs at h
    unfold boolsOf at e
    cases e
    rw [h]; rfl
  | ns, d :: ds, vs, h, e => by
    unfold DVs at h
    obtain ⟨v, r, rfl, h1, h2⟩ := h
    cases d with
    | bool i =>
      unfold boolsOf at e
      cases q : boolsOf ds with
      | none => rw [q] at e; cases e
      | some ms =>
        rw [q] at e
        cases e
        unfold DV at h1
        rw [h1, DVs.bools h2 q]
        rfl
    | _ => cases e
theorem DVs.ofInts : ∀ ns : List Int, DVs K A H (ns.map .int) (ns.map V.int)
  | [] => DVs.nil
  | n :: ns => DVs.cons (by unfold DV; rfl) (DVs.ofInts ns)
end

/-! ## data as the library reads it -/
mutual
theorem DV.dp {K : PySem.W.Frag} {A : Addr → Prop} {H : Hp} : ∀ {d : D} {v : V}, DV K A H d v → D.pl d = true → Dp K H v (D.py d)
  | .none, _, h, _ => by unfold DV at h; subst h; unfold D.py; exact .non
  | .bool b, _, h, _ => by unfold DV at h; subst h; unfold D.py; exact .bl b
  | .int i, _, h, _ => by unfold DV at h; subst h; unfold D.py; exact .int i
  | .str s, _, h, _ => by unfold DV at h; subst h; unfold D.py; exact .str s
  | .list xs, v, h, p => by
    unfold DV at h
    unfold D.pl at p
    obtain ⟨a, vs, rfl, ⟨h1, _⟩, h3⟩ := h
    unfold D.py
    exact .lst (.inl (.inl h1)) (DVs.dp h3 p)
  | .tup xs, v, h, p => by
    unfold DV at h
    unfold D.pl at p
    obtain ⟨a, vs, rfl, h1, h3⟩ := h
    unfold D.py
    exact .tup h1.sq (DVs.dp h3 p)
  | .fn _, _, h, _ => by unfold DV at h; exact h.elim
  | .scr _, _, _, p => by unfold D.pl at p; cases p
theorem DVs.dp {K : PySem.W.Frag} {A : Addr → Prop} {H : Hp} : ∀ {ds : List D} {vs : List V}, DVs K A H ds vs → D.pls ds = true → DpAll K H vs (D.pys ds)
  | [], vs, h, _ => by unfold DVs at h; subst h; unfold D.pys; exact .nil
  | d :: ds, vs, h, p => by
    unfold DVs at h
    unfold D.pls at p
    rw [Bool.and_eq_true] at p
    obtain ⟨v, r, rfl, h1, h2⟩ := h
    unfold D.pys
    exact .cons (DV.dp h1 p.1) (DVs.dp h2 p.2)
end
theorem PV.dp {K : PySem.W.Frag} {A : Addr → Prop} {H : Hp} {d : D} {v : V} (h : PV K A H d v) (p : D.pl d = true) : Dp K H v (D.py d) := by
  cases d with
  | list xs =>
    obtain ⟨a, vs, rfl, h1, h3⟩ := h
    unfold D.pl at p
    unfold D.py
    exact .lst (.inl (.inl h1)) (DVs.dp h3 p)
  | _ => exact DV.dp (A := A) h p
mutual
theorem py_plain : ∀ d : D, (D.py d).plain = true
  | .none => rfl
  | .bool _ => rfl
  | .int _ => rfl
  | .str _ => rfl
  | .list xs => by unfold D.py PyData.plain; exact pys_plain xs
  | .tup xs => by unfold D.py PyData.plain; exact pys_plain xs
  | .fn _ => rfl
  | .scr _ => rfl
theorem pys_plain : ∀ ds : List D, PyData.plainAll (D.pys ds) = true
  | [] => rfl
  | d :: ds => by
    unfold D.pys PyData.plainAll
    rw [py_plain d, pys_plain ds]
    rfl
end
mutual
theorem py_dep : ∀ d : D, (D.py d).depth = D.dep d
  | .none => rfl
  | .bool _ => rfl
  | .int _ => rfl
  | .str _ => rfl
  | .list xs => by unfold D.py PyData.depth D.dep; rw [pys_dep xs]
  | .tup xs => by unfold D.py PyData.depth D.dep; rw [pys_dep xs]
  | .fn _ => rfl
  | .scr _ => rfl
theorem pys_dep : ∀ ds : List D, PyData.depthAll (D.pys ds) = D.deps ds
  | [] => rfl
  | d :: ds => by unfold D.pys PyData.depthAll D.deps; rw [py_dep d, pys_dep ds]
end
mutual
theorem py_eqv : ∀ d e : D, D.pl d = true → D.pl e = true → PyData.eqv (D.py d) (D.py e) = D.eqv d e
  | .none, e, _, q => by cases e <;> first | rfl | (unfold D.pl at q; cases q) | (unfold D.py PyData.eqv D.eqv; rfl)
  | .bool _, e, _, q => by cases e <;> first | rfl | (unfold D.pl at q; cases q) | (unfold D.py PyData.eqv D.eqv; rfl)
  | .int _, e, _, q => by cases e <;> first | rfl | (unfold D.pl at q; cases q) | (unfold D.py PyData.eqv D.eqv; rfl)
  | .str _, e, _, q => by cases e <;> first | rfl | (unfold D.pl at q; cases q) | (unfold D.py PyData.eqv D.eqv; rfl)
  | .list xs, e, p, q => by
    cases e with
    | list ys =>
      unfold D.pl at p q
      unfold D.py PyData.eqv D.eqv
      exact pys_eqv xs ys p q
    | _ => first | (unfold D.pl at q; cases q; done) | (unfold D.py PyData.eqv D.eqv; rfl)
  | .tup xs, e, p, q => by
    cases e with
    | tup ys =>
      unfold D.pl at p q
      unfold D.py PyData.eqv D.eqv
      exact pys_eqv xs ys p q
    | _ => first | (unfold D.pl at q; cases q; done) | (unfold D.py PyData.eqv D.eqv; rfl)
  | .fn _, _, p, _ => by unfold D.pl at p; cases p
  | .scr _, _, p, _ => by unfold D.pl at p; cases p
theorem pys_eqv : ∀ ds es : List D, D.pls ds = true → D.pls es = true → PyData.eqvAll (D.pys ds) (D.pys es) = D.eqvs ds es
  | [], [], _, _ => rfl
  | [], _ :: _, _, _ => by unfold D.pys PyData.eqvAll D.eqvs; rfl
  | _ :: _, [], _, _ => by unfold D.pys PyData.eqvAll D.eqvs; rfl
  | d :: ds, e :: es, p, q => by
    unfold D.pls at p q
    rw [Bool.and_eq_true] at p q
    unfold D.pys PyData.eqvAll D.eqvs
    rw [py_eqv d e p.1 q.1, pys_eqv ds es p.2 q.2]
end
end Mir

set_option Elab.async false
set_option autoImplicit false
set_option linter.all false
set_option maxRecDepth 100000
set_option maxHeartbeats 4000000
/-! # Mir3: slots in a heap, steps, what an evaluation asks -/
namespace Mir
open PySem L2

def Lv (σ : St) (Γ : G) (a : Addr) : Prop := ∃ (i : Nat) (ds : List D) (p : Bool) (st : LS), Γ[i]? = some (Slot.li ds p st) ∧ st ≠ .froz ∧ σ[i]? = some (some (V.ref a))
def Mu (σ : St) (Γ : G) (a : Addr) : Prop := ∃ (i : Nat) (ds : List D) (p : Bool), Γ[i]? = some (Slot.li ds p .own) ∧ σ[i]? = some (some (V.ref a))
def Av (Ao : Addr → Prop) (σ : St) (Γ : G) (a : Addr) : Prop := Ao a ∨ Lv σ Γ a
theorem Mu.lv {σ : St} {Γ : G} {a : Addr} (h : Mu σ Γ a) : Lv σ Γ a := by
  obtain ⟨i, ds, p, h1, h2⟩ := h
  exact ⟨i, ds, p, .own, h1, by decide, h2⟩

/-- Ao: temporary lists and what the callers keep for themselves -/
structure Rel (K : PySem.W.Frag) (Ao : Addr → Prop) (σ : St) (H : Hp) (Γ : G) : Prop where
  len : σ.length = Γ.length
  dom : ∀ a, Ao a → H a ≠ none
  sh : ∀ (i : Nat) d, Γ[i]? = some (Slot.sh d) → ∃ v, σ[i]? = some (some v) ∧ DV K (Av Ao σ Γ) H d v
  li : ∀ (i : Nat) ds p st, Γ[i]? = some (Slot.li ds p st) → ∃ a vs, σ[i]? = some (some (V.ref a)) ∧ H a = some (.lst vs) ∧ DVs K (Av Ao σ Γ) H ds vs ∧ (st ≠ .froz → ¬ Ao a) ∧ (st = .froz → ¬ Av Ao σ Γ a)
  inj : ∀ (i j : Nat) ds p st ds' p' st' a, Γ[i]? = some (Slot.li ds p st) → st ≠ .froz → Γ[j]? = some (Slot.li ds' p' st') → st' ≠ .froz → σ[i]? = some (some (V.ref a)) → σ[j]? = some (some (V.ref a)) → i = j

section
variable {K : PySem.W.Frag} {Ao Ao' Ao1 Ao2 : Addr → Prop} {σ σ' σ1 σ2 : St} {H H' H0 H1 H2 : Hp} {Γ Γ' Γ1 Γ2 : G}
theorem Rel.lvDom (r : Rel K Ao σ H Γ) {a : Addr} (h : Lv σ Γ a) : H a ≠ none := by
  obtain ⟨i, ds, p, st, h1, _, h3⟩ := h
  obtain ⟨b, vs, e, q, _⟩ := r.li i ds p st h1
  rw [h3] at e
  cases e
  rw [q]
  exact fun z => by cases z
theorem Rel.avDom (r : Rel K Ao σ H Γ) {a : Addr} (h : Av Ao σ Γ a) : H a ≠ none := by
  rcases h with h | h
  · exact r.dom a h
  · exact r.lvDom h
theorem Rel.lvAo (r : Rel K Ao σ H Γ) {a : Addr} (h : Lv σ Γ a) : ¬ Ao a := by
  obtain ⟨i, ds, p, st, h1, h2, h3⟩ := h
  obtain ⟨b, vs, e, q, _, z, _⟩ := r.li i ds p st h1
  rw [h3] at e
  cases e
  exact z h2
/-- the heap grows, new addresses are taken into Ao -/
theorem Rel.grow (r : Rel K Ao σ H Γ) (k : ∀ a o, H a = some o → H' a = some o) (ha : ∀ a, Ao a → Ao' a) (hn : ∀ a, Ao' a → Ao a ∨ (H a = none ∧ H' a ≠ none)) : Rel K Ao' σ H' Γ := by
  have nn : ∀ a o, H a = some o → Ao' a → Ao a := fun a o e z => by
    rcases hn a z with q | ⟨q, _⟩
    · exact q
    · rw [q] at e; cases e
  have m : Mv (Av Ao σ Γ) (Av Ao' σ Γ) H H' := ⟨fun a o _ e => k a o e, fun a o e z => by
    rcases z with z | z
    · exact .inl (nn a o e z)
    · exact .inr z⟩
  refine ⟨r.len, fun a z => ?_, fun i d e => ?_, fun i ds p st e => ?_, r.inj⟩
  · rcases hn a z with q | ⟨_, q⟩
    · intro w
      cases e : H a with
      | none => exact r.dom a q e
      | some o => rw [k a o e] at w; cases w
    · exact q
  · obtain ⟨v, h1, h2⟩ := r.sh i d e
    exact ⟨v, h1, h2.mv m⟩
  · obtain ⟨a, vs, h1, h2, h3, h4, h5⟩ := r.li i ds p st e
    refine ⟨a, vs, h1, k a _ h2, h3.mv m, fun q z => h4 q (nn a _ h2 z), fun q z => h5 q (m.na a _ h2 z)⟩
theorem Rel.drop (r : Rel K Ao' σ H Γ) (h : ∀ a, Ao a → Ao' a) : Rel K Ao σ H Γ := by
  have sub : ∀ a, Av Ao σ Γ a → Av Ao' σ Γ a := fun a z => z.elim (fun z => .inl (h a z)) .inr
  have m : Mv (Av Ao' σ Γ) (Av Ao σ Γ) H H := ⟨fun _ _ _ e => e, fun a _ _ z => sub a z⟩
  refine ⟨r.len, fun a z => r.dom a (h a z), fun i d e => ?_, fun i ds p st e => ?_, r.inj⟩
  · obtain ⟨v, h1, h2⟩ := r.sh i d e
    exact ⟨v, h1, h2.mv m⟩
  · obtain ⟨a, vs, h1, h2, h3, h4, h5⟩ := r.li i ds p st e
    exact ⟨a, vs, h1, h2, h3.mv m, fun q z => h4 q (h a z), fun q z => h5 q (sub a z)⟩

/-- what a step may do -/
structure Stp (K : PySem.W.Frag) (Ao : Addr → Prop) (σ : St) (H : Hp) (Γ : G) (Ao' : Addr → Prop) (σ' : St) (H' : Hp) (Γ' : G) : Prop where
  rel : Rel K Ao' σ' H' Γ'
  ao : ∀ a, Ao a → Ao' a
  nw : ∀ a, Ao' a → Ao a ∨ H a = none
  fr : ∀ a o, H a = some o → ¬ Mu σ Γ a → H' a = some o
  dm : ∀ a, H a ≠ none → H' a ≠ none
  lv : ∀ a, Lv σ' Γ' a → Lv σ Γ a ∨ H a = none
  mu : ∀ a, Mu σ' Γ' a → Mu σ Γ a ∨ H a = none
  pin : ∀ (i : Nat) ds st, Γ[i]? = some (Slot.li ds true st) → ∃ ds' st', Γ'[i]? = some (Slot.li ds' true st') ∧ σ'[i]? = σ[i]?
  pinb : ∀ (i : Nat) ds st, Γ'[i]? = some (Slot.li ds true st) → ∃ ds' st', Γ[i]? = some (Slot.li ds' true st')
  lk : ∀ (i : Nat) ds p, Γ[i]? = some (Slot.li ds p .lock) → ∃ ds', Γ'[i]? = some (Slot.li ds' p .lock) ∧ σ'[i]? = σ[i]?
  len : Γ'.length = Γ.length
theorem Stp.refl (r : Rel K Ao σ H Γ) : Stp K Ao σ H Γ Ao σ H Γ :=
  ⟨r, fun _ h => h, fun _ h => .inl h, fun _ _ h _ => h, fun _ h => h, fun _ h => .inl h, fun _ h => .inl h, fun i ds st h => ⟨ds, st, h, rfl⟩, fun i ds st h => ⟨ds, st, h⟩, fun i ds p h => ⟨ds, h, rfl⟩, rfl⟩
theorem Stp.trans (s : Stp K Ao σ H Γ Ao1 σ1 H1 Γ1) (t : Stp K Ao1 σ1 H1 Γ1 Ao2 σ2 H2 Γ2) : Stp K Ao σ H Γ Ao2 σ2 H2 Γ2 := by
  have back : ∀ a, H1 a = none → H a = none := fun a e => by
    cases q : H a with
    | none => rfl
    | some o => exact absurd e (s.dm a (by rw [q]; exact fun z => by cases z))
  refine ⟨t.rel, fun a h => t.ao a (s.ao a h), fun a h => ?_, fun a o e n => ?_, fun a h => t.dm a (s.dm a h), fun a h => ?_, fun a h => ?_, fun i ds st h => ?_, fun i ds st h => ?_, fun i ds p h => ?_, t.len.trans s.len⟩
  · rcases t.nw a h with h | h
    · exact s.nw a h
    · exact .inr (back a h)
  · refine t.fr a o (s.fr a o e n) fun z => ?_
    rcases s.mu a z with z | z
    · exact n z
    · rw [z] at e; cases e
  · rcases t.lv a h with h | h
    · exact s.lv a h
    · exact .inr (back a h)
  · rcases t.mu a h with h | h
    · exact s.mu a h
    · exact .inr (back a h)
  · obtain ⟨ds1, st1, h1, e1⟩ := s.pin i ds st h
    obtain ⟨ds2, st2, h2, e2⟩ := t.pin i ds1 st1 h1
    exact ⟨ds2, st2, h2, e2.trans e1⟩
  · obtain ⟨ds1, st1, h1⟩ := t.pinb i ds st h
    exact s.pinb i ds1 st1 h1
  · obtain ⟨ds1, h1, e1⟩ := s.lk i ds p h
    obtain ⟨ds2, h2, e2⟩ := t.lk i ds1 p h1
    exact ⟨ds2, h2, e2.trans e1⟩
theorem dom_keep (k : ∀ a o, H a = some o → H' a = some o) : ∀ a, H a ≠ none → H' a ≠ none := fun a n z => by
  cases e : H a with
  | none => exact n e
  | some o => rw [k a o e] at z; cases z
theorem Stp.grow (r : Rel K Ao σ H Γ) (k : ∀ a o, H a = some o → H' a = some o) (ha : ∀ a, Ao a → Ao' a) (hn : ∀ a, Ao' a → Ao a ∨ (H a = none ∧ H' a ≠ none)) : Stp K Ao σ H Γ Ao' σ H' Γ :=
  ⟨r.grow k ha hn, ha, fun a h => (hn a h).imp id fun z => z.1, fun a o e _ => k a o e, dom_keep k, fun _ h => .inl h, fun _ h => .inl h, fun i ds st h => ⟨ds, st, h, rfl⟩, fun i ds st h => ⟨ds, st, h⟩, fun i ds p h => ⟨ds, h, rfl⟩, rfl⟩
theorem Stp.mv (s : Stp K Ao σ H Γ Ao' σ' H' Γ') : Mv (Av Ao σ Γ) (Av Ao' σ' Γ') H H' := by
  refine ⟨fun a o n e => s.fr a o e fun z => n (.inr z.lv), fun a o e z => ?_⟩
  rcases z with z | z
  · rcases s.nw a z with q | q
    · exact .inl q
    · rw [q] at e; cases e
  · rcases s.lv a z with q | q
    · exact .inr q
    · rw [q] at e; cases e
/-- fewer addresses are kept clear of behind the step -/
theorem Stp.less (s : Stp K Ao σ H Γ Ao' σ' H' Γ') (h1 : ∀ a, Ao a → Ao1 a) (h2 : ∀ a, Ao1 a → Ao' a) : Stp K Ao σ H Γ Ao1 σ' H' Γ' :=
  ⟨s.rel.drop h2, h1, fun a h => s.nw a (h2 a h), s.fr, s.dm, s.lv, s.mu, s.pin, s.pinb, s.lk, s.len⟩
/-- an expression's step: names that hold something go on holding something -/
structure StE (K : PySem.W.Frag) (Ao : Addr → Prop) (σ : St) (H : Hp) (Γ : G) (Ao' : Addr → Prop) (H' : Hp) (Γ' : G) : Prop where
  s : Stp K Ao σ H Γ Ao' σ H' Γ'
  ne : ∀ (i : Nat) s, Γ[i]? = some s → s ≠ .emp → ∃ s', Γ'[i]? = some s' ∧ s' ≠ .emp
theorem StE.refl (r : Rel K Ao σ H Γ) : StE K Ao σ H Γ Ao H Γ := ⟨.refl r, fun i s h n => ⟨s, h, n⟩⟩
theorem StE.trans (s : StE K Ao σ H Γ Ao1 H1 Γ1) (t : StE K Ao1 σ H1 Γ1 Ao2 H2 Γ2) : StE K Ao σ H Γ Ao2 H2 Γ2 :=
  ⟨s.s.trans t.s, fun i x h n => by
    obtain ⟨y, h1, n1⟩ := s.ne i x h n
    exact t.ne i y h1 n1⟩
theorem StE.grow (r : Rel K Ao σ H Γ) (k : ∀ a o, H a = some o → H' a = some o) (ha : ∀ a, Ao a → Ao' a) (hn : ∀ a, Ao' a → Ao a ∨ (H a = none ∧ H' a ≠ none)) : StE K Ao σ H Γ Ao' H' Γ := ⟨.grow r k ha hn, fun i s h n => ⟨s, h, n⟩⟩
theorem StE.rel (s : StE K Ao σ H Γ Ao' H' Γ') : Rel K Ao' σ H' Γ' := s.s.rel
theorem Rel.fresh (r : Rel K Ao σ H Γ) {p : Addr} (h : H p = none) : ¬ Av Ao σ Γ p := fun z => r.avDom z h
theorem upd_keep {p : Addr} {o : HO} (h : H p = none) : ∀ a u, H a = some u → upd H p o a = some u := fun a u e => by
  rw [upd_ne (ne_of_none e h)]
  exact e
theorem StE.new (r : Rel K Ao σ H Γ) {p : Addr} {o : HO} (h : H p = none) : StE K Ao σ H Γ Ao (upd H p o) Γ := .grow r (upd_keep h) (fun _ z => z) fun _ z => .inl z
/-- a new temporary list -/
theorem StE.tmp (r : Rel K Ao σ H Γ) {p : Addr} {o : HO} (h : H p = none) : StE K Ao σ H Γ (fun a => Ao a ∨ a = p) (upd H p o) Γ :=
  .grow r (upd_keep h) (fun _ z => .inl z) fun a z => z.imp id fun e => by subst e; exact ⟨h, by rw [upd_same]; exact fun w => by cases w⟩

/-! ## operands -/
/-- H0: the heap at the expression's start; a temporary list is younger -/
def OR (K : PySem.W.Frag) (H0 : Hp) (Ao : Addr → Prop) (σ : St) (H : Hp) (Γ : G) : Opd → V → Prop
  | .val d, v => DV K (Av Ao σ Γ) H d v
  | .tmp ds, v => ∃ a vs, v = .ref a ∧ H0 a = none ∧ Ao a ∧ H a = some (.lst vs) ∧ DVs K (Av Ao σ Γ) H ds vs
  | .slot i, v => σ[i]? = some (some v) ∧ ∃ s, Γ[i]? = some s ∧ s ≠ .emp
theorem OR.st {o : Opd} {v : V} (h : OR K H0 Ao σ H Γ o v) (r : Rel K Ao σ H Γ) (s : StE K Ao σ H Γ Ao' H' Γ') : OR K H0 Ao' σ H' Γ' o v := by
  cases o with
  | val d => exact DV.mv s.s.mv h
  | tmp ds =>
    obtain ⟨a, vs, e, n, h1, h2, h3⟩ := h
    exact ⟨a, vs, e, n, s.s.ao a h1, s.s.fr a _ h2 (fun z => r.lvAo z.lv h1), h3.mv s.s.mv⟩
  | slot i =>
    obtain ⟨h1, x, h2, h3⟩ := h
    exact ⟨h1, s.ne i x h2 h3⟩
theorem OR.back {o : Opd} {v : V} (h : OR K H1 Ao σ H Γ o v) (b : ∀ a, H1 a = none → H0 a = none) : OR K H0 Ao σ H Γ o v := by
  cases o with
  | tmp ds =>
    obtain ⟨a, vs, e, n, q⟩ := h
    exact ⟨a, vs, e, b a n, q⟩
  | _ => exact h
theorem Stp.bk (s : Stp K Ao σ H Γ Ao' σ' H' Γ') : ∀ a, H' a = none → H a = none := fun a e => by
  cases q : H a with
  | none => rfl
  | some o => exact absurd e (s.dm a (by rw [q]; exact fun z => by cases z))
theorem look_slot {i : Nat} {s : Slot} (h : Γ[i]? = some s) : look Γ (.slot i) = s.d := by
  show (Γ[i]?.getD .emp).d = s.d
  rw [h]
  rfl
theorem OR.pv {o : Opd} {v : V} (h : OR K H0 Ao σ H Γ o v) (r : Rel K Ao σ H Γ) : PV K (Av Ao σ Γ) H (look Γ o) v := by
  cases o with
  | val d => exact DV.pv h
  | tmp ds =>
    obtain ⟨a, vs, e, _, _, h2, h3⟩ := h
    exact ⟨a, vs, e, h2, h3⟩
  | slot i =>
    obtain ⟨h1, s, h2, h3⟩ := h
    rw [look_slot h2]
    cases s with
    | emp => exact absurd rfl h3
    | sh d =>
      obtain ⟨w, q1, q2⟩ := r.sh i d h2
      rw [h1] at q1
      cases q1
      exact q2.pv
    | li ds p st =>
      obtain ⟨a, vs, q1, q2, q3, _⟩ := r.li i ds p st h2
      rw [h1] at q1
      cases q1
      exact ⟨a, vs, rfl, q2, q3⟩

/-! ## a list of a name's own becomes shared -/
theorem get_set {α : Type} {l : List α} {i j : Nat} {x y : α} (h : l[i]? = some y) : (l.set i x)[j]? = if i = j then some x else l[j]? := by
  have hi : i < l.length := (List.getElem?_eq_some_iff.mp h).1
  by_cases e : i = j
  · subst e
    rw [if_pos rfl, List.getElem?_set_self hi]
  · rw [if_neg e, List.getElem?_set_ne e]
/-- a slot i changes so that its list leaves what is kept clear of -/
theorem Rel.share (r : Rel K Ao σ H Γ) {i : Nat} {ds : List D} {p : Bool} {s : Slot} (h : Γ[i]? = some (.li ds p .own)) (hs : s = .sh (.list ds) ∨ s = .li ds p .froz) (hp : p = true → s = .li ds p .froz) :
    ∃ v, σ[i]? = some (some v) ∧ DV K (Av Ao σ (Γ.set i s)) H (.list ds) v ∧ StE K Ao σ H Γ Ao H (Γ.set i s) := by
  have gs : ∀ j, (Γ.set i s)[j]? = if i = j then some s else Γ[j]? := fun j => get_set h
  have notli : ∀ {es q st}, s = Slot.li es q st → st = LS.froz := fun {es q st} e => by
    rcases hs with z | z
    · rw [z] at e; cases e
    · rw [z] at e; cases e; rfl
  have lv' : ∀ a, Lv σ (Γ.set i s) a → Lv σ Γ a := fun a ⟨j, es, q, st, e1, e2, e3⟩ => by
    rw [gs] at e1
    by_cases hj : i = j
    · rw [if_pos hj] at e1
      exact absurd (notli (Option.some.inj e1)) e2
    · rw [if_neg hj] at e1
      exact ⟨j, es, q, st, e1, e2, e3⟩
  have mu' : ∀ a, Mu σ (Γ.set i s) a → Mu σ Γ a := fun a ⟨j, es, q, e1, e3⟩ => by
    rw [gs] at e1
    by_cases hj : i = j
    · rw [if_pos hj] at e1
      cases notli (Option.some.inj e1)
    · rw [if_neg hj] at e1
      exact ⟨j, es, q, e1, e3⟩
  have av' : ∀ a, Av Ao σ (Γ.set i s) a → Av Ao σ Γ a := fun a z => z.imp id (lv' a)
  have m : Mv (Av Ao σ Γ) (Av Ao σ (Γ.set i s)) H H := ⟨fun _ _ _ e => e, fun a _ _ z => av' a z⟩
  obtain ⟨a, vs, q1, q2, q3, q4, _⟩ := r.li i ds p .own h
  have na : ¬ Av Ao σ (Γ.set i s) a := fun z => by
    rcases z with z | ⟨j, es, q, st, e1, e2, e3⟩
    · exact q4 (by decide) z
    · rw [gs] at e1
      by_cases hj : i = j
      · rw [if_pos hj] at e1
        exact absurd (notli (Option.some.inj e1)) e2
      · rw [if_neg hj] at e1
        exact hj (r.inj i j _ _ _ _ _ _ a h (by decide) e1 e2 q1 e3)
  have dv : DV K (Av Ao σ (Γ.set i s)) H (.list ds) (.ref a) := by
    unfold DV
    exact ⟨a, vs, rfl, ⟨q2, na⟩, q3.mv m⟩
  have rel : Rel K Ao σ H (Γ.set i s) := by
    refine ⟨by rw [List.length_set]; exact r.len, r.dom, fun j d e => ?_, fun j es q st e => ?_, fun j k es q st es' q' st' b e1 e2 e3 e4 => ?_⟩
    · rw [gs] at e
      by_cases hj : i = j
      · rw [if_pos hj] at e
        subst hj
        rcases hs with z | z
        · rw [z] at e
          cases e
          exact ⟨_, q1, dv⟩
        · rw [z] at e; cases e
      · rw [if_neg hj] at e
        obtain ⟨v, w1, w2⟩ := r.sh j d e
        exact ⟨v, w1, w2.mv m⟩
    · rw [gs] at e
      by_cases hj : i = j
      · rw [if_pos hj] at e
        subst hj
        have hz := notli (Option.some.inj e)
        subst hz
        rcases hs with z | z
        · rw [z] at e; cases e
        · rw [z] at e
          cases e
          exact ⟨a, vs, q1, q2, q3.mv m, fun w => absurd rfl w, fun _ => na⟩
      · rw [if_neg hj] at e
        obtain ⟨b, ws, w1, w2, w3, w4, w5⟩ := r.li j es q st e
        exact ⟨b, ws, w1, w2, w3.mv m, w4, fun z y => w5 z (av' b y)⟩
    · rw [gs] at e1 e3
      by_cases hj : i = j
      · rw [if_pos hj] at e1
        exact absurd (notli (Option.some.inj e1)) e2
      · by_cases hk : i = k
        · rw [if_pos hk] at e3
          exact absurd (notli (Option.some.inj e3)) e4
        · rw [if_neg hj] at e1
          rw [if_neg hk] at e3
          exact r.inj j k es q st es' q' st' b e1 e2 e3 e4
  refine ⟨.ref a, q1, dv, ⟨⟨rel, fun _ h => h, fun _ h => .inl h, fun _ _ e _ => e, fun _ h => h, fun a z => .inl (lv' a z), fun a z => .inl (mu' a z), fun j es st e => ?_, fun j es st e => ?_, fun j es q e => ?_, by rw [List.length_set]⟩, fun j x e n => ?_⟩⟩
  · by_cases hj : i = j
    · subst hj
      rw [h] at e
      cases e
      exact ⟨ds, .froz, by rw [gs, if_pos rfl, hp rfl], rfl⟩
    · exact ⟨es, st, by rw [gs, if_neg hj]; exact e, rfl⟩
  · rw [gs] at e
    by_cases hj : i = j
    · subst hj
      rw [if_pos rfl] at e
      rcases hs with z | z
      · rw [z] at e; cases e
      · rw [z] at e
        cases e
        exact ⟨_, _, h⟩
    · rw [if_neg hj] at e
      exact ⟨es, st, e⟩
  · by_cases hj : i = j
    · subst hj
      rw [h] at e
      cases e
    · exact ⟨es, by rw [gs, if_neg hj]; exact e, rfl⟩
  · by_cases hj : i = j
    · subst hj
      refine ⟨s, by rw [gs, if_pos rfl], ?_⟩
      rcases hs with z | z
      · rw [z]; exact fun w => by cases w
      · rw [z]; exact fun w => by cases w
    · exact ⟨x, by rw [gs, if_neg hj]; exact e, n⟩
theorem freeze_ok (r : Rel K Ao σ H Γ) {i : Nat} {z : D × G} (h : freeze Γ i = .ok z) : ∃ v, σ[i]? = some (some v) ∧ DV K (Av Ao σ z.2) H z.1 v ∧ StE K Ao σ H Γ Ao H z.2 := by
  unfold freeze at h
  split at h
  · rename_i d e
    cases h
    obtain ⟨v, q1, q2⟩ := r.sh i d e
    exact ⟨v, q1, q2, .refl r⟩
  · rename_i ds p e
    cases h
    obtain ⟨a, vs, q1, q2, q3, _, q5⟩ := r.li i ds p .froz e
    refine ⟨.ref a, q1, ?_, .refl r⟩
    unfold DV
    exact ⟨a, vs, rfl, ⟨q2, q5 rfl⟩, q3⟩
  · rename_i ds e
    cases h
    exact r.share e (.inr rfl) fun _ => rfl
  · rename_i ds e
    cases h
    exact r.share e (.inl rfl) fun z => by cases z
  · cases h
/-- an operand handed on as a value -/
theorem toVal_ok {o : Opd} {v : V} {z : D × G} (hr : Rel K Ao σ H0 Γ1) (s : StE K Ao σ H0 Γ1 Ao' H Γ) (h : OR K H0 Ao' σ H Γ o v) (e : toVal (o, Γ) = .ok z) :
    ∃ Ao2, StE K Ao σ H0 Γ1 Ao2 H z.2 ∧ (∀ a, Ao2 a → Ao' a) ∧ DV K (Av Ao2 σ z.2) H z.1 v := by
  cases o with
  | val d =>
    cases e
    exact ⟨Ao', s, fun _ h => h, h⟩
  | tmp ds =>
    cases e
    obtain ⟨a, vs, e, n, h1, h2, h3⟩ := h
    refine ⟨fun b => Ao' b ∧ b ≠ a, ⟨s.s.less (fun b q => ⟨s.s.ao b q, fun w => hr.dom b q (by rw [w]; exact n)⟩) fun b q => q.1, s.ne⟩, fun b q => q.1, ?_⟩
    unfold DV
    refine ⟨a, vs, e, ⟨h2, fun z => ?_⟩, h3.mv ⟨fun _ _ _ e => e, fun b _ _ z => z.imp (fun q => q.1) id⟩⟩
    rcases z with z | z
    · exact z.2 rfl
    · exact s.rel.lvAo z h1
  | slot i =>
    obtain ⟨w, q1, q2, q3⟩ := freeze_ok s.rel (show freeze Γ i = .ok z from e)
    obtain ⟨h1, _⟩ := h
    rw [h1] at q1
    cases q1
    exact ⟨Ao', s.trans q3, fun _ h => h, q2⟩
end

/-! ## what an evaluation asks -/
def FrX (σ : St) (H : Hp) (Γ : G) (H' : Hp) : Prop := (∀ a o, H a = some o → ¬ Mu σ Γ a → H' a = some o) ∧ ∀ a, H a ≠ none → H' a ≠ none
/-- E: what is wished where an error of class c leaves -/
structure Par where
  S : Sem
  E : Nat → Hp → Prop
def Out {α : Type} (P : Par) (σ : St) (H : Hp) (Γ : G) (r : R α) (k : α → Prop) : Prop :=
  match r with
  | .ok a => k a
  | .exc c => ∀ H', FrX σ H Γ H' → P.E c H'
  | .no => False
section
variable {K : PySem.W.Frag} {P : Par} {Ao Ao' Ao1 Ao2 : Addr → Prop} {σ σ' : St} {H H' H0 H1 H2 : Hp} {Γ Γ' Γ1 Γ2 : G} {α β : Type} {r : R α} {f : α → R β} {k k' : α → Prop}
theorem Out.bind {k : β → Prop} : Out P σ H Γ (r.bind f) k ↔ Out P σ H Γ r fun a => Out P σ H Γ (f a) k := by
  cases r <;> exact Iff.rfl
theorem Out.imp (h : Out P σ H Γ r k) (g : ∀ a, r = .ok a → k a → k' a) : Out P σ H Γ r k' := by
  cases r with
  | ok a => exact g a rfl h
  | exc c => exact h
  | no => exact h
theorem FrX.after (s : Stp K Ao σ H Γ Ao1 σ' H1 Γ1) (f : FrX σ' H1 Γ1 H') : FrX σ H Γ H' := by
  refine ⟨fun a o e n => f.1 a o (s.fr a o e n) fun z => ?_, fun a n => f.2 a (s.dm a n)⟩
  rcases s.mu a z with z | z
  · exact n z
  · rw [z] at e; cases e
/-- from a later place -/
theorem Out.later (s : Stp K Ao σ H Γ Ao1 σ' H1 Γ1) (h : Out P σ H Γ r k) (g : ∀ a, r = .ok a → k a → k' a) : Out P σ' H1 Γ1 r k' := by
  cases r with
  | ok a => exact g a rfl h
  | exc c => exact fun H' q => h H' (FrX.after s q)
  | no => exact h
end
/-- the readings -/
def tE (K : PySem.W.Frag) (P : Par) (x : Ex) : TE := fun σ H Q => ∃ Ao Γ, Rel K Ao σ H Γ ∧ Out P σ H Γ (ev P.S x Γ) fun r => ∀ Ao' v H', StE K Ao σ H Γ Ao' H' r.2 → OR K H Ao' σ H' r.2 r.1 v → Q v H'
def tV (K : PySem.W.Frag) (P : Par) (x : Ex) : TE := fun σ H Q => ∃ Ao Γ, Rel K Ao σ H Γ ∧ Out P σ H Γ ((ev P.S x Γ).bind toVal) fun r => ∀ Ao' v H', StE K Ao σ H Γ Ao' H' r.2 → DV K (Av Ao' σ r.2) H' r.1 v → Q v H'
def tT (K : PySem.W.Frag) (P : Par) (x : Ex) : TT := fun σ H Q => ∃ Ao Γ, Rel K Ao σ H Γ ∧ Out P σ H Γ ((ev P.S x Γ).bind fun r => (truth (look r.2 r.1)).bind fun t => .ok (t, r.2)) fun r => ∀ Ao' H', StE K Ao σ H Γ Ao' H' r.2 → Q r.1 H'
theorem tV.tE {K : PySem.W.Frag} {P : Par} {x : Ex} {σ : St} {H : Hp} {Q : VK} (h : tV K P x σ H Q) : Mir.tE K P x σ H Q := by
  obtain ⟨Ao, Γ, r, h⟩ := h
  refine ⟨Ao, Γ, r, ?_⟩
  rw [Out.bind] at h
  refine h.imp fun q e g Ao' v H' s o => ?_
  cases z : toVal q with
  | ok d =>
    rw [z] at g
    obtain ⟨Ao2, s2, _, dv⟩ := toVal_ok r s o z
    exact g Ao2 v H' s2 dv
  | exc c =>
    exfalso
    unfold toVal at z
    split at z
    · cases z
    · cases z
    · unfold freeze at z
      split at z <;> cases z
  | no =>
    rw [z] at g
    exact g.elim
end Mir

set_option Elab.async false
set_option autoImplicit false
set_option linter.all false
set_option maxRecDepth 100000
set_option maxHeartbeats 4000000
/-! # Mir3b: a tuple taken once, or not at all -/
namespace Mir
open PySem L2 PyProof.Rows
theorem tm_same (l : Addr) (vs : Array Value) (n : Nat) (dd : Option Addr) (sl : Array (Option Value)) (x : Int) (u : Tok) (c0 : (decide (x < -(2 ^ 63)) || decide (x ≥ 2 ^ 63)) = false) (c1 : (vs.isEmpty || x == 1) = true) :
    Meets (Builtin.«tuple.__mul__» ⟨[.ref l, .int x u], []⟩) (fun _ R s => s.heap.get? l = some { cls := .type "tuple", dict := dd, data := .seq vs n, slots := sl } ∧ R (.ok (.ret (Value.ref l))) s) :=
  .of_wp fun prog w A R s h => by
    obtain ⟨hp, g, d, tk, os⟩ := s; obtain ⟨hl, h⟩ := h
    have f1 := AutoSeq1.idx_int; wp_walk using wpAny_loadPart' hl
    repeat (first
      | (refine wpAny_ite_false (decide_eq_false (by rw [c0]; decide)) ?_; wp_walk using wpAny_loadPart' hl)
      | (refine wpAny_ite_true (decide_eq_true c1) ?_; wp_walk using wpAny_loadPart' hl))
    exact ⟨_, rfl, h⟩
theorem tm_none (l : Addr) (vs : Array Value) (n : Nat) (dd : Option Addr) (sl : Array (Option Value)) (x : Int) (u : Tok) (c0 : (decide (x < -(2 ^ 63)) || decide (x ≥ 2 ^ 63)) = false) (c1 : (vs.isEmpty || x == 1) = false) (c2 : (decide (x ≤ 0) || vs.isEmpty) = true) :
    Meets (Builtin.«tuple.__mul__» ⟨[.ref l, .int x u], []⟩) (fun _ R s => s.heap.get? l = some { cls := .type "tuple", dict := dd, data := .seq vs n, slots := sl } ∧
      R (.ok (.ret (Value.ref s.heap.objs.size))) { s with heap := s.heap.push { cls := Value.type "tuple", data := Data.seq #[] }, toks := s.toks }) :=
  .of_wp fun prog w A R s h => by
    obtain ⟨hp, g, d, tk, os⟩ := s; obtain ⟨hl, h⟩ := h
    have f1 := AutoSeq1.idx_int; wp_walk using wpAny_loadPart' hl
    repeat (first
      | (refine wpAny_ite_false (decide_eq_false (by rw [c0]; decide)) ?_; wp_walk using wpAny_loadPart' hl)
      | (refine wpAny_ite_false (decide_eq_false (by rw [c1]; decide)) ?_; wp_walk using wpAny_loadPart' hl)
      | (refine wpAny_ite_true (decide_eq_true c2) ?_; wp_walk using wpAny_loadPart' hl))
    exact ⟨_, rfl, h⟩
/-- tuple * int where nothing is repeated -/
def rTM (K : PySem.W.Frag) : R2 := fun x y H Q => ∃ l k xs, x = .ref l ∧ y = .int k ∧ SqT K H l xs ∧ -(2 ^ 62) ≤ k ∧ k ≤ 2 ^ 62 ∧ ((xs = [] ∨ k = 1) ∧ Q (.ref l) H ∨ xs ≠ [] ∧ k ≤ 0 ∧ ∀ p, H p = none → Q (.ref p) (upd H p (.tup [])))
section
variable {X : Cx}
theorem op_tm : OpR X (binaryOp .Mult) (rTM X.K) := by
  intro pins s σ H x y v u Q I rx ry h
  obtain ⟨l, k, xs, rfl, rfl, hT, b1, b2, q⟩ := h
  cases rx
  obtain ⟨t, rfl⟩ := ry
  obtain ⟨vs, r, ⟨⟨cls, dd, data, sl⟩, ho, hc, n, hd⟩, hs⟩ := I.tuple hT
  simp only at hc hd
  subst hc hd
  have hle : xs.length = vs.length := r.length
  have c0 : (decide (k < -(2 ^ 63)) || decide (k ≥ 2 ^ 63)) = false := by
    have z1 : ¬ k < -(2 ^ 63) := by omega
    have z2 : ¬ k ≥ 2 ^ 63 := by omega
    rw [decide_eq_false z1, decide_eq_false z2]
    rfl
  refine wpAny_binaryOp_repeat_ref (T := "tuple") (U := "int") (by decide) ⟨_, ho, rfl⟩ (fun s' => typeIs_int s' k t) noFill_tuple_mul F.fills_int_mul F.slot_int_rmul repeat_tuple F.slot_int_index.lookup ?_
  refine call_meets F.slot_int_rmul (typeIs_int s k t) F.entry_int_rmul (F.args_int_rmul_2 _ _) (int_rmul_tuple k t l vs.toArray n dd sl) ⟨ho, rfl, ⟨_, ho, rfl⟩, ?_⟩
  rcases q with ⟨hk, q⟩ | ⟨hne, hk, q⟩
  · have c1 : (vs.toArray.isEmpty || k == 1) = true := by
      rcases hk with rfl | rfl
      · have : vs = [] := List.eq_nil_of_length_eq_zero hle.symm
        subst this
        rfl
      · exact Bool.or_true _
    refine call_meets F.slot_tuple_mul ⟨_, ho, rfl⟩ F.entry_tuple_mul (F.args_tuple_mul_2 _ _) (tm_same l vs.toArray n dd sl k t c0 c1) ⟨ho, ?_⟩
    exact ⟨.ref l, H, I, rfl, q⟩
  · have e1 : vs.toArray.isEmpty = false := by
      cases vs with
      | nil => exact absurd (List.eq_nil_of_length_eq_zero hle) hne
      | cons a b => rfl
    have c1 : (vs.toArray.isEmpty || k == 1) = false := by
      have z : ¬ k = 1 := by omega
      rw [e1, Bool.false_or]
      exact beq_false_of_ne z
    have c2 : (decide (k ≤ 0) || vs.toArray.isEmpty) = true := by
      rw [decide_eq_true hk]
      rfl
    refine call_meets F.slot_tuple_mul ⟨_, ho, rfl⟩ F.entry_tuple_mul (F.args_tuple_mul_2 _ _) (tm_none l vs.toArray n dd sl k t c0 c1 c2) ⟨ho, ?_⟩
    refine ⟨.ref s.heap.objs.size, _, I.laid (t' := s.toks) (o := .tup []) (fun b ob z => Heap.get?_push_of_some _ z) (Nat.le_refl _) ?_, rfl, q _ (I.hok.fresh (Nat.le_refl _))⟩
    exact ⟨by show 0 ≤ sizeLine; exact Nat.zero_le _, _, r.rep 0, IsTup.new _ _⟩
end
end Mir

set_option Elab.async false
set_option autoImplicit false
set_option linter.all false
set_option maxRecDepth 100000
set_option maxHeartbeats 4000000
/-! # Mir4: operations by values -/
namespace Mir
open PySem L2

theorem line_le {n : Nat} (h : line n = true) : n ≤ sizeLine := by
  have e : sizeLine = 16777216 := sizeLine_eq
  have q := of_decide_eq_true h
  omega
theorem line_lt {n : Nat} (h : line n = true) : n < sizeLine := by
  have e : sizeLine = 16777216 := sizeLine_eq
  have q := of_decide_eq_true h
  omega
theorem bigOk_ok {i j : Int} (h : bigOk i j = true) : IntMulOk i j := by
  have b : ∀ x : Int, Builtin.Int.intBits x ≤ x.natAbs.log2 + 1 := fun x => by
    unfold Builtin.Int.intBits
    split <;> omega
  have h1 := b i
  have h2 := b j
  have h3 := of_decide_eq_true h
  have e : bitsLine = 134217728 := by decide
  unfold IntMulOk
  intro z
  rw [Bool.and_eq_true] at z
  have z2 := z.2
  unfold Builtin.Int.intTooBig at z2
  have z3 := of_decide_eq_true z2
  rw [e] at z3
  omega

/-- what follows an operation that leaves the slots as they are -/
def Fin (K : PySem.W.Frag) (Ao : Addr → Prop) (σ : St) (H : Hp) (Γ : G) (r : R Opd) (Q : VK) : Prop :=
  match r with
  | .ok o => ∀ Ao' v H', StE K Ao σ H Γ Ao' H' Γ → OR K H Ao' σ H' Γ o v → Q v H'
  | _ => False
section
variable {K : PySem.W.Frag} {Ao : Addr → Prop} {σ : St} {H : Hp} {Γ : G} {Q : VK}
theorem Fin.int {i : Int} (r : Rel K Ao σ H Γ) (h : Fin K Ao σ H Γ (.ok (.val (.int i))) Q) : Q (.int i) H := h Ao _ H (.refl r) (by unfold OR DV; rfl)
theorem Fin.bl {i : Bool} (r : Rel K Ao σ H Γ) (h : Fin K Ao σ H Γ (.ok (.val (.bool i))) Q) : Q (.bl i) H := h Ao _ H (.refl r) (by unfold OR DV; rfl)
theorem Fin.str {i : Str} (r : Rel K Ao σ H Γ) (h : Fin K Ao σ H Γ (.ok (.val (.str i))) Q) : Q (.str i) H := h Ao _ H (.refl r) (by unfold OR DV; rfl)
theorem Fin.val {d : D} {v : V} (r : Rel K Ao σ H Γ) (h : Fin K Ao σ H Γ (.ok (.val d)) Q) (q : DV K (Av Ao σ Γ) H d v) : Q v H := h Ao _ H (.refl r) q
theorem mv_new (r : Rel K Ao σ H Γ) {p : Addr} {o : HO} (n : H p = none) : Mv (Av Ao σ Γ) (Av Ao σ Γ) H (upd H p o) := (StE.new r n).s.mv
/-- a new list -/
theorem Fin.lst {ds : List D} {vs : List V} (r : Rel K Ao σ H Γ) (h : Fin K Ao σ H Γ (.ok (.tmp ds)) Q) (q : DVs K (Av Ao σ Γ) H ds vs) : ∀ p, H p = none → Q (.ref p) (upd H p (.lst vs)) := fun p n => by
  have s := StE.tmp (o := .lst vs) r n
  exact h _ _ _ s ⟨p, vs, rfl, n, .inr rfl, upd_same, q.mv s.s.mv⟩
/-- a new tuple -/
theorem Fin.tup {ds : List D} {vs : List V} (r : Rel K Ao σ H Γ) (h : Fin K Ao σ H Γ (.ok (.val (.tup ds))) Q) (q : DVs K (Av Ao σ Γ) H ds vs) : ∀ p, H p = none → Q (.ref p) (upd H p (.tup vs)) := fun p n => by
  have s := StE.new (o := .tup vs) r n
  refine h _ _ _ s ?_
  unfold OR DV
  exact ⟨p, vs, rfl, .inl ⟨.inl upd_same, r.fresh n⟩, q.mv s.s.mv⟩
theorem dtup (r : Rel K Ao σ H Γ) {ds : List D} {a : Addr} {vs : List V} (h1 : ST K (Av Ao σ Γ) H a vs) (h2 : DVs K (Av Ao σ Γ) H ds vs) : DV K (Av Ao σ Γ) H (.tup ds) (.ref a) := by
  unfold DV
  exact ⟨a, vs, rfl, h1, h2⟩
end

def opB : B2 → Operator → Bool
  | .add, .Add => true
  | .sub, .Sub => true
  | .mul, .Mult => true
  | .fdiv, .FloorDiv => true
  | .mod, .Mod => true
  | .pow, .Pow => true
  | _, _ => false
/-- both operands as data, at a state of the slots -/
def rD2 (K : PySem.W.Frag) (op : B2) : R2 := fun x y H Q => ∃ Ao σ Γ d e, Rel K Ao σ H Γ ∧ PV K (Av Ao σ Γ) H d x ∧ PV K (Av Ao σ Γ) H e y ∧ Fin K Ao σ H Γ (b2 op d e) Q
section
variable {X : Cx}
theorem pv_int {K : PySem.W.Frag} {A : Addr → Prop} {H : Hp} {i : Int} {v : V} (h : PV K A H (.int i) v) : v = .int i := by
  unfold PV DV at h
  exact h
theorem pv_str {K : PySem.W.Frag} {A : Addr → Prop} {H : Hp} {i : Str} {v : V} (h : PV K A H (.str i) v) : v = .str i := by
  unfold PV DV at h
  exact h
theorem pv_bool {K : PySem.W.Frag} {A : Addr → Prop} {H : Hp} {i : Bool} {v : V} (h : PV K A H (.bool i) v) : v = .bl i := by
  unfold PV DV at h
  exact h
theorem pv_tup {K : PySem.W.Frag} {A : Addr → Prop} {H : Hp} {ds : List D} {v : V} (h : PV K A H (.tup ds) v) : ∃ a vs, v = .ref a ∧ ST K A H a vs ∧ DVs K A H ds vs := by
  unfold PV DV at h
  exact h
theorem pv_list {K : PySem.W.Frag} {A : Addr → Prop} {H : Hp} {ds : List D} {v : V} (h : PV K A H (.list ds) v) : ∃ a vs, v = .ref a ∧ H a = some (.lst vs) ∧ DVs K A H ds vs := h
theorem op_addD : OpR X (binaryOp .Add) (rD2 X.K .add) := by
  intro pins s τ H x y v u Q I rx ry h
  obtain ⟨Ao, σ, Γ, d, e, r, hd, he, f⟩ := h
  unfold b2 at f
  split at f <;> rename_i hop <;> first | exact f.elim | (cases hop; done) | skip
  · have e1 := pv_int hd
    have e2 := pv_int he
    exact op_add pins s τ H x y v u Q I rx ry ⟨_, _, e1, e2, f.int r⟩
  · split at f
    · rename_i hl
      exact op_add_str pins s τ H x y v u Q I rx ry ⟨_, _, pv_str hd, pv_str he, line_le hl, f.str r⟩
    · exact f.elim
  · split at f
    · rename_i a b hl
      obtain ⟨p, vs, e1, h1, h2⟩ := pv_list hd
      obtain ⟨q, ws, e2, h3, h4⟩ := pv_list he
      refine op_cat pins s τ H x y v u Q I rx ry ⟨p, q, vs, ws, e1, e2, h1, h3, ?_, f.lst r (h2.append h4)⟩
      rw [h2.length, h4.length]
      exact line_le hl
    · exact f.elim
  · split at f
    · rename_i a b hl
      obtain ⟨p, vs, e1, h1, h2⟩ := pv_tup hd
      obtain ⟨q, ws, e2, h3, h4⟩ := pv_tup he
      refine op_catA pins s τ H x y v u Q I rx ry ⟨p, q, vs, ws, e1, e2, h1.sq, h3.sq, ?_, fun z => ?_, fun _ z => ?_, fun _ _ => f.tup r (h2.append h4)⟩
      · rw [h2.length, h4.length]
        exact line_le hl
      · have hz : a = [] := List.eq_nil_of_length_eq_zero (by rw [← h2.length, z]; rfl)
        subst hz
        exact f.val r (dtup r h3 h4)
      · have hz : b = [] := List.eq_nil_of_length_eq_zero (by rw [← h4.length, z]; rfl)
        subst hz
        rw [List.append_nil] at f
        exact f.val r (dtup r h1 h2)
    · exact f.elim
theorem op_subD : OpR X (binaryOp .Sub) (rD2 X.K .sub) := by
  intro pins s τ H x y v u Q I rx ry h
  obtain ⟨Ao, σ, Γ, d, e, r, hd, he, f⟩ := h
  unfold b2 at f
  split at f <;> rename_i hop <;> first | exact f.elim | (cases hop; done) | skip
  exact op_sub pins s τ H x y v u Q I rx ry ⟨_, _, pv_int hd, pv_int he, f.int r⟩
theorem op_mulD : OpR X (binaryOp .Mult) (rD2 X.K .mul) := by
  intro pins s τ H x y v u Q I rx ry h
  obtain ⟨Ao, σ, Γ, d, e, r, hd, he, f⟩ := h
  unfold b2 at f
  split at f <;> rename_i hop <;> first | exact f.elim | (cases hop; done) | skip
  · split at f
    · rename_i i j hb
      have e1 := pv_int hd
      have e2 := pv_int he
      subst e1
      subst e2
      obtain ⟨t, rfl⟩ := rx
      obtain ⟨t', rfl⟩ := ry
      exact PyProof.Rows.mul_int ⟨.int (i * j), H, I.tok _, ⟨_, rfl⟩, f.int r⟩ (bigOk_ok hb)
    · exact f.elim
  · split at f
    · rename_i a k hl
      rw [Bool.and_eq_true, decide_eq_true_eq] at hl
      obtain ⟨p, vs, e1, h1, h2⟩ := pv_list hd
      refine op_rep pins s τ H x y v u Q I rx ry ⟨p, k, vs, e1, pv_int he, h1, by omega, by omega, ?_, f.lst r (h2.rep k.toNat)⟩
      rw [h2.length]
      exact line_le hl.1
    · exact f.elim
  · split at f
    · rename_i a k hl
      rw [decide_eq_true_eq] at hl
      obtain ⟨p, vs, e1, h1, h2⟩ := pv_tup hd
      have hlen := h2.length
      by_cases c : vs = [] ∨ k = 1
      · have ea : (List.replicate k.toNat a).flatten = a := by
          rcases c with c | rfl
          · have hz : a = [] := List.eq_nil_of_length_eq_zero (by rw [← hlen, c]; rfl)
            rw [hz, List.flatten_replicate_nil]
          · show [a].flatten = a
            rw [List.flatten_cons, List.flatten_nil, List.append_nil]
        rw [ea] at f
        exact op_tm pins s τ H x y v u Q I rx ry ⟨p, k, vs, e1, pv_int he, h1.sq, by omega, by omega, .inl ⟨c, f.val r (dtup r h1 h2)⟩⟩
      · have hne : vs ≠ [] := fun z => c (.inl z)
        by_cases c2 : k ≤ 0
        · have ek : k.toNat = 0 := by omega
          rw [ek] at f
          exact op_tm pins s τ H x y v u Q I rx ry ⟨p, k, vs, e1, pv_int he, h1.sq, by omega, by omega, .inr ⟨hne, c2, f.tup r (h2.rep 0)⟩⟩
        · have hk : k ≠ 1 := fun z => c (.inr z)
          exact op_repT pins s τ H x y v u Q I rx ry ⟨p, k, vs, e1, pv_int he, h1.sq, hne, by omega, hl.2.1, by rw [hlen]; exact hl.2.2, f.tup r (h2.rep k.toNat)⟩
    · exact f.elim
theorem op_fdivD : OpR X (binaryOp .FloorDiv) (rD2 X.K .fdiv) := by
  intro pins s τ H x y v u Q I rx ry h
  obtain ⟨Ao, σ, Γ, d, e, r, hd, he, f⟩ := h
  unfold b2 at f
  split at f <;> rename_i hop <;> first | exact f.elim | (cases hop; done) | skip
  split at f
  · rename_i i j hb
    have e1 := pv_int hd
    have e2 := pv_int he
    subst e1
    subst e2
    obtain ⟨t, rfl⟩ := rx
    obtain ⟨t', rfl⟩ := ry
    exact PyProof.Rows.floordiv_int hb.1 ⟨.int (i.fdiv j), H, I.tok _, ⟨_, rfl⟩, f.int r⟩ (.inl (PyProof.noPylong_of_log2 hb.2))
  · exact f.elim
theorem op_modD : OpR X (binaryOp .Mod) (rD2 X.K .mod) := by
  intro pins s τ H x y v u Q I rx ry h
  obtain ⟨Ao, σ, Γ, d, e, r, hd, he, f⟩ := h
  unfold b2 at f
  split at f <;> rename_i hop <;> first | exact f.elim | (cases hop; done) | skip
  split at f
  · rename_i i j hb
    exact op_modN pins s τ H x y v u Q I rx ry ⟨_, _, pv_int hd, pv_int he, hb, f.int r⟩
  · exact f.elim
theorem op_powD : OpR X (binaryOp .Pow) (rD2 X.K .pow) := by
  intro pins s τ H x y v u Q I rx ry h
  obtain ⟨Ao, σ, Γ, d, e, r, hd, he, f⟩ := h
  unfold b2 at f
  split at f <;> rename_i hop <;> first | exact f.elim | (cases hop; done) | skip
  split at f
  · rename_i i j hb
    exact op_pow pins s τ H x y v u Q I rx ry ⟨_, _, pv_int hd, pv_int he, ⟨hb.1, hb.2.1, by have := hb.2.2; omega⟩, f.int r⟩
  · exact f.elim
theorem op_D2 {op : B2} {o : Operator} (h : opB op o = true) : OpR X (binaryOp o) (rD2 X.K op) := by
  unfold opB at h
  split at h
  · exact op_addD
  · exact op_subD
  · exact op_mulD
  · exact op_fdivD
  · exact op_modD
  · exact op_powD
  · cases h

/-! ## comparisons -/
def cmpB : C2 → CmpOp → Bool
  | .eq, .Eq => true
  | .ne, .NotEq => true
  | .lt, .Lt => true
  | .le, .LtE => true
  | .gt, .Gt => true
  | .ge, .GtE => true
  | .isN, .Is => true
  | .notN, .IsNot => true
  | .inn, .In => true
  | .nin, .NotIn => true
  | _, _ => false
/-- a comparison's answer, the heap as it is -/
def FinB (r : R Bool) (H : Hp) (Q : VK) : Prop :=
  match r with
  | .ok b => Q (.bl b) H
  | _ => False
def rC2 (K : PySem.W.Frag) (op : C2) : R2 := fun x y H Q => ∃ A d e, PV K A H d x ∧ PV K A H e y ∧ FinB (c2 op d e) H Q
theorem dep_min {X : Cx} (hu : X.A.units + 80 < cLine) {d e : D} (h : (decide (D.dep d ≤ 64) || decide (D.dep e ≤ 64)) = true) : X.A.units + min (D.py d).depth (D.py e).depth < cLine := by
  rw [py_dep, py_dep]
  rw [Bool.or_eq_true, decide_eq_true_eq, decide_eq_true_eq] at h
  omega
theorem isN_iff {K : PySem.W.Frag} {A : Addr → Prop} {H : Hp} {d : D} {v : V} (h : PV K A H d v) : decide (v = V.non) = d.isNone := by
  cases d with
  | none => unfold PV DV at h; subst h; rfl
  | bool b => have e := pv_bool h; subst e; rfl
  | int b => have e := pv_int h; subst e; rfl
  | str b => have e := pv_str h; subst e; rfl
  | list ds => obtain ⟨a, vs, rfl, _⟩ := pv_list h; rfl
  | tup ds => obtain ⟨a, vs, rfl, _⟩ := pv_tup h; rfl
  | fn n => unfold PV DV at h; exact h.elim
  | scr ns => unfold PV DV at h; obtain ⟨a, rfl, _⟩ := h; rfl
theorem in_min {X : Cx} (hu : X.A.units + 80 < cLine) {d : D} {xs : List D} (h : (decide (D.dep d ≤ 64) || decide (D.deps xs ≤ 64)) = true) : X.A.units + 1 + min (PyData.depthAll (D.pys xs)) (D.py d).depth < cLine := by
  rw [py_dep, pys_dep]
  rw [Bool.or_eq_true, decide_eq_true_eq, decide_eq_true_eq] at h
  omega
theorem in_any (d : D) : ∀ xs : List D, D.pl d = true → D.pls xs = true → ((D.pys xs).any fun y => PyData.eqv y (D.py d)) = xs.any fun y => D.eqv y d
  | [], _, _ => rfl
  | x :: xs, p, q => by
    unfold D.pls at q
    rw [Bool.and_eq_true] at q
    unfold D.pys
    rw [List.any_cons, List.any_cons, py_eqv x d q.1 p, in_any d xs p q.2]
theorem op_C2 (hu : X.A.units + 80 < cLine) {op : C2} {o : CmpOp} (h : cmpB op o = true) : OpR X (compareOp o) (rC2 X.K op) := by
  intro pins s τ H x y v u Q I rx ry q
  obtain ⟨A, d, e, hd, he, f⟩ := q
  unfold cmpB at h
  split at h
  · unfold c2 at f
    dsimp only at f
    split at f
    · rename_i z
      unfold eqOk at z
      rw [Bool.and_eq_true, Bool.and_eq_true] at z
      obtain ⟨as, r1⟩ := Dp.reads I _ _ _ (hd.dp z.1.1) rx
      obtain ⟨bs, r2⟩ := Dp.reads I _ _ _ (he.dp z.1.2) ry
      refine SeqAt.eq_plain r1 r2 (py_plain d) (py_plain e) (dep_min hu z.2) ?_
      rw [py_eqv d e z.1.1 z.1.2]
      exact ⟨.bl _, H, I, rfl, f⟩
    · exact f.elim
  · unfold c2 at f
    dsimp only at f
    split at f
    · rename_i z
      unfold eqOk at z
      rw [Bool.and_eq_true, Bool.and_eq_true] at z
      obtain ⟨as, r1⟩ := Dp.reads I _ _ _ (hd.dp z.1.1) rx
      obtain ⟨bs, r2⟩ := Dp.reads I _ _ _ (he.dp z.1.2) ry
      refine SeqAt.ne_plain r1 r2 (py_plain d) (py_plain e) (dep_min hu z.2) ?_
      rw [py_eqv d e z.1.1 z.1.2]
      exact ⟨.bl _, H, I, rfl, f⟩
    · exact f.elim
  · unfold c2 at f
    dsimp only at f
    split at f
    · exact op_lt pins s τ H x y v u Q I rx ry ⟨_, _, pv_int hd, pv_int he, f⟩
    · exact f.elim
  · unfold c2 at f
    dsimp only at f
    split at f
    · exact op_le pins s τ H x y v u Q I rx ry ⟨_, _, pv_int hd, pv_int he, f⟩
    · exact f.elim
  · unfold c2 at f
    dsimp only at f
    split at f
    · exact op_gt pins s τ H x y v u Q I rx ry ⟨_, _, pv_int hd, pv_int he, f⟩
    · exact f.elim
  · unfold c2 at f
    dsimp only at f
    split at f
    · exact op_ge pins s τ H x y v u Q I rx ry ⟨_, _, pv_int hd, pv_int he, f⟩
    · exact f.elim
  · unfold c2 at f
    dsimp only at f
    split at f
    · have e1 : y = .non := by unfold PV DV at he; exact he
      refine op_isN pins s τ H x y v u Q I rx ry ⟨e1, ?_⟩
      rw [isN_iff hd]
      exact f
    · exact op_is_bl pins s τ H x y v u Q I rx ry ⟨_, _, pv_bool hd, pv_bool he, f⟩
    · exact f.elim
  · unfold c2 at f
    dsimp only at f
    split at f
    · have e1 : y = .non := by unfold PV DV at he; exact he
      refine op_notN pins s τ H x y v u Q I rx ry ⟨e1, ?_⟩
      rw [isN_iff hd]
      exact f
    · exact op_isnot_bl pins s τ H x y v u Q I rx ry ⟨_, _, pv_bool hd, pv_bool he, f⟩
    · exact f.elim
  · unfold c2 at f
    dsimp only at f
    split at f
    · rename_i xs
      split at f
      · rename_i z
        unfold inOk at z
        rw [Bool.and_eq_true, Bool.and_eq_true] at z
        have pe : D.pl (.list xs) = true := by unfold D.pl; exact z.1.2
        obtain ⟨as, r1⟩ := Dp.reads I _ _ _ (hd.dp z.1.1) rx
        obtain ⟨bs, r2⟩ := Dp.reads I _ _ _ (he.dp pe) ry
        unfold D.py at r2
        refine SeqAt.in_list_data r2 r1 (pys_plain xs) (py_plain d) (in_min hu z.2) ?_
        rw [in_any d xs z.1.1 z.1.2]
        exact ⟨.bl _, H, I, rfl, f⟩
      · exact f.elim
    · rename_i xs
      split at f
      · rename_i z
        unfold inOk at z
        rw [Bool.and_eq_true, Bool.and_eq_true] at z
        have pe : D.pl (.tup xs) = true := by unfold D.pl; exact z.1.2
        obtain ⟨as, r1⟩ := Dp.reads I _ _ _ (hd.dp z.1.1) rx
        obtain ⟨bs, r2⟩ := Dp.reads I _ _ _ (he.dp pe) ry
        unfold D.py at r2
        refine SeqAt.in_tuple_data r2 r1 (pys_plain xs) (py_plain d) (in_min hu z.2) ?_
        rw [in_any d xs z.1.1 z.1.2]
        exact ⟨.bl _, H, I, rfl, f⟩
      · exact f.elim
    · exact f.elim
  · unfold c2 at f
    dsimp only at f
    split at f
    · rename_i xs
      split at f
      · rename_i z
        unfold inOk at z
        rw [Bool.and_eq_true, Bool.and_eq_true] at z
        have pe : D.pl (.list xs) = true := by unfold D.pl; exact z.1.2
        obtain ⟨as, r1⟩ := Dp.reads I _ _ _ (hd.dp z.1.1) rx
        obtain ⟨bs, r2⟩ := Dp.reads I _ _ _ (he.dp pe) ry
        unfold D.py at r2
        refine SeqAt.notIn_list_data r2 r1 (pys_plain xs) (py_plain d) (in_min hu z.2) ?_
        rw [in_any d xs z.1.1 z.1.2]
        exact ⟨.bl _, H, I, rfl, f⟩
      · exact f.elim
    · rename_i xs
      split at f
      · rename_i z
        unfold inOk at z
        rw [Bool.and_eq_true, Bool.and_eq_true] at z
        have pe : D.pl (.tup xs) = true := by unfold D.pl; exact z.1.2
        obtain ⟨as, r1⟩ := Dp.reads I _ _ _ (hd.dp z.1.1) rx
        obtain ⟨bs, r2⟩ := Dp.reads I _ _ _ (he.dp pe) ry
        unfold D.py at r2
        refine SeqAt.notIn_tuple_data r2 r1 (pys_plain xs) (py_plain d) (in_min hu z.2) ?_
        rw [in_any d xs z.1.1 z.1.2]
        exact ⟨.bl _, H, I, rfl, f⟩
      · exact f.elim
    · exact f.elim
  · cases h
end
end Mir

set_option Elab.async false
set_option autoImplicit false
set_option linter.all false
set_option maxRecDepth 100000
set_option maxHeartbeats 4000000
/-! # Mir5: truth, subscripts, slices, built-in functions by values -/
namespace Mir
open PySem L2
section
variable {X : Cx}
/-! ## truth -/
theorem truth_ok {K : PySem.W.Frag} {A : Addr → Prop} {H : Hp} {d : D} {v : V} {t : Bool} (h : PV K A H d v) (e : truth d = .ok t) : TruV K v H t := by
  unfold truth at e
  split at e
  · cases e; unfold PV DV at h; subst h; rfl
  · cases e; rw [pv_bool h]; rfl
  · cases e; rw [pv_int h]; rfl
  · split at e
    · rename_i s hl
      cases e
      rw [pv_str h]
      refine ⟨line_le hl, ?_⟩
      rw [Bool.eq_iff_iff]
      simp
    · cases e
  · rename_i xs
    cases e
    obtain ⟨a, vs, rfl, h1, h2⟩ := pv_list h
    refine .inl ⟨vs, .inl (.inl h1), ?_⟩
    have hl := h2.length
    cases xs <;> cases vs <;> first | rfl | (simp at hl)
  · rename_i xs
    cases e
    obtain ⟨a, vs, rfl, h1, h2⟩ := pv_tup h
    refine .inr (.inl ⟨vs, h1.sq, ?_⟩)
    have hl := h2.length
    cases xs <;> cases vs <;> first | rfl | (simp at hl)
  · cases e
  · cases e
/-! ## subscripts -/
def rIxD (K : PySem.W.Frag) : R2 := fun x y H Q => ∃ A d e r, PV K A H d x ∧ PV K A H e y ∧ ixD d e = .ok r ∧ ∀ v, DV K A H r v → Q v H
theorem at_get {K : PySem.W.Frag} {A : Addr → Prop} {H : Hp} {xs : List D} {vs : List V} {i : Int} {d : D} (h : DVs K A H xs vs) (e : atI xs i = some d) : ∃ v, atI vs i = some v ∧ DV K A H d v := by
  unfold atI at e ⊢
  rw [h.length]
  cases q : ixN xs.length i with
  | none => rw [q] at e; cases e
  | some j =>
    rw [q] at e
    exact h.get e
theorem ix_D : IxR X (rIxD X.K) := by
  intro value slice pins s τ H x y v u Q I rx ry h hs
  obtain ⟨A, d, e, r, hd, he, hr, q⟩ := h
  refine ix_seq value slice pins s τ H x y v u Q I rx ry ?_ hs
  unfold ixD at hr
  split at hr
  · split at hr
    · rename_i xs i w hw
      cases hr
      obtain ⟨a, vs, rfl, h1, h2⟩ := pv_list hd
      obtain ⟨z, z1, z2⟩ := at_get h2 hw
      exact .inl ⟨a, vs, _, z, rfl, pv_int he, .inl (.inl h1), z1, q z z2⟩
    · cases hr
  · split at hr
    · rename_i xs i w hw
      cases hr
      obtain ⟨a, vs, rfl, h1, h2⟩ := pv_tup hd
      obtain ⟨z, z1, z2⟩ := at_get h2 hw
      exact .inr (.inl ⟨a, vs, _, z, rfl, pv_int he, h1.sq, z1, q z z2⟩)
    · cases hr
  · split at hr
    · split at hr
      · rename_i hl _ c hc
        cases hr
        exact .inr (.inr ⟨_, _, _, pv_str hd, pv_int he, line_le hl, hc, q _ (by unfold DV; rfl)⟩)
      · cases hr
    · cases hr
  · cases hr
/-! ## slices -/
theorem cut_ok {K : PySem.W.Frag} {A : Addr → Prop} {H : Hp} {xs : List D} {vs : List V} (h : DVs K A H xs vs) (lo hi : Option Int) : DVs K A H (cut xs lo hi) (cutV vs lo hi) := by
  unfold cut cutV
  rw [h.length]
  exact (h.drop _).take _
theorem cut_whole {xs : List D} {lo hi : Option Int} (h : HT.sIx xs.length 0 lo = 0 ∧ HT.sIx xs.length xs.length hi = xs.length) : cut xs lo hi = xs := by
  unfold cut
  rw [h.1, h.2, List.drop_zero, Nat.sub_zero, List.take_length]
def rSlD (K : PySem.W.Frag) : V → Option Int → Option Int → Hp → VK → Prop := fun x lo hi H Q => ∃ Ao σ Γ d, Rel K Ao σ H Γ ∧ PV K (Av Ao σ Γ) H d x ∧ Fin K Ao σ H Γ (slD1 d lo hi) Q
theorem sl_D : SlR X (rSlD X.K) := by
  intro pins s τ H x v vl vu lo hi sl Q I rx hs pl pu h
  obtain ⟨Ao, σ, Γ, d, r, hd, f⟩ := h
  unfold slD1 at f
  split at f
  · obtain ⟨a, vs, rfl, h1, h2⟩ := pv_list hd
    exact sl_list pins s τ H _ v vl vu lo hi sl Q I rx hs pl pu ⟨a, vs, rfl, .inl (.inl h1), f.lst r (cut_ok h2 lo hi)⟩
  · rename_i xs
    obtain ⟨a, vs, rfl, h1, h2⟩ := pv_tup hd
    refine sl_tupA pins s τ H _ v vl vu lo hi sl Q I rx hs pl pu ⟨a, vs, rfl, h1.sq, fun z => ?_, fun _ => f.tup r (cut_ok h2 lo hi)⟩
    rw [h2.length] at z
    rw [cut_whole z] at f
    exact f.val r (dtup r h1 h2)
  · exact f.elim
/-! ## isinstance -/
def tyS : Ty → String
  | .int => "int"
  | .bool => "bool"
  | .str => "str"
  | .tuple => "tuple"
  | .list => "list"
theorem st_tyx {K : PySem.W.Frag} {A : Addr → Prop} {H : Hp} {a : Addr} {vs : List V} (h : ST K A H a vs) : TyX K H (.ref a) (.type "tuple") := by
  rcases h with ⟨h | ⟨o, h⟩, _⟩ | ⟨o, its, n, h1, h2, _⟩
  · exact .base (.tup h)
  · exact .fTuple h
  · exact .kTuple h1 h2
theorem isi_ok {K : PySem.W.Frag} {A : Addr → Prop} {H : Hp} {d : D} {v : V} {t : Ty} {b : Bool} (h : PV K A H d v) (e : isTy t d = .ok b) : ∃ ty, TyX K H v ty ∧ PySem.W.kitOne K ty (.type (tyS t)) = some b := by
  cases d with
  | none =>
    unfold PV DV at h
    subst h
    refine ⟨_, .base .non, ?_⟩
    cases t <;> (cases e; exact kit_ty (by decide +kernel))
  | bool i =>
    rw [pv_bool h]
    refine ⟨_, .base (.bl i), ?_⟩
    cases t <;> (cases e; exact kit_ty (by decide +kernel))
  | int i =>
    rw [pv_int h]
    refine ⟨_, .base (.int i), ?_⟩
    cases t <;> (cases e; exact kit_ty (by decide +kernel))
  | str i =>
    rw [pv_str h]
    refine ⟨_, .base (.str i), ?_⟩
    cases t <;> (cases e; exact kit_ty (by decide +kernel))
  | list xs =>
    obtain ⟨a, vs, rfl, h1, h2⟩ := pv_list h
    refine ⟨_, .base (.lst h1), ?_⟩
    cases t <;> (cases e; exact kit_ty (by decide +kernel))
  | tup xs =>
    obtain ⟨a, vs, rfl, h1, h2⟩ := pv_tup h
    refine ⟨_, st_tyx h1, ?_⟩
    cases t <;> (cases e; exact kit_ty (by decide +kernel))
  | fn n => cases t <;> cases e
  | scr n => cases t <;> cases e
/-! ## built-in functions -/
def PVs (K : PySem.W.Frag) (A : Addr → Prop) (H : Hp) : List D → List V → Prop
  | [], vs => vs = []
  | d :: ds, vs => ∃ v r, vs = v :: r ∧ PV K A H d v ∧ PVs K A H ds r
def rBf (K : PySem.W.Frag) (b : Bf) : List V → Hp → VK → Prop := fun vs H Q => ∃ Ao σ Γ ds, Rel K Ao σ H Γ ∧ PVs K (Av Ao σ Γ) H ds vs ∧ Fin K Ao σ H Γ (bapp b ds) Q
theorem pvs1 {K : PySem.W.Frag} {A : Addr → Prop} {H : Hp} {d : D} {vs : List V} (h : PVs K A H [d] vs) : ∃ v, vs = [v] ∧ PV K A H d v := by
  obtain ⟨v, r, e, h1, h2⟩ := h
  cases h2
  exact ⟨v, e, h1⟩
theorem pvs2 {K : PySem.W.Frag} {A : Addr → Prop} {H : Hp} {d e : D} {vs : List V} (h : PVs K A H [d, e] vs) : ∃ v w, vs = [v, w] ∧ PV K A H d v ∧ PV K A H e w := by
  obtain ⟨v, r, rfl, h1, h2⟩ := h
  obtain ⟨w, rfl, h3⟩ := pvs1 h2
  exact ⟨v, w, rfl, h1, h3⟩
theorem pvs3 {K : PySem.W.Frag} {A : Addr → Prop} {H : Hp} {d e f : D} {vs : List V} (h : PVs K A H [d, e, f] vs) : ∃ v w x, vs = [v, w, x] ∧ PV K A H d v ∧ PV K A H e w ∧ PV K A H f x := by
  obtain ⟨v, r, rfl, h1, h2⟩ := h
  obtain ⟨w, x, rfl, h3, h4⟩ := pvs2 h2
  exact ⟨v, w, x, rfl, h1, h3, h4⟩
def Pure1 (b : Bf) (P : List D → Option D) : Prop := ∀ ds, bapp b ds = match P ds with | some d => .ok (.val d) | none => .no
theorem cr_len : CallR X (.builtin "len") (rBf X.K .len) := by
  intro pins s τ H vs us Q I rv h
  obtain ⟨Ao, σ, Γ, ds, r, hd, f⟩ := h
  unfold bapp at f
  split at f <;> rename_i hop <;> first | exact f.elim | (cases hop; done) | skip
  · obtain ⟨v, rfl, h1⟩ := pvs1 hd
    obtain ⟨a, ws, rfl, h2, h3⟩ := pv_list h1
    refine call_len pins s τ H _ us Q I rv ⟨_, _, rfl, .inl ⟨ws, .inl (.inl h2), rfl⟩, ?_⟩
    rw [h3.length]
    exact f.int r
  · obtain ⟨v, rfl, h1⟩ := pvs1 hd
    obtain ⟨a, ws, rfl, h2, h3⟩ := pv_tup h1
    refine call_len pins s τ H _ us Q I rv ⟨_, _, rfl, .inr ⟨ws, h2.sq, rfl⟩, ?_⟩
    rw [h3.length]
    exact f.int r
  · split at f
    · rename_i z hl
      obtain ⟨v, rfl, h1⟩ := pvs1 hd
      rw [pv_str h1] at rv
      exact call_len pins s τ H _ us Q I rv ⟨_, _, rfl, ⟨line_le hl, rfl⟩, f.int r⟩
    · exact f.elim
theorem cr_abs : CallR X (.builtin "abs") (rBf X.K .abs) := by
  intro pins s τ H vs us Q I rv h
  obtain ⟨Ao, σ, Γ, ds, r, hd, f⟩ := h
  unfold bapp at f
  split at f <;> rename_i hop <;> first | exact f.elim | (cases hop; done) | skip
  obtain ⟨v, rfl, h1⟩ := pvs1 hd
  rw [pv_int h1] at rv
  exact call_abs pins s τ H _ us Q I rv ⟨_, rfl, f.int r⟩
theorem cr_int : CallR X (.type "int") (rBf X.K .int) := by
  intro pins s τ H vs us Q I rv h
  obtain ⟨Ao, σ, Γ, ds, r, hd, f⟩ := h
  unfold bapp at f
  split at f <;> rename_i hop <;> first | exact f.elim | (cases hop; done) | skip
  · obtain ⟨v, rfl, h1⟩ := pvs1 hd
    rw [pv_int h1] at rv
    exact call_int1 pins s τ H _ us Q I rv (.inl ⟨_, rfl, f.int r⟩)
  · obtain ⟨v, rfl, h1⟩ := pvs1 hd
    rw [pv_bool h1] at rv
    exact call_int1 pins s τ H _ us Q I rv (.inr ⟨_, rfl, f.int r⟩)
theorem fold_min : ∀ (xs : List Int) (x m : Int), m ∈ x :: xs → (∀ y ∈ x :: xs, m ≤ y) → xs.foldl (fun a b => if b < a then b else a) x = m
  | [], x, m, h, _ => by simp at h; exact h.symm
  | y :: ys, x, m, h, q => by
    rw [List.foldl_cons]
    refine fold_min ys _ m ?_ fun z hz => ?_
    · have hx := q x (by simp)
      have hy := q y (by simp)
      rcases List.mem_cons.mp h with e | h
      · subst e
        rw [if_neg (by omega)]
        exact List.mem_cons_self
      · rcases List.mem_cons.mp h with e | h
        · subst e
          by_cases hlt : m < x
          · rw [if_pos hlt]; exact List.mem_cons_self
          · rw [if_neg hlt]
            have e : m = x := by omega
            rw [e]; exact List.mem_cons_self
        · exact List.mem_cons_of_mem _ h
    · rcases List.mem_cons.mp hz with e | hz
      · subst e
        split
        · exact q y (by simp)
        · exact q x (by simp)
      · exact q z (by simp [hz])
theorem fold_max : ∀ (xs : List Int) (x m : Int), m ∈ x :: xs → (∀ y ∈ x :: xs, y ≤ m) → xs.foldl (fun a b => if a < b then b else a) x = m
  | [], x, m, h, _ => by simp at h; exact h.symm
  | y :: ys, x, m, h, q => by
    rw [List.foldl_cons]
    refine fold_max ys _ m ?_ fun z hz => ?_
    · have hx := q x (by simp)
      have hy := q y (by simp)
      rcases List.mem_cons.mp h with e | h
      · subst e
        rw [if_neg (by omega)]
        exact List.mem_cons_self
      · rcases List.mem_cons.mp h with e | h
        · subst e
          by_cases hlt : x < m
          · rw [if_pos hlt]; exact List.mem_cons_self
          · rw [if_neg hlt]
            have e : m = x := by omega
            rw [e]; exact List.mem_cons_self
        · exact List.mem_cons_of_mem _ h
    · rcases List.mem_cons.mp hz with e | hz
      · subst e
        split
        · exact q y (by simp)
        · exact q x (by simp)
      · exact q z (by simp [hz])
theorem fold_minf (x : Int) (xs : List Int) : xs.foldl (fun a b => if b < a then b else a) x = xs.foldl min x := by
  have e : (fun a b : Int => if b < a then b else a) = min := by
    funext a b
    split <;> omega
  rw [e]
theorem fold_maxf (x : Int) (xs : List Int) : xs.foldl (fun a b => if a < b then b else a) x = xs.foldl max x := by
  have e : (fun a b : Int => if a < b then b else a) = max := by
    funext a b
    split <;> omega
  rw [e]
theorem reads_ints {h : Heap} : ∀ {ns : List Int} {us : List Value}, Vals (ns.map .int) us → ∃ as, ReadsAll h us (ns.map .int) as
  | [], _, r => by cases r; exact ⟨_, .nil⟩
  | n :: ns, _, r => by
    cases r with
    | cons a b =>
      obtain ⟨t, rfl⟩ := a
      obtain ⟨as, q⟩ := reads_ints b
      exact ⟨_, .cons (.int n t) q⟩
theorem alike_ints (ns : List Int) : PySem.W.AlikeAll (ns.map .int) := by
  refine ⟨fun x hx y hy => ?_, fun x hx => ?_⟩
  · obtain ⟨i, _, rfl⟩ := List.mem_map.mp hx
    obtain ⟨j, _, rfl⟩ := List.mem_map.mp hy
    rfl
  · obtain ⟨i, _, rfl⟩ := List.mem_map.mp hx
    intro z
    cases z
theorem depth_ints (ns : List Int) : PyData.depthAll (ns.map .int) = 0 := by
  induction ns with
  | nil => rfl
  | cons n ns ih =>
    show max (PyData.int n).depth (PyData.depthAll (ns.map .int)) = 0
    rw [ih]
    rfl
theorem cr_minD (hc : X.calm = true) (hu : X.A.units + 80 < cLine) : CallR X (.builtin "min") (rBf X.K .min) := by
  intro pins s τ H vs us Q I rv h
  obtain ⟨Ao, σ, Γ, ds, r, hd, f⟩ := h
  unfold bapp at f
  split at f <;> rename_i hop <;> first | exact f.elim | (cases hop; done) | skip
  · obtain ⟨v, w, rfl, h1, h2⟩ := pvs2 hd
    rw [pv_int h1, pv_int h2] at rv
    exact call_min2 hc pins s τ H _ us Q I rv ⟨_, _, rfl, f.int r⟩
  · split at f
    · rename_i ns hns
      split at f
      · rename_i m hm
        obtain ⟨v, rfl, h1⟩ := pvs1 hd
        obtain ⟨a, ws, rfl, h2, h3⟩ := pv_list h1
        have ew := h3.ints hns
        rw [ew] at h2
        cases ns with
        | nil => cases hm
        | cons n ns =>
          refine L2.cr_min hc pins s τ H _ us Q I rv ⟨a, n :: ns, rfl, .inl (.inl h2), by simp, fun k hk hle => ?_⟩
          have e : m = k := by
            have q : some _ = some m := hm
            rw [← Option.some.inj q]
            exact fold_min ns n k hk hle
          rw [← e]
          exact f.int r
      · exact f.elim
    · exact f.elim
  · split at f
    · rename_i ns hns
      split at f
      · rename_i m hm
        obtain ⟨v, rfl, h1⟩ := pvs1 hd
        obtain ⟨a, ws, rfl, h2, h3⟩ := pv_tup h1
        have ew := h3.ints hns
        subst ew
        cases ns with
        | nil => cases hm
        | cons n ns =>
          obtain ⟨its, rr, p, _⟩ := I.tuple h2.sq
          rw [Vals.ref1 rv]
          obtain ⟨as, hr⟩ := reads_ints (h := s.heap) rr
          refine PySem.W.min_tuple_data (I.ok.hd hc) p (x := .int n) (xs := ns.map .int) hr (alike_ints (n :: ns)) ?_ fun i v h' tk bs hv hrd hk => ?_
          · have z := depth_ints (n :: ns)
            show X.A.units + 1 + PyData.depthAll ((n :: ns).map .int) < cLine
            rw [z]
            omega
          · rw [PySem.W.minD_ints] at hrd
            have e : m = ns.foldl min n := by
              have q : some _ = some m := hm
              rw [← Option.some.inj q]
              exact fold_minf n ns
            rw [← e] at hrd
            cases hrd
            exact ⟨.int m, H, I.kept hk, ⟨_, rfl⟩, f.int r⟩
      · exact f.elim
    · exact f.elim
theorem cr_maxD (hc : X.calm = true) (hu : X.A.units + 80 < cLine) : CallR X (.builtin "max") (rBf X.K .max) := by
  intro pins s τ H vs us Q I rv h
  obtain ⟨Ao, σ, Γ, ds, r, hd, f⟩ := h
  unfold bapp at f
  split at f <;> rename_i hop <;> first | exact f.elim | (cases hop; done) | skip
  · obtain ⟨v, w, rfl, h1, h2⟩ := pvs2 hd
    rw [pv_int h1, pv_int h2] at rv
    exact call_max2 hc pins s τ H _ us Q I rv ⟨_, _, rfl, f.int r⟩
  · split at f
    · rename_i ns hns
      split at f
      · rename_i m hm
        obtain ⟨v, rfl, h1⟩ := pvs1 hd
        obtain ⟨a, ws, rfl, h2, h3⟩ := pv_list h1
        have ew := h3.ints hns
        rw [ew] at h2
        cases ns with
        | nil => cases hm
        | cons n ns =>
          refine L2.cr_max hc pins s τ H _ us Q I rv ⟨a, n :: ns, rfl, .inl (.inl h2), by simp, fun k hk hle => ?_⟩
          have e : m = k := by
            have q : some _ = some m := hm
            rw [← Option.some.inj q]
            exact fold_max ns n k hk hle
          rw [← e]
          exact f.int r
      · exact f.elim
    · exact f.elim
  · split at f
    · rename_i ns hns
      split at f
      · rename_i m hm
        obtain ⟨v, rfl, h1⟩ := pvs1 hd
        obtain ⟨a, ws, rfl, h2, h3⟩ := pv_tup h1
        have ew := h3.ints hns
        subst ew
        cases ns with
        | nil => cases hm
        | cons n ns =>
          obtain ⟨its, rr, p, _⟩ := I.tuple h2.sq
          rw [Vals.ref1 rv]
          obtain ⟨as, hr⟩ := reads_ints (h := s.heap) rr
          refine PySem.W.max_tuple_data (I.ok.hd hc) p (x := .int n) (xs := ns.map .int) hr (alike_ints (n :: ns)) ?_ fun i v h' tk bs hv hrd hk => ?_
          · have z := depth_ints (n :: ns)
            show X.A.units + 1 + PyData.depthAll ((n :: ns).map .int) < cLine
            rw [z]
            omega
          · rw [PySem.W.maxD_ints] at hrd
            have e : m = ns.foldl max n := by
              have q : some _ = some m := hm
              rw [← Option.some.inj q]
              exact fold_maxf n ns
            rw [← e] at hrd
            cases hrd
            exact ⟨.int m, H, I.kept hk, ⟨_, rfl⟩, f.int r⟩
      · exact f.elim
    · exact f.elim
theorem cr_sumD (hc : X.calm = true) : CallR X (.builtin "sum") (rBf X.K .sum) := by
  intro pins s τ H vs us Q I rv h
  obtain ⟨Ao, σ, Γ, ds, r, hd, f⟩ := h
  unfold bapp at f
  split at f <;> rename_i hop <;> first | exact f.elim | (cases hop; done) | skip
  split at f
  · rename_i ns hns
    obtain ⟨v, rfl, h1⟩ := pvs1 hd
    obtain ⟨a, ws, rfl, h2, h3⟩ := pv_list h1
    rw [h3.ints hns] at h2
    exact L2.cr_sum hc pins s τ H _ us Q I rv ⟨a, ns, rfl, .inl (.inl h2), f.int r⟩
  · exact f.elim
theorem cr_allD (hc : X.calm = true) : CallR X (.builtin "all") (rBf X.K .all) := by
  intro pins s τ H vs us Q I rv h
  obtain ⟨Ao, σ, Γ, ds, r, hd, f⟩ := h
  unfold bapp at f
  split at f <;> rename_i hop <;> first | exact f.elim | (cases hop; done) | skip
  split at f
  · rename_i ns hns
    obtain ⟨v, rfl, h1⟩ := pvs1 hd
    obtain ⟨a, ws, rfl, h2, h3⟩ := pv_list h1
    rw [h3.bools hns] at h2
    exact L2.cr_all hc pins s τ H _ us Q I rv ⟨a, ns, rfl, .inl (.inl h2), f.bl r⟩
  · exact f.elim
theorem cr_anyD (hc : X.calm = true) : CallR X (.builtin "any") (rBf X.K .any) := by
  intro pins s τ H vs us Q I rv h
  obtain ⟨Ao, σ, Γ, ds, r, hd, f⟩ := h
  unfold bapp at f
  split at f <;> rename_i hop <;> first | exact f.elim | (cases hop; done) | skip
  split at f
  · rename_i ns hns
    obtain ⟨v, rfl, h1⟩ := pvs1 hd
    obtain ⟨a, ws, rfl, h2, h3⟩ := pv_list h1
    rw [h3.bools hns] at h2
    exact L2.cr_any hc pins s τ H _ us Q I rv ⟨a, ns, rfl, .inl (.inl h2), f.bl r⟩
  · exact f.elim
theorem cr_gcdD : CallR X (.builtin "math.gcd") (rBf X.K .gcd) := by
  intro pins s τ H vs us Q I rv h
  obtain ⟨Ao, σ, Γ, ds, r, hd, f⟩ := h
  unfold bapp at f
  split at f <;> rename_i hop <;> first | exact f.elim | (cases hop; done) | skip
  obtain ⟨v, w, rfl, h1, h2⟩ := pvs2 hd
  rw [pv_int h1, pv_int h2] at rv
  exact L2.cr_gcd pins s τ H _ us Q I rv ⟨_, _, rfl, f.int r⟩
/-- isinstance(x, T): the class is written behind the value -/
def rIsiD (K : PySem.W.Frag) (t : Ty) : List V → Hp → VK → Prop := fun vs H Q => ∃ Ao σ Γ d v, vs = [v, .ty (tyS t)] ∧ Rel K Ao σ H Γ ∧ PV K (Av Ao σ Γ) H d v ∧ Fin K Ao σ H Γ (bapp (.isi t) [d]) Q
theorem cr_isi (t : Ty) : CallR X (.builtin "isinstance") (rIsiD X.K t) := by
  intro pins s τ H vs us Q I rv h
  obtain ⟨Ao, σ, Γ, d, v, rfl, r, hd, f⟩ := h
  unfold bapp at f
  dsimp only at f
  cases e : isTy t d with
  | ok b =>
    rw [e] at f
    obtain ⟨ty, h1, h2⟩ := isi_ok hd e
    exact call_isi pins s τ H _ us Q I rv ⟨v, .ty (tyS t), ty, .type (tyS t), b, rfl, .ty _, h1, h2, f.bl r⟩
  | exc c => rw [e] at f; exact f.elim
  | no => rw [e] at f; exact f.elim
end
end Mir

set_option Elab.async false
set_option autoImplicit false
set_option linter.all false
set_option maxRecDepth 100000
set_option maxHeartbeats 4000000
/-! # Mir5b: sorted(..) of ints -/
namespace Mir
open PySem L2
theorem ins_perm (x : Int) : ∀ ys : List Int, (insI x ys).Perm (x :: ys)
  | [] => .refl _
  | y :: ys => by
    unfold insI
    split
    · exact .refl _
    · exact ((ins_perm x ys).cons y).trans (.swap x y ys)
theorem ins_sorted (x : Int) : ∀ ys : List Int, ys.Pairwise (· ≤ ·) → (insI x ys).Pairwise (· ≤ ·)
  | [], _ => by simp [insI]
  | y :: ys, h => by
    unfold insI
    rw [List.pairwise_cons] at h
    split
    · rename_i hxy
      rw [List.pairwise_cons]
      refine ⟨fun z hz => ?_, List.pairwise_cons.mpr h⟩
      rcases List.mem_cons.mp hz with z | z
      · rw [z]; exact hxy
      · exact Int.le_trans hxy (h.1 _ z)
    · rename_i hxy
      rw [List.pairwise_cons]
      refine ⟨fun z hz => ?_, ins_sorted x ys h.2⟩
      rcases List.mem_cons.mp ((ins_perm x ys).mem_iff.mp hz) with z | z
      · rw [z]; omega
      · exact h.1 _ z
theorem sort_perm : ∀ xs : List Int, (sortI xs).Perm xs
  | [] => .refl _
  | x :: xs => (ins_perm x _).trans ((sort_perm xs).cons x)
theorem sort_sorted : ∀ xs : List Int, (sortI xs).Pairwise (· ≤ ·)
  | [] => .nil
  | x :: xs => ins_sorted x _ (sort_sorted xs)
theorem sorted_one : ∀ {xs ys : List Int}, xs.Perm ys → xs.Pairwise (· ≤ ·) → ys.Pairwise (· ≤ ·) → xs = ys
  | [], ys, p, _, _ => p.nil_eq
  | x :: xs, [], p, _, _ => absurd p.symm.nil_eq (by simp)
  | x :: xs, y :: ys, p, h1, h2 => by
    rw [List.pairwise_cons] at h1 h2
    have e : x = y := by
      have a : y ≤ x := by
        rcases List.mem_cons.mp (p.mem_iff.mp List.mem_cons_self) with z | z
        · omega
        · exact h2.1 _ z
      have b : x ≤ y := by
        rcases List.mem_cons.mp (p.mem_iff.mpr List.mem_cons_self) with z | z
        · omega
        · exact h1.1 _ z
      omega
    subst e
    rw [sorted_one ((List.perm_cons x).mp p) h1.2 h2.2]
open PySem.Spec PyProof.Rows in
theorem sorted_tupT {prog : Program} {w : World} {A : Around} {E : Value → Shared → Prop} {s : Shared} {l : Addr} {o : Obj} {its : List Value} {n : Nat} {ns : List Int} {Q : Value → Shared → Prop} (ho : s.heap.get? l = some o) (hc : o.cls = .type "tuple") (hd : o.data = .seq its.toArray n)
    (hz : its.length ≤ sizeLine) (hi : IntsAre its ns)
    (hq : ∀ (g : Heap) (out : List Value), (∀ b u, s.heap.get? b = some u → g.get? b = some u) → SrtO.Srtd SrtO.ltIv out → SrtO.Stb SrtO.ltIv out its → Q (.ref g.objs.size) { s with heap := sortedHeap (g.push (seqObj "list" its.toArray 0)) g.objs.size its out.toArray }) :
    wpAny (model prog w) A (call (.builtin "sorted") [.ref l]) Q E s := by
  refine Calls.call_function_entry kind_sorted plain_sorted entry_sorted (args_sorted1 _) ?_
  unfold Builtin.«sorted»
  refine wpAny_bind (m := checkCount "sorted" 1 1 _) (wpAny_pure ?_)
  refine wpAny_bind (wpAny_collect_seq (hsz := by rw [List.size_toArray]; exact hz) l (.inr rfl) ho hc hd fun g keep => ?_)
  have el : its.toArray.toList = its := by simp
  rw [el]
  refine wpAny_bind (wpAny_newList ?_ hz)
  have atL : (g.push (seqObj "list" its.toArray 0)).get? g.objs.size = some (seqObj "list" its.toArray 0) := Heap.get?_push_size _ rfl
  show wpAny _ _ _ _ _ { s with heap := g.push (seqObj "list" its.toArray 0) }
  refine wpAny_bind (wpAny_holding (wpAny_call_entry slot_list_sort ⟨_, atL, rfl⟩ entry_list_sort (SrtO.list_sort_ord SrtO.swo_int atL hz (fun two => SrtO.ints_sortable hi two) fun out q1 q2 => ⟨_, rfl, ?_⟩) (args_list_sort _)))
  exact wpAny_pure ⟨_, rfl, hq g out keep q1 q2⟩
section
variable {X : Cx}
theorem srt_fin {Ao : Addr → Prop} {σ0 : L2.St} {H : Hp} {Γ : G} {Q : VK} {ns ns' : List Int} {p : Addr} {K : PySem.W.Frag} (rel : Rel K Ao σ0 H Γ) (f : Fin K Ao σ0 H Γ (.ok (.tmp ((sortI ns).map .int))) Q) (h1 : ns'.Perm ns) (h2 : ns'.Pairwise (· ≤ ·)) (hp : H p = none) : Q (.ref p) (upd H p (.lst (ns'.map V.int))) := by
  have e : ns' = sortI ns := sorted_one (h1.trans (sort_perm ns).symm) h2 (sort_sorted ns)
  rw [e]
  exact Fin.lst rel f (DVs.ofInts _) p hp
theorem cr_sortedD : CallR X (.builtin "sorted") (rBf X.K .sorted) := by
  intro pins s τ H vs us Q I rv0 h
  obtain ⟨Ao, σ, Γ, ds, rel, pvs, f⟩ := h
  unfold bapp at f
  split at f <;> rename_i hop <;> first | exact f.elim | (cases hop; done) | skip
  · split at f
    · rename_i ns hns
      obtain ⟨v, rfl, pv⟩ := pvs1 pvs
      obtain ⟨a, ws, rfl, hw, dv⟩ := pv_list pv
      rw [dv.ints hns] at hw
      exact cr_sortedI pins s τ H _ us Q I rv0 ⟨a, ns, rfl, .inl (.inl hw), fun ns' p h1 h2 hp => srt_fin rel f h1 h2 hp⟩
    · exact f.elim
  · split at f
    · rename_i ns hns
      obtain ⟨v, rfl, pv⟩ := pvs1 pvs
      obtain ⟨a, ws, rfl, hw, dv⟩ := pv_tup pv
      rw [dv.ints hns] at hw
      obtain ⟨its, rv, ht, hz⟩ := I.tuple hw.sq
      obtain ⟨o, ho, hc, n, hd⟩ := ht
      rw [Vals.ref1 rv0]
      have hi := rv.ints
      have hz' : its.length ≤ sizeLine := by rw [← rv.length]; exact hz
      refine sorted_tupT ho hc hd hz' hi fun g out keep q1 q2 => ?_
      obtain ⟨k1, k2, k3⟩ := SrtO.ints_out hi q1 q2
      have J : Inv X pins τ H { s with heap := g } := I.kept (t' := s.toks) keep
      have atL : (g.push (PyProof.Rows.seqObj "list" its.toArray 0)).get? g.objs.size = some (PyProof.Rows.seqObj "list" its.toArray 0) := Heap.get?_push_size _ rfl
      obtain ⟨ep, he⟩ := PyProof.Rows.sortedHeap_at (vs := its) (out := out.toArray) atL
      have hlen : ((out.map SrtO.iv).map V.int).length ≤ sizeLine := by
        rw [List.length_map, k2.length_eq]
        rw [List.length_map] at hz
        exact hz
      refine ⟨.ref g.objs.size, upd H g.objs.size (.lst ((out.map SrtO.iv).map V.int)), J.laid (t' := s.toks) (fun b u hb => ?_) (Nat.le_refl _) ⟨hlen, out, ep, vals_of_ints k1, he⟩, rfl, srt_fin rel f k2 k3 (J.hok.fresh (Nat.le_refl _))⟩
      have hlt : b < g.objs.size := Heap.lt_size hb
      rw [PyProof.Rows.sortedHeap_old (Nat.ne_of_lt hlt) (by rw [PyProof.Rows.size_push']; exact Nat.lt_succ_of_lt hlt)]
      exact Heap.get?_push_of_some _ hb
    · exact f.elim
end
end Mir

set_option Elab.async false
set_option autoImplicit false
set_option linter.all false
set_option maxRecDepth 100000
set_option maxHeartbeats 4000000
/-! # Mir6: plain expressions by their readings -/
namespace Mir
open PySem L2
section
variable {X : Cx} {P : Par} {σ : St} {H : Hp} {Q : VK} {K : PySem.W.Frag}
theorem _root_.L2.PE.imp {e : Expr} {t t' : TE} (h : PE X e t) (f : ∀ σ H Q, t' σ H Q → t σ H Q) : PE X e t' := ⟨fun pins s σ H Q I q => h.run pins s σ H Q I (f σ H Q q)⟩
theorem _root_.L2.PT.imp {e : Expr} {t t' : TT} (h : PT X e t) (f : ∀ σ H Q, t' σ H Q → t σ H Q) : PT X e t' := ⟨fun pins s σ H Q I q => h.run pins s σ H Q I (f σ H Q q)⟩
theorem _root_.L2.PA.imp {e : List Expr} {t t' : TA} (h : PA X e t) (f : ∀ σ H Q, t' σ H Q → t σ H Q) : PA X e t' := ⟨fun pos pins s σ H Q I q => h.run pos pins s σ H Q I (f σ H Q q)⟩
theorem _root_.L2.PS.imp {e : Stmt} {t t' : TS} (h : PS X e t) (f : ∀ D σ H, t' D σ H → t D σ H) : PS X e t' := ⟨fun pins s σ H D I q => h.run pins s σ H D I (f D σ H q)⟩
theorem _root_.L2.PSs.imp {e : List Stmt} {t t' : TS} (h : PSs X e t) (f : ∀ D σ H, t' D σ H → t D σ H) : PSs X e t' := ⟨fun pins s σ H D I q => h.run pins s σ H D I (f D σ H q)⟩

/-! ## one evaluation, then another -/
/-- run e, go on with what it leaves -/
theorem tE_go {x : Ex} {Ao : Addr → Prop} {Γ : G} (r : Rel K Ao σ H Γ) {k : Opd × G → Prop} (h : Out P σ H Γ (ev P.S x Γ) k)
    (g : ∀ q Ao' v H', ev P.S x Γ = .ok q → k q → StE K Ao σ H Γ Ao' H' q.2 → OR K H Ao' σ H' q.2 q.1 v → Q v H') : tE K P x σ H Q :=
  ⟨Ao, Γ, r, h.imp fun q e kq Ao' v H' s o => g q Ao' v H' e kq s o⟩
theorem fin_of {Ao Ao1 : Addr → Prop} {H1 : Hp} {Γ Γ1 : G} {r : R Opd} (s : StE K Ao σ H Γ Ao1 H1 Γ1)
    (h : match r with | .ok o => (∀ Ao' v H', StE K Ao σ H Γ Ao' H' Γ1 → OR K H Ao' σ H' Γ1 o v → Q v H') | _ => False) : Fin K Ao1 σ H1 Γ1 r Q := by
  cases r with
  | ok o => exact fun Ao' v H' t q => h Ao' v H' (s.trans t) (q.back s.s.bk)
  | exc c => exact h
  | no => exact h
theorem out_fin {Γ Γ1 : G} {r : R Opd} {k : Opd × G → Prop} (he : ∀ c, r ≠ .exc c) (h : Out P σ H Γ (r.bind fun o => R.ok (o, Γ1)) k) : match r with | .ok o => k (o, Γ1) | _ => False := by
  cases r with
  | ok o => exact h
  | exc c => exact absurd rfl (he c)
  | no => exact h
theorem b2_nx {op : B2} {d e : D} : ∀ c, b2 op d e ≠ .exc c := fun c h => by
  unfold b2 at h
  split at h <;> first | cases h; done | (split at h <;> cases h; done)
theorem ixD_nx {d e : D} : ∀ c, ixD d e ≠ .exc c := fun c h => by
  unfold ixD at h
  split at h
  · split at h <;> cases h
  · split at h <;> cases h
  · split at h
    · split at h <;> cases h
    · cases h
  · cases h
theorem c2_nx {op : C2} {d e : D} : ∀ c, c2 op d e ≠ .exc c := fun c h => by
  unfold c2 at h
  split at h
  · split at h <;> cases h
  · split at h <;> cases h
  · split at h <;> cases h
  · split at h <;> cases h
  · split at h <;> cases h
  · split at h <;> cases h
  · split at h <;> cases h
  · split at h <;> cases h
  · split at h
    · split at h <;> cases h
    · split at h <;> cases h
    · cases h
  · split at h
    · split at h <;> cases h
    · split at h <;> cases h
    · cases h
theorem truth_nx {d : D} : ∀ c, truth d ≠ .exc c := fun c h => by
  unfold truth at h
  split at h <;> first | cases h; done | (split at h <;> cases h)

/-! ## names, constants -/
theorem me_var {i : Nat} {x : Str} {pos : Pos} (h : PE X (.Name x pos) (tVar i)) : PE X (.Name x pos) (tE X.K P (.var i)) := h.imp fun σ H Q q => by
  obtain ⟨Ao, Γ, r, q⟩ := q
  unfold ev at q
  split at q
  · rename_i d e
    obtain ⟨v, h1, h2⟩ := r.sh i d e
    exact ⟨v, h1, q Ao v H (.refl r) h2⟩
  · rename_i ds p st e
    obtain ⟨a, vs, h1, _⟩ := r.li i ds p st e
    exact ⟨_, h1, q Ao _ H (.refl r) ⟨h1, _, e, fun z => by cases z⟩⟩
  · exact q.elim
def litV : D → V
  | .none => .non
  | .bool b => .bl b
  | .int i => .int i
  | .str s => .str s
  | _ => .non
theorem me_lit {e : Expr} {d : D} (h : PE X e (tC (litV d))) (hd : ∀ A H, DV X.K A H d (litV d)) : PE X e (tE X.K P (.lit d)) := h.imp fun σ H Q q => by
  obtain ⟨Ao, Γ, r, q⟩ := q
  exact q Ao _ H (.refl r) (hd _ _)
theorem me_glb {e : Expr} {g : Nat} {v : V} (h : PE X e (tC v)) (hd : ∀ A H, DV X.K A H (P.S.con g) v) : PE X e (tE X.K P (.glb g)) := h.imp fun σ H Q q => by
  obtain ⟨Ao, Γ, r, q⟩ := q
  exact q Ao _ H (.refl r) (hd _ _)

/-! ## operators -/
/-- two operands, then k -/
theorem two_go {a b : Ex} {Ao : Addr → Prop} {Γ : G} (r : Rel K Ao σ H Γ) {k : Opd → Opd → G → Prop} {T : V → V → Hp → Prop}
    (h : Out P σ H Γ ((ev P.S a Γ).bind fun r1 => (ev P.S b r1.2).bind fun r2 => R.ok (r1.1, r2.1, r2.2)) fun z => k z.1 z.2.1 z.2.2)
    (g : ∀ o1 o2 Γ2 Ao2 x y H2, k o1 o2 Γ2 → StE K Ao σ H Γ Ao2 H2 Γ2 → OR K H Ao2 σ H2 Γ2 o1 x → OR K H Ao2 σ H2 Γ2 o2 y → T x y H2) :
    tE K P a σ H fun x H1 => tE K P b σ H1 fun y H2 => T x y H2 := by
  rw [Out.bind] at h
  refine tE_go r h fun q1 Ao1 x H1 e1 h1 s1 or1 => ?_
  rw [Out.bind] at h1
  refine ⟨Ao1, q1.2, s1.rel, Out.later s1.s h1 fun q2 e2 h2 Ao2 y H2 s2 or2 => ?_⟩
  exact g q1.1 q2.1 q2.2 Ao2 x y H2 h2 (s1.trans s2) (or1.st s1.rel s2) (or2.back s1.s.bk)
theorem bind_assoc {α β γ : Type} (r : R α) (f : α → R β) (g : β → R γ) : (r.bind f).bind g = r.bind fun a => (f a).bind g := by
  cases r <;> rfl
theorem two_eq {a b : Ex} {Γ : G} {α : Type} (f : Opd → Opd → G → R α) : ((ev P.S a Γ).bind fun r1 => (ev P.S b r1.2).bind fun r2 => f r1.1 r2.1 r2.2) = ((ev P.S a Γ).bind fun r1 => (ev P.S b r1.2).bind fun r2 => R.ok (r1.1, r2.1, r2.2)).bind fun z => f z.1 z.2.1 z.2.2 := by
  rw [bind_assoc]
  congr 1
  funext r1
  rw [bind_assoc]
  rfl
theorem me_bin {op : B2} {a b : Ex} {l r : Expr} {o : Operator} {pos : Pos} (ho : opB op o = true) (ha : PE X l (tE X.K P a)) (hb : PE X r (tE X.K P b)) : PE X (.BinOp l o r pos) (tE X.K P (.bin op a b)) :=
  (pe_op (op_D2 ho) ha hb).imp fun σ H Q q => by
    obtain ⟨Ao, Γ, r, q⟩ := q
    unfold ev at q
    rw [two_eq (P := P) fun o1 o2 Γ2 => (b2 op (look Γ2 o1) (look Γ2 o2)).bind fun o => R.ok (o, Γ2), Out.bind] at q
    refine two_go (k := fun o1 o2 Γ2 => Out P σ H Γ ((b2 op (look Γ2 o1) (look Γ2 o2)).bind fun o => R.ok (o, Γ2)) fun r => ∀ Ao' v H', StE X.K Ao σ H Γ Ao' H' r.2 → OR X.K H Ao' σ H' r.2 r.1 v → Q v H') r q fun o1 o2 Γ2 Ao2 x y H2 k s q1 q2 => ?_
    refine ⟨Ao2, σ, Γ2, _, _, s.rel, q1.pv s.rel, q2.pv s.rel, fin_of s ?_⟩
    cases e : b2 op (look Γ2 o1) (look Γ2 o2) with
    | ok o => rw [e] at k; exact k
    | exc c => exact absurd e (b2_nx c)
    | no => rw [e] at k; exact k
theorem me_neg {a : Ex} {e : Expr} {pos : Pos} (ha : PE X e (tE X.K P a)) : PE X (.UnaryOp .USub e pos) (tE X.K P (.neg a)) :=
  (pe_un un_neg ha).imp fun σ H Q q => by
    obtain ⟨Ao, Γ, r, q⟩ := q
    unfold ev at q
    rw [Out.bind] at q
    refine tE_go r q fun z Ao1 x H1 e1 h1 s1 or1 => ?_
    have pv := or1.pv s1.rel
    split at h1
    · rename_i i e
      rw [e] at pv
      exact ⟨i, pv_int pv, h1 Ao1 _ H1 s1 (by unfold OR DV; rfl)⟩
    · exact h1.elim
theorem me_cmp {op : C2} {a b : Ex} {l r : Expr} {o : CmpOp} {pos : Pos} (hu : X.A.units + 80 < cLine) (ho : cmpB op o = true) (hm : behindInMarks o r = false) (ha : PE X l (tE X.K P a)) (hb : PE X r (tE X.K P b)) : PE X (.Compare l [o] [r] pos) (tE X.K P (.cmp op a b)) :=
  (pe_cmpR (op_C2 hu ho) ha hb hm).imp fun σ H Q q => by
    obtain ⟨Ao, Γ, r, q⟩ := q
    unfold ev at q
    rw [two_eq (P := P) fun o1 o2 Γ2 => (c2 op (look Γ2 o1) (look Γ2 o2)).bind fun t => R.ok (Opd.val (.bool t), Γ2), Out.bind] at q
    refine two_go (k := fun o1 o2 Γ2 => Out P σ H Γ ((c2 op (look Γ2 o1) (look Γ2 o2)).bind fun t => R.ok (Opd.val (.bool t), Γ2)) fun r => ∀ Ao' v H', StE X.K Ao σ H Γ Ao' H' r.2 → OR X.K H Ao' σ H' r.2 r.1 v → Q v H') r q fun o1 o2 Γ2 Ao2 x y H2 k s q1 q2 => ?_
    refine ⟨_, _, _, q1.pv s.rel, q2.pv s.rel, ?_⟩
    cases e : c2 op (look Γ2 o1) (look Γ2 o2) with
    | ok t =>
      rw [e] at k
      exact k Ao2 _ H2 s (by unfold OR DV; rfl)
    | exc c => exact absurd e (c2_nx c)
    | no =>
      rw [e] at k
      exact k
theorem me_cmpT {op : C2} {a b : Ex} {l r : Expr} {o : CmpOp} {pos : Pos} (hu : X.A.units + 80 < cLine) (ho : cmpB op o = true) (hm : behindInMarks o r = false) (ha : PE X l (tE X.K P a)) (hb : PE X r (tE X.K P b)) : PT X (.Compare l [o] [r] pos) (tT X.K P (.cmp op a b)) :=
  (pt_cmpR (op_C2 hu ho) ha hb hm).imp fun σ H Q q => by
    obtain ⟨Ao, Γ, r, q⟩ := q
    unfold ev at q
    rw [two_eq (P := P) fun o1 o2 Γ2 => (c2 op (look Γ2 o1) (look Γ2 o2)).bind fun t => R.ok (Opd.val (.bool t), Γ2), bind_assoc, Out.bind] at q
    refine two_go (k := fun o1 o2 Γ2 => Out P σ H Γ (((c2 op (look Γ2 o1) (look Γ2 o2)).bind fun t => R.ok (Opd.val (.bool t), Γ2)).bind fun r => (truth (look r.2 r.1)).bind fun t => R.ok (t, r.2)) fun r => ∀ Ao' H', StE X.K Ao σ H Γ Ao' H' r.2 → Q r.1 H') r q fun o1 o2 Γ2 Ao2 x y H2 k s q1 q2 => ?_
    refine ⟨_, _, _, q1.pv s.rel, q2.pv s.rel, ?_⟩
    cases e : c2 op (look Γ2 o1) (look Γ2 o2) with
    | ok t =>
      rw [e] at k
      exact ⟨t, rfl, k Ao2 H2 s⟩
    | exc c => exact absurd e (c2_nx c)
    | no =>
      rw [e] at k
      exact k
theorem chn_go {op op' : C2} {a b c : Ex} {Ao : Addr → Prop} {Γ : G} (r : Rel K Ao σ H Γ)
    (q : Out P σ H Γ (ev P.S (.chn op op' a b c) Γ) fun r => ∀ t, r.1 = .val (.bool t) → ∀ Ao' H', StE K Ao σ H Γ Ao' H' r.2 → Q (.bl t) H') :
    tChain (rC2 K op) (rC2 K op') (tE K P a) (tE K P b) (tE K P c) σ H Q := by
  unfold ev at q
  rw [Out.bind] at q
  refine tE_go r q fun q1 Ao1 x H1 e1 h1 s1 or1 => ?_
  rw [Out.bind] at h1
  refine ⟨Ao1, q1.2, s1.rel, Out.later s1.s h1 fun q2 e2 h2 Ao2 y H2 s2 or2 => ?_⟩
  have s := s1.trans s2
  have o1 := or1.st s1.rel s2
  have o2 := or2.back s1.s.bk
  refine ⟨_, _, _, o1.pv s.rel, o2.pv s.rel, ?_⟩
  cases e : c2 op (look q2.2 q1.1) (look q2.2 q2.1) with
  | exc c => exact absurd e (c2_nx c)
  | no => rw [e] at h2; exact h2
  | ok t =>
    rw [e] at h2
    refine ⟨t, rfl, ?_⟩
    cases t with
    | false => exact h2 false rfl Ao2 H2 s
    | true =>
      have h3 : Out P σ H Γ ((ev P.S c q2.2).bind fun r3 => (c2 op' (look r3.2 q2.1) (look r3.2 r3.1)).bind fun t' => R.ok (Opd.val (.bool t'), r3.2)) fun r => ∀ t, r.1 = .val (.bool t) → ∀ Ao' H', StE K Ao σ H Γ Ao' H' r.2 → Q (.bl t) H' := h2
      rw [Out.bind] at h3
      refine ⟨Ao2, q2.2, s.rel, Out.later s.s h3 fun q3 e3 h3 Ao3 z H3 s3 or3 => ?_⟩
      have s' := s.trans s3
      refine ⟨_, _, _, (o2.st s.rel s3).pv s'.rel, or3.pv s'.rel, ?_⟩
      cases e' : c2 op' (look q3.2 q2.1) (look q3.2 q3.1) with
      | exc c => exact absurd e' (c2_nx c)
      | no => rw [e'] at h3; exact h3
      | ok t' =>
        rw [e'] at h3
        exact h3 t' rfl Ao3 H3 s'
theorem me_chn {op op' : C2} {a b c : Ex} {l m r : Expr} {o o' : CmpOp} {pos : Pos} (hu : X.A.units + 80 < cLine) (ho : cmpB op o = true) (ho' : cmpB op' o' = true) (hm : lastMarks [o, o'] [m, r] = false)
    (ha : PE X l (tE X.K P a)) (hb : PE X m (tE X.K P b)) (hc : PE X r (tE X.K P c)) : PE X (.Compare l [o, o'] [m, r] pos) (tE X.K P (.chn op op' a b c)) :=
  (pe_chain (op_C2 hu ho) (op_C2 hu ho') ha hb hc hm).imp fun σ H Q q => by
    obtain ⟨Ao, Γ, r, q⟩ := q
    refine chn_go r (q.imp fun z e h t et Ao' H' s => ?_)
    exact h Ao' _ H' s (by rw [et]; unfold OR DV; rfl)
theorem chn_bool {op op' : C2} {a b c : Ex} {Γ : G} {z : Opd × G} (e : ev P.S (.chn op op' a b c) Γ = .ok z) : ∃ t, z.1 = .val (.bool t) := by
  unfold ev at e
  obtain ⟨q1, e1, e⟩ := R.bind_eq_ok e
  obtain ⟨q2, e2, e⟩ := R.bind_eq_ok e
  obtain ⟨t, e3, e⟩ := R.bind_eq_ok e
  cases t with
  | false => cases e; exact ⟨_, rfl⟩
  | true =>
    obtain ⟨q3, e4, e⟩ := R.bind_eq_ok (show (ev P.S c q2.2).bind _ = .ok z from e)
    obtain ⟨t', e5, e⟩ := R.bind_eq_ok e
    cases e
    exact ⟨_, rfl⟩
theorem me_chnT {op op' : C2} {a b c : Ex} {l m r : Expr} {o o' : CmpOp} {pos : Pos} (hu : X.A.units + 80 < cLine) (ho : cmpB op o = true) (ho' : cmpB op' o' = true) (hm : lastMarks [o, o'] [m, r] = false)
    (ha : PE X l (tE X.K P a)) (hb : PE X m (tE X.K P b)) (hc : PE X r (tE X.K P c)) : PT X (.Compare l [o, o'] [m, r] pos) (tT X.K P (.chn op op' a b c)) :=
  (pt_chain (op_C2 hu ho) (op_C2 hu ho') ha hb hc hm).imp fun σ H Q q => by
    obtain ⟨Ao, Γ, r, q⟩ := q
    rw [Out.bind] at q
    refine chn_go r (q.imp fun z e h t et Ao' H' s => ?_)
    rw [et] at h
    exact ⟨t, rfl, h Ao' H' s⟩

/-! ## and, or, not, if-else -/
/-- an expression's truth -/
theorem tru_go {a : Ex} {Ao : Addr → Prop} {Γ : G} (r : Rel K Ao σ H Γ) {k : Bool → G → Prop} {T : Bool → Hp → Prop} (h : Out P σ H Γ ((ev P.S a Γ).bind fun r => (truth (look r.2 r.1)).bind fun t => R.ok (t, r.2)) fun z => k z.1 z.2)
    (g : ∀ t Γ1 Ao1 H1, k t Γ1 → StE K Ao σ H Γ Ao1 H1 Γ1 → T t H1) : tE K P a σ H fun x H1 => ∃ t, TruV K x H1 t ∧ T t H1 := by
  rw [Out.bind] at h
  refine tE_go r h fun q Ao1 x H1 e h1 s1 or1 => ?_
  cases e2 : truth (look q.2 q.1) with
  | exc c => exact absurd e2 (truth_nx c)
  | no => rw [e2] at h1; exact h1.elim
  | ok t =>
    rw [e2] at h1
    exact ⟨t, truth_ok (or1.pv s1.rel) e2, g t q.2 Ao1 H1 h1 s1⟩
theorem me_not {a : Ex} {e : Expr} {pos : Pos} (ha : PE X e (tE X.K P a)) : PE X (.UnaryOp .Not e pos) (tE X.K P (.not a)) :=
  (pe_notT ha).imp fun σ H Q q => by
    obtain ⟨Ao, Γ, r, q⟩ := q
    unfold ev at q
    refine tru_go (k := fun t Γ1 => ∀ Ao' v H', StE X.K Ao σ H Γ Ao' H' Γ1 → OR X.K H Ao' σ H' Γ1 (.val (.bool !t)) v → Q v H') r ?_ fun t Γ1 Ao1 H1 k s => k Ao1 _ H1 s (by unfold OR DV; rfl)
    rw [Out.bind] at q ⊢
    refine q.imp fun z e h => ?_
    rw [Out.bind] at h ⊢
    exact h
theorem me_notT {a : Ex} {e : Expr} {pos : Pos} (ha : PT X e (tT X.K P a)) : PT X (.UnaryOp .Not e pos) (tT X.K P (.not a)) :=
  (pt_not ha).imp fun σ H Q q => by
    obtain ⟨Ao, Γ, r, q⟩ := q
    unfold ev at q
    refine ⟨Ao, Γ, r, ?_⟩
    rw [bind_assoc, Out.bind] at q
    rw [Out.bind]
    refine q.imp fun z e h => ?_
    cases e2 : truth (look z.2 z.1) with
    | exc c => exact absurd e2 (truth_nx c)
    | no => rw [e2] at h; exact h
    | ok t => rw [e2] at h; exact h
theorem me_and {a b : Ex} {l m : Expr} {rest : List Expr} {pos : Pos} (ha : PE X l (tE X.K P a)) (hb : PE X (.BoolOp .And (m :: rest) pos) (tE X.K P b)) : PE X (.BoolOp .And (l :: m :: rest) pos) (tE X.K P (.and a b)) :=
  (pe_andT ha hb).imp fun σ H Q q => by
    obtain ⟨Ao, Γ, r, q⟩ := q
    unfold ev at q
    rw [Out.bind] at q
    refine tE_go r q fun z Ao1 x H1 e h1 s1 or1 => ?_
    cases e2 : truth (look z.2 z.1) with
    | exc c => exact absurd e2 (truth_nx c)
    | no => rw [e2] at h1; exact h1.elim
    | ok t =>
      rw [e2] at h1
      refine ⟨t, truth_ok (or1.pv s1.rel) e2, ?_⟩
      cases t with
      | false => exact h1 Ao1 x H1 s1 or1
      | true =>
        have h2 : Out P σ H Γ (ev P.S b z.2) fun r => ∀ Ao' v H', StE X.K Ao σ H Γ Ao' H' r.2 → OR X.K H Ao' σ H' r.2 r.1 v → Q v H' := h1
        exact ⟨Ao1, z.2, s1.rel, Out.later s1.s h2 fun q2 e3 h3 Ao2 v H2 s2 or2 => h3 Ao2 v H2 (s1.trans s2) (or2.back s1.s.bk)⟩
theorem me_or {a b : Ex} {l m : Expr} {rest : List Expr} {pos : Pos} (ha : PE X l (tE X.K P a)) (hb : PE X (.BoolOp .Or (m :: rest) pos) (tE X.K P b)) : PE X (.BoolOp .Or (l :: m :: rest) pos) (tE X.K P (.or a b)) :=
  (pe_orT ha hb).imp fun σ H Q q => by
    obtain ⟨Ao, Γ, r, q⟩ := q
    unfold ev at q
    rw [Out.bind] at q
    refine tE_go r q fun z Ao1 x H1 e h1 s1 or1 => ?_
    cases e2 : truth (look z.2 z.1) with
    | exc c => exact absurd e2 (truth_nx c)
    | no => rw [e2] at h1; exact h1.elim
    | ok t =>
      rw [e2] at h1
      refine ⟨t, truth_ok (or1.pv s1.rel) e2, ?_⟩
      cases t with
      | true => exact h1 Ao1 x H1 s1 or1
      | false =>
        have h2 : Out P σ H Γ (ev P.S b z.2) fun r => ∀ Ao' v H', StE X.K Ao σ H Γ Ao' H' r.2 → OR X.K H Ao' σ H' r.2 r.1 v → Q v H' := h1
        exact ⟨Ao1, z.2, s1.rel, Out.later s1.s h2 fun q2 e3 h3 Ao2 v H2 s2 or2 => h3 Ao2 v H2 (s1.trans s2) (or2.back s1.s.bk)⟩
/-- what follows a test -/
theorem tT_go {x : Ex} {Ao : Addr → Prop} {Γ : G} (r : Rel K Ao σ H Γ) {k : Bool × G → Prop} {T : Bool → Hp → Prop} (h : Out P σ H Γ ((ev P.S x Γ).bind fun r => (truth (look r.2 r.1)).bind fun t => R.ok (t, r.2)) k)
    (g : ∀ q Ao' H', k q → StE K Ao σ H Γ Ao' H' q.2 → T q.1 H') : tT K P x σ H T :=
  ⟨Ao, Γ, r, h.imp fun q _ kq Ao' H' s => g q Ao' H' kq s⟩
theorem tst_bind {α : Type} {x : Ex} {Γ : G} (f : Bool → G → R α) : ((ev P.S x Γ).bind fun r => (truth (look r.2 r.1)).bind fun t => f t r.2) = ((ev P.S x Γ).bind fun r => (truth (look r.2 r.1)).bind fun t => R.ok (t, r.2)).bind fun z => f z.1 z.2 := by
  rw [bind_assoc]
  congr 1
  funext r
  rw [bind_assoc]
  rfl
theorem and_split {a b : Ex} {Ao : Addr → Prop} {Γ : G} {T : Bool → Hp → Prop} (r : Rel K Ao σ H Γ) (q : Out P σ H Γ ((ev P.S (.and a b) Γ).bind fun r => (truth (look r.2 r.1)).bind fun t => R.ok (t, r.2)) fun r => ∀ Ao' H', StE K Ao σ H Γ Ao' H' r.2 → T r.1 H') :
    tAnd (tT K P a) (tT K P b) σ H T := by
  unfold ev at q
  rw [bind_assoc, Out.bind] at q
  refine tT_go (k := fun q => if q.1 = true then Out P σ H Γ ((ev P.S b q.2).bind fun r => (truth (look r.2 r.1)).bind fun t => R.ok (t, r.2)) fun r => ∀ Ao' H', StE K Ao σ H Γ Ao' H' r.2 → T r.1 H' else ∀ Ao' H', StE K Ao σ H Γ Ao' H' q.2 → T false H') r ?_ fun z Ao1 H1 k s => ?_
  · rw [Out.bind]
    refine q.imp fun z e h => ?_
    cases e2 : truth (look z.2 z.1) with
    | exc c => exact absurd e2 (truth_nx c)
    | no => rw [e2] at h; exact h
    | ok t =>
      rw [e2] at h
      cases t with
      | true => exact h
      | false =>
        have h' : Out P σ H Γ ((truth (look z.2 z.1)).bind fun t => R.ok (t, z.2)) fun r => ∀ Ao' H', StE K Ao σ H Γ Ao' H' r.2 → T r.1 H' := h
        rw [e2] at h'
        exact h'
  · cases e : z.1 with
    | true =>
      rw [e, if_pos rfl] at k
      exact ⟨Ao1, z.2, s.rel, Out.later s.s k fun q2 _ h3 Ao2 H2 s2 => h3 Ao2 H2 (s.trans s2)⟩
    | false =>
      rw [e, if_neg Bool.false_ne_true] at k
      exact k Ao1 H1 s
theorem or_split {a b : Ex} {Ao : Addr → Prop} {Γ : G} {T : Bool → Hp → Prop} (r : Rel K Ao σ H Γ) (q : Out P σ H Γ ((ev P.S (.or a b) Γ).bind fun r => (truth (look r.2 r.1)).bind fun t => R.ok (t, r.2)) fun r => ∀ Ao' H', StE K Ao σ H Γ Ao' H' r.2 → T r.1 H') :
    tOr (tT K P a) (tT K P b) σ H T := by
  unfold ev at q
  rw [bind_assoc, Out.bind] at q
  refine tT_go (k := fun q => if q.1 = true then (∀ Ao' H', StE K Ao σ H Γ Ao' H' q.2 → T true H') else Out P σ H Γ ((ev P.S b q.2).bind fun r => (truth (look r.2 r.1)).bind fun t => R.ok (t, r.2)) fun r => ∀ Ao' H', StE K Ao σ H Γ Ao' H' r.2 → T r.1 H') r ?_ fun z Ao1 H1 k s => ?_
  · rw [Out.bind]
    refine q.imp fun z e h => ?_
    cases e2 : truth (look z.2 z.1) with
    | exc c => exact absurd e2 (truth_nx c)
    | no => rw [e2] at h; exact h
    | ok t =>
      rw [e2] at h
      cases t with
      | false => exact h
      | true =>
        have h' : Out P σ H Γ ((truth (look z.2 z.1)).bind fun t => R.ok (t, z.2)) fun r => ∀ Ao' H', StE K Ao σ H Γ Ao' H' r.2 → T r.1 H' := h
        rw [e2] at h'
        exact h'
  · cases e : z.1 with
    | false =>
      rw [e, if_neg Bool.false_ne_true] at k
      exact ⟨Ao1, z.2, s.rel, Out.later s.s k fun q2 _ h3 Ao2 H2 s2 => h3 Ao2 H2 (s.trans s2)⟩
    | true =>
      rw [e, if_pos rfl] at k
      exact k Ao1 H1 s
theorem _root_.L2.PW.imp {e : Expr} {t t' : TT} (h : PW X e t) (f : ∀ σ H Q, t' σ H Q → t σ H Q) : PW X e t' := ⟨fun w pins s σ H Q I q => h.run w pins s σ H Q I (f σ H Q q)⟩
theorem me_andT {a b : Ex} {l m : Expr} {rest : List Expr} {pos : Pos} (ha : PT X l (tT X.K P a)) (hb : PW X (.BoolOp .And (m :: rest) pos) (tT X.K P b)) : PW X (.BoolOp .And (l :: m :: rest) pos) (tT X.K P (.and a b)) :=
  (pw_and ha hb).imp fun σ H Q q => by
    obtain ⟨Ao, Γ, r, q⟩ := q
    exact and_split r q
theorem me_orT {a b : Ex} {l m : Expr} {rest : List Expr} {pos : Pos} (ha : PT X l (tT X.K P a)) (hb : PW X (.BoolOp .Or (m :: rest) pos) (tT X.K P b)) : PW X (.BoolOp .Or (l :: m :: rest) pos) (tT X.K P (.or a b)) :=
  (pw_or ha hb).imp fun σ H Q q => by
    obtain ⟨Ao, Γ, r, q⟩ := q
    exact or_split r q
theorem me_ite {c a b : Ex} {ec ea eb : Expr} {pos : Pos} (hc : PT X ec (tT X.K P c)) (ha : PE X ea (tE X.K P a)) (hb : PE X eb (tE X.K P b)) : PE X (.IfExp ec ea eb pos) (tE X.K P (.ite c a b)) :=
  (pe_ifExp hc ha hb).imp fun σ H Q q => by
    obtain ⟨Ao, Γ, r, q⟩ := q
    unfold ev at q
    rw [tst_bind (P := P) fun t Γ1 => if t = true then ev P.S a Γ1 else ev P.S b Γ1, Out.bind] at q
    refine tT_go r q fun z Ao1 H1 k s => ?_
    cases e : z.1 with
    | true =>
      rw [e, if_pos rfl] at k
      exact ⟨Ao1, z.2, s.rel, Out.later s.s k fun q2 e3 h3 Ao2 v H2 s2 or2 => h3 Ao2 v H2 (s.trans s2) (or2.back s.s.bk)⟩
    | false =>
      rw [e, if_neg Bool.false_ne_true] at k
      exact ⟨Ao1, z.2, s.rel, Out.later s.s k fun q2 e3 h3 Ao2 v H2 s2 or2 => h3 Ao2 v H2 (s.trans s2) (or2.back s.s.bk)⟩
/-- any other expression as a test -/
theorem me_truth {a : Ex} {e : Expr} (ha : PE X e (tE X.K P a)) (he : ∀ whole, isTrue e X.env whole = (do let v ← whole; standAt e.pos; holding [v] (truthy v))) : PT X e (tT X.K P a) :=
  (pt_truth ha he).imp fun σ H Q q => by
    obtain ⟨Ao, Γ, r, q⟩ := q
    refine tru_go (k := fun t Γ1 => ∀ Ao' H', StE X.K Ao σ H Γ Ao' H' Γ1 → Q t H') r q fun t Γ1 Ao1 H1 k s => k Ao1 H1 s
end
end Mir

set_option Elab.async false
set_option autoImplicit false
set_option linter.all false
set_option maxRecDepth 100000
set_option maxHeartbeats 4000000
/-! # Mir7: argument lists, displays, parts, built-in functions -/
namespace Mir
open PySem L2

/-! ## a name's own list changes -/
section
variable {K : PySem.W.Frag} {Ao Ao' : Addr → Prop} {σ : St} {H H' H0 : Hp} {Γ Γ' : G}
theorem lv_put {i : Nat} {ds ds' : List D} {p p' : Bool} {st : LS} (h : Γ[i]? = some (.li ds p st)) (a : Addr) : Lv σ (Γ.set i (.li ds' p' st)) a ↔ Lv σ Γ a := by
  have gs : ∀ j, (Γ.set i (.li ds' p' st))[j]? = if i = j then some (.li ds' p' st) else Γ[j]? := fun j => get_set h
  constructor
  · rintro ⟨j, es, q, st', e1, e2, e3⟩
    rw [gs] at e1
    by_cases hj : i = j
    · rw [if_pos hj] at e1
      cases e1
      subst hj
      exact ⟨i, ds, p, st, h, e2, e3⟩
    · rw [if_neg hj] at e1
      exact ⟨j, es, q, st', e1, e2, e3⟩
  · rintro ⟨j, es, q, st', e1, e2, e3⟩
    by_cases hj : i = j
    · subst hj
      rw [h] at e1
      cases e1
      exact ⟨i, ds', p', st, by rw [gs, if_pos rfl], e2, e3⟩
    · exact ⟨j, es, q, st', by rw [gs, if_neg hj]; exact e1, e2, e3⟩
theorem mu_put {i : Nat} {ds ds' : List D} {p p' : Bool} {st : LS} (h : Γ[i]? = some (.li ds p st)) (a : Addr) : Mu σ (Γ.set i (.li ds' p' st)) a ↔ Mu σ Γ a := by
  have gs : ∀ j, (Γ.set i (.li ds' p' st))[j]? = if i = j then some (.li ds' p' st) else Γ[j]? := fun j => get_set h
  constructor
  · rintro ⟨j, es, q, e1, e3⟩
    rw [gs] at e1
    by_cases hj : i = j
    · rw [if_pos hj] at e1
      cases e1
      subst hj
      exact ⟨i, ds, p, h, e3⟩
    · rw [if_neg hj] at e1
      exact ⟨j, es, q, e1, e3⟩
  · rintro ⟨j, es, q, e1, e3⟩
    by_cases hj : i = j
    · subst hj
      rw [h] at e1
      cases e1
      exact ⟨i, ds', p', by rw [gs, if_pos rfl], e3⟩
    · exact ⟨j, es, q, by rw [gs, if_neg hj]; exact e1, e3⟩
theorem av_iff {Ao : Addr → Prop} {Γ Γ' : G} {a : Addr} (h : Lv σ Γ' a ↔ Lv σ Γ a) : Av Ao σ Γ' a ↔ Av Ao σ Γ a := ⟨fun z => z.imp id h.1, fun z => z.imp id h.2⟩
theorem StE.put (r : Rel K Ao σ H Γ) {i : Nat} {ds ds' : List D} {p : Bool} {a : Addr} {vs' : List V} (h : Γ[i]? = some (.li ds p .own)) (hσ : σ[i]? = some (some (.ref a))) (q : DVs K (Av Ao σ Γ) H ds' vs') :
    StE K Ao σ H Γ Ao (upd H a (.lst vs')) (Γ.set i (.li ds' p .own)) := by
  have gs : ∀ j, (Γ.set i (.li ds' p .own))[j]? = if i = j then some (.li ds' p .own) else Γ[j]? := fun j => get_set h
  have lv := fun b => lv_put (σ := σ) (ds' := ds') (p' := p) h b
  have av : ∀ b, Av Ao σ (Γ.set i (.li ds' p .own)) b ↔ Av Ao σ Γ b := fun b => av_iff (lv b)
  have ha : Lv σ Γ a := ⟨i, ds, p, .own, h, by decide, hσ⟩
  have hmu : Mu σ Γ a := ⟨i, ds, p, h, hσ⟩
  obtain ⟨a', vs, q1, q2, q3, q4, _⟩ := r.li i ds p .own h
  rw [hσ] at q1
  cases q1
  have m : Mv (Av Ao σ Γ) (Av Ao σ (Γ.set i (.li ds' p .own))) H (upd H a (.lst vs')) := ⟨fun b o n e => by
    rw [upd_ne (fun z => n (by subst z; exact .inr ha))]
    exact e, fun b _ _ z => (av b).1 z⟩
  have dm : ∀ b, H b ≠ none → upd H a (.lst vs') b ≠ none := fun b n => by
    by_cases e : b = a
    · subst e; rw [upd_same]; exact fun z => by cases z
    · rw [upd_ne e]; exact n
  refine ⟨⟨⟨by rw [List.length_set]; exact r.len, fun b z => dm b (r.dom b z), fun j d e => ?_, fun j es p' st e => ?_, fun j k es p1 st1 es2 p2 st2 b e1 n1 e2 n2 => ?_⟩, fun _ z => z, fun _ z => .inl z, fun b o e n => ?_, dm, fun b z => .inl ((lv b).1 z), fun b z => .inl ((mu_put h b).1 z), fun j es st e => ?_, fun j es st e => ?_, fun j es p' e => ?_, by rw [List.length_set]⟩, fun j x e n => ?_⟩
  · rw [gs] at e
    by_cases hj : i = j
    · rw [if_pos hj] at e; cases e
    · rw [if_neg hj] at e
      obtain ⟨v, w1, w2⟩ := r.sh j d e
      exact ⟨v, w1, w2.mv m⟩
  · rw [gs] at e
    by_cases hj : i = j
    · rw [if_pos hj] at e
      cases e
      subst hj
      exact ⟨a, vs', hσ, upd_same .., q.mv m, q4, fun z => by cases z⟩
    · rw [if_neg hj] at e
      obtain ⟨b, ws, w1, w2, w3, w4, w5⟩ := r.li j es p' st e
      have hb : b ≠ a := fun z => by
        subst z
        by_cases f : st = .froz
        · exact w5 f (.inr ha)
        · exact hj (r.inj i j _ _ _ _ _ _ b h (by decide) e f hσ w1)
      exact ⟨b, ws, w1, by rw [upd_ne hb]; exact w2, w3.mv m, w4, fun z y => w5 z ((av b).1 y)⟩
  · have back : ∀ {j : Nat} {es p1 st1}, (Γ.set i (.li ds' p .own))[j]? = some (.li es p1 st1) → ∃ es', Γ[j]? = some (.li es' p1 st1) := fun {j es p1 st1} e => by
      rw [gs] at e
      by_cases hj : i = j
      · rw [if_pos hj] at e
        cases e
        subst hj
        exact ⟨ds, h⟩
      · rw [if_neg hj] at e
        exact ⟨es, e⟩
    obtain ⟨f1, g1⟩ := back e1
    obtain ⟨f2, g2⟩ := back e2
    exact r.inj j k f1 p1 st1 f2 p2 st2 b g1 n1 g2 n2
  · rw [upd_ne (fun z => n (by subst z; exact hmu))]
    exact e
  · by_cases hj : i = j
    · subst hj
      rw [h] at e
      cases e
      exact ⟨ds', .own, by rw [gs, if_pos rfl], rfl⟩
    · exact ⟨es, st, by rw [gs, if_neg hj]; exact e, rfl⟩
  · rw [gs] at e
    by_cases hj : i = j
    · rw [if_pos hj] at e
      cases e
      subst hj
      exact ⟨ds, .own, h⟩
    · rw [if_neg hj] at e
      exact ⟨es, st, e⟩
  · by_cases hj : i = j
    · subst hj
      rw [h] at e
      cases e
    · exact ⟨es, by rw [gs, if_neg hj]; exact e, rfl⟩
  · by_cases hj : i = j
    · subst hj
      exact ⟨_, by rw [gs, if_pos rfl], fun z => by cases z⟩
    · exact ⟨x, by rw [gs, if_neg hj]; exact e, n⟩

/-! ## operands in a row -/
/-- the temporary lists among them are younger than those ahead -/
def ORs (K : PySem.W.Frag) (Ao : Addr → Prop) (σ : St) (H : Hp) (Γ : G) : Hp → List Opd → List V → Prop
  | _, [], vs => vs = []
  | H0, o :: os, vs => ∃ v r H1, vs = v :: r ∧ OR K H0 Ao σ H Γ o v ∧ (∀ a, H1 a = none → H0 a = none) ∧ (∀ ds, o = .tmp ds → ∀ a, v = .ref a → H1 a ≠ none) ∧ ORs K Ao σ H Γ H1 os r
theorem ORs.st {H0 : Hp} : ∀ {H0 : Hp} {os : List Opd} {vs : List V}, ORs K Ao σ H Γ H0 os vs → Rel K Ao σ H Γ → StE K Ao σ H Γ Ao' H' Γ' → ORs K Ao' σ H' Γ' H0 os vs
  | _, [], _, h, _, _ => h
  | _, _ :: _, _, ⟨v, q, H1, e, h1, h2, h3, h4⟩, r, s => ⟨v, q, H1, e, h1.st r s, h2, h3, ORs.st (H0 := H1) h4 r s⟩
theorem ORs.back {H0 H1 : Hp} : ∀ {os : List Opd} {vs : List V}, ORs K Ao σ H Γ H1 os vs → (∀ a, H1 a = none → H0 a = none) → ORs K Ao σ H Γ H0 os vs
  | [], _, h, _ => h
  | o :: os, vs, ⟨v, q, H2, e, h1, h2, h3, h4⟩, b => ⟨v, q, H2, e, h1.back b, fun a z => b a (h2 a z), h3, h4⟩
theorem ORs.pvs : ∀ {H0 : Hp} {os : List Opd} {vs : List V}, ORs K Ao σ H Γ H0 os vs → Rel K Ao σ H Γ → PVs K (Av Ao σ Γ) H (os.map (look Γ)) vs
  | _, [], _, h, _ => h
  | _, _ :: _, _, ⟨v, q, H1, e, h1, h2, h3, h4⟩, r => ⟨v, q, e, h1.pv r, ORs.pvs (H0 := H1) h4 r⟩
end
def tA (K : PySem.W.Frag) (P : Par) (es : Exs) : TA := fun σ H Q => ∃ Ao Γ, Rel K Ao σ H Γ ∧ Out P σ H Γ (evs P.S es Γ) fun r => ∀ Ao' vs H', StE K Ao σ H Γ Ao' H' r.2 → ORs K Ao' σ H' r.2 H r.1 vs → Q vs H'
def tAV (K : PySem.W.Frag) (P : Par) (es : Exs) : TA := fun σ H Q => ∃ Ao Γ, Rel K Ao σ H Γ ∧ Out P σ H Γ (evV P.S es Γ) fun r => ∀ Ao' vs H', StE K Ao σ H Γ Ao' H' r.2 → DVs K (Av Ao' σ r.2) H' r.1 vs → Q vs H'
section
variable {X : Cx} {P : Par} {σ : St} {H : Hp} {Q : VK} {K : PySem.W.Frag}
theorem tV_go {x : Ex} {Ao : Addr → Prop} {Γ : G} (r : Rel K Ao σ H Γ) {k : D × G → Prop} (h : Out P σ H Γ ((ev P.S x Γ).bind toVal) k)
    (g : ∀ q Ao' v H', k q → StE K Ao σ H Γ Ao' H' q.2 → DV K (Av Ao' σ q.2) H' q.1 v → Q v H') : tE K P x σ H Q :=
  tV.tE ⟨Ao, Γ, r, h.imp fun q _ kq Ao' v H' s o => g q Ao' v H' kq s o⟩
theorem ma_nil : PA X [] (tA X.K P .nil) := pa_nil.imp fun σ H Q q => by
  obtain ⟨Ao, Γ, r, q⟩ := q
  unfold evs at q
  exact q Ao [] H (.refl r) rfl
theorem star_cons {e : Expr} {es : List Expr} {env : Env} (h : ∀ x p, e ≠ .Starred x p) : starEach (e :: es) env = (false, eval e env) :: starEach es env := by
  cases e <;> first | rfl | exact absurd rfl (h _ _)
theorem ma_cons {e : Expr} {es : List Expr} {a : Ex} {as : Exs} (hs : ∀ x p, e ≠ .Starred x p) (ha : PE X e (tE X.K P a)) (hr : PA X es (tA X.K P as)) : PA X (e :: es) (tA X.K P (.cons a as)) :=
  (pa_cons ha hr (star_cons hs)).imp fun σ H Q q => by
    obtain ⟨Ao, Γ, r, q⟩ := q
    unfold evs at q
    rw [Out.bind] at q
    refine tE_go r q fun z Ao1 x H1 e1 h1 s1 or1 => ?_
    rw [Out.bind] at h1
    refine ⟨Ao1, z.2, s1.rel, Out.later s1.s h1 fun y e2 h2 Ao2 vs H2 s2 ors => ?_⟩
    refine h2 Ao2 (x :: vs) H2 (s1.trans s2) ⟨x, vs, H1, rfl, or1.st s1.rel s2, s1.s.bk, fun ds ez a ev => ?_, ors⟩
    rw [ez] at or1
    obtain ⟨b, ws, eb, _, _, hb, _⟩ := or1
    rw [ev] at eb
    cases eb
    rw [hb]
    exact fun w => by cases w
theorem mv_nil : PA X [] (tAV X.K P .nil) := pa_nil.imp fun σ H Q q => by
  obtain ⟨Ao, Γ, r, q⟩ := q
  unfold evV at q
  exact q Ao [] H (.refl r) DVs.nil
theorem mv_cons {e : Expr} {es : List Expr} {a : Ex} {as : Exs} (hs : ∀ x p, e ≠ .Starred x p) (ha : PE X e (tE X.K P a)) (hr : PA X es (tAV X.K P as)) : PA X (e :: es) (tAV X.K P (.cons a as)) :=
  (pa_cons ha hr (star_cons hs)).imp fun σ H Q q => by
    obtain ⟨Ao, Γ, r, q⟩ := q
    unfold evV at q
    rw [← bind_assoc, Out.bind] at q
    refine tV_go r q fun z Ao1 x H1 h1 s1 dv => ?_
    rw [Out.bind] at h1
    refine ⟨Ao1, z.2, s1.rel, Out.later s1.s h1 fun y e2 h2 Ao2 vs H2 s2 ds => ?_⟩
    exact h2 Ao2 (x :: vs) H2 (s1.trans s2) (DVs.cons (DV.mv s2.s.mv dv) ds)

/-! ## displays -/
theorem me_tup {es : List Expr} {as : Exs} {n : Nat} {pos : Pos} (h : PA X es (tAV X.K P as)) : PE X (.Tuple es n pos) (tE X.K P (.tup as)) :=
  (pe_tup h).imp fun σ H Q q => by
    obtain ⟨Ao, Γ, r, q⟩ := q
    unfold ev at q
    rw [Out.bind] at q
    refine ⟨Ao, Γ, r, q.imp fun z e h Ao1 vs H1 s dv => ?_⟩
    split at h
    · rename_i hl
      exact ⟨by rw [dv.length]; exact line_le hl, Fin.tup s.rel (fin_of s h) dv⟩
    · exact h.elim
theorem me_lst {es : List Expr} {as : Exs} {pos : Pos} (h : PA X es (tAV X.K P as)) : PE X (.List es pos) (tE X.K P (.lst as)) :=
  (pe_lst h).imp fun σ H Q q => by
    obtain ⟨Ao, Γ, r, q⟩ := q
    unfold ev at q
    rw [Out.bind] at q
    refine ⟨Ao, Γ, r, q.imp fun z e h Ao1 vs H1 s dv => ?_⟩
    split at h
    · rename_i hl
      exact ⟨by rw [dv.length]; exact line_le hl, Fin.lst s.rel (fin_of s h) dv⟩
    · exact h.elim

/-! ## parts -/
theorem plainIx {b : Expr} (h : ∀ l u s p, b ≠ .Slice l u s p) : PlainIx b := fun o i => by
  cases b <;> first | rfl | exact absurd rfl (h _ _ _ _)
theorem me_ix {a i : Ex} {l r : Expr} {pos : Pos} (hb : ∀ l u s p, r ≠ .Slice l u s p) (h1 : PE X l (tE X.K P a)) (h2 : PE X r (tE X.K P i)) : PE X (.Subscript l r pos) (tE X.K P (.ix a i)) :=
  (pe_ix ix_D h1 h2 (plainIx hb)).imp fun σ H Q q => by
    obtain ⟨Ao, Γ, r, q⟩ := q
    unfold ev at q
    rw [two_eq (P := P) fun o1 o2 Γ2 => (ixD (look Γ2 o1) (look Γ2 o2)).bind fun d => R.ok (Opd.val d, Γ2), Out.bind] at q
    refine two_go (k := fun o1 o2 Γ2 => Out P σ H Γ ((ixD (look Γ2 o1) (look Γ2 o2)).bind fun d => R.ok (Opd.val d, Γ2)) fun r => ∀ Ao' v H', StE X.K Ao σ H Γ Ao' H' r.2 → OR X.K H Ao' σ H' r.2 r.1 v → Q v H') r q fun o1 o2 Γ2 Ao2 x y H2 k s q1 q2 => ?_
    cases e : ixD (look Γ2 o1) (look Γ2 o2) with
    | ok d =>
      rw [e] at k
      exact ⟨_, _, _, d, q1.pv s.rel, q2.pv s.rel, e, fun v dv => k Ao2 v H2 s dv⟩
    | exc c => exact absurd e (ixD_nx c)
    | no => rw [e] at k; exact k.elim
theorem bound_nx {ds : List D} : ∀ c, bound ds ≠ .exc c := fun c h => by
  unfold bound at h
  split at h <;> cases h
theorem bound_ok {K : PySem.W.Frag} {A : Addr → Prop} {H : Hp} {d : D} {v : V} {o : Option Int} (h : PV K A H d v) (e : bound [d] = .ok o) : ∃ i, v = .int i ∧ o = some i := by
  cases d with
  | int i => cases e; exact ⟨i, pv_int h, rfl⟩
  | _ => cases e
/-- a slice's part -/
def tO (K : PySem.W.Frag) (P : Par) (es : Exs) : TO := fun σ H Q => ∃ Ao Γ, Rel K Ao σ H Γ ∧ Out P σ H Γ (part (evs P.S es Γ)) fun r => ∀ Ao' H', StE K Ao σ H Γ Ao' H' r.2 → Q r.1 H'
theorem _root_.L2.PO.imp {X : Cx} {e : Option Expr} {t t' : TO} (h : PO X e t) (f : ∀ σ H Q, t' σ H Q → t σ H Q) : PO X e t' := ⟨fun pins s σ H Q I q => h.run pins s σ H Q I (f σ H Q q)⟩
theorem mo_none : PO X none (tO X.K P .nil) := po_none.imp fun σ H Q q => by
  obtain ⟨Ao, Γ, r, q⟩ := q
  unfold part evs at q
  exact q Ao H (.refl r)
theorem mo_some {e : Expr} {a : Ex} (h : PE X e (tE X.K P a)) : PO X (some e) (tO X.K P (.cons a .nil)) := (po_some h).imp fun σ H Q q => by
  obtain ⟨Ao, Γ, r, q⟩ := q
  unfold part evs evs at q
  rw [Out.bind, Out.bind] at q
  refine tE_go r q fun z Ao1 x H1 e1 h1 s1 or1 => ?_
  have h1 : Out P σ H Γ ((bound [look z.2 z.1]).bind fun l => R.ok (l, z.2)) fun r => ∀ Ao' H', StE X.K Ao σ H Γ Ao' H' r.2 → Q r.1 H' := h1
  cases e : bound [look z.2 z.1] with
  | ok o =>
    rw [e] at h1
    obtain ⟨i, ei, eo⟩ := bound_ok (or1.pv s1.rel) e
    subst eo
    exact ⟨i, ei, h1 Ao1 H1 s1⟩
  | exc c => exact absurd e (bound_nx c)
  | no => rw [e] at h1; exact h1.elim
theorem slD1_nx {d : D} {l h : Option Int} : ∀ c, slD1 d l h ≠ .exc c := fun c e => by
  unfold slD1 at e
  split at e <;> cases e
theorem me_slc {a : Ex} {lo hi : Exs} {e : Expr} {l u : Option Expr} {pos p2 : Pos} (h1 : PE X e (tE X.K P a)) (h2 : PO X l (tO X.K P lo)) (h3 : PO X u (tO X.K P hi)) : PE X (.Subscript e (.Slice l u none p2) pos) (tE X.K P (.slc a lo hi)) :=
  (pe_slice sl_D h1 h2 h3).imp fun σ H Q q => by
    obtain ⟨Ao, Γ, r, q⟩ := q
    unfold ev at q
    rw [Out.bind] at q
    refine tE_go r q fun z1 Ao1 x H1 e1 h1 s1 or1 => ?_
    rw [Out.bind] at h1
    refine ⟨Ao1, z1.2, s1.rel, Out.later s1.s h1 fun z2 e2 h2 Ao2 H2 s2 => ?_⟩
    rw [Out.bind] at h2
    refine ⟨Ao2, z2.2, s2.rel, Out.later (s1.trans s2).s h2 fun z3 e3 h3 Ao3 H3 s3 => ?_⟩
    have s := (s1.trans s2).trans s3
    have o1 := (or1.st s1.rel s2).st s2.rel s3
    refine ⟨Ao3, σ, z3.2, _, s.rel, o1.pv s.rel, fin_of s ?_⟩
    cases e : slD1 (look z3.2 z1.1) z2.1 z3.1 with
    | ok o => rw [e] at h3; exact h3
    | exc c => exact absurd e (slD1_nx c)
    | no => rw [e] at h3; exact h3
theorem me_rev {a : Ex} {e : Expr} {k : Nat} {p1 p2 p3 pos : Pos} (h : PE X e (tE X.K P a)) : PE X (.Subscript e (.Slice none none (some (.UnaryOp .USub (.Constant (.int 1) k p1) p2)) p3) pos) (tE X.K P (.rev a)) :=
  (pe_revL h).imp fun σ H Q q => by
    obtain ⟨Ao, Γ, r, q⟩ := q
    unfold ev at q
    rw [Out.bind] at q
    refine tE_go r q fun z Ao1 x H1 e1 h1 s1 or1 => ?_
    have pv := or1.pv s1.rel
    revert h1 pv
    generalize look z.2 z.1 = d
    intro h1 pv
    cases d with
    | list xs =>
      obtain ⟨b, vs, rfl, hb, dv⟩ := pv
      exact ⟨b, vs, rfl, .inl (.inl hb), Fin.lst s1.rel (fin_of s1 h1) dv.reverse⟩
    | _ => exact h1.elim

/-! ## built-in functions -/
theorem isTy_nx {t : Ty} {d : D} : ∀ c, isTy t d ≠ .exc c := fun c e => by
  unfold isTy at e
  split at e <;> cases e
theorem bapp_nx {b : Bf} {ds : List D} : ∀ c, bapp b ds ≠ .exc c := fun c e => by
  unfold bapp at e
  split at e <;> first
    | (cases e; done)
    | (split at e <;> first | (cases e; done) | (split at e <;> cases e; done))
    | (rename_i t d
       cases q : isTy t d with
       | ok b => rw [q] at e; cases e
       | exc c' => exact isTy_nx c' q
       | no => rw [q] at e; cases e)
theorem mb_go {b : Bf} {as : Exs} (q : tE K P (.blt b as) σ H Q) : tA K P as σ H fun vs H1 => rBf K b vs H1 Q := by
  obtain ⟨Ao, Γ, r, q⟩ := q
  unfold ev at q
  rw [Out.bind] at q
  refine ⟨Ao, Γ, r, q.imp fun z e h Ao1 vs H1 s ors => ?_⟩
  refine ⟨Ao1, σ, z.2, _, s.rel, ors.pvs s.rel, fin_of s ?_⟩
  cases e : bapp b (z.1.map (look z.2)) with
  | ok o => rw [e] at h; exact h
  | exc c => exact absurd e (bapp_nx c)
  | no => rw [e] at h; exact h
end
end Mir

set_option Elab.async false
set_option autoImplicit false
set_option linter.all false
set_option maxRecDepth 100000
set_option maxHeartbeats 4000000
/-! # Mir8: calls of built-in functions, conversions, pops -/
namespace Mir
open PySem L2
section
variable {X : Cx} {P : Par} {σ : St} {H : Hp} {Q : VK} {K : PySem.W.Frag}
def noStar : Expr → Bool
  | .Starred _ _ => false
  | _ => true
theorem noStar_ne {e : Expr} (h : noStar e = true) : ∀ x p, e ≠ .Starred x p := fun x p z => by subst z; cases h
theorem star_all : ∀ {es : List Expr} {env : Env}, es.all noStar = true → ∀ pos, (backTo pos (starEach es env)).any (·.1) = false
  | [], _, _, _ => rfl
  | e :: es, env, h, pos => by
    rw [List.all_cons, Bool.and_eq_true] at h
    rw [star_cons (noStar_ne h.1)]
    exact star_all h.2 pos
theorem me_bltB {b : Bf} {id : String} {x : Str} {p pos : Pos} {e : Expr} {es : List Expr} {as : Exs} (hc : CallR X (.builtin id) (rBf X.K b)) (hg : Gl X x) (hm : X.mg x = none) (hv : bootBuiltins x = some (.builtin id)) (hn : x ≠ "__name__") (hd : (x == ("__debug__" : Str)) = false)
    (hs : (e :: es).all noStar = true) (ha : PA X (e :: es) (tA X.K P as)) : PE X (.Call (.Name x p) (e :: es) [] pos) (tE X.K P (.blt b as)) := by
  rw [List.all_cons, Bool.and_eq_true] at hs
  exact (pe_callB hc hg hm hv ha hn hd (star_cons (noStar_ne hs.1)) (star_all hs.2 _)).imp fun σ H Q q => mb_go q
theorem me_bltT {b : Bf} {T : String} {x : Str} {p pos : Pos} {e : Expr} {es : List Expr} {as : Exs} (hc : CallR X (.type T) (rBf X.K b)) (hg : Gl X x) (hm : X.mg x = none) (hv : bootBuiltins x = some (.type T)) (hn : x ≠ "__name__") (hd : (x == ("__debug__" : Str)) = false)
    (hs : (e :: es).all noStar = true) (ha : PA X (e :: es) (tA X.K P as)) : PE X (.Call (.Name x p) (e :: es) [] pos) (tE X.K P (.blt b as)) := by
  rw [List.all_cons, Bool.and_eq_true] at hs
  exact (pe_callTy hc hg hm hv ha hn hd (star_cons (noStar_ne hs.1)) (star_all hs.2 _)).imp fun σ H Q q => mb_go q
theorem me_bltG {b : Bf} {id : String} {x : Str} {p pos : Pos} {e : Expr} {es : List Expr} {as : Exs} (hc : CallR X (.builtin id) (rBf X.K b)) (hg : Gl X x) (hm : X.mg x = some (.builtin id)) (hd : (x == ("__debug__" : Str)) = false)
    (hs : (e :: es).all noStar = true) (ha : PA X (e :: es) (tA X.K P as)) : PE X (.Call (.Name x p) (e :: es) [] pos) (tE X.K P (.blt b as)) := by
  rw [List.all_cons, Bool.and_eq_true] at hs
  exact (pe_callBfun hc hg hm ha hd (star_cons (noStar_ne hs.1)) (star_all hs.2 _)).imp fun σ H Q q => mb_go q
theorem me_isi {t : Ty} {p1 p2 pos : Pos} {e : Expr} {a : Ex} (hg : Gl X "isinstance") (hm : X.mg "isinstance" = none) (hg2 : Gl X (Str.ofString (tyS t))) (hm2 : X.mg (Str.ofString (tyS t)) = none) (hs : noStar e = true) (ha : PE X e (tE X.K P a)) :
    PE X (.Call (.Name "isinstance" p1) [e, .Name (Str.ofString (tyS t)) p2] [] pos) (tE X.K P (.blt (.isi t) (.cons a .nil))) := by
  have ty : PE X (.Name (Str.ofString (tyS t)) p2) (tC (.ty (tyS t))) := pe_bltn hg2 hm2 (v := .ty (tyS t)) (u := .type (tyS t)) (by cases t <;> rfl) rfl (by cases t <;> decide) (by cases t <;> decide)
  refine (pe_callB (cr_isi t) hg hm (by rfl) (pa_cons ha (pa_cons ty pa_nil (by rfl)) (star_cons (noStar_ne hs))) (by decide) (by decide) (star_cons (noStar_ne hs)) (by rfl)).imp fun σ H Q q => ?_
  obtain ⟨Ao, Γ, r, q⟩ := q
  unfold ev evs evs at q
  rw [Out.bind, Out.bind] at q
  refine tE_go r q fun z Ao1 x H1 e1 h1 s1 or1 => ?_
  have h1 : Out P σ H Γ ((bapp (.isi t) [look z.2 z.1]).bind fun o => R.ok (o, z.2)) fun r => ∀ Ao' v H', StE X.K Ao σ H Γ Ao' H' r.2 → OR X.K H Ao' σ H' r.2 r.1 v → Q v H' := h1
  refine ⟨Ao1, σ, z.2, look z.2 z.1, x, rfl, s1.rel, or1.pv s1.rel, fin_of s1 ?_⟩
  cases e : bapp (.isi t) [look z.2 z.1] with
  | ok o => rw [e] at h1; exact h1
  | exc c => exact absurd e (bapp_nx c)
  | no => rw [e] at h1; exact h1

/-! ## list(..), tuple(..) -/
theorem seqX_nx {d : D} : ∀ c, seqX d ≠ .exc c := fun c e => by
  unfold seqX at e
  split at e <;> cases e
theorem rngD_nx {ds : List D} : ∀ c, rngD ds ≠ .exc c := fun c e => by
  unfold rngD at e
  split at e <;> first | (cases e; done) | (split at e <;> cases e)
theorem rngX_nx {ds : List D} : ∀ c, rngX ds ≠ .exc c := fun c e => by
  unfold rngX at e
  cases h : rngD ds with
  | ok xs =>
    rw [h] at e
    have e : (if line xs.length then R.ok xs else R.no) = R.exc c := e
    split at e <;> cases e
  | exc c' => exact rngD_nx c' h
  | no => rw [h] at e; cases e
theorem seq_ok {A : Addr → Prop} {d : D} {v : V} {xs : List D} (h : PV K A H d v) (e : seqX d = .ok xs) : ∃ a vs, v = .ref a ∧ (SqL K H a vs ∨ (SqT K H a vs ∧ d = .tup xs)) ∧ DVs K A H xs vs := by
  cases d with
  | list ys =>
    cases e
    obtain ⟨a, vs, e1, h1, h2⟩ := h
    exact ⟨a, vs, e1, .inl (.inl (.inl h1)), h2⟩
  | tup ys =>
    cases e
    obtain ⟨a, vs, e1, h1, h2⟩ := pv_tup h
    exact ⟨a, vs, e1, .inr ⟨h1.sq, rfl⟩, h2⟩
  | scr ns =>
    cases e
    have h : DV K A H (.scr ns) v := h
    unfold DV at h
    obtain ⟨a, e1, h1⟩ := h
    exact ⟨a, _, e1, .inl h1.sq, DVs.ofInts ns⟩
  | _ => cases e
theorem me_lsq {e : Expr} {a : Ex} {p pos : Pos} (hg : Gl X "list") (hm : X.mg "list" = none) (hs : noStar e = true) (h : PE X e (tE X.K P a)) : PE X (.Call (.Name "list" p) [e] [] pos) (tE X.K P (.lsq a)) :=
  (pe_callTy call_list_of hg hm (by rfl) (pa_cons h pa_nil (star_cons (noStar_ne hs))) (by decide) (by decide) (star_cons (noStar_ne hs)) (by rfl)).imp fun σ H Q q => by
    obtain ⟨Ao, Γ, r, q⟩ := q
    unfold ev at q
    rw [Out.bind] at q
    refine tE_go r q fun z Ao1 x H1 e1 h1 s1 or1 => ?_
    cases e : seqX (look z.2 z.1) with
    | ok xs =>
      rw [e] at h1
      obtain ⟨b, vs, rfl, sq, dv⟩ := seq_ok (or1.pv s1.rel) e
      exact ⟨b, vs, rfl, sq.imp id And.left, Fin.lst s1.rel (fin_of s1 h1) dv⟩
    | exc c => exact absurd e (seqX_nx c)
    | no => rw [e] at h1; exact h1.elim
theorem me_tsq {e : Expr} {a : Ex} {p pos : Pos} (hg : Gl X "tuple") (hm : X.mg "tuple" = none) (hs : noStar e = true) (h : PE X e (tE X.K P a)) : PE X (.Call (.Name "tuple" p) [e] [] pos) (tE X.K P (.tsq a)) :=
  (pe_callTy call_tuple_of hg hm (by rfl) (pa_cons h pa_nil (star_cons (noStar_ne hs))) (by decide) (by decide) (star_cons (noStar_ne hs)) (by rfl)).imp fun σ H Q q => by
    obtain ⟨Ao, Γ, r, q⟩ := q
    unfold ev at q
    rw [Out.bind] at q
    refine tE_go r q fun z Ao1 x H1 e1 h1 s1 or1 => ?_
    have pv := or1.pv s1.rel
    cases e : seqX (look z.2 z.1) with
    | ok xs =>
      rw [e] at h1
      obtain ⟨b, vs, rfl, sq, dv⟩ := seq_ok pv e
      rcases sq with sq | ⟨sq, ed⟩
      · exact ⟨b, vs, rfl, .inl ⟨sq, Fin.tup s1.rel (fin_of s1 h1) dv⟩⟩
      · rw [ed] at pv
        exact ⟨b, vs, rfl, .inr ⟨sq, Fin.val s1.rel (fin_of s1 h1) pv⟩⟩
    | exc c => exact absurd e (seqX_nx c)
    | no => rw [e] at h1; exact h1.elim
theorem rangeL_ok {A : Addr → Prop} (lo : Int) : ∀ l : List Nat, DVs K A H (l.map fun k => D.int (lo + (k : Nat))) (l.map fun i => V.int (lo + (i : Nat)))
  | [] => DVs.nil
  | n :: l => DVs.cons (by unfold DV; rfl) (rangeL_ok lo l)
theorem rgV_ok {A : Addr → Prop} (a b : Int) : DVs K A H (rangeL a b) (rgV a b) := rangeL_ok a _
theorem rngOk_and {i : Int} (h : rngOk i = true) : -(2 ^ 62) ≤ i ∧ i < 2 ^ 62 := of_decide_eq_true h
theorem rangeL_len (a b : Int) : (rangeL a b).length = (b - a).toNat := by unfold rangeL; rw [List.length_map, List.length_range]
theorem rg_fin {a b : Int} (ha : rngOk a = true) (hb : rngOk b = true) (hl : line (rangeL a b).length = true) : RgOk a b := by
  have h1 := rngOk_and ha
  have h2 := rngOk_and hb
  have h3 := of_decide_eq_true (show decide ((rangeL a b).length ≤ 16000000) = true from hl)
  rw [rangeL_len] at h3
  exact ⟨h1.1, h1.2, h2.1, h2.2, by omega⟩
/-- range(..) as an argument: what it gives -/
def rgK (k : List D → Prop) (a b : Int) : Prop := RgOk a b → k (rangeL a b)
theorem rngX_1 {A : Addr → Prop} {d : D} {v : V} {xs : List D} (h : PV K A H d v) (e : rngX [d] = .ok xs) : ∃ n, v = .int n ∧ RgOk 0 n ∧ xs = rangeL 0 n := by
  obtain ⟨ys, e1, e2⟩ := R.bind_eq_ok (show (rngD [d]).bind _ = .ok xs from e)
  cases d with
  | int n =>
    have e1 : (if rngOk n then R.ok (rangeL 0 n) else R.no) = R.ok ys := e1
    split at e1
    · rename_i h1
      cases e1
      split at e2
      · rename_i h2
        cases e2
        exact ⟨n, pv_int h, rg_fin (by decide) h1 h2, rfl⟩
      · cases e2
    · cases e1
  | _ => cases e1
theorem rngX_2 {A : Addr → Prop} {d d' : D} {v v' : V} {xs : List D} (h : PV K A H d v) (h' : PV K A H d' v') (e : rngX [d, d'] = .ok xs) : ∃ m n, v = .int m ∧ v' = .int n ∧ RgOk m n ∧ xs = rangeL m n := by
  obtain ⟨ys, e1, e2⟩ := R.bind_eq_ok (show (rngD [d, d']).bind _ = .ok xs from e)
  cases d with
  | int m =>
    cases d' with
    | int n =>
      have e1 : (if rngOk m && rngOk n then R.ok (rangeL m n) else R.no) = R.ok ys := e1
      split at e1
      · rename_i h1
        cases e1
        rw [Bool.and_eq_true] at h1
        split at e2
        · rename_i h2
          cases e2
          exact ⟨m, n, pv_int h, pv_int h', rg_fin h1.1 h1.2 h2, rfl⟩
        · cases e2
      · cases e1
    | _ => cases e1
  | _ => cases e1
/-- one operand, then what is made of it -/
theorem rg1_go {a : Ex} {mk : List D → Opd} {T : Int → Int → Hp → Prop} {Ao : Addr → Prop} {Γ : G} (r : Rel K Ao σ H Γ) (q : Out P σ H Γ ((evs P.S (.cons a .nil) Γ).bind fun r => (rngX (r.1.map (look r.2))).bind fun xs => R.ok (mk xs, r.2)) fun r => ∀ Ao' v H', StE K Ao σ H Γ Ao' H' r.2 → OR K H Ao' σ H' r.2 r.1 v → Q v H')
    (g : ∀ m n Ao1 Γ1 H1, RgOk m n → Rel K Ao1 σ H1 Γ1 → Fin K Ao1 σ H1 Γ1 (.ok (mk (rangeL m n))) Q → T m n H1) : tRg1 (tE K P a) σ H T := by
  unfold evs evs at q
  rw [Out.bind, Out.bind] at q
  refine tE_go r q fun z Ao1 x H1 e1 h1 s1 or1 => ?_
  have h1 : Out P σ H Γ ((rngX [look z.2 z.1]).bind fun xs => R.ok (mk xs, z.2)) fun r => ∀ Ao' v H', StE K Ao σ H Γ Ao' H' r.2 → OR K H Ao' σ H' r.2 r.1 v → Q v H' := h1
  cases e : rngX [look z.2 z.1] with
  | ok xs =>
    rw [e] at h1
    obtain ⟨n, rfl, ok, rfl⟩ := rngX_1 (or1.pv s1.rel) e
    exact ⟨n, rfl, g 0 n Ao1 z.2 H1 ok s1.rel (fin_of s1 h1)⟩
  | exc c => exact absurd e (rngX_nx c)
  | no => rw [e] at h1; exact h1.elim
theorem rg2_go {a b : Ex} {mk : List D → Opd} {T : Int → Int → Hp → Prop} {Ao : Addr → Prop} {Γ : G} (r : Rel K Ao σ H Γ) (q : Out P σ H Γ ((evs P.S (.cons a (.cons b .nil)) Γ).bind fun r => (rngX (r.1.map (look r.2))).bind fun xs => R.ok (mk xs, r.2)) fun r => ∀ Ao' v H', StE K Ao σ H Γ Ao' H' r.2 → OR K H Ao' σ H' r.2 r.1 v → Q v H')
    (g : ∀ m n Ao1 Γ1 H1, RgOk m n → Rel K Ao1 σ H1 Γ1 → Fin K Ao1 σ H1 Γ1 (.ok (mk (rangeL m n))) Q → T m n H1) : tRg2 (tE K P a) (tE K P b) σ H T := by
  unfold evs evs evs at q
  rw [Out.bind, Out.bind] at q
  refine tE_go r q fun z1 Ao1 x H1 e1 h1 s1 or1 => ?_
  rw [Out.bind, Out.bind] at h1
  refine ⟨Ao1, z1.2, s1.rel, Out.later s1.s h1 fun z2 e2 h2 Ao2 y H2 s2 or2 => ?_⟩
  have h2 : Out P σ H Γ ((rngX [look z2.2 z1.1, look z2.2 z2.1]).bind fun xs => R.ok (mk xs, z2.2)) fun r => ∀ Ao' v H', StE K Ao σ H Γ Ao' H' r.2 → OR K H Ao' σ H' r.2 r.1 v → Q v H' := h2
  have s := s1.trans s2
  cases e : rngX [look z2.2 z1.1, look z2.2 z2.1] with
  | ok xs =>
    rw [e] at h2
    obtain ⟨m, n, rfl, rfl, ok, rfl⟩ := rngX_2 ((or1.st s1.rel s2).pv s.rel) (or2.pv s.rel) e
    exact ⟨m, n, rfl, rfl, g m n Ao2 z2.2 H2 ok s.rel (fin_of s h2)⟩
  | exc c => exact absurd e (rngX_nx c)
  | no => rw [e] at h2; exact h2.elim
theorem me_lrg1 {e : Expr} {a : Ex} {p p2 pos pos2 : Pos} (hc : X.calm = true) (hg : Gl X "list") (hm : X.mg "list" = none) (hg2 : Gl X "range") (hm2 : X.mg "range" = none) (hs : noStar e = true) (h : PE X e (tE X.K P a)) :
    PE X (.Call (.Name "list" p) [.Call (.Name "range" p2) [e] [] pos2] [] pos) (tE X.K P (.lrg (.cons a .nil))) :=
  (pe_listRg hc hg hm (prg_1 hg2 hm2 h (star_cons (noStar_ne hs))) (by rfl)).imp fun σ H Q q => by
    obtain ⟨Ao, Γ, r, q⟩ := q
    unfold ev at q
    exact rg1_go r q fun m n Ao1 Γ1 H1 ok r1 f => ⟨ok, Fin.lst r1 f (rgV_ok m n)⟩
theorem me_lrg2 {e e' : Expr} {a b : Ex} {p p2 pos pos2 : Pos} (hc : X.calm = true) (hg : Gl X "list") (hm : X.mg "list" = none) (hg2 : Gl X "range") (hm2 : X.mg "range" = none) (hs : noStar e = true) (hs' : noStar e' = true) (h : PE X e (tE X.K P a)) (h' : PE X e' (tE X.K P b)) :
    PE X (.Call (.Name "list" p) [.Call (.Name "range" p2) [e, e'] [] pos2] [] pos) (tE X.K P (.lrg (.cons a (.cons b .nil)))) :=
  (pe_listRg hc hg hm (prg_2 hg2 hm2 h h' (star_cons (noStar_ne hs)) (star_cons (noStar_ne hs')) (by rw [star_cons (noStar_ne hs')]; rfl)) (by rfl)).imp fun σ H Q q => by
    obtain ⟨Ao, Γ, r, q⟩ := q
    unfold ev at q
    exact rg2_go r q fun m n Ao1 Γ1 H1 ok r1 f => ⟨ok, Fin.lst r1 f (rgV_ok m n)⟩
theorem me_trg1 {e : Expr} {a : Ex} {p p2 pos pos2 : Pos} (hc : X.calm = true) (hg : Gl X "tuple") (hm : X.mg "tuple" = none) (hg2 : Gl X "range") (hm2 : X.mg "range" = none) (hs : noStar e = true) (h : PE X e (tE X.K P a)) :
    PE X (.Call (.Name "tuple" p) [.Call (.Name "range" p2) [e] [] pos2] [] pos) (tE X.K P (.trg (.cons a .nil))) :=
  (pe_tupRg hc hg hm (prg_1 hg2 hm2 h (star_cons (noStar_ne hs))) (by rfl)).imp fun σ H Q q => by
    obtain ⟨Ao, Γ, r, q⟩ := q
    unfold ev at q
    exact rg1_go r q fun m n Ao1 Γ1 H1 ok r1 f => ⟨ok, Fin.tup r1 f (rgV_ok m n)⟩
theorem me_trg2 {e e' : Expr} {a b : Ex} {p p2 pos pos2 : Pos} (hc : X.calm = true) (hg : Gl X "tuple") (hm : X.mg "tuple" = none) (hg2 : Gl X "range") (hm2 : X.mg "range" = none) (hs : noStar e = true) (hs' : noStar e' = true) (h : PE X e (tE X.K P a)) (h' : PE X e' (tE X.K P b)) :
    PE X (.Call (.Name "tuple" p) [.Call (.Name "range" p2) [e, e'] [] pos2] [] pos) (tE X.K P (.trg (.cons a (.cons b .nil)))) :=
  (pe_tupRg hc hg hm (prg_2 hg2 hm2 h h' (star_cons (noStar_ne hs)) (star_cons (noStar_ne hs')) (by rw [star_cons (noStar_ne hs')]; rfl)) (by rfl)).imp fun σ H Q q => by
    obtain ⟨Ao, Γ, r, q⟩ := q
    unfold ev at q
    exact rg2_go r q fun m n Ao1 Γ1 H1 ok r1 f => ⟨ok, Fin.tup r1 f (rgV_ok m n)⟩

/-! ## pops -/
theorem isLi_ok {Ao : Addr → Prop} {Γ : G} {i : Nat} (r : Rel K Ao σ H Γ) (h : isLi Γ i = true) : ∃ a vs, σ[i]? = some (some (.ref a)) ∧ H a = some (.lst vs) := by
  unfold isLi at h
  split at h
  · rename_i ds p st e
    obtain ⟨a, vs, h1, h2, _⟩ := r.li i ds p st e
    exact ⟨a, vs, h1, h2⟩
  · cases h
theorem me_pop0 {i : Nat} {x : Str} {p ap cp : Pos} (hv : PE X (.Name x p) (tVar i)) (hl : (ap.endLine == cp.line) = true) : PE X (.Call (.Attribute (.Name x p) "pop" ap) [] [] cp) (tE X.K P (.pop0 i)) :=
  (pe_bm0 (T := "list") (id := "list.pop") PySem.F.plainAttrs_list PySem.F.slot_list_pop (by rfl) mt_pop hv (by rfl) hl).imp fun σ H Q q => by
    obtain ⟨Ao, Γ, r, q⟩ := q
    unfold ev at q
    split at q
    · rename_i ds p e
      split at q
      · rename_i d ed
        obtain ⟨a, vs, h1, h2, dv, _⟩ := r.li i ds p .own e
        obtain ⟨v, ev, dvv⟩ := dv.get ed
        refine ⟨.ref a, h1, .inl ⟨rfl, vs, .inl (.inl h2)⟩, a, vs, v, rfl, rfl, h2, by rw [dv.length]; exact ev, ?_⟩
        have s := StE.put r e h1 dv.dropLast
        exact q Ao v _ s (DV.mv s.s.mv dvv)
      · exact q.elim
    · exact q.elim
theorem me_popi {i : Nat} {x : Str} {p ap cp : Pos} {e : Expr} {a : Ex} (hv : PE X (.Name x p) (tVar i)) (hl : (ap.endLine == cp.line) = true) (hs : noStar e = true) (h : PE X e (tE X.K P a)) : PE X (.Call (.Attribute (.Name x p) "pop" ap) [e] [] cp) (tE X.K P (.popi i a)) :=
  (pe_bm (T := "list") (id := "list.pop") PySem.F.plainAttrs_list PySem.F.slot_list_pop (by rfl) mt_popAt hv (pa_cons h pa_nil (star_cons (noStar_ne hs))) (by rfl) (by rw [star_cons (noStar_ne hs)]; rfl) hl (star_cons (noStar_ne hs)) (by rfl)).imp fun σ H Q q => by
    obtain ⟨Ao, Γ, r, q⟩ := q
    unfold ev at q
    split at q
    · rename_i hli
      obtain ⟨b, ws, g1, g2⟩ := isLi_ok r hli
      rw [Out.bind] at q
      refine ⟨.ref b, g1, .inl ⟨rfl, ws, .inl (.inl g2)⟩, tE_go r q fun z Ao1 x H1 e1 h1 s1 or1 => ?_⟩
      have pv := or1.pv s1.rel
      split at h1
      · rename_i ds p k ez ed
        rw [ed] at pv
        split at h1
        · rename_i hk
          split at h1
          · rename_i j ej
            split at h1
            · rename_i d ed
              obtain ⟨b', vs, g3, g4, dv, _⟩ := s1.rel.li i ds p .own ez
              rw [g1] at g3
              cases g3
              obtain ⟨v, ev, dvv⟩ := dv.get ed
              have hk := of_decide_eq_true hk
              refine ⟨b, vs, k, j, v, rfl, by rw [pv_int pv], g4, hk.1, hk.2, by rw [dv.length]; exact ej, ev, ?_⟩
              have s := StE.put s1.rel ez g1 (dv.eraseIdx j)
              exact h1 Ao1 v _ (s1.trans s) (DV.mv s.s.mv dvv)
            · exact h1.elim
          · exact h1.elim
        · exact h1.elim
      · exact h1.elim
    · exact q.elim
end
end Mir

set_option Elab.async false
set_option autoImplicit false
set_option linter.all false
set_option maxRecDepth 100000
set_option maxHeartbeats 4000000
/-! # Mir9: what is walked -/
namespace Mir
open PySem L2

/-! ## locks -/
section
variable {K : PySem.W.Frag} {Ao Ao' : Addr → Prop} {σ σ' : St} {H H' H0 : Hp} {Γ Γ' : G}
theorem lock1_get (Γ : G) (i j : Nat) : (lock1 Γ i)[j]? = (if i = j then (match Γ[i]? with | some (.li ds p .own) => some (.li ds p .lock) | _ => Γ[j]?) else Γ[j]?) := by
  unfold Mir.lock1
  split
  · rename_i ds p e
    first
      | (rw [get_set e, e]; done)
      | (rw [get_set e]; done)
  · rename_i h
    by_cases hj : i = j
    · rw [if_pos hj]
      all_goals first
        | rfl
        | (split
           · rename_i ds p e
             exact absurd e (h ds p)
           · rfl)
    · rw [if_neg hj]
theorem Stp.lock1 (r : Rel K Ao σ H Γ) (i : Nat) : StE K Ao σ H Γ Ao H (lock1 Γ i) := by
  by_cases hl : ∃ ds p, Γ[i]? = some (.li ds p .own)
  · obtain ⟨ds, p, h⟩ := hl
    have e : Mir.lock1 Γ i = Γ.set i (.li ds p .lock) := by unfold Mir.lock1; rw [h]
    rw [e]
    have gs : ∀ j, (Γ.set i (.li ds p .lock))[j]? = if i = j then some (.li ds p .lock) else Γ[j]? := fun j => get_set h
    have lv : ∀ b, Lv σ (Γ.set i (.li ds p .lock)) b ↔ Lv σ Γ b := fun b => by
      constructor
      · rintro ⟨j, es, q, st', e1, e2, e3⟩
        rw [gs] at e1
        by_cases hj : i = j
        · subst hj
          exact ⟨i, ds, p, .own, h, by decide, e3⟩
        · rw [if_neg hj] at e1
          exact ⟨j, es, q, st', e1, e2, e3⟩
      · rintro ⟨j, es, q, st', e1, e2, e3⟩
        by_cases hj : i = j
        · subst hj
          exact ⟨i, ds, p, .lock, by rw [gs, if_pos rfl], by decide, e3⟩
        · exact ⟨j, es, q, st', by rw [gs, if_neg hj]; exact e1, e2, e3⟩
    have av : ∀ b, Av Ao σ (Γ.set i (.li ds p .lock)) b ↔ Av Ao σ Γ b := fun b => av_iff (lv b)
    have m : Mv (Av Ao σ Γ) (Av Ao σ (Γ.set i (.li ds p .lock))) H H := ⟨fun _ _ _ e => e, fun b _ _ z => (av b).1 z⟩
    refine ⟨⟨⟨by rw [List.length_set]; exact r.len, r.dom, fun j d e => ?_, fun j es p' st e => ?_, fun j k es p1 st1 es2 p2 st2 b e1 n1 e2 n2 => ?_⟩, fun _ z => z, fun _ z => .inl z, fun _ _ e _ => e, fun _ z => z, fun b z => .inl ((lv b).1 z), fun b z => .inl ?_, fun j es st e => ?_, fun j es st e => ?_, fun j es p' e => ?_, by rw [List.length_set]⟩, fun j x e n => ?_⟩
    · rw [gs] at e
      by_cases hj : i = j
      · rw [if_pos hj] at e; cases e
      · rw [if_neg hj] at e
        obtain ⟨v, w1, w2⟩ := r.sh j d e
        exact ⟨v, w1, w2.mv m⟩
    · rw [gs] at e
      by_cases hj : i = j
      · rw [if_pos hj] at e
        cases e
        subst hj
        obtain ⟨a, vs, w1, w2, w3, w4, _⟩ := r.li i ds p .own h
        exact ⟨a, vs, w1, w2, w3.mv m, fun _ => w4 (by decide), fun z => by cases z⟩
      · rw [if_neg hj] at e
        obtain ⟨b, ws, w1, w2, w3, w4, w5⟩ := r.li j es p' st e
        exact ⟨b, ws, w1, w2, w3.mv m, w4, fun z y => w5 z ((av b).1 y)⟩
    · have back : ∀ {j : Nat} {es p1 st1}, (Γ.set i (.li ds p .lock))[j]? = some (.li es p1 st1) → st1 ≠ .froz → ∃ es' st', Γ[j]? = some (.li es' p1 st') ∧ st' ≠ .froz := fun {j es p1 st1} e n => by
        rw [gs] at e
        by_cases hj : i = j
        · rw [if_pos hj] at e
          cases e
          subst hj
          exact ⟨ds, .own, h, by decide⟩
        · rw [if_neg hj] at e
          exact ⟨es, st1, e, n⟩
      obtain ⟨f1, t1, g1, m1⟩ := back e1 n1
      obtain ⟨f2, t2, g2, m2⟩ := back e2 n2
      exact r.inj j k f1 p1 t1 f2 p2 t2 b g1 m1 g2 m2
    · obtain ⟨j, es, q, e1, e3⟩ := z
      rw [gs] at e1
      by_cases hj : i = j
      · rw [if_pos hj] at e1; cases e1
      · rw [if_neg hj] at e1
        exact ⟨j, es, q, e1, e3⟩
    · by_cases hj : i = j
      · subst hj
        rw [h] at e
        cases e
        exact ⟨ds, .lock, by rw [gs, if_pos rfl], rfl⟩
      · exact ⟨es, st, by rw [gs, if_neg hj]; exact e, rfl⟩
    · rw [gs] at e
      by_cases hj : i = j
      · rw [if_pos hj] at e
        cases e
        subst hj
        exact ⟨ds, .own, h⟩
      · rw [if_neg hj] at e
        exact ⟨es, st, e⟩
    · by_cases hj : i = j
      · subst hj
        rw [h] at e
        cases e
      · exact ⟨es, by rw [gs, if_neg hj]; exact e, rfl⟩
    · by_cases hj : i = j
      · subst hj
        exact ⟨_, by rw [gs, if_pos rfl], fun z => by cases z⟩
      · exact ⟨x, by rw [gs, if_neg hj]; exact e, n⟩
  · have e : Mir.lock1 Γ i = Γ := by
      unfold Mir.lock1
      split
      · rename_i ds p h
        exact absurd ⟨ds, p, h⟩ hl
      · rfl
    rw [e]
    exact .refl r
theorem StE.lockAll : ∀ (is : List Nat) {Γ : G}, Rel K Ao σ H Γ → StE K Ao σ H Γ Ao H (lockAll Γ is)
  | [], _, r => .refl r
  | i :: is, Γ, r => (Stp.lock1 r i).trans (StE.lockAll is (Stp.lock1 r i).rel)
theorem lockAll_get : ∀ (is : List Nat) (Γ : G) (j : Nat), (lockAll Γ is)[j]? = if j ∈ is then (match Γ[j]? with | some (.li ds p .own) => some (.li ds p .lock) | x => x) else Γ[j]?
  | [], Γ, j => by rw [if_neg (by simp)]; rfl
  | i :: is, Γ, j => by
    show (lockAll (lock1 Γ i) is)[j]? = _
    rw [lockAll_get is (lock1 Γ i) j, lock1_get]
    by_cases hj : i = j
    · subst hj
      rw [if_pos rfl]
      by_cases hm : i ∈ is
      · rw [if_pos hm, if_pos (List.mem_cons_self ..)]
        cases e : Γ[i]? with
        | none => rfl
        | some s =>
          cases s with
          | emp => rfl
          | sh d => rfl
          | li ds p st => cases st <;> rfl
      · rw [if_neg hm, if_pos (List.mem_cons_self ..)]
        cases e : Γ[i]? with
        | none => rfl
        | some s =>
          cases s with
          | emp => rfl
          | sh d => rfl
          | li ds p st => cases st <;> rfl
    · rw [if_neg hj]
      by_cases hm : j ∈ is
      · rw [if_pos hm, if_pos (List.mem_cons_of_mem _ hm)]
      · rw [if_neg hm, if_neg (by simp [hm, Ne.symm hj])]
/-- an unlocked list was its name's own ahead of the locks -/
theorem Stp.unlock1 (s : Stp K Ao σ H0 Γ Ao' σ' H' Γ') {i : Nat} (w : ∀ ds p, Γ'[i]? = some (.li ds p .lock) → (∃ es p', Γ[i]? = some (.li es p' .own)) ∧ σ'[i]? = σ[i]?) : Stp K Ao σ H0 Γ Ao' σ' H' (Mir.unlock1 Γ' i) := by
  by_cases hl : ∃ ds p, Γ'[i]? = some (.li ds p .lock)
  · obtain ⟨ds, p, h⟩ := hl
    have e : Mir.unlock1 Γ' i = Γ'.set i (.li ds p .own) := by unfold Mir.unlock1; rw [h]
    obtain ⟨⟨es0, p0, w0⟩, ws⟩ := w ds p h
    rw [e]
    have gs : ∀ j, (Γ'.set i (.li ds p .own))[j]? = if i = j then some (.li ds p .own) else Γ'[j]? := fun j => get_set h
    have lv : ∀ b, Lv σ' (Γ'.set i (.li ds p .own)) b ↔ Lv σ' Γ' b := fun b => by
      constructor
      · rintro ⟨j, es, q, st', e1, e2, e3⟩
        rw [gs] at e1
        by_cases hj : i = j
        · subst hj
          exact ⟨i, ds, p, .lock, h, by decide, e3⟩
        · rw [if_neg hj] at e1
          exact ⟨j, es, q, st', e1, e2, e3⟩
      · rintro ⟨j, es, q, st', e1, e2, e3⟩
        by_cases hj : i = j
        · subst hj
          exact ⟨i, ds, p, .own, by rw [gs, if_pos rfl], by decide, e3⟩
        · exact ⟨j, es, q, st', by rw [gs, if_neg hj]; exact e1, e2, e3⟩
    have av : ∀ b, Av Ao' σ' (Γ'.set i (.li ds p .own)) b ↔ Av Ao' σ' Γ' b := fun b => av_iff (lv b)
    have m : Mv (Av Ao' σ' Γ') (Av Ao' σ' (Γ'.set i (.li ds p .own))) H' H' := ⟨fun _ _ _ e => e, fun b _ _ z => (av b).1 z⟩
    have r := s.rel
    refine ⟨⟨by rw [List.length_set]; exact r.len, r.dom, fun j d e => ?_, fun j es p' st e => ?_, fun j k es p1 st1 es2 p2 st2 b e1 n1 e2 n2 => ?_⟩, s.ao, s.nw, s.fr, s.dm, fun b z => s.lv b ((lv b).1 z), fun b z => ?_, fun j es st e => ?_, fun j es st e => ?_, fun j es p' e => ?_, by rw [List.length_set]; exact s.len⟩
    · rw [gs] at e
      by_cases hj : i = j
      · rw [if_pos hj] at e; cases e
      · rw [if_neg hj] at e
        obtain ⟨v, w1, w2⟩ := r.sh j d e
        exact ⟨v, w1, w2.mv m⟩
    · rw [gs] at e
      by_cases hj : i = j
      · rw [if_pos hj] at e
        cases e
        subst hj
        obtain ⟨a, vs, w1, w2, w3, w4, _⟩ := r.li i ds p .lock h
        exact ⟨a, vs, w1, w2, w3.mv m, fun _ => w4 (by decide), fun z => by cases z⟩
      · rw [if_neg hj] at e
        obtain ⟨b, ws, w1, w2, w3, w4, w5⟩ := r.li j es p' st e
        exact ⟨b, ws, w1, w2, w3.mv m, w4, fun z y => w5 z ((av b).1 y)⟩
    · have back : ∀ {j : Nat} {es p1 st1}, (Γ'.set i (.li ds p .own))[j]? = some (.li es p1 st1) → st1 ≠ .froz → ∃ es' st', Γ'[j]? = some (.li es' p1 st') ∧ st' ≠ .froz := fun {j es p1 st1} e n => by
        rw [gs] at e
        by_cases hj : i = j
        · rw [if_pos hj] at e
          cases e
          subst hj
          exact ⟨ds, .lock, h, by decide⟩
        · rw [if_neg hj] at e
          exact ⟨es, st1, e, n⟩
      obtain ⟨f1, t1, g1, m1⟩ := back e1 n1
      obtain ⟨f2, t2, g2, m2⟩ := back e2 n2
      exact r.inj j k f1 p1 t1 f2 p2 t2 b g1 m1 g2 m2
    · obtain ⟨j, es, q, e1, e3⟩ := z
      rw [gs] at e1
      by_cases hj : i = j
      · subst hj
        exact .inl ⟨i, es0, p0, w0, by rw [← ws]; exact e3⟩
      · rw [if_neg hj] at e1
        exact s.mu b ⟨j, es, q, e1, e3⟩
    · obtain ⟨ds', st', g1, g2⟩ := s.pin j es st e
      by_cases hj : i = j
      · subst hj
        rw [h] at g1
        cases g1
        exact ⟨ds, .own, by rw [gs, if_pos rfl], g2⟩
      · exact ⟨ds', st', by rw [gs, if_neg hj]; exact g1, g2⟩
    · rw [gs] at e
      by_cases hj : i = j
      · rw [if_pos hj] at e
        cases e
        subst hj
        exact s.pinb i ds .lock h
      · rw [if_neg hj] at e
        exact s.pinb j es st e
    · obtain ⟨ds', g1, g2⟩ := s.lk j es p' e
      by_cases hj : i = j
      · subst hj
        rw [w0] at e
        cases e
      · exact ⟨ds', by rw [gs, if_neg hj]; exact g1, g2⟩
  · have e : Mir.unlock1 Γ' i = Γ' := by
      unfold Mir.unlock1
      split
      · rename_i ds p h
        exact absurd ⟨ds, p, h⟩ hl
      · rfl
    rw [e]
    exact s
theorem unlock1_get (Γ : G) (i j : Nat) : (Mir.unlock1 Γ i)[j]? = if i = j then (match Γ[i]? with | some (.li ds p .lock) => some (.li ds p .own) | x => x) else Γ[j]? := by
  unfold Mir.unlock1
  split
  · rename_i ds p e
    first
      | (rw [get_set e, e]; done)
      | (rw [get_set e]; done)
  · rename_i h
    by_cases hj : i = j
    · subst hj
      rw [if_pos rfl]
      all_goals
        cases e : Γ[i]? with
        | none => rfl
        | some s =>
          cases s with
          | emp => rfl
          | sh d => rfl
          | li ds p st =>
            cases st with
            | lock => exact absurd e (h _ _)
            | _ => rfl
    · rw [if_neg hj]
theorem Stp.unlockAll : ∀ (is : List Nat) {Γ' : G}, Stp K Ao σ H0 Γ Ao' σ' H' Γ' → (∀ i ∈ is, ∀ ds p, Γ'[i]? = some (.li ds p .lock) → (∃ es p', Γ[i]? = some (.li es p' .own)) ∧ σ'[i]? = σ[i]?) → Stp K Ao σ H0 Γ Ao' σ' H' (Mir.unlockAll Γ' is)
  | [], _, s, _ => s
  | i :: is, Γ', s, w => Stp.unlockAll is (s.unlock1 (w i (List.mem_cons_self ..))) fun j hj ds p e => by
      rw [unlock1_get] at e
      by_cases hij : i = j
      · rw [if_pos hij] at e
        split at e
        · cases e
        · rename_i h
          subst hij
          exact w i (List.mem_cons_self ..) ds p e
      · rw [if_neg hij] at e
        exact w j (List.mem_cons_of_mem _ hj) ds p e
end

/-! ## sources -/
/-- J gives xs, one after another, while the lists at S stay as they are (A, H: as the walk began) -/
def Src (K : PySem.W.Frag) (A : Addr → Prop) (H : Hp) (J : L2.It) (xs : List D) (S : Addr → Prop) : Prop :=
  ∃ (Gd : Hp → Prop) (Y : Nat → Hp → V → Hp → Prop), Walk J xs.length Gd Y ∧ (∀ H', (∀ a o, S a → H a = some o → H' a = some o) → Gd H') ∧
    ∀ i H1 x H2 Ao σ Γ, i < xs.length → Y i H1 x H2 → Rel K Ao σ H1 Γ → Mv A (Av Ao σ Γ) H H1 → StE K Ao σ H1 Γ Ao H2 Γ ∧ ∃ d, xs[i]? = some d ∧ DV K (Av Ao σ Γ) H2 d x
section
variable {K : PySem.W.Frag} {A : Addr → Prop} {H : Hp} {xs ys : List D} {vs ws : List V} {a b : Addr}
theorem sqL_st {H' : Hp} {S : Addr → Prop} (h : SqL K H a vs) (hs : ∀ u, H a = some u → S a) (k : ∀ a o, S a → H a = some o → H' a = some o) : SqL K H' a vs := by
  rcases h with (h | ⟨u, h⟩) | h
  · exact .inl (.inl (k a _ (hs _ h) h))
  · exact .inl (.inr ⟨u, k a _ (hs _ h) h⟩)
  · exact .inr h
theorem sqT_st {H' : Hp} {S : Addr → Prop} (h : SqT K H a vs) (hs : ∀ u, H a = some u → S a) (k : ∀ a o, S a → H a = some o → H' a = some o) : SqT K H' a vs := by
  rcases h with (h | ⟨u, h⟩) | h
  · exact .inl (.inl (k a _ (hs _ h) h))
  · exact .inl (.inr ⟨u, k a _ (hs _ h) h⟩)
  · exact .inr h
theorem src_at {J : L2.It} {Gd : Hp → Prop} {S : Addr → Prop} (w : Walk J vs.length Gd (YAt vs)) (hg : ∀ H', (∀ a o, S a → H a = some o → H' a = some o) → Gd H') (d : DVs K A H xs vs) : Src K A H J xs S := by
  refine ⟨Gd, YAt vs, by rw [← d.length]; exact w, hg, fun i H1 x H2 Ao σ Γ hi y r m => ?_⟩
  obtain ⟨e1, e2⟩ := y
  subst e1
  obtain ⟨e, g1, g2⟩ := (d.mv m).getV e2
  exact ⟨.refl r, e, g1, g2⟩
theorem src_list (h : SqL K H a vs) (d : DVs K A H xs vs) : Src K A H (Itl K a) xs (fun b => b = a) := src_at walk_list (fun H' k => sqL_st (S := fun b => b = a) h (fun _ _ => rfl) k) d
theorem src_tup (h : SqT K H a vs) (d : DVs K A H xs vs) : Src K A H (Itt K a) xs (fun b => b = a) := src_at walk_tup (fun H' k => sqT_st (S := fun b => b = a) h (fun _ _ => rfl) k) d
theorem src_str {z : Str} : Src K A H (Its z) (signsD z) (fun _ => False) := by
  have hl : (signsD z).length = z.cps.size := by unfold signsD; rw [List.length_map, Array.length_toList]
  refine ⟨_, _, by rw [hl]; exact walk_str, fun _ _ => trivial, fun i H1 x H2 Ao σ Γ hi y r m => ?_⟩
  obtain ⟨e1, c, e2, e3⟩ := y
  subst e1 e3
  refine ⟨.refl r, .str ⟨#[c]⟩, ?_, by unfold DV; rfl⟩
  unfold signsD
  rw [List.getElem?_map, Array.getElem?_toList, e2]
  rfl
theorem src_rng (lo hi : Int) : Src K A H (Itr lo (hi - lo).toNat) (rangeL lo hi) (fun _ => False) := by
  refine ⟨_, _, by rw [rangeL_len]; exact walk_range, fun _ _ => trivial, fun i H1 x H2 Ao σ Γ hi' y r m => ?_⟩
  obtain ⟨e1, e2⟩ := y
  subst e1 e2
  rw [rangeL_len] at hi'
  refine ⟨.refl r, .int (lo + (i : Nat)), ?_, by unfold DV; rfl⟩
  unfold rangeL
  rw [List.getElem?_map, List.getElem?_range hi']
  rfl
theorem pair_ok {Ao : Addr → Prop} {σ : St} {Γ : G} {H1 : Hp} {T : Addr} {x y : V} {d e : D} (r : Rel K Ao σ H1 Γ) (n : H1 T = none) (h1 : DV K (Av Ao σ Γ) H1 d x) (h2 : DV K (Av Ao σ Γ) H1 e y) : StE K Ao σ H1 Γ Ao (upd H1 T (.tup [x, y])) Γ ∧ DV K (Av Ao σ Γ) (upd H1 T (.tup [x, y])) (.tup [d, e]) (.ref T) := by
  have m := mv_new (o := .tup [x, y]) r n
  refine ⟨StE.new r n, ?_⟩
  unfold DV
  exact ⟨T, [x, y], rfl, .inl ⟨.inl (upd_same ..), r.fresh n⟩, DVs.cons (h1.mv m) (DVs.cons (h2.mv m) DVs.nil)⟩
theorem zip_len : ∀ (xs ys : List D), (zipD xs ys).length = min xs.length ys.length
  | [], ys => by cases ys <;> simp [zipD]
  | x :: xs, [] => by simp [zipD]
  | x :: xs, y :: ys => by
    unfold zipD
    rw [List.length_cons, List.length_cons, List.length_cons, zip_len xs ys]
    omega
theorem zip_get : ∀ (xs ys : List D) (i : Nat) (x y : D), xs[i]? = some x → ys[i]? = some y → (zipD xs ys)[i]? = some (.tup [x, y])
  | [], _, _, _, _, h, _ => by simp at h
  | _ :: _, [], _, _, _, _, h => by simp at h
  | x :: xs, y :: ys, 0, a, b, h1, h2 => by
    simp at h1 h2
    subst h1 h2
    rfl
  | x :: xs, y :: ys, i + 1, a, b, h1, h2 => by
    unfold zipD
    rw [List.getElem?_cons_succ] at h1 h2 ⊢
    exact zip_get xs ys i a b h1 h2
theorem src_zip_of {J : L2.It} {Gd : Hp → Prop} {S : Addr → Prop} (w : Walk J (min vs.length ws.length) Gd (YPair (fun i => vs[i]?) (fun i => ws[i]?))) (hg : ∀ H', (∀ a o, S a → H a = some o → H' a = some o) → Gd H') (d : DVs K A H xs vs) (e : DVs K A H ys ws) : Src K A H J (zipD xs ys) S := by
  refine ⟨Gd, _, by rw [zip_len, ← d.length, ← e.length]; exact w, hg, fun i H1 x H2 Ao σ Γ hi y r m => ?_⟩
  obtain ⟨T, p, q, e1, n, e2, e3, e4⟩ := y
  obtain ⟨dx, g1, g2⟩ := (d.mv m).getV e3
  obtain ⟨dy, f1, f2⟩ := (e.mv m).getV e4
  obtain ⟨s, k⟩ := pair_ok r n g2 f2
  subst e1 e2
  exact ⟨s, _, zip_get xs ys i dx dy g1 f1, k⟩
theorem src_zip (h : SqL K H a vs) (h' : SqL K H b ws) (d : DVs K A H xs vs) (e : DVs K A H ys ws) : Src K A H (Itz K a b) (zipD xs ys) (fun c => c = a ∨ c = b) :=
  src_zip_of (walk_zip rfl) (fun H' k => ⟨sqL_st h (fun _ _ => .inl rfl) k, sqL_st h' (fun _ _ => .inr rfl) k⟩) d e
theorem walk_zipT : Walk (RZ.ItzT K a b) (min vs.length ws.length) (fun H => SqT K H a vs ∧ SqT K H b ws) (YPair (fun i => vs[i]?) (fun i => ws[i]?)) := by
  refine ⟨fun i _ hi q => ?_, fun _ q => ⟨vs, ws, q.1, q.2, by omega⟩, fun i H v H' _ q y => ?_⟩
  · have g1 : i < vs.length := by omega
    have g2 : i < ws.length := by omega
    exact ⟨vs, ws, vs[i], ws[i], q.1, q.2, List.getElem?_eq_getElem g1, List.getElem?_eq_getElem g2⟩
  · obtain ⟨T, x, z, k1, k2, k3, k4, k5⟩ := y
    exact ⟨T, x, z, k1, k2, k3, k4 vs q.1, k5 ws q.2⟩
theorem src_zipT (h : SqT K H a vs) (h' : SqT K H b ws) (d : DVs K A H xs vs) (e : DVs K A H ys ws) : Src K A H (RZ.ItzT K a b) (zipD xs ys) (fun c => c = a ∨ c = b) :=
  src_zip_of walk_zipT (fun H' k => ⟨sqT_st h (fun _ _ => .inl rfl) k, sqT_st h' (fun _ _ => .inr rfl) k⟩) d e
theorem enm_len : ∀ (xs : List D) (k : Nat), (enmD k xs).length = xs.length
  | [], _ => rfl
  | x :: xs, k => by
    unfold enmD
    rw [List.length_cons, List.length_cons, enm_len xs]
theorem enm_get : ∀ (xs : List D) (k i : Nat) (x : D), xs[i]? = some x → (enmD k xs)[i]? = some (.tup [.int (k + i : Nat), x])
  | [], _, _, _, h => by simp at h
  | x :: xs, k, 0, a, h => by
    simp at h
    subst h
    rfl
  | x :: xs, k, i + 1, a, h => by
    unfold enmD
    rw [List.getElem?_cons_succ] at h ⊢
    rw [enm_get xs (k + 1) i a h, Nat.add_assoc, Nat.add_comm 1 i]
theorem src_enm (h : SqL K H a vs) (d : DVs K A H xs vs) : Src K A H (Ite K a) (enmD 0 xs) (fun b => b = a) := by
  refine ⟨_, _, by rw [enm_len, ← d.length]; exact walk_enum, fun H' k => sqL_st (S := fun b => b = a) h (fun _ _ => rfl) k, fun i H1 x H2 Ao σ Γ hi y r m => ?_⟩
  obtain ⟨T, p, q, e1, n, e2, e3, e4⟩ := y
  cases e3
  obtain ⟨dx, g1, g2⟩ := (d.mv m).getV e4
  obtain ⟨s, k⟩ := pair_ok (d := .int (i : Nat)) r n (by unfold DV; rfl) g2
  subst e1 e2
  refine ⟨s, _, ?_, k⟩
  have z := enm_get xs 0 i dx g1
  rw [Nat.zero_add] at z
  exact z
end

/-! ## iterators by their readings -/
/-- a list, a tuple or a text -/
def iAny (K : PySem.W.Frag) (te : TE) : TI := fun σ H R => te σ H fun x H1 => (∃ a vs, x = .ref a ∧ SqL K H1 a vs ∧ R (Itl K a) H1) ∨ (∃ a vs, x = .ref a ∧ SqT K H1 a vs ∧ R (Itt K a) H1) ∨ ∃ z, x = .str z ∧ R (Its z) H1
open PySem.Spec PyProof.Rows in
theorem pi_any {X : Cx} {tg e : Expr} {te : L2.TE} (he : PE X e te) : PI X tg e (iAny X.K te) := by
  refine ⟨fun pins s0 σ H R J0 hw => ?_⟩
  refine thn (he.run pins s0 σ H _ J0 hw) fun v s2 ⟨y, H2, J2, rv, hc⟩ => ?_
  have young : ∀ {σ : L2.St}, Inv X pins σ H2 s2 → ∀ b ∈ [s2.heap.objs.size], FpOk X pins H2 b := fun {σ} J b hb => by
    have eb : b = s2.heap.objs.size := by simpa using hb
    rw [eb]
    exact J.fpOk (Nat.le_refl _) (J.hok.fresh (Nat.le_refl _))
  rcases hc with ⟨a, vs, rfl, hq, q⟩ | ⟨a, vs, rfl, hq, q⟩ | ⟨z, rfl, q⟩
  · cases rv
    obtain ⟨us, _, pl, _⟩ := J2.list hq
    exact wpAny_pyIter_list pl.isList ⟨_, [s2.heap.objs.size], _, Itl X.K a, H2, rfl, J2.kept (t' := s2.toks) fun b o eb => Heap.get?_push_of_some _ eb, turn_list a _, ⟨_, Heap.get?_push_size _ rfl, rfl, rfl⟩, young J2, q⟩
  · cases rv
    obtain ⟨us, _, pl, _⟩ := J2.tuple hq
    exact wpAny_pyIter_tuple (show s2.heap.IsTuple a us.toArray from pl) ⟨_, [s2.heap.objs.size], _, Itt X.K a, H2, rfl, J2.kept (t' := s2.toks) fun b o eb => Heap.get?_push_of_some _ eb, turn_tuple a _, ⟨_, Heap.get?_push_size _ rfl, rfl, rfl⟩, young J2, q⟩
  · obtain ⟨t, rfl⟩ := rv
    cases hz : z.cps.all (· < 128) with
    | true => exact wpAny_pyIter_ascii hz (pi_one (tk := s2.toks) J2 _ (turn_str _ z t "str_ascii_iterator" (.inl rfl)) ⟨_, Heap.get?_push_size _ rfl, rfl, rfl⟩ q)
    | false => exact wpAny_pyIter_wide hz (pi_one (tk := s2.toks) J2 _ (turn_str _ z t "str_iterator" (.inr rfl)) ⟨_, Heap.get?_push_size _ rfl, rfl, rfl⟩ q)
theorem _root_.L2.PI.imp {X : Cx} {tg e : Expr} {t t' : TI} (h : PI X tg e t) (f : ∀ σ H Q, t' σ H Q → t σ H Q) : PI X tg e t' := ⟨fun pins s σ H Q I q => h.run pins s σ H Q I (f σ H Q q)⟩
/-- what is walked: its items, what must stay meanwhile -/
def tI (K : PySem.W.Frag) (P : Par) (it : It) : TI := fun σ H R => ∃ Ao Γ, Rel K Ao σ H Γ ∧ Out P σ H Γ (evI P.S it Γ) fun r => ∀ Ao' H' J S, StE K Ao σ H Γ Ao' H' r.2.2 → Src K (Av Ao' σ r.2.2) H' J r.1 S → (∀ a, S a → ¬ Mu σ (lockAll r.2.2 r.2.1) a) → R J H'
section
variable {X : Cx} {P : Par} {σ : St} {H : Hp} {K : PySem.W.Frag}
/-- an operand's own list, once it is locked, may not change -/
theorem walked_mu {Ao : Addr → Prop} {Γ : G} {H0 : Hp} {o : Opd} {a : Addr} {ds : List D} {is : List Nat} (r : Rel K Ao σ H Γ) (h : OR K H0 Ao σ H Γ o (.ref a)) (e : look Γ o = .list ds) (hi : ∀ i ∈ walked Γ o, i ∈ is) : ¬ Mu σ (lockAll Γ is) a := by
  rintro ⟨j, es, p, e1, e2⟩
  rw [lockAll_get] at e1
  have nj : j ∉ is ∧ Γ[j]? = some (.li es p .own) := by
    by_cases hj : j ∈ is
    · rw [if_pos hj] at e1
      exfalso
      revert e1
      cases Γ[j]? with
      | none => exact fun z => by cases z
      | some s =>
        cases s with
        | emp => exact fun z => by cases z
        | sh d => exact fun z => by cases z
        | li ds p st => cases st <;> exact fun z => by cases z
    · rw [if_neg hj] at e1
      exact ⟨hj, e1⟩
  have lv : Lv σ Γ a := ⟨j, es, p, .own, nj.2, by decide, e2⟩
  cases o with
  | val d =>
    have e : d = .list ds := e
    subst e
    have h : DV K (Av Ao σ Γ) H (.list ds) (.ref a) := h
    unfold DV at h
    obtain ⟨b, vs, eb, ⟨_, nb⟩, _⟩ := h
    cases eb
    exact nb (.inr lv)
  | tmp ds =>
    obtain ⟨b, vs, eb, _, hb, _⟩ := h
    cases eb
    exact r.lvAo lv hb
  | slot i =>
    obtain ⟨h1, s, h2, h3⟩ := h
    have hij : Γ[i]? = some s → ∀ es' p' st', s = .li es' p' st' → st' ≠ .froz → i = j := fun _ es' p' st' z nf => by
      subst z
      exact r.inj i j _ _ _ _ _ _ a h2 nf nj.2 (by decide) h1 e2
    cases s with
    | emp => exact h3 rfl
    | sh d =>
      rw [look_slot h2] at e
      have e : d = .list ds := e
      subst e
      obtain ⟨v, w1, w2⟩ := r.sh i _ h2
      rw [h1] at w1
      cases w1
      unfold DV at w2
      obtain ⟨b, vs, eb, ⟨_, nb⟩, _⟩ := w2
      cases eb
      exact nb (.inr lv)
    | li es' p' st' =>
      by_cases f : st' = .froz
      · subst f
        obtain ⟨b, vs, w1, _, _, _, w5⟩ := r.li i _ _ _ h2
        rw [h1] at w1
        cases w1
        exact w5 rfl (.inr lv)
      · have z := hij h2 es' p' st' rfl f
        subst z
        rw [nj.2] at h2
        cases h2
        refine nj.1 (hi i ?_)
        have ew : walked Γ (.slot i) = [i] := by
          show (match Γ[i]? with | some (.li _ _ .own) => [i] | _ => []) = [i]
          rw [nj.2]
        rw [ew]
        exact List.mem_singleton.mpr rfl
theorem itemsD_nx {d : D} : ∀ c, itemsD d ≠ .exc c := fun c e => by
  unfold itemsD at e
  split at e <;> cases e
theorem DV.notMu {Ao : Addr → Prop} {Γ : G} {a : Addr} (n : ¬ Av Ao σ Γ a) (is : List Nat) (r : Rel K Ao σ H Γ) : ¬ Mu σ (lockAll Γ is) a := fun z => by
  rcases (StE.lockAll is r).s.mu a z with q | q
  · exact n (.inr q.lv)
  · rcases (StE.lockAll is r).s.lv a z.lv with q' | q'
    · exact n (.inr q')
    · obtain ⟨j, es, p, e1, e2⟩ := z
      obtain ⟨b, vs, w1, w2, _⟩ := (StE.lockAll is r).rel.li j es p .own e1
      rw [e2] at w1
      cases w1
      rw [q] at w2
      cases w2
theorem mi_sq {tg e : Expr} {a : Ex} (h : PE X e (tE X.K P a)) : PI X tg e (tI X.K P (.sq a)) := (pi_any h).imp fun σ H R q => by
  obtain ⟨Ao, Γ, r, q⟩ := q
  unfold evI at q
  rw [Out.bind] at q
  refine tE_go r q fun z Ao1 x H1 e1 h1 s1 or1 => ?_
  have pv := or1.pv s1.rel
  cases e : itemsD (look z.2 z.1) with
  | exc c => exact absurd e (itemsD_nx c)
  | no => rw [e] at h1; exact h1.elim
  | ok xs =>
    rw [e] at h1
    have h1 : ∀ Ao' H' J S, StE X.K Ao σ H Γ Ao' H' z.2 → Src X.K (Av Ao' σ z.2) H' J xs S → (∀ a, S a → ¬ Mu σ (lockAll z.2 (walked z.2 z.1)) a) → R J H' := h1
    cases ed : look z.2 z.1 with
    | list ys =>
      rw [ed] at e pv
      cases e
      obtain ⟨b, vs, rfl, hb, dv⟩ := pv
      refine .inl ⟨b, vs, rfl, .inl (.inl hb), h1 Ao1 H1 _ _ s1 (src_list (.inl (.inl hb)) dv) fun c hc => ?_⟩
      subst hc
      exact walked_mu s1.rel or1 ed fun _ q => q
    | tup ys =>
      rw [ed] at e pv
      cases e
      obtain ⟨b, vs, rfl, hb, dv⟩ := pv_tup pv
      refine .inr (.inl ⟨b, vs, rfl, hb.sq, h1 Ao1 H1 _ (fun c => c = b ∧ ¬ Av Ao1 σ z.2 c) s1 ?_ fun c hc => DV.notMu hc.2 _ s1.rel⟩)
      rcases hb with ⟨hr, nb⟩ | hk
      · exact src_at walk_tup (fun H' k => sqT_st (.inl hr) (fun _ _ => ⟨rfl, nb⟩) k) dv
      · exact src_at walk_tup (fun H' _ => .inr hk) dv
    | str y =>
      rw [ed] at e pv
      cases e
      exact .inr (.inr ⟨y, pv_str pv, h1 Ao1 H1 _ _ s1 src_str fun _ q => q.elim⟩)
    | scr ns =>
      rw [ed] at e pv
      cases e
      have pv : DV X.K (Av Ao1 σ z.2) H1 (.scr ns) x := pv
      unfold DV at pv
      obtain ⟨b, rfl, hb⟩ := pv
      refine .inl ⟨b, _, rfl, hb.sq, h1 Ao1 H1 _ (fun c => c = b ∧ ¬ Av Ao1 σ z.2 c) s1 ?_ fun c hc => DV.notMu hc.2 _ s1.rel⟩
      rcases hb with ⟨hr, nb⟩ | hk
      · exact src_at walk_list (fun H' k => sqL_st (.inl hr) (fun _ _ => ⟨rfl, nb⟩) k) (DVs.ofInts ns)
      · exact src_at walk_list (fun H' _ => .inr hk) (DVs.ofInts ns)
    | _ => rw [ed] at e; cases e
theorem rngD_1 {A : Addr → Prop} {d : D} {v : V} {xs : List D} (h : PV K A H d v) (e : rngD [d] = .ok xs) : ∃ n : Int, v = .int n ∧ (-(2 ^ 62) ≤ n ∧ n < 2 ^ 62) ∧ xs = rangeL 0 n := by
  cases d with
  | int n =>
    have e : (if rngOk n then R.ok (rangeL 0 n) else R.no) = R.ok xs := e
    split at e
    · rename_i hn
      cases e
      exact ⟨n, pv_int h, rngOk_and hn, rfl⟩
    · cases e
  | _ => cases e
theorem rngD_2 {A : Addr → Prop} {d d' : D} {v v' : V} {xs : List D} (h : PV K A H d v) (h' : PV K A H d' v') (e : rngD [d, d'] = .ok xs) : ∃ m n : Int, v = .int m ∧ v' = .int n ∧ (-(2 ^ 62) ≤ m ∧ m < 2 ^ 62 ∧ -(2 ^ 62) ≤ n ∧ n < 2 ^ 62) ∧ xs = rangeL m n := by
  cases d with
  | int m =>
    cases d' with
    | int n =>
      have e : (if rngOk m && rngOk n then R.ok (rangeL m n) else R.no) = R.ok xs := e
      split at e
      · rename_i hn
        rw [Bool.and_eq_true] at hn
        cases e
        have g1 := rngOk_and hn.1
        have g2 := rngOk_and hn.2
        exact ⟨m, n, pv_int h, pv_int h', ⟨g1.1, g1.2, g2.1, g2.2⟩, rfl⟩
      · cases e
    | _ => cases e
  | _ => cases e
theorem mi_rng1 {tg e : Expr} {a : Ex} {p pos : Pos} (hg : Gl X "range") (hm : X.mg "range" = none) (hs : noStar e = true) (h : PA X [e] (tA X.K P (.cons a .nil))) : PI X tg (.Call (.Name "range" p) [e] [] pos) (tI X.K P (.rng (.cons a .nil))) :=
  (pi_range1 hg hm h (star_cons (noStar_ne hs))).imp fun σ H Rk q => by
    obtain ⟨Ao, Γ, r, q⟩ := q
    unfold evI at q
    rw [Out.bind] at q
    refine ⟨Ao, Γ, r, q.imp fun z ez h Ao1 vs H1 s ors => ?_⟩
    have pvs := ors.pvs s.rel
    cases e : rngD (z.1.map (look z.2)) with
    | exc c => exact absurd e (rngD_nx c)
    | no => rw [e] at h; exact h.elim
    | ok xs =>
      rw [e] at h
      unfold evs evs at ez
      obtain ⟨q1, _, ez⟩ := Mir.R.bind_eq_ok ez
      cases ez
      obtain ⟨v, rfl, pv⟩ := pvs1 pvs
      obtain ⟨n, rfl, hn, rfl⟩ := rngD_1 pv e
      refine ⟨n, rfl, hn.1, hn.2, h Ao1 H1 _ (fun _ => False) s ?_ fun _ q => q.elim⟩
      have z := src_rng (K := X.K) (A := Av Ao1 σ q1.2) (H := H1) 0 n
      rw [Int.sub_zero] at z
      exact z
theorem mi_rng2 {tg e e' : Expr} {a b : Ex} {p pos : Pos} (hg : Gl X "range") (hm : X.mg "range" = none) (hs : noStar e = true) (hs' : noStar e' = true) (h : PA X [e, e'] (tA X.K P (.cons a (.cons b .nil)))) : PI X tg (.Call (.Name "range" p) [e, e'] [] pos) (tI X.K P (.rng (.cons a (.cons b .nil)))) :=
  (pi_range2 hg hm h (by rw [star_cons (noStar_ne hs), star_cons (noStar_ne hs')]; rfl) (star_cons (noStar_ne hs'))).imp fun σ H Rk q => by
    obtain ⟨Ao, Γ, r, q⟩ := q
    unfold evI at q
    rw [Out.bind] at q
    refine ⟨Ao, Γ, r, q.imp fun z ez h Ao1 vs H1 s ors => ?_⟩
    have pvs := ors.pvs s.rel
    cases e : rngD (z.1.map (look z.2)) with
    | exc c => exact absurd e (rngD_nx c)
    | no => rw [e] at h; exact h.elim
    | ok xs =>
      rw [e] at h
      unfold evs evs evs at ez
      obtain ⟨q1, _, ez⟩ := Mir.R.bind_eq_ok ez
      obtain ⟨q2, ez2, ez⟩ := Mir.R.bind_eq_ok ez
      obtain ⟨q3, _, ez2⟩ := Mir.R.bind_eq_ok ez2
      cases ez2
      cases ez
      obtain ⟨v, w, rfl, pv, pw⟩ := pvs2 pvs
      obtain ⟨m, n, rfl, rfl, hn, rfl⟩ := rngD_2 pv pw e
      exact ⟨m, n, rfl, hn, h Ao1 H1 _ (fun _ => False) s (src_rng m n) fun _ q => q.elim⟩
theorem rangeDn_len (a b : Int) : (rangeDn a b).length = (a - b).toNat := by unfold rangeDn; rw [List.length_map, List.length_range]
theorem src_rngDn {A : Addr → Prop} {H : Hp} (a b : Int) : Src K A H (Itc a (-1) (a - b).toNat) (rangeDn a b) (fun _ => False) := by
  refine ⟨_, _, by rw [rangeDn_len]; exact walk_rangeC, fun _ _ => trivial, fun i H1 x H2 Ao σ Γ hi' y r m => ?_⟩
  obtain ⟨e1, e2⟩ := y
  subst e1 e2
  rw [rangeDn_len] at hi'
  have e : a + (i : Nat) * (-1) = a - (i : Nat) := by omega
  refine ⟨.refl r, .int (a - (i : Nat)), ?_, by unfold DV; dsimp only; rw [e]⟩
  unfold rangeDn
  rw [List.getElem?_map, List.getElem?_range hi']
  rfl
theorem rngD_3 {A : Addr → Prop} {d d' d2 : D} {v v' v2 : V} {xs : List D} (h : PV K A H d v) (h' : PV K A H d' v') (h2 : PV K A H d2 v2) (e : rngD [d, d', d2] = .ok xs) : ∃ m n : Int, v = .int m ∧ v' = .int n ∧ v2 = .int (-1) ∧ (-(2 ^ 62) ≤ m ∧ m < 2 ^ 62 ∧ -(2 ^ 62) ≤ n ∧ n < 2 ^ 62) ∧ xs = rangeDn m n := by
  unfold rngD at e
  split at e
  · rename_i q; cases q
  · rename_i q; cases q
  · rename_i a b c q
    cases q
    split at e
    · rename_i hn
      rw [Bool.and_eq_true, Bool.and_eq_true] at hn
      cases e
      have g1 := rngOk_and hn.1
      have g2 := rngOk_and hn.2.1
      have g3 := eq_of_beq hn.2.2
      subst g3
      exact ⟨a, b, pv_int h, pv_int h', pv_int h2, ⟨g1.1, g1.2, g2.1, g2.2⟩, rfl⟩
    · cases e
  · cases e
theorem mi_rng3 {tg e e' e2 : Expr} {a b c : Ex} {p pos : Pos} (hg : Gl X "range") (hm : X.mg "range" = none) (hs : noStar e = true) (hs' : noStar e' = true) (hs2 : noStar e2 = true) (h : PA X [e, e', e2] (tA X.K P (.cons a (.cons b (.cons c .nil))))) : PI X tg (.Call (.Name "range" p) [e, e', e2] [] pos) (tI X.K P (.rng (.cons a (.cons b (.cons c .nil))))) :=
  (pi_range3 hg hm h (star_cons (noStar_ne hs)) (by rw [star_cons (noStar_ne hs'), star_cons (noStar_ne hs2)]; rfl)).imp fun σ H Rk q => by
    obtain ⟨Ao, Γ, r, q⟩ := q
    unfold evI at q
    rw [Out.bind] at q
    refine ⟨Ao, Γ, r, q.imp fun z ez h Ao1 vs H1 s ors => ?_⟩
    have pvs := ors.pvs s.rel
    cases e : rngD (z.1.map (look z.2)) with
    | exc c => exact absurd e (rngD_nx c)
    | no => rw [e] at h; exact h.elim
    | ok xs =>
      rw [e] at h
      unfold evs evs evs evs at ez
      obtain ⟨q1, _, ez⟩ := Mir.R.bind_eq_ok ez
      obtain ⟨q2, ez2, ez⟩ := Mir.R.bind_eq_ok ez
      obtain ⟨q3, _, ez2⟩ := Mir.R.bind_eq_ok ez2
      obtain ⟨q4, ez4, ez2⟩ := Mir.R.bind_eq_ok ez2
      obtain ⟨q5, _, ez4⟩ := Mir.R.bind_eq_ok ez4
      cases ez4
      cases ez2
      cases ez
      obtain ⟨v, w, x, rfl, pv, pw, px⟩ := pvs3 pvs
      obtain ⟨m, n, rfl, rfl, rfl, hn, rfl⟩ := rngD_3 pv pw px e
      exact ⟨m, n, -1, (m - n).toNat, rfl, RgC.neg hn.1 hn.2.1 hn.2.2.1 hn.2.2.2, h Ao1 H1 _ (fun _ => False) s (src_rngDn m n) fun _ q => q.elim⟩
end
end Mir

set_option Elab.async false
set_option autoImplicit false
set_option linter.all false
set_option maxRecDepth 100000
set_option maxHeartbeats 4000000
/-! # Mir9b: a tuple's items with their places -/
namespace Mir
open PySem L2 PySem.Spec PyProof.Rows
open AutoSeq1 (wpAny_loadPart')
theorem enum_newT (l : Addr) (vs : Array Value) (n : Nat) (dct : Option Addr) (sl : Array (Option Value)) :
    Meets (Builtin.«enumerate.__new__» ⟨[.type "enumerate", .ref l], []⟩) (fun _ R s =>
      s.heap.get? l = some { cls := .type "tuple", dict := dct, data := .seq vs n, slots := sl } ∧ R (.ok (.ret (.ref (s.heap.push { cls := .type "tuple_iterator", data := .fields #[.ref l, .int 0 0] }).objs.size)))
        { s with heap := (s.heap.push { cls := .type "tuple_iterator", data := .fields #[.ref l, .int 0 0] }).push { cls := .type "enumerate", data := .fields #[.none, .bool false, .ref s.heap.objs.size, rawInt 0, .none, .none] } }) :=
  .of_wp fun prog w A R s h => by
    obtain ⟨hp, g, d, tk, os⟩ := s
    obtain ⟨hl, h⟩ := h
    have sb := sub_enumerate
    have hT : Heap.IsTuple (Shared.heap ⟨hp, g, d, tk, os⟩) l vs := ⟨_, hl, rfl, n, rfl⟩
    wp_walk using wpAny_loadPart' hl
    refine wpAny_stack_any fun st => wpAny_pure ?_
    split
    · rename_i c _ _ _ _ _
      cases (c == Value.type "enumerate") <;> (wp_walk using wpAny_loadPart' hl, wpAny_pyIter_tuple hT; exact ⟨_, rfl, h⟩)
    · wp_walk using wpAny_loadPart' hl, wpAny_pyIter_tuple hT
      exact ⟨_, rfl, h⟩
section
variable {prog : Program} {w : World} {A : Around} {E : Value → Shared → Prop} {s : Shared}
theorem enum_callT {l : Addr} {vs : Array Value} {Q : Value → Shared → Prop} (hT : s.heap.IsTuple l vs)
    (h : ∀ h', IsEnum h' (s.heap.objs.size + 1) s.heap.objs.size 0 .none → h'.IsTupleIter s.heap.objs.size l 0 → (∀ b o, s.heap.get? b = some o → h'.get? b = some o) → Q (.ref (s.heap.objs.size + 1)) { s with heap := h' }) :
    wpAny (model prog w) A (call (.type "enumerate") [.ref l]) Q E s := by
  obtain ⟨⟨c, dct, dt, sl⟩, hl, hc, n, hd⟩ := hT
  replace hc : c = .type "tuple" := hc
  replace hd : dt = .seq vs n := hd
  subst hc hd
  refine callType_new F.called_enumerate (by decide) (F.typeCall_enumerate_1 _) (F.newCall_enumerate_1 _) (fun obj => F.args_object_init_2 obj _) F.entry_enumerate_new (enum_newT l vs n dct sl) ⟨hl, ?_⟩
  have hz : (s.heap.push { cls := .type "tuple_iterator", data := .fields #[.ref l, .int 0 0] }).objs.size = s.heap.objs.size + 1 := Heap.size_push ..
  show _ ∧ _
  rw [hz]
  have he : IsEnum ((s.heap.push { cls := .type "tuple_iterator", data := .fields #[.ref l, .int 0 0] }).push { cls := .type "enumerate", data := .fields #[.none, .bool false, .ref s.heap.objs.size, rawInt 0, .none, .none] }) (s.heap.objs.size + 1) s.heap.objs.size 0 .none := by
    have z := Heap.get?_push_size (s.heap.push { cls := .type "tuple_iterator", data := .fields #[.ref l, .int 0 0] }) (o := { cls := .type "enumerate", data := .fields #[.none, .bool false, .ref s.heap.objs.size, rawInt 0, .none, .none] }) rfl
    rw [hz] at z
    exact z
  exact ⟨⟨_, he, rfl⟩, h _ he ⟨_, Heap.get?_push_of_some _ (Heap.get?_push_size _ rfl), rfl, rfl⟩ fun b o x => Heap.get?_push_of_some _ (Heap.get?_push_of_some _ x)⟩
end
/-- the tuple at a, each item in a new pair -/
def IteT (K : PySem.W.Frag) (a : Addr) : L2.It :=
  ⟨fun i H => ∃ (xs : List V) (x : V), SqT K H a xs ∧ xs[i]? = some x,
    fun i H v H' => ∃ T x, v = .ref T ∧ H T = none ∧ H' = upd H T (.tup [.int (i : Nat), x]) ∧ ∀ xs, SqT K H a xs → xs[i]? = some x,
    fun i H => ∃ xs : List V, SqT K H a xs ∧ xs.length = i⟩
theorem turn_enumT {P : Program} {w : World} {K : PySem.W.Frag} {elts : List Expr} {kk : Nat} {tpos : Pos} (a e it : Addr) :
    Turn P w K (.Tuple elts kk tpos) (IteT K a) [e, it] e (fun i h => (∃ old, IsEnum h e it ((i : Nat) : Int) old) ∧ h.IsTupleIter it a i ∧ e ≠ it) where
  mem := by simp
  obj := fun i h st b hb => by
    obtain ⟨⟨old, he⟩, ⟨o, ho, hc, hd⟩, _⟩ := st
    have z : b = e ∨ b = it := by simpa using hb
    rcases z with rfl | rfl
    · exact ⟨_, he, fun v q => nomatch q⟩
    · exact ⟨o, ho, fun v q => by rw [hd] at q; cases q⟩
  keep := fun i h h' st k => by
    obtain ⟨⟨old, he⟩, hi, hne⟩ := st
    exact ⟨⟨old, k e (by simp) _ he⟩, hi.at fun o q => k it (by simp) o q, hne⟩
  item := by
    intro X hP hw hK hc i pins s σ H E I hf st hg
    subst hP hw hK
    obtain ⟨⟨old, he⟩, hit, hne⟩ := st
    obtain ⟨xs, x, hq, hx⟩ := hg
    obtain ⟨its, rv, p, hz⟩ := I.tuple hq
    obtain ⟨u, hu, ru⟩ := rv.get hx
    have hel : e < s.heap.objs.size := Heap.lt_size he
    have hil : it < s.heap.objs.size := by obtain ⟨_, q, _⟩ := hit; exact Heap.lt_size q
    have nea : a ≠ it := fun z => by
      obtain ⟨o, ho, hc1, _⟩ := p
      obtain ⟨o2, ho2, hc2, _⟩ := hit
      rw [z, ho2] at ho
      cases ho
      rw [hc1] at hc2
      injection hc2 with hc3
      exact absurd hc3 (by decide)
    have nee : e ∉ [it, a] := fun z => by
      have z : e = it ∨ e = a := by simpa using z
      rcases z with z | z
      · exact hne z
      · obtain ⟨o, ho, hc1, _⟩ := p
        rw [← z, he] at ho
        cases ho
        injection hc1 with hc3
        exact absurd hc3 (by decide)
    have len : i < its.toArray.size := by
      have := (List.getElem?_eq_some_iff.mp hu).1
      rw [List.size_toArray]
      exact this
    refine wpAny_pyNext_enum_itemC (Draws.tuple (A := X.A.in1) (I.ok.hd hc) it a nea its.toArray) he ⟨hit, p⟩ len hne nee fun y h' tk hy ho st' hT hsz hk => ?_
    have ey : y = u := by
      have z : its[i]? = some y := by simpa using hy
      rw [hu] at z
      exact (Option.some.inj z).symm
    subst ey
    refine ⟨_, rfl, wpAny_letOwnedTupleGo_enum (s := { s with heap := h', toks := tk + 1 }) ho fun h'' he' sb => ?_⟩
    have hT2 : h''.get? s.heap.objs.size = some { cls := .type "tuple", data := .seq #[.int i tk, y] } := (sb.2 _ (Nat.ne_of_gt hel)).trans hT
    have new : ObjOk X.prog X.w (upd H s.heap.objs.size (.tup [.int (i : Nat), x])) h'' s.heap.objs.size (.tup [.int (i : Nat), x]) := ⟨by show 2 ≤ sizeLine; decide, [.int i tk, y], .cons ⟨_, rfl⟩ (.cons ru .nil), ⟨_, hT2, rfl, _, rfl⟩⟩
    have I1 : Inv X pins σ (upd H s.heap.objs.size (.tup [.int (i : Nat), x])) { s with heap := h'', toks := tk + 1 } :=
      I.turnedNew (ch := [e, it]) (fun b ob hb q => by
        have n1 : b ≠ e := fun z => hb (by simp [z])
        have n2 : b ≠ it := fun z => hb (by simp [z])
        exact (sb.2 b n1).trans (hk b ob n1 n2 q)) hf (Nat.le_refl _) new
    refine ⟨.ref s.heap.objs.size, _, I1, rfl, ⟨_, x, rfl, I.hok.fresh (Nat.le_refl _), rfl, fun ys hy2 => by rw [I.tuple_inj hy2 hq]; exact hx⟩, ⟨⟨y, ?_⟩, st'.1.at fun o q => (sb.2 it (Ne.symm hne)).trans q, hne⟩, fun b hb => ?_⟩
    · have e1 : ((i + 1 : Nat) : Int) = (i : Int) + 1 := by omega
      rw [e1]
      exact he'
    · have z : b = e ∨ b = it := by simpa using hb
      have hb' : b < s.heap.objs.size := by
        rcases z with rfl | rfl
        · exact hel
        · exact hil
      rw [upd_ne (Nat.ne_of_lt hb')]
      exact (hf b hb).1
  done := by
    intro X hP hw hK hc i pins s σ H E I hf st hg
    subst hP hw hK
    obtain ⟨⟨old, he⟩, hit, hne⟩ := st
    obtain ⟨xs, hq, hx⟩ := hg
    obtain ⟨its, rv, p, hz⟩ := I.tuple hq
    have nea : a ≠ it := fun z => by
      obtain ⟨o, ho, hc1, _⟩ := p
      obtain ⟨o2, ho2, hc2, _⟩ := hit
      rw [z, ho2] at ho
      cases ho
      rw [hc1] at hc2
      injection hc2 with hc3
      exact absurd hc3 (by decide)
    obtain ⟨f0, f1, f2, f3, f4, f5⟩ := hf it (by simp)
    have hl : its.toArray.size = i := by rw [List.size_toArray, ← rv.length, hx]
    have hit' : s.heap.IsTupleIter it a its.toArray.size := by rw [hl]; exact hit
    exact wpAny_pyNext_enum_endD (Draws.tuple (A := X.A.in1) (I.ok.hd hc) it a nea its.toArray) he ⟨hit', p⟩ fun h' eb => ⟨rfl, I.turned (t' := s.toks) (fun b o hb q => eb b o hb q) f0 f1 f3 f4 f5⟩
  self := fun A i s Q E st h => by
    obtain ⟨⟨_, he⟩, _⟩ := st
    exact wpAny_pyIter_enum he h
def iEnumA (K : PySem.W.Frag) (ta : TA) : TI := fun σ H R => ta σ H fun vs H1 => ∃ a xs, vs = [.ref a] ∧ (SqL K H1 a xs ∧ R (Ite K a) H1 ∨ SqT K H1 a xs ∧ R (IteT K a) H1)
theorem pi_enumA {X : Cx} {e : Expr} {ta : TA} {p pos tpos : Pos} {elts : List Expr} {kk : Nat} (hg : Gl X "enumerate") (hm : X.mg "enumerate" = none) (ha : PA X [e] ta) (hs : starEach [e] X.env = [(false, eval e X.env)]) :
    PI X (.Tuple elts kk tpos) (.Call (.Name "enumerate" p) [e] [] pos) (iEnumA X.K ta) := by
  refine ⟨fun pins s σ H R I h => ?_⟩
  refine Call_ (ld_blt I hg hm boot_enumerate (PyProof.Rows.callWith_type1 (thn (ha.run pos pins s σ H _ I h) fun us s1 ⟨vs, H1, I1, r1, q1⟩ => ?_) hs rfl))
  obtain ⟨a, xs, ex, q⟩ := q1
  subst ex
  cases r1 with
  | cons r rr =>
    cases rr
    cases r
    have young : ∀ {h' : Heap}, Inv X pins σ H1 { s1 with heap := h' } → ∀ b ∈ [s1.heap.objs.size + 1, s1.heap.objs.size], s1.heap.objs.size ≤ b := fun _ b hb => by
      have z : b = s1.heap.objs.size + 1 ∨ b = s1.heap.objs.size := by simpa using hb
      omega
    rcases q with ⟨hq, q⟩ | ⟨hq, q⟩
    · obtain ⟨its, rv, p', hz⟩ := I1.list hq
      refine call_enumerate_list p'.isList fun h' he hit hsz hk => wpAny_pyIter_enum he ?_
      have I2 : Inv X pins σ H1 { s1 with heap := h' } := I1.kept (t' := s1.toks) hk
      exact ⟨s1.heap.objs.size + 1, [s1.heap.objs.size + 1, s1.heap.objs.size], _, _, H1, rfl, I2, turn_enum a (s1.heap.objs.size + 1) s1.heap.objs.size, ⟨⟨.none, he⟩, hit, Nat.succ_ne_self _⟩, fun b hb => I1.fpOk (young I2 b hb) (I1.hok.fresh (young I2 b hb)), q⟩
    · obtain ⟨its, rv, p', hz⟩ := I1.tuple hq
      refine enum_callT p' fun h' he hit hk => wpAny_pyIter_enum he ?_
      have I2 : Inv X pins σ H1 { s1 with heap := h' } := I1.kept (t' := s1.toks) hk
      exact ⟨s1.heap.objs.size + 1, [s1.heap.objs.size + 1, s1.heap.objs.size], _, _, H1, rfl, I2, turn_enumT a (s1.heap.objs.size + 1) s1.heap.objs.size, ⟨⟨.none, he⟩, hit, Nat.succ_ne_self _⟩, fun b hb => I1.fpOk (young I2 b hb) (I1.hok.fresh (young I2 b hb)), q⟩
section
variable {K : PySem.W.Frag} {a : Addr} {vs : List V}
theorem walk_enumT : Walk (IteT K a) vs.length (fun H => SqT K H a vs) (YPair (fun i => some (.int (i : Nat))) (fun i => vs[i]?)) := by
  refine ⟨fun i _ hi q => ⟨vs, vs[i], q, List.getElem?_eq_getElem hi⟩, fun _ q => ⟨vs, q, rfl⟩, fun i H v H' _ q y => ?_⟩
  obtain ⟨T, x, k1, k2, k3, k4⟩ := y
  exact ⟨T, _, x, k1, k2, k3, rfl, k4 vs q⟩
variable {A : Addr → Prop} {H : Hp} {xs : List D}
theorem src_enmT {S : Addr → Prop} (hg : ∀ H', (∀ a o, S a → H a = some o → H' a = some o) → SqT K H' a vs) (d : DVs K A H xs vs) : Src K A H (IteT K a) (enmD 0 xs) S := by
  refine ⟨_, _, by rw [enm_len, ← d.length]; exact walk_enumT, hg, fun i H1 x H2 Ao σ Γ hi y r m => ?_⟩
  obtain ⟨T, p, q, e1, n, e2, e3, e4⟩ := y
  cases e3
  obtain ⟨dx, g1, g2⟩ := (d.mv m).getV e4
  obtain ⟨s, k⟩ := pair_ok (d := .int (i : Nat)) r n (by unfold DV; rfl) g2
  subst e1 e2
  have z := enm_get xs 0 i dx g1
  rw [Nat.zero_add] at z
  exact ⟨s, _, z, k⟩
end
end Mir

set_option Elab.async false
set_option autoImplicit false
set_option linter.all false
set_option maxRecDepth 100000
set_option maxHeartbeats 4000000
/-! # Mir10: zip, enumerate; stores; comprehensions -/
namespace Mir
open PySem L2
section
variable {X : Cx} {P : Par} {σ : St} {H : Hp} {K : PySem.W.Frag}
theorem mi_zip {elts : List Expr} {kk : Nat} {tpos p pos : Pos} {e e' : Expr} {a b : Ex} (hg : Gl X "zip") (hm : X.mg "zip" = none) (hs : noStar e = true) (hs' : noStar e' = true) (h : PE X e (tE X.K P a)) (h' : PE X e' (tE X.K P b)) :
    PI X (.Tuple elts kk tpos) (.Call (.Name "zip" p) [e, e'] [] pos) (tI X.K P (.zip a b)) :=
  (RZ.pi_zipA hg hm (pa_cons h (pa_cons h' pa_nil (star_cons (noStar_ne hs'))) (star_cons (noStar_ne hs))) (star_cons (noStar_ne hs)) (by rw [star_cons (noStar_ne hs')]; rfl)).imp fun σ H Rk q => by
    obtain ⟨Ao, Γ, r, q⟩ := q
    unfold evI at q
    rw [Out.bind] at q
    refine tE_go r q fun z1 Ao1 x H1 e1 h1 s1 or1 => ?_
    rw [Out.bind] at h1
    refine ⟨Ao1, z1.2, s1.rel, Out.later s1.s h1 fun z2 e2 h2 Ao2 y H2 s2 or2 => ?_⟩
    have s := s1.trans s2
    have o1 := or1.st s1.rel s2
    have p1 := o1.pv s.rel
    have p2 := or2.pv s.rel
    cases d1 : look z2.2 z1.1 with
    | list xs =>
      cases d2 : look z2.2 z2.1 with
      | list ys =>
        rw [d1] at h2 p1
        rw [d2] at h2 p2
        obtain ⟨a1, vs, rfl, ha, dv⟩ := p1
        obtain ⟨b1, ws, rfl, hb, dw⟩ := p2
        refine ⟨a1, b1, vs, ws, rfl, .inl ⟨.inl (.inl ha), .inl (.inl hb), h2 Ao2 H2 _ _ s (src_zip (.inl (.inl ha)) (.inl (.inl hb)) dv dw) fun c hc => ?_⟩⟩
        rcases hc with rfl | rfl
        · exact walked_mu s.rel o1 d1 fun i hi => List.mem_append_left _ hi
        · exact walked_mu s.rel or2 d2 fun i hi => List.mem_append_right _ hi
      | _ => rw [d1, d2] at h2; exact h2.elim
    | tup xs =>
      cases d2 : look z2.2 z2.1 with
      | tup ys =>
        rw [d1] at h2 p1
        rw [d2] at h2 p2
        obtain ⟨a1, vs, rfl, ha, dv⟩ := pv_tup p1
        obtain ⟨b1, ws, rfl, hb, dw⟩ := pv_tup p2
        refine ⟨a1, b1, vs, ws, rfl, .inr ⟨ha.sq, hb.sq, h2 Ao2 H2 _ (fun c => (c = a1 ∨ c = b1) ∧ ¬ Av Ao2 σ z2.2 c) s ?_ fun c hc => DV.notMu hc.2 _ s.rel⟩⟩
        refine src_zip_of walk_zipT (fun H' k => ⟨?_, ?_⟩) dv dw
        · rcases ha with ⟨hr, nb⟩ | hk
          · exact sqT_st (.inl hr) (fun _ _ => ⟨.inl rfl, nb⟩) k
          · exact .inr hk
        · rcases hb with ⟨hr, nb⟩ | hk
          · exact sqT_st (.inl hr) (fun _ _ => ⟨.inr rfl, nb⟩) k
          · exact .inr hk
      | _ => rw [d1, d2] at h2; exact h2.elim
    | _ => rw [d1] at h2; exact h2.elim
theorem mi_enm {elts : List Expr} {kk : Nat} {tpos p pos : Pos} {e : Expr} {a : Ex} (hg : Gl X "enumerate") (hm : X.mg "enumerate" = none) (hs : noStar e = true) (h : PE X e (tE X.K P a)) :
    PI X (.Tuple elts kk tpos) (.Call (.Name "enumerate" p) [e] [] pos) (tI X.K P (.enm a)) :=
  (pi_enumA hg hm (pa_cons h pa_nil (star_cons (noStar_ne hs))) (star_cons (noStar_ne hs))).imp fun σ H Rk q => by
    obtain ⟨Ao, Γ, r, q⟩ := q
    unfold evI at q
    rw [Out.bind] at q
    refine tE_go r q fun z1 Ao1 x H1 e1 h1 s1 or1 => ?_
    have p1 := or1.pv s1.rel
    cases d1 : look z1.2 z1.1 with
    | list xs =>
      rw [d1] at h1 p1
      obtain ⟨a1, vs, rfl, ha, dv⟩ := p1
      refine ⟨a1, vs, rfl, .inl ⟨.inl (.inl ha), h1 Ao1 H1 _ _ s1 (src_enm (.inl (.inl ha)) dv) fun c hc => ?_⟩⟩
      subst hc
      exact walked_mu s1.rel or1 d1 fun _ q => q
    | tup xs =>
      rw [d1] at h1 p1
      obtain ⟨a1, vs, rfl, ha, dv⟩ := pv_tup p1
      refine ⟨a1, vs, rfl, .inr ⟨ha.sq, h1 Ao1 H1 _ (fun c => c = a1 ∧ ¬ Av Ao1 σ z1.2 c) s1 (src_enmT (fun H' k => ?_) dv) fun c hc => DV.notMu hc.2 _ s1.rel⟩⟩
      rcases ha with ⟨hr, nb⟩ | hk
      · exact sqT_st (.inl hr) (fun _ _ => ⟨rfl, nb⟩) k
      · exact .inr hk
    | _ => rw [d1] at h1; exact h1.elim
end

/-! ## a name is stored -/
section
variable {K : PySem.W.Frag} {Ao Ao' : Addr → Prop} {σ σ' : St} {H H' H0 : Hp} {Γ Γ' : G}
/-- a slot that may be stored: none that is lent, none that is walked -/
theorem setS_ok {i : Nat} {s : Slot} (h : setS Γ i s = .ok Γ') : Γ' = Γ.set i s ∧ ∃ o, Γ[i]? = some o ∧ ∀ ds p st, o = .li ds p st → p = false ∧ st ≠ .lock := by
  unfold setS at h
  split at h
  · cases h
  · cases h
  · cases h
  · rename_i x h1 h2 h3
    cases h
    refine ⟨rfl, x, h3, fun ds p st e => ?_⟩
    subst e
    constructor
    · cases p
      · rfl
      · exact (h1 _ _ rfl).elim
    · intro z
      subst z
      exact (h2 _ _ rfl).elim
/-- v: shared, or a new list that comes out of what is kept clear of -/
theorem Stp.set_sh (s : Stp K Ao σ H0 Γ Ao' σ' H' Γ') {i : Nat} {d : D} {v : V} {Γ2 : G} (h : setS Γ' i (.sh d) = .ok Γ2) (dv : DV K (Av Ao' σ' Γ') H' d v) : Stp K Ao σ H0 Γ Ao' (σ'.set i (some v)) H' Γ2 := by
  obtain ⟨rfl, o, ho, hn⟩ := setS_ok h
  have r := s.rel
  have hi : i < Γ'.length := (List.getElem?_eq_some_iff.mp ho).1
  have his : i < σ'.length := by rw [r.len]; exact hi
  have gs : ∀ j, (Γ'.set i (.sh d))[j]? = if i = j then some (.sh d) else Γ'[j]? := fun j => get_set ho
  have gσ : ∀ j, (σ'.set i (some v))[j]? = if i = j then some (some v) else σ'[j]? := fun j => get_set (List.getElem?_eq_getElem his)
  have lv : ∀ b, Lv (σ'.set i (some v)) (Γ'.set i (.sh d)) b → Lv σ' Γ' b := fun b ⟨j, es, q, st', e1, e2, e3⟩ => by
    rw [gs] at e1
    rw [gσ] at e3
    by_cases hj : i = j
    · rw [if_pos hj] at e1; cases e1
    · rw [if_neg hj] at e1 e3
      exact ⟨j, es, q, st', e1, e2, e3⟩
  have mu : ∀ b, Mu (σ'.set i (some v)) (Γ'.set i (.sh d)) b → Mu σ' Γ' b := fun b ⟨j, es, q, e1, e3⟩ => by
    rw [gs] at e1
    rw [gσ] at e3
    by_cases hj : i = j
    · rw [if_pos hj] at e1; cases e1
    · rw [if_neg hj] at e1 e3
      exact ⟨j, es, q, e1, e3⟩
  have av : ∀ b, Av Ao' (σ'.set i (some v)) (Γ'.set i (.sh d)) b → Av Ao' σ' Γ' b := fun b z => z.imp id (lv b)
  have m : Mv (Av Ao' σ' Γ') (Av Ao' (σ'.set i (some v)) (Γ'.set i (.sh d))) H' H' := ⟨fun _ _ _ e => e, fun b _ _ z => av b z⟩
  refine ⟨⟨by rw [List.length_set, List.length_set]; exact r.len, r.dom, fun j e' e => ?_, fun j es p' st e => ?_, fun j k es p1 st1 es2 p2 st2 b e1 n1 e2 n2 f1 f2 => ?_⟩, s.ao, s.nw, s.fr, s.dm, fun b z => s.lv b (lv b z), fun b z => s.mu b (mu b z), fun j es st e => ?_, fun j es st e => ?_, fun j es p' e => ?_, by rw [List.length_set]; exact s.len⟩
  · rw [gs] at e
    rw [gσ]
    by_cases hj : i = j
    · rw [if_pos hj] at e ⊢
      cases e
      exact ⟨v, rfl, dv.mv m⟩
    · rw [if_neg hj] at e ⊢
      obtain ⟨w, w1, w2⟩ := r.sh j e' e
      exact ⟨w, w1, w2.mv m⟩
  · rw [gs] at e
    rw [gσ]
    by_cases hj : i = j
    · rw [if_pos hj] at e; cases e
    · rw [if_neg hj] at e ⊢
      obtain ⟨b, ws, w1, w2, w3, w4, w5⟩ := r.li j es p' st e
      exact ⟨b, ws, w1, w2, w3.mv m, w4, fun z y => w5 z (av b y)⟩
  · rw [gs] at e1 e2
    rw [gσ] at f1 f2
    by_cases hj : i = j
    · rw [if_pos hj] at e1; cases e1
    · by_cases hk : i = k
      · rw [if_pos hk] at e2; cases e2
      · rw [if_neg hj] at e1 f1
        rw [if_neg hk] at e2 f2
        exact r.inj j k es p1 st1 es2 p2 st2 b e1 n1 e2 n2 f1 f2
  · obtain ⟨ds', st', g1, g2⟩ := s.pin j es st e
    by_cases hj : i = j
    · subst hj
      rw [ho] at g1
      cases g1
      cases (hn _ _ _ rfl).1
    · exact ⟨ds', st', by rw [gs, if_neg hj]; exact g1, by rw [gσ, if_neg hj]; exact g2⟩
  · rw [gs] at e
    by_cases hj : i = j
    · rw [if_pos hj] at e; cases e
    · rw [if_neg hj] at e
      exact s.pinb j es st e
  · obtain ⟨ds', g1, g2⟩ := s.lk j es p' e
    by_cases hj : i = j
    · subst hj
      rw [ho] at g1
      cases g1
      exact absurd rfl (hn _ _ _ rfl).2
    · exact ⟨ds', by rw [gs, if_neg hj]; exact g1, by rw [gσ, if_neg hj]; exact g2⟩
/-- a list that was kept clear of becomes a name's own -/
theorem Stp.set_li (r0 : Rel K Ao σ H0 Γ) (s : Stp K Ao σ H0 Γ Ao' σ' H' Γ') {i : Nat} {ds : List D} {vs : List V} {a : Addr} {Γ2 : G} (h : setS Γ' i (.li ds false .own) = .ok Γ2) (na : H0 a = none) (ha : Ao' a) (hv : H' a = some (.lst vs)) (dv : DVs K (Av Ao' σ' Γ') H' ds vs) :
    Stp K Ao σ H0 Γ (fun b => Ao' b ∧ b ≠ a) (σ'.set i (some (.ref a))) H' Γ2 := by
  obtain ⟨rfl, o, ho, hn⟩ := setS_ok h
  have r := s.rel
  have hi : i < Γ'.length := (List.getElem?_eq_some_iff.mp ho).1
  have his : i < σ'.length := by rw [r.len]; exact hi
  have gs : ∀ j, (Γ'.set i (.li ds false .own))[j]? = if i = j then some (.li ds false .own) else Γ'[j]? := fun j => get_set ho
  have gσ : ∀ j, (σ'.set i (some (.ref a)))[j]? = if i = j then some (some (.ref a)) else σ'[j]? := fun j => get_set (List.getElem?_eq_getElem his)
  have nlv : ¬ Lv σ' Γ' a := fun z => r.lvAo z ha
  have lv : ∀ b, Lv (σ'.set i (some (.ref a))) (Γ'.set i (.li ds false .own)) b → Lv σ' Γ' b ∨ b = a := fun b ⟨j, es, q, st', e1, e2, e3⟩ => by
    rw [gs] at e1
    rw [gσ] at e3
    by_cases hj : i = j
    · rw [if_pos hj] at e3
      cases e3
      exact .inr rfl
    · rw [if_neg hj] at e1 e3
      exact .inl ⟨j, es, q, st', e1, e2, e3⟩
  have mu : ∀ b, Mu (σ'.set i (some (.ref a))) (Γ'.set i (.li ds false .own)) b → Mu σ' Γ' b ∨ b = a := fun b ⟨j, es, q, e1, e3⟩ => by
    rw [gs] at e1
    rw [gσ] at e3
    by_cases hj : i = j
    · rw [if_pos hj] at e3
      cases e3
      exact .inr rfl
    · rw [if_neg hj] at e1 e3
      exact .inl ⟨j, es, q, e1, e3⟩
  have av : ∀ b, Av (fun b => Ao' b ∧ b ≠ a) (σ'.set i (some (.ref a))) (Γ'.set i (.li ds false .own)) b → Av Ao' σ' Γ' b := fun b z => by
    rcases z with z | z
    · exact .inl z.1
    · rcases lv b z with z | z
      · exact .inr z
      · subst z; exact .inl ha
  have m : Mv (Av Ao' σ' Γ') (Av (fun b => Ao' b ∧ b ≠ a) (σ'.set i (some (.ref a))) (Γ'.set i (.li ds false .own))) H' H' := ⟨fun _ _ _ e => e, fun b _ _ z => av b z⟩
  refine ⟨⟨by rw [List.length_set, List.length_set]; exact r.len, fun b z => r.dom b z.1, fun j e' e => ?_, fun j es p' st e => ?_, fun j k es p1 st1 es2 p2 st2 b e1 n1 e2 n2 f1 f2 => ?_⟩, fun b z => ⟨s.ao b z, fun e => ?_⟩, fun b z => s.nw b z.1, s.fr, s.dm, fun b z => ?_, fun b z => ?_, fun j es st e => ?_, fun j es st e => ?_, fun j es p' e => ?_, by rw [List.length_set]; exact s.len⟩
  · rw [gs] at e
    rw [gσ]
    by_cases hj : i = j
    · rw [if_pos hj] at e
      cases e
    · rw [if_neg hj] at e ⊢
      obtain ⟨w, w1, w2⟩ := r.sh j e' e
      exact ⟨w, w1, w2.mv m⟩
  · rw [gs] at e
    rw [gσ]
    by_cases hj : i = j
    · rw [if_pos hj] at e ⊢
      cases e
      exact ⟨a, vs, rfl, hv, dv.mv m, fun _ z => z.2 rfl, fun z => by cases z⟩
    · rw [if_neg hj] at e ⊢
      obtain ⟨b, ws, w1, w2, w3, w4, w5⟩ := r.li j es p' st e
      exact ⟨b, ws, w1, w2, w3.mv m, fun z q => w4 z q.1, fun z y => w5 z (av b y)⟩
  · rw [gs] at e1 e2
    rw [gσ] at f1 f2
    by_cases hj : i = j
    · by_cases hk : i = k
      · rw [← hj, hk]
      · rw [if_pos hj] at f1
        cases f1
        rw [if_neg hk] at e2 f2
        exact absurd ⟨k, es2, p2, st2, e2, n2, f2⟩ nlv
    · by_cases hk : i = k
      · rw [if_pos hk] at f2
        cases f2
        rw [if_neg hj] at e1 f1
        exact absurd ⟨j, es, p1, st1, e1, n1, f1⟩ nlv
      · rw [if_neg hj] at e1 f1
        rw [if_neg hk] at e2 f2
        exact r.inj j k es p1 st1 es2 p2 st2 b e1 n1 e2 n2 f1 f2
  · subst e
    exact r0.dom b z na
  · rcases lv b z with z | z
    · exact s.lv b z
    · subst z; exact .inr na
  · rcases mu b z with z | z
    · exact s.mu b z
    · subst z; exact .inr na
  · obtain ⟨ds', st', g1, g2⟩ := s.pin j es st e
    by_cases hj : i = j
    · subst hj
      rw [ho] at g1
      cases g1
      cases (hn _ _ _ rfl).1
    · exact ⟨ds', st', by rw [gs, if_neg hj]; exact g1, by rw [gσ, if_neg hj]; exact g2⟩
  · rw [gs] at e
    by_cases hj : i = j
    · rw [if_pos hj] at e; cases e
    · rw [if_neg hj] at e
      exact s.pinb j es st e
  · obtain ⟨ds', g1, g2⟩ := s.lk j es p' e
    by_cases hj : i = j
    · subst hj
      rw [ho] at g1
      cases g1
      exact absurd rfl (hn _ _ _ rfl).2
    · exact ⟨ds', by rw [gs, if_neg hj]; exact g1, by rw [gσ, if_neg hj]; exact g2⟩
end
end Mir

set_option Elab.async false
set_option autoImplicit false
set_option linter.all false
set_option maxRecDepth 100000
set_option maxHeartbeats 4000000
/-! # Mir11: statements by their readings -/
namespace Mir
open PySem L2

/-! ## what a return hands back -/
def RetV (K : PySem.W.Frag) (σ0 : St) (H0 : Hp) (Γ0 : G) (Ao' : Addr → Prop) (σ' : St) (H' : Hp) (Γ' : G) (d : D) (own : Bool) (v : V) : Prop :=
  match own with
  | true => ∃ a ws ds, d = .list ds ∧ v = .ref a ∧ H' a = some (.lst ws) ∧ ¬ Av Ao' σ' Γ' a ∧ Rel K (fun b => Ao' b ∨ b = a) σ' H' Γ' ∧ DVs K (fun b => Av Ao' σ' Γ' b ∨ b = a) H' ds ws ∧ (H0 a = none ∨ ∃ (i : Nat) (es : List D), Γ0[i]? = some (.li es false .own) ∧ σ0[i]? = some (some (.ref a)))
  | false => DV K (Av Ao' σ' Γ') H' d v
section
variable {K : PySem.W.Frag} {Ao Ao' Ao1 : Addr → Prop} {σ σ' σ1 : St} {H H' H0 H1 : Hp} {Γ Γ' Γ1 : G}
theorem RetV.after {d : D} {own : Bool} {v : V} (s : Stp K Ao σ H Γ Ao1 σ1 H1 Γ1) (h : RetV K σ1 H1 Γ1 Ao' σ' H' Γ' d own v) : RetV K σ H Γ Ao' σ' H' Γ' d own v := by
  cases own with
  | false => exact h
  | true =>
    obtain ⟨a, ws, ds, e1, e2, e3, e4, e7, e5, e6⟩ := h
    refine ⟨a, ws, ds, e1, e2, e3, e4, e7, e5, ?_⟩
    rcases e6 with n | ⟨i, es, g1, g2⟩
    · exact .inl (s.bk a n)
    · rcases s.lv a ⟨i, es, false, .own, g1, by decide, g2⟩ with ⟨j, fs, p, st, k1, k2, k3⟩ | n
      · have no : ∀ {p' : Bool} {st' : LS} {fs' : List D}, Γ1[j]? = some (.li fs' p' st') → σ1[j]? = σ[j]? → p' = false ∧ st' = .own := fun {p' st' fs'} q1 q2 => by
          have q3 : σ1[j]? = some (some (.ref a)) := by rw [q2]; exact k3
          by_cases f : st' = .froz
          · subst f
            obtain ⟨b, us, w1, _, _, _, w5⟩ := s.rel.li j _ _ _ q1
            rw [q3] at w1
            cases w1
            exact absurd (.inr ⟨i, es, false, .own, g1, by decide, g2⟩) (w5 rfl)
          · have z := s.rel.inj i j _ _ _ _ _ _ a g1 (by decide) q1 f g2 q3
            subst z
            rw [g1] at q1
            cases q1
            exact ⟨rfl, rfl⟩
        cases p with
        | true =>
          obtain ⟨fs', st', q1, q2⟩ := s.pin j fs st k1
          cases (no q1 q2).1
        | false =>
          cases st with
          | own => exact .inr ⟨j, fs, k1, k3⟩
          | froz => exact absurd rfl k2
          | lock =>
            obtain ⟨fs', q1, q2⟩ := s.lk j fs false k1
            cases (no q1 q2).2
      · exact .inl n
/-- other slots of the same lists -/
theorem Rel.gen {Ao2 : Addr → Prop} (r : Rel K Ao σ H Γ) (hl : σ'.length = Γ'.length) (hd : ∀ a, Ao2 a → Av Ao σ Γ a) (hs : ∀ (j : Nat) s, Γ'[j]? = some s → s ≠ .emp → (∃ s0, Γ[j]? = some s0 ∧ σ'[j]? = σ[j]? ∧ (s = s0 ∨ ∃ ds p p' st st', s0 = .li ds p st ∧ s = .li ds p' st' ∧ st ≠ .froz ∧ st' ≠ .froz)) ∨ ∃ d v, s = .sh d ∧ σ'[j]? = some (some v) ∧ DV K (Av Ao σ Γ) H d v)
    (hx : ∀ (j : Nat) ds p st a, Γ'[j]? = some (.li ds p st) → st ≠ .froz → σ'[j]? = some (some (.ref a)) → ¬ Ao2 a) : Rel K Ao2 σ' H Γ' ∧ ∀ b, Av Ao2 σ' Γ' b → Av Ao σ Γ b := by
  have old : ∀ {j : Nat} {ds p st}, Γ'[j]? = some (.li ds p st) → σ'[j]? = σ[j]? ∧ ∃ p0 st0, Γ[j]? = some (.li ds p0 st0) ∧ ((st0 = .froz ∧ st = .froz) ∨ (st0 ≠ .froz ∧ st ≠ .froz)) := fun {j ds p st} e => by
    rcases hs j _ e (fun z => by cases z) with ⟨s0, e0, es, k⟩ | ⟨d, v, z, _⟩
    · rcases k with k | ⟨ds', q, q', t, t', k1, k2, k3, k4⟩
      · subst k
        by_cases f : st = .froz
        · exact ⟨es, p, st, e0, .inl ⟨f, f⟩⟩
        · exact ⟨es, p, st, e0, .inr ⟨f, f⟩⟩
      · cases k2
        subst k1
        exact ⟨es, q, t, e0, .inr ⟨k3, k4⟩⟩
    · cases z
  have lv : ∀ b, Lv σ' Γ' b → Lv σ Γ b := fun b ⟨j, es, q, st', e1, e2, e3⟩ => by
    obtain ⟨g2, p0, st0, g1, k | k⟩ := old e1
    · exact absurd k.2 e2
    · exact ⟨j, es, p0, st0, g1, k.1, by rw [← g2]; exact e3⟩
  have av : ∀ b, Av Ao2 σ' Γ' b → Av Ao σ Γ b := fun b z => z.elim (hd b) fun z => .inr (lv b z)
  have m : Mv (Av Ao σ Γ) (Av Ao2 σ' Γ') H H := ⟨fun _ _ _ e => e, fun b _ _ z => av b z⟩
  refine ⟨⟨hl, fun a z => r.avDom (hd a z), fun j d e => ?_, fun j es p st e => ?_, fun j k es p1 st1 es2 p2 st2 b e1 n1 e2 n2 f1 f2 => ?_⟩, av⟩
  · rcases hs j _ e (fun z => by cases z) with ⟨s0, e0, es, k⟩ | ⟨d', v, z1, z2, z3⟩
    · rcases k with k | ⟨_, _, _, _, _, _, k2, _⟩
      · subst k
        obtain ⟨v, w1, w2⟩ := r.sh j d e0
        exact ⟨v, by rw [es]; exact w1, w2.mv m⟩
      · cases k2
    · cases z1
      exact ⟨v, z2, z3.mv m⟩
  · obtain ⟨g2, p0, st0, g1, k⟩ := old e
    obtain ⟨b, ws, w1, w2, w3, w4, w5⟩ := r.li j es p0 st0 g1
    have w1' : σ'[j]? = some (some (.ref b)) := by rw [g2]; exact w1
    refine ⟨b, ws, w1', w2, w3.mv m, fun f => hx j es p st b e f w1', fun f y => ?_⟩
    rcases k with k | k
    · exact w5 k.1 (av b y)
    · exact k.2 f
  · obtain ⟨h1, q1, t1, g1, k1⟩ := old e1
    obtain ⟨h2, q2, t2, g2, k2⟩ := old e2
    have u1 : t1 ≠ .froz := k1.elim (fun k => absurd k.2 n1) fun k => k.1
    have u2 : t2 ≠ .froz := k2.elim (fun k => absurd k.2 n2) fun k => k.1
    exact r.inj j k es q1 t1 es2 q2 t2 b g1 u1 g2 u2 (by rw [← h1]; exact f1) (by rw [← h2]; exact f2)
end
/-- what is wanted behind a statement -/
def EndK (K : PySem.W.Frag) (D0 : Ends) (Ao : Addr → Prop) (σ : St) (H : Hp) (Γ : G) (r : Fl × G) : Prop :=
  ∀ Ao' σ' H', Stp K Ao σ H Γ Ao' σ' H' r.2 → match r.1 with
    | .nx => D0.nx σ' H'
    | .bk => D0.bk σ' H'
    | .ct => D0.ct σ' H'
    | .rt d own => ∀ v, RetV K σ H Γ Ao' σ' H' r.2 d own v → D0.rt v H'
def tS (K : PySem.W.Frag) (P : Par) (x : Sx) : TS := fun D0 σ H => ∃ Ao Γ, Rel K Ao σ H Γ ∧ Out P σ H Γ (ex P.S x Γ) (EndK K D0 Ao σ H Γ)
section
variable {X : Cx} {P : Par} {K : PySem.W.Frag} {Ao Ao' Ao1 : Addr → Prop} {σ σ' σ1 : St} {H H' H0 H1 : Hp} {Γ Γ' Γ1 : G} {D0 : Ends}
theorem EndK.after {r : Fl × G} (s : Stp K Ao σ H Γ Ao1 σ1 H1 Γ1) (h : EndK K D0 Ao σ H Γ r) : EndK K D0 Ao1 σ1 H1 Γ1 r := fun Ao' σ' H' t => by
  have z := h Ao' σ' H' (s.trans t)
  revert z
  cases r.1 with
  | nx => exact id
  | bk => exact id
  | ct => exact id
  | rt d own => exact fun z v q => z v (q.after s)
/-- go on from a later place -/
theorem tS_at {x : Sx} (s : Stp K Ao σ H Γ Ao1 σ1 H1 Γ1) (h : Out P σ H Γ (ex P.S x Γ1) (EndK K D0 Ao σ H Γ)) : tS K P x D0 σ1 H1 := ⟨Ao1, Γ1, s.rel, Out.later s h fun r _ q => q.after s⟩
theorem ms_skip : PSs X [] (tS X.K P .skip) := pss_nil.imp fun D0 σ H q => by
  obtain ⟨Ao, Γ, r, q⟩ := q
  unfold ex at q
  exact q Ao σ H (.refl r)
theorem ms_pass {pos : Pos} : PS X (.Pass pos) (tS X.K P .skip) := ps_pass.imp fun D0 σ H q => by
  obtain ⟨Ao, Γ, r, q⟩ := q
  unfold ex at q
  exact q Ao σ H (.refl r)
theorem ms_doc {z : Str} {j : Nat} {p1 p2 : Pos} : PS X (.Expr (.Constant (.str z) j p1) p2) (tS X.K P .skip) := ps_doc.imp fun D0 σ H q => by
  obtain ⟨Ao, Γ, r, q⟩ := q
  unfold ex at q
  exact q Ao σ H (.refl r)
theorem ms_brk {pos : Pos} : PS X (.Break pos) (tS X.K P .brk) := ps_break.imp fun D0 σ H q => by
  obtain ⟨Ao, Γ, r, q⟩ := q
  unfold ex at q
  exact q Ao σ H (.refl r)
theorem ms_cnt {pos : Pos} : PS X (.Continue pos) (tS X.K P .cnt) := ps_continue.imp fun D0 σ H q => by
  obtain ⟨Ao, Γ, r, q⟩ := q
  unfold ex at q
  exact q Ao σ H (.refl r)
theorem ms_bad {st : Stmt} : PS X st (tS X.K P .bad) := ps_never.imp fun D0 σ H q => by
  obtain ⟨Ao, Γ, r, q⟩ := q
  unfold ex at q
  exact q.elim
theorem ms_cons {st : Stmt} {rest : List Stmt} {a b : Sx} (h1 : PS X st (tS X.K P a)) (h2 : PSs X rest (tS X.K P b)) : PSs X (st :: rest) (tS X.K P (.seq a b)) := (pss_cons h1 h2).imp fun D0 σ H q => by
  obtain ⟨Ao, Γ, r, q⟩ := q
  unfold ex at q
  rw [Out.bind] at q
  refine ⟨Ao, Γ, r, q.imp fun z e h => ?_⟩
  obtain ⟨f, Γ1⟩ := z
  cases f with
  | nx => exact fun Ao1 σ1 H1 s => tS_at s h
  | bk => exact fun Ao1 σ1 H1 s => h Ao1 σ1 H1 s
  | ct => exact fun Ao1 σ1 H1 s => h Ao1 σ1 H1 s
  | rt d o => exact fun Ao1 σ1 H1 s v q => h Ao1 σ1 H1 s v q
theorem ms_ife {c : Ex} {a b : Sx} {ec : Expr} {ea eb : List Stmt} {pos : Pos} (hc : PT X ec (tT X.K P c)) (ha : PSs X ea (tS X.K P a)) (hb : PSs X eb (tS X.K P b)) : PS X (.If ec ea eb pos) (tS X.K P (.ife c a b)) := (ps_if hc ha hb).imp fun D0 σ H q => by
  obtain ⟨Ao, Γ, r, q⟩ := q
  unfold ex at q
  rw [tst_bind (P := P) fun t Γ1 => if t = true then ex P.S a Γ1 else ex P.S b Γ1, Out.bind] at q
  refine tT_go r q fun z Ao1 H1 k s => ?_
  cases e : z.1 with
  | true =>
    rw [e, if_pos rfl] at k
    exact tS_at s.s k
  | false =>
    rw [e, if_neg Bool.false_ne_true] at k
    exact tS_at s.s k
theorem ms_exp {e : Expr} {a : Ex} {pos : Pos} (he : PE X e (tE X.K P a)) (hs : swapsWith e none pos.line X.env = pure false) : PS X (.Expr e pos) (tS X.K P (.exp a)) := (ps_expr he hs).imp fun D0 σ H q => by
  obtain ⟨Ao, Γ, r, q⟩ := q
  unfold ex at q
  rw [Out.bind] at q
  exact tE_go r q fun z Ao1 x H1 e1 h1 s1 or1 => h1 Ao1 σ H1 s1.s
theorem ms_retN {pos : Pos} : PS X (.Return none pos) (tS X.K P .retN) := ps_retN.imp fun D0 σ H q => by
  obtain ⟨Ao, Γ, r, q⟩ := q
  unfold ex at q
  exact q Ao σ H (.refl r) .non (by show DV _ _ _ _ _; unfold DV; rfl)
theorem freeze_nx {Γ : G} {i : Nat} : ∀ c, freeze Γ i ≠ .exc c := fun c e => by
  unfold freeze at e
  split at e <;> cases e
/-- the name whose list is handed back forgets it -/
theorem Stp.empty (s : Stp K Ao σ H0 Γ Ao' σ' H' Γ') {i : Nat} {ds : List D} (h : Γ'[i]? = some (.li ds false .own)) : Stp K Ao σ H0 Γ Ao' σ' H' (Γ'.set i .emp) := by
  have r := s.rel
  have gs : ∀ j, (Γ'.set i .emp)[j]? = if i = j then some .emp else Γ'[j]? := fun j => get_set h
  have lv : ∀ b, Lv σ' (Γ'.set i .emp) b → Lv σ' Γ' b := fun b ⟨j, es, q, st', e1, e2, e3⟩ => by
    rw [gs] at e1
    by_cases hj : i = j
    · rw [if_pos hj] at e1; cases e1
    · rw [if_neg hj] at e1
      exact ⟨j, es, q, st', e1, e2, e3⟩
  have mu : ∀ b, Mu σ' (Γ'.set i .emp) b → Mu σ' Γ' b := fun b ⟨j, es, q, e1, e3⟩ => by
    rw [gs] at e1
    by_cases hj : i = j
    · rw [if_pos hj] at e1; cases e1
    · rw [if_neg hj] at e1
      exact ⟨j, es, q, e1, e3⟩
  have av : ∀ b, Av Ao' σ' (Γ'.set i .emp) b → Av Ao' σ' Γ' b := fun b z => z.imp id (lv b)
  have m : Mv (Av Ao' σ' Γ') (Av Ao' σ' (Γ'.set i .emp)) H' H' := ⟨fun _ _ _ e => e, fun b _ _ z => av b z⟩
  refine ⟨⟨by rw [List.length_set]; exact r.len, r.dom, fun j e' e => ?_, fun j es p' st e => ?_, fun j k es p1 st1 es2 p2 st2 b e1 n1 e2 n2 f1 f2 => ?_⟩, s.ao, s.nw, s.fr, s.dm, fun b z => s.lv b (lv b z), fun b z => s.mu b (mu b z), fun j es st e => ?_, fun j es st e => ?_, fun j es p' e => ?_, by rw [List.length_set]; exact s.len⟩
  · rw [gs] at e
    by_cases hj : i = j
    · rw [if_pos hj] at e; cases e
    · rw [if_neg hj] at e
      obtain ⟨w, w1, w2⟩ := r.sh j e' e
      exact ⟨w, w1, w2.mv m⟩
  · rw [gs] at e
    by_cases hj : i = j
    · rw [if_pos hj] at e; cases e
    · rw [if_neg hj] at e
      obtain ⟨b, ws, w1, w2, w3, w4, w5⟩ := r.li j es p' st e
      exact ⟨b, ws, w1, w2, w3.mv m, w4, fun z y => w5 z (av b y)⟩
  · rw [gs] at e1 e2
    by_cases hj : i = j
    · rw [if_pos hj] at e1; cases e1
    · by_cases hk : i = k
      · rw [if_pos hk] at e2; cases e2
      · rw [if_neg hj] at e1
        rw [if_neg hk] at e2
        exact r.inj j k es p1 st1 es2 p2 st2 b e1 n1 e2 n2 f1 f2
  · obtain ⟨ds', st', g1, g2⟩ := s.pin j es st e
    by_cases hj : i = j
    · subst hj
      rw [h] at g1
      cases g1
    · exact ⟨ds', st', by rw [gs, if_neg hj]; exact g1, g2⟩
  · rw [gs] at e
    by_cases hj : i = j
    · rw [if_pos hj] at e; cases e
    · rw [if_neg hj] at e
      exact s.pinb j es st e
  · obtain ⟨ds', g1, g2⟩ := s.lk j es p' e
    by_cases hj : i = j
    · subst hj
      rw [h] at g1
      cases g1
    · exact ⟨ds', by rw [gs, if_neg hj]; exact g1, g2⟩
theorem retOf_nx {r : Opd × G} : ∀ c, retOf r ≠ .exc c := fun c e => by
  unfold retOf at e
  have key : ∀ i, (freeze r.2 i).bind (fun z => R.ok (Fl.rt z.1 false, z.2)) ≠ .exc c := fun i e => by
    cases q : freeze r.2 i with
    | ok z => rw [q] at e; cases e
    | exc c' => exact freeze_nx c' q
    | no => rw [q] at e; cases e
  split at e
  · cases e
  · cases e
  · split at e
    · cases e
    · exact key _ e
theorem ms_ret {e : Expr} {a : Ex} {pos : Pos} (he : PE X e (tE X.K P a)) : PS X (.Return (some e) pos) (tS X.K P (.ret a)) := (ps_ret he).imp fun D0 σ H q => by
  obtain ⟨Ao, Γ, r, q⟩ := q
  unfold ex at q
  rw [Out.bind] at q
  refine tE_go r q fun z Ao1 x H1 e1 h1 s1 or1 => ?_
  obtain ⟨o, Γ1⟩ := z
  cases o with
  | val d => exact h1 Ao1 σ H1 s1.s x or1
  | tmp ds =>
    obtain ⟨b, vs, rfl, n, hb, hv, dv⟩ := or1
    have s2 : Stp X.K Ao σ H Γ (fun c => Ao1 c ∧ c ≠ b) σ H1 Γ1 := s1.s.less (fun c q => ⟨s1.s.ao c q, fun w => r.dom c q (by rw [w]; exact n)⟩) fun c q => q.1
    refine h1 (fun c => Ao1 c ∧ c ≠ b) σ H1 s2 _ ⟨b, vs, ds, rfl, rfl, hv, fun z => ?_, s1.rel.drop fun c q => q.elim (fun q => q.1) fun q => by subst q; exact hb, dv.mv ⟨fun _ _ _ e => e, fun c _ _ z => ?_⟩, .inl n⟩
    · rcases z with z | z
      · exact z.2 rfl
      · exact s1.rel.lvAo z hb
    · rcases z with z | z
      · exact z.imp (fun q => q.1) id
      · subst z; exact .inl hb
  | slot i =>
    obtain ⟨g1, sl, g2, g3⟩ := or1
    have fz : ∀ (Q : Fl × G → Prop), Out P σ H Γ ((freeze Γ1 i).bind fun z => R.ok (Fl.rt z.1 false, z.2)) Q → ∃ z, freeze Γ1 i = .ok z ∧ Q (.rt z.1 false, z.2) := fun Q h => by
      cases e : freeze Γ1 i with
      | ok z => rw [e] at h; exact ⟨z, rfl, h⟩
      | exc c => exact absurd e (freeze_nx c)
      | no => rw [e] at h; exact h.elim
    have gen : (∃ z, freeze Γ1 i = .ok z ∧ EndK X.K D0 Ao σ H Γ (.rt z.1 false, z.2)) → D0.rt x H1 := fun ⟨z, ez, k⟩ => by
      obtain ⟨v, w1, w2, w3⟩ := freeze_ok s1.rel ez
      rw [g1] at w1
      cases w1
      exact k Ao1 σ H1 (s1.trans w3).s x w2
    have h1 : Out P σ H Γ (match Γ1[i]? with
      | some (.li ds false .own) => R.ok (Fl.rt (.list ds) true, Γ1.set i .emp)
      | _ => (freeze Γ1 i).bind fun z => R.ok (Fl.rt z.1 false, z.2)) (EndK X.K D0 Ao σ H Γ) := h1
    split at h1
    · rename_i ds e
      obtain ⟨b, vs, w1, w2, w3, w4, _⟩ := s1.rel.li i ds false .own e
      rw [g1] at w1
      cases w1
      have lvb : Lv σ Γ1 b := ⟨i, ds, false, .own, e, by decide, g1⟩
      have gs : ∀ j, (Γ1.set i .emp)[j]? = if i = j then some .emp else Γ1[j]? := fun j => get_set e
      refine h1 Ao1 σ H1 (s1.s.empty e) _ (RetV.after s1.s (d := .list ds) (own := true) ⟨b, vs, ds, rfl, rfl, w2, fun z => ?_, (s1.rel.gen (Ao2 := fun c => Ao1 c ∨ c = b) (σ' := σ) (Γ' := Γ1.set i .emp) (by rw [List.length_set]; exact s1.rel.len) (fun c q => q.elim .inl fun q => by subst q; exact .inr lvb) (fun j s ej nj => by
        rw [gs] at ej
        by_cases hj : i = j
        · rw [if_pos hj] at ej; cases ej; exact absurd rfl nj
        · rw [if_neg hj] at ej
          exact .inl ⟨s, ej, rfl, .inl rfl⟩) (fun j es p st c ej nf ec q => by
        rw [gs] at ej
        by_cases hj : i = j
        · rw [if_pos hj] at ej; cases ej
        · rw [if_neg hj] at ej
          rcases q with q | q
          · exact s1.rel.lvAo ⟨j, es, p, st, ej, nf, ec⟩ q
          · subst q
            exact hj (s1.rel.inj i j _ _ _ _ _ _ c e (by decide) ej nf g1 ec))).1, w3.mv ⟨fun _ _ _ e => e, fun c _ _ z => ?_⟩, .inr ⟨i, ds, e, g1⟩⟩)
      · rcases z with z | ⟨j, es, p, st, e1, e2, e3⟩
        · exact w4 (by decide) z
        · rw [gs] at e1
          by_cases hj : i = j
          · rw [if_pos hj] at e1; cases e1
          · rw [if_neg hj] at e1
            exact hj (s1.rel.inj i j _ _ _ _ _ _ b e (by decide) e1 e2 g1 e3)
      · rcases z with z | z
        · rcases z with z | ⟨j, es, p, st, e1, e2, e3⟩
          · exact .inl z
          · rw [gs] at e1
            by_cases hj : i = j
            · rw [if_pos hj] at e1; cases e1
            · rw [if_neg hj] at e1
              exact .inr ⟨j, es, p, st, e1, e2, e3⟩
        · subst z; exact .inr lvb
    · exact gen (fz _ h1)

/-! ## stores -/
theorem keep_set {a : Ex} {i : Nat} (r : Rel K Ao σ H Γ) {k : G → Prop} {T : V → Hp → Prop} (h : Out P σ H Γ ((ev P.S a Γ).bind fun r => (keep r).bind fun k => setS k.2 i k.1) k)
    (g : ∀ Γ2 Ao2 x H1, k Γ2 → Stp K Ao σ H Γ Ao2 (σ.set i (some x)) H1 Γ2 → T x H1) : tE K P a σ H T := by
  rw [Out.bind] at h
  refine tE_go r h fun z Ao1 x H1 e1 h1 s1 or1 => ?_
  obtain ⟨o, Γ1⟩ := z
  have sx : ∀ (s : Slot) (Γ' : G), Out P σ H Γ (setS Γ' i s) k → ∃ Γ2, setS Γ' i s = .ok Γ2 ∧ k Γ2 := fun s Γ' h => by
    cases e : setS Γ' i s with
    | ok Γ2 => rw [e] at h; exact ⟨Γ2, rfl, h⟩
    | exc c =>
      unfold setS at e
      split at e <;> cases e
    | no => rw [e] at h; exact h.elim
  cases o with
  | val d =>
    obtain ⟨Γ2, e2, k2⟩ := sx _ _ h1
    exact g Γ2 Ao1 x H1 k2 (s1.s.set_sh e2 or1)
  | tmp ds =>
    obtain ⟨Γ2, e2, k2⟩ := sx _ _ h1
    obtain ⟨b, vs, rfl, n, hb, hv, dv⟩ := or1
    exact g Γ2 _ _ H1 k2 (Stp.set_li r s1.s e2 n hb hv dv)
  | slot j =>
    have h1 : Out P σ H Γ (((freeze Γ1 j).bind fun z => R.ok (Slot.sh z.1, z.2)).bind fun k => setS k.2 i k.1) k := h1
    cases e : freeze Γ1 j with
    | exc c => exact absurd e (freeze_nx c)
    | no => rw [e] at h1; exact h1.elim
    | ok z =>
      rw [e] at h1
      obtain ⟨Γ2, e2, k2⟩ := sx _ _ h1
      obtain ⟨v, w1, w2, w3⟩ := freeze_ok s1.rel e
      obtain ⟨g1, _⟩ := or1
      rw [g1] at w1
      cases w1
      exact g Γ2 Ao1 x H1 k2 ((s1.trans w3).s.set_sh e2 w2)
theorem ms_set {i : Nat} {x : Str} {e : Expr} {a : Ex} {pos p2 : Pos} (hN : X.N.Nodup) (hi : X.N[i]? = some x) (hx : Loc X.env.scope x) (he : PE X e (tE X.K P a)) (hs : swapsWith e (some (.Name x p2)) pos.line X.env = pure false) (hf : X.fn x = true ∨ X.env.scope.names.lookup x = some .local) :
    PS X (.Assign [.Name x p2] e pos) (tS X.K P (.asg (.nm i) a)) := (ps_set hN hi hx he hs hf).imp fun D0 σ H q => by
  obtain ⟨Ao, Γ, r, q⟩ := q
  unfold ex at q
  have e : ((ev P.S a Γ).bind fun r => (keep r).bind fun k => (setS k.2 i k.1).bind fun Γ' => R.ok (Fl.nx, Γ')) = ((ev P.S a Γ).bind fun r => (keep r).bind fun k => setS k.2 i k.1).bind fun Γ' => R.ok (Fl.nx, Γ') := by
    rw [bind_assoc]
    congr 1
    funext r
    rw [bind_assoc]
  rw [e, Out.bind] at q
  exact keep_set r q fun Γ2 Ao2 x H1 k s => k Ao2 _ H1 s
/-- several names -/
def gNs : List Nat → TGs
  | [] => gNil
  | i :: is => gCons (gName i) (gNs is)
theorem bindNs_ok : ∀ (is : List Nat) {ds : List D} {vs : List V} {σ' : St} {Γ' Γ2 : G}, Stp K Ao σ H0 Γ Ao' σ' H' Γ' → bindNs is ds Γ' = .ok Γ2 → DVs K (Av Ao' σ' Γ') H' ds vs → ∀ Q : St → Hp → Prop, (∀ σ2, Stp K Ao σ H0 Γ Ao' σ2 H' Γ2 → (∀ j, j ∉ is → σ2[j]? = σ'[j]? ∧ Γ2[j]? = Γ'[j]?) → Q σ2 H') → gNs is vs σ' H' Q
  | [], [], vs, σ', Γ', Γ2, s, e, d, Q, q => by
    cases e
    unfold DVs at d
    subst d
    exact ⟨rfl, q σ' s fun _ _ => ⟨rfl, rfl⟩⟩
  | [], _ :: _, _, _, _, _, _, e, _, _, _ => by cases e
  | _ :: _, [], _, _, _, _, _, e, _, _, _ => by cases e
  | i :: is, d :: ds, vs, σ', Γ', Γ2, s, e, dv, Q, q => by
    unfold DVs at dv
    obtain ⟨v, w, rfl, d1, d2⟩ := dv
    obtain ⟨Γ1, e1, e2⟩ := Mir.R.bind_eq_ok (show (setS Γ' i (.sh d)).bind _ = .ok Γ2 from e)
    have s1 := s.set_sh e1 d1
    obtain ⟨rfl, o, ho, hn⟩ := setS_ok e1
    refine ⟨v, w, rfl, bindNs_ok is s1 e2 (d2.mv ⟨fun _ _ _ e => e, fun b _ _ z => ?_⟩) Q fun σ2 t2 hσ => q σ2 t2 fun j hj => ?_⟩
    rotate_left
    · rw [List.mem_cons, not_or] at hj
      obtain ⟨h1, h2⟩ := hσ j hj.2
      rw [h1, h2, List.getElem?_set_ne (Ne.symm hj.1), List.getElem?_set_ne (Ne.symm hj.1)]
      exact ⟨rfl, rfl⟩
    rcases z with z | ⟨j, es, p, st, f1, f2, f3⟩
    · exact .inl z
    · by_cases hj : i = j
      · rw [get_set ho, if_pos hj] at f1; cases f1
      · rw [get_set ho, if_neg hj] at f1
        rw [List.getElem?_set_ne hj] at f3
        exact .inr ⟨j, es, p, st, f1, f2, f3⟩
theorem bindNs_nx : ∀ (is : List Nat) (ds : List D) (Γ : G) (c : Nat), bindNs is ds Γ ≠ .exc c
  | [], [], _, _, e => by cases e
  | [], _ :: _, _, _, e => by cases e
  | _ :: _, [], _, _, e => by cases e
  | i :: is, d :: ds, Γ, c, e => by
    unfold bindNs at e
    cases q : setS Γ i (.sh d) with
    | ok Γ' => rw [q] at e; exact bindNs_nx is ds Γ' c e
    | no => rw [q] at e; cases e
    | exc c' =>
      unfold setS at q
      split at q <;> cases q
theorem bindTg_nx {tg : Tg} {d : D} {Γ : G} : ∀ c, bindTg tg d Γ ≠ .exc c := fun c e => by
  unfold bindTg at e
  split at e
  · unfold setS at e
    split at e <;> cases e
  · split at e
    · exact bindNs_nx _ _ _ _ e
    · cases e
  · cases e
/-- a target, its reading -/
def gTg (K : PySem.W.Frag) : Tg → TG
  | .nm i => gName i
  | .tp is => gTup K is.length (gNs is)
def tgIdx : Tg → List Nat
  | .nm i => [i]
  | .tp is => is
theorem gTg_ok {tg : Tg} {d : D} {v : V} {Γ2 : G} (s : Stp K Ao σ H0 Γ Ao' σ' H' Γ') (e : bindTg tg d Γ' = .ok Γ2) (dv : DV K (Av Ao' σ' Γ') H' d v) {Q : St → Hp → Prop} (q : ∀ σ2, Stp K Ao σ H0 Γ Ao' σ2 H' Γ2 → (∀ j, j ∉ tgIdx tg → σ2[j]? = σ'[j]? ∧ Γ2[j]? = Γ'[j]?) → Q σ2 H') : gTg K tg v σ' H' Q := by
  cases tg with
  | nm i =>
    refine q _ (s.set_sh e dv) fun j hj => ?_
    have hj : j ≠ i := fun z => hj (List.mem_singleton.mpr z)
    obtain ⟨rfl, _⟩ := setS_ok (show setS Γ' i (.sh d) = .ok Γ2 from e)
    rw [List.getElem?_set_ne (Ne.symm hj), List.getElem?_set_ne (Ne.symm hj)]
    exact ⟨rfl, rfl⟩
  | tp is =>
    cases d with
    | tup ds =>
      have e : (if ds.length = is.length then bindNs is ds Γ' else R.no) = .ok Γ2 := e
      split at e
      · rename_i hl
        unfold DV at dv
        obtain ⟨b, vs, rfl, hb, dvs⟩ := dv
        exact ⟨b, vs, rfl, hb.sq, by rw [dvs.length, hl], bindNs_ok is s e dvs Q q⟩
      · cases e
    | _ => cases e
theorem ms_asgT {is : List Nat} {tg e : Expr} {a : Ex} {pos : Pos} (he : PE X e (tE X.K P a)) (hg : PG X tg (gTg X.K (.tp is))) (hs : swapsWithSole [tg] e pos.line X.env = pure false) (hw : swappedStores [tg] e X.env = pure none) (h1 : (assignEach [tg] X.env).map (·.2) = [assign tg X.env]) :
    PS X (.Assign [tg] e pos) (tS X.K P (.asg (.tp is) a)) := (ps_asg he hg hs hw h1).imp fun D0 σ H q => by
  obtain ⟨Ao, Γ, r, q⟩ := q
  unfold ex at q
  rw [← bind_assoc, Out.bind] at q
  refine tV_go r q fun z Ao1 x H1 h1 s1 dv => ?_
  cases e : bindTg (.tp is) z.1 z.2 with
  | ok Γ2 =>
    rw [e] at h1
    exact gTg_ok s1.s e dv fun σ2 s2 _ => h1 Ao1 σ2 H1 s2
  | exc c => exact absurd e (bindTg_nx c)
  | no => rw [e] at h1; exact h1.elim
theorem ms_sto {i : Nat} {x : Str} {xe e : Expr} {b a : Ex} {pos p1 p2 : Pos} (hv : PE X (.Name x p1) (tVar i)) (hx : PE X xe (tE X.K P b)) (he : PE X e (tE X.K P a)) (hs : swapsWithSole [.Subscript (.Name x p1) xe p2] e pos.line X.env = pure false) (hw : swappedStores [.Subscript (.Name x p1) xe p2] e X.env = pure none)
    (hp : ∀ l u s p, xe ≠ .Slice l u s p) :
    PS X (.Assign [.Subscript (.Name x p1) xe p2] e pos) (tS X.K P (.sto i b a)) := (ps_asg he (pg_sub hv hx set_list (by intro v; cases xe <;> first | rfl | exact absurd rfl (hp _ _ _ _))) hs hw (by rfl)).imp fun D0 σ H q => by
  obtain ⟨Ao, Γ, r, q⟩ := q
  unfold ex at q
  rw [← bind_assoc, Out.bind] at q
  refine tV_go r q fun z Ao1 w H1 h1 s1 dv => ?_
  split at h1
  · rename_i hl
    obtain ⟨c, us, g1, g2⟩ := isLi_ok s1.rel hl
    rw [Out.bind] at h1
    refine ⟨.ref c, g1, Ao1, z.2, s1.rel, Out.later s1.s h1 fun y ey h2 Ao2 ix H2 s2 or2 => ?_⟩
    have pv := or2.pv s2.rel
    have s := s1.trans s2
    split at h2
    · rename_i ds p k e1 e2
      rw [e2] at pv
      split at h2
      · rename_i j ej
        obtain ⟨c', vs, k1, k2, k3, _⟩ := s2.rel.li i ds p .own e1
        rw [g1] at k1
        cases k1
        have dv2 := DV.mv s2.s.mv dv
        refine ⟨c, vs, k, j, rfl, pv_int pv, k2, by rw [k3.length]; exact ej, ?_⟩
        exact h2 Ao2 σ _ (s.trans (StE.put s.rel e1 g1 (k3.set j dv2))).s
      · exact h2.elim
    · exact h2.elim
  · exact h1.elim
theorem ms_app {i : Nat} {x : Str} {e : Expr} {a : Ex} {pos p ap cp : Pos} (hv : PE X (.Name x p) (tVar i)) (hl : (ap.endLine == cp.line) = true) (hs : noStar e = true) (h : PE X e (tE X.K P a)) : PS X (.Expr (.Call (.Attribute (.Name x p) "append" ap) [e] [] cp) pos) (tS X.K P (.app i a)) :=
  (ps_expr (pe_bm (T := "list") (id := "list.append") PySem.F.plainAttrs_list PySem.F.slot_list_append (by rfl) mt_append hv (pa_cons h pa_nil (star_cons (noStar_ne hs))) (by rfl) (by rw [star_cons (noStar_ne hs)]; rfl) hl (star_cons (noStar_ne hs)) (by rfl)) (by rfl)).imp fun D0 σ H q => by
    obtain ⟨Ao, Γ, r, q⟩ := q
    unfold ex at q
    split at q
    · rename_i hli
      obtain ⟨b, ws, g1, g2⟩ := isLi_ok r hli
      rw [← bind_assoc, Out.bind] at q
      refine ⟨.ref b, g1, .inl ⟨rfl, ws, .inl (.inl g2)⟩, tV_go r q fun z Ao1 x H1 h1 s1 dv => ?_⟩
      split at h1
      · rename_i ds p ez
        split at h1
        · rename_i hk
          obtain ⟨b', vs, g3, g4, dvs, _⟩ := s1.rel.li i ds p .own ez
          rw [g1] at g3
          cases g3
          refine ⟨b, vs, x, rfl, rfl, g4, by rw [dvs.length]; exact line_lt hk, ?_⟩
          exact h1 Ao1 σ _ (s1.trans (StE.put s1.rel ez g1 (dvs.append (DVs.cons dv DVs.nil)))).s
        · exact h1.elim
      · exact h1.elim
    · exact q.elim
theorem ms_par {i j : Nat} {x y : Str} {e1 e2 : Expr} {a b : Ex} {px py pt pos : Pos} {kt k2 : Nat} {pt2 : Pos} (hc : X.calm = true) (hN : X.N.Nodup) (hi : X.N[i]? = some x) (hj : X.N[j]? = some y) (hij : i ≠ j) (hx : X.env.scope.names.lookup x = some .local) (hy : X.env.scope.names.lookup y = some .local)
    (n1 : noStar e1 = true) (n2 : noStar e2 = true) (h1 : PE X e1 (tE X.K P a)) (h2 : PE X e2 (tE X.K P b)) (hw : swappedStores [.Tuple [.Name x px, .Name y py] kt pt] (.Tuple [e1, e2] k2 pt2) X.env = pure (some [x, y])) :
    PS X (.Assign [.Tuple [.Name x px, .Name y py] kt pt] (.Tuple [e1, e2] k2 pt2) pos) (tS X.K P (.par i j a b)) :=
  (ps_par hc hN hi hj hij hx hy (pa_cons h1 (pa_cons h2 pa_nil (star_cons (noStar_ne n2))) (star_cons (noStar_ne n1))) hw (by rfl)).imp fun D0 σ H q => by
    obtain ⟨Ao, Γ, r, q⟩ := q
    unfold ex at q
    rw [Out.bind] at q
    refine tE_go r q fun z1 Ao1 v H1 ez1 q1 s1 or1 => ?_
    obtain ⟨o1, Γ1⟩ := z1
    -- what the first name will get
    have kx : ∀ {o : Opd} {Γ1 : G} {k : Slot × G → Prop}, Out P σ H Γ (keep (o, Γ1)) k → ∃ z, keep (o, Γ1) = .ok z ∧ k z := fun {o Γ1 k} h => by
      cases e : keep (o, Γ1) with
      | ok z => rw [e] at h; exact ⟨z, rfl, h⟩
      | no => rw [e] at h; exact h.elim
      | exc c =>
        cases o with
        | val d => cases e
        | tmp ds => cases e
        | slot j =>
          have e : ((freeze Γ1 j).bind fun z => R.ok (Slot.sh z.1, z.2)) = R.exc c := e
          cases e2 : freeze Γ1 j with
          | ok z => rw [e2] at e; cases e
          | exc c => exact absurd e2 (freeze_nx c)
          | no => rw [e2] at e; cases e
    rw [Out.bind] at q1
    obtain ⟨⟨sl1, Γ1'⟩, ek1, q1⟩ := kx q1
    rw [Out.bind] at q1
    -- the operand as it is kept
    have hold : ∀ {o : Opd} {v : V} {Ao1 : Addr → Prop} {H0 H1 : Hp} {Γ1 Γ1' : G} {sl : Slot} {Aos : Addr → Prop} {Γs : G}, StE X.K Aos σ H0 Γs Ao1 H1 Γ1 → OR X.K H0 Ao1 σ H1 Γ1 o v → keep (o, Γ1) = .ok (sl, Γ1') → ∃ o', StE X.K Aos σ H0 Γs Ao1 H1 Γ1' ∧ OR X.K H0 Ao1 σ H1 Γ1' o' v ∧ ((∃ d, sl = .sh d ∧ o' = .val d) ∨ ∃ ds, sl = .li ds false .own ∧ o' = .tmp ds) := fun {o v Ao1 H0 H1 Γ1 Γ1' sl Aos Γs} s1 or1 ek => by
      cases o with
      | val d => cases ek; exact ⟨.val d, s1, or1, .inl ⟨d, rfl, rfl⟩⟩
      | tmp ds => cases ek; exact ⟨.tmp ds, s1, or1, .inr ⟨ds, rfl, rfl⟩⟩
      | slot j =>
        obtain ⟨z, e1, e2⟩ := Mir.R.bind_eq_ok (show ((freeze Γ1 j).bind fun z => R.ok (Slot.sh z.1, z.2)) = R.ok (sl, Γ1') from ek)
        cases e2
        obtain ⟨w, w1, w2, w3⟩ := freeze_ok s1.rel e1
        obtain ⟨g1, _⟩ := or1
        rw [g1] at w1
        cases w1
        exact ⟨.val z.1, s1.trans w3, w2, .inl ⟨z.1, rfl, rfl⟩⟩
    obtain ⟨o1', s1', or1', kind1⟩ := hold s1 or1 ek1
    refine ⟨Ao1, Γ1', s1'.rel, Out.later s1'.s q1 fun z2 ez2 q2 Ao2 w H2 s2 or2 => ?_⟩
    obtain ⟨o2, Γ2⟩ := z2
    rw [Out.bind] at q2
    obtain ⟨⟨sl2, Γ2'⟩, ek2, q2⟩ := kx q2
    obtain ⟨o2', s2', or2', kind2⟩ := hold s2 or2 ek2
    have s := s1'.trans s2'
    have p1 := or1'.st s1'.rel s2'
    refine ⟨v, w, rfl, ?_⟩
    cases e3 : setS Γ2' i sl1 with
    | no => rw [e3] at q2; exact q2.elim
    | exc c =>
      unfold setS at e3
      split at e3 <;> cases e3
    | ok Γ3 =>
      rw [e3] at q2
      have q3 : Out P σ H Γ ((setS Γ3 j sl2).bind fun Γ2 => R.ok (Fl.nx, Γ2)) (EndK X.K D0 Ao σ H Γ) := q2
      clear q2
      cases e4 : setS Γ3 j sl2 with
      | no => rw [e4] at q3; exact q3.elim
      | exc c =>
        unfold setS at e4
        split at e4 <;> cases e4
      | ok Γ4 =>
        rw [e4] at q3
        have q4 : EndK X.K D0 Ao σ H Γ (.nx, Γ4) := q3
        clear q3
        -- the second value stays good behind the first store
        obtain ⟨rfl, os, ho, hn⟩ := setS_ok e3
        have gs : ∀ k, (Γ2'.set i sl1)[k]? = if i = k then some sl1 else Γ2'[k]? := fun k => get_set ho
        rcases kind1 with ⟨d1, rfl, rfl⟩ | ⟨ds1, rfl, rfl⟩
        · have t := s.s.set_sh e3 p1
          have mv : Mv (Av Ao2 σ Γ2') (Av Ao2 (σ.set i (some v)) (Γ2'.set i (.sh d1))) H2 H2 := ⟨fun _ _ _ e => e, fun c _ _ z => by
            rcases z with z | ⟨k, es, p, st, f1, f2, f3⟩
            · exact .inl z
            · by_cases hk : i = k
              · rw [gs, if_pos hk] at f1; cases f1
              · rw [gs, if_neg hk] at f1
                rw [List.getElem?_set_ne hk] at f3
                exact .inr ⟨k, es, p, st, f1, f2, f3⟩⟩
          rcases kind2 with ⟨d2, rfl, rfl⟩ | ⟨ds2, rfl, rfl⟩
          · exact q4 Ao2 _ H2 (t.set_sh e4 (DV.mv mv or2'))
          · obtain ⟨c, vs, rfl, n, hc2, hv2, dv2⟩ := or2'
            exact q4 _ _ H2 (Stp.set_li r t e4 (s1'.s.bk c n) hc2 hv2 (dv2.mv mv))
        · obtain ⟨c1, vs1, rfl, nn1, hc1, hv1, dv1⟩ := p1
          have t := Stp.set_li r s.s e3 nn1 hc1 hv1 dv1
          have his : i < σ.length := by rw [s.rel.len]; exact (List.getElem?_eq_some_iff.mp ho).1
          have mv : Mv (Av Ao2 σ Γ2') (Av (fun b => Ao2 b ∧ b ≠ c1) (σ.set i (some (.ref c1))) (Γ2'.set i (.li ds1 false .own))) H2 H2 := ⟨fun _ _ _ e => e, fun c _ _ z => by
            rcases z with z | ⟨k, es, p, st, f1, f2, f3⟩
            · exact .inl z.1
            · by_cases hk : i = k
              · subst hk
                rw [List.getElem?_set_self his] at f3
                cases f3
                exact .inl hc1
              · rw [gs, if_neg hk] at f1
                rw [List.getElem?_set_ne hk] at f3
                exact .inr ⟨k, es, p, st, f1, f2, f3⟩⟩
          rcases kind2 with ⟨d2, rfl, rfl⟩ | ⟨ds2, rfl, rfl⟩
          · exact q4 _ _ H2 (t.set_sh e4 (DV.mv mv or2'))
          · obtain ⟨c, vs, rfl, n, hc2, hv2, dv2⟩ := or2'
            have ne : c ≠ c1 := fun z => by
              subst z
              obtain ⟨_, _, ez, _, _, hv1', _⟩ := or1'
              cases ez
              rw [n] at hv1'
              cases hv1'
            exact q4 _ _ H2 (Stp.set_li r t e4 (s1'.s.bk c n) ⟨hc2, ne⟩ hv2 (dv2.mv mv))
end
end Mir

set_option Elab.async false
set_option autoImplicit false
set_option linter.all false
set_option maxRecDepth 100000
set_option maxHeartbeats 4000000
/-! # Mir12: for, while -/
namespace Mir
open PySem L2
section
variable {X : Cx} {P : Par} {K : PySem.W.Frag} {Ao Ao' Ao1 : Addr → Prop} {σ σ' σ1 : St} {H H' H0 H1 : Hp} {Γ Γ' Γ1 : G} {D0 : Ends}
theorem walked_own {Γ : G} {o : Opd} : ∀ i ∈ walked Γ o, ∃ es p, Γ[i]? = some (.li es p .own) := fun i hi => by
  cases o with
  | val d => cases hi
  | tmp d => cases hi
  | slot j =>
    have hi : i ∈ (match Γ[j]? with | some (.li _ _ .own) => [j] | _ => []) := hi
    split at hi
    · rename_i es p e
      cases List.mem_singleton.mp hi
      exact ⟨es, p, e⟩
    · cases hi
theorem evI_own {S : Sem} {it : It} {Γ : G} {r : List D × List Nat × G} (h : evI S it Γ = .ok r) : ∀ i ∈ r.2.1, ∃ es p, r.2.2[i]? = some (.li es p .own) := by
  cases it with
  | sq e =>
    unfold evI at h
    obtain ⟨q, _, h⟩ := Mir.R.bind_eq_ok h
    obtain ⟨xs, _, h⟩ := Mir.R.bind_eq_ok h
    cases h
    exact walked_own
  | rng es =>
    unfold evI at h
    obtain ⟨q, _, h⟩ := Mir.R.bind_eq_ok h
    obtain ⟨xs, _, h⟩ := Mir.R.bind_eq_ok h
    cases h
    exact fun i hi => by cases hi
  | zip a b =>
    unfold evI at h
    obtain ⟨q, _, h⟩ := Mir.R.bind_eq_ok h
    obtain ⟨q2, _, h⟩ := Mir.R.bind_eq_ok h
    split at h
    · cases h
      exact fun i hi => (List.mem_append.mp hi).elim (walked_own i) (walked_own i)
    · cases h
      exact fun i hi => by cases hi
    · cases h
  | enm e =>
    unfold evI at h
    obtain ⟨q, _, h⟩ := Mir.R.bind_eq_ok h
    split at h
    · cases h
      exact walked_own
    · cases h
      exact fun i hi => by cases hi
    · cases h
theorem unlockAll_get : ∀ (is : List Nat) (Γ : G) (j : Nat), (unlockAll Γ is)[j]? = if j ∈ is then (match Γ[j]? with | some (.li ds p .lock) => some (.li ds p .own) | x => x) else Γ[j]?
  | [], Γ, j => by rw [if_neg (by simp)]; rfl
  | i :: is, Γ, j => by
    show (unlockAll (Mir.unlock1 Γ i) is)[j]? = _
    rw [unlockAll_get is (Mir.unlock1 Γ i) j, unlock1_get]
    by_cases hj : i = j
    · subst hj
      rw [if_pos rfl]
      by_cases hm : i ∈ is
      · rw [if_pos hm, if_pos (List.mem_cons_self ..)]
        all_goals
          cases e : Γ[i]? with
          | none => rfl
          | some s =>
            cases s with
            | emp => rfl
            | sh d => rfl
            | li ds p st => cases st <;> rfl
      · rw [if_neg hm, if_pos (List.mem_cons_self ..)]
        all_goals
          cases e : Γ[i]? with
          | none => rfl
          | some s =>
            cases s with
            | emp => rfl
            | sh d => rfl
            | li ds p st => cases st <;> rfl
    · rw [if_neg hj]
      by_cases hm : j ∈ is
      · rw [if_pos hm, if_pos (List.mem_cons_of_mem _ hm)]
      · rw [if_neg hm, if_neg (by simp [hm, Ne.symm hj])]
theorem unlock_lv {is : List Nat} {a : Addr} : Lv σ (unlockAll Γ is) a → Lv σ Γ a := fun ⟨j, es, p, st, e1, e2, e3⟩ => by
  rw [unlockAll_get] at e1
  split at e1
  · split at e1
    · rename_i ds p' h
      exact ⟨j, ds, p', .lock, h, by decide, e3⟩
    · exact ⟨j, es, p, st, e1, e2, e3⟩
  · exact ⟨j, es, p, st, e1, e2, e3⟩
theorem unlock_lv' {is : List Nat} {a : Addr} : Lv σ Γ a → Lv σ (unlockAll Γ is) a := fun ⟨j, es, p, st, e1, e2, e3⟩ => by
  by_cases hm : j ∈ is
  · cases st with
    | lock => exact ⟨j, es, p, .own, by rw [unlockAll_get, if_pos hm, e1], by decide, e3⟩
    | own => exact ⟨j, es, p, .own, by rw [unlockAll_get, if_pos hm, e1], by decide, e3⟩
    | froz => exact absurd rfl e2
  · exact ⟨j, es, p, st, by rw [unlockAll_get, if_neg hm]; exact e1, e2, e3⟩
theorem unlock_av {is : List Nat} {a : Addr} : Av Ao σ (unlockAll Γ is) a ↔ Av Ao σ Γ a := ⟨fun z => z.imp id unlock_lv, fun z => z.imp id unlock_lv'⟩
theorem unlock_len : ∀ (is : List Nat) (Γ : G), (unlockAll Γ is).length = Γ.length
  | [], _ => rfl
  | i :: is, Γ => by
    show (unlockAll (Mir.unlock1 Γ i) is).length = _
    rw [unlock_len is]
    unfold Mir.unlock1
    split
    · rw [List.length_set]
    · rfl
theorem RetV.unlock {is : List Nat} {d : D} {own : Bool} {v : V} (h : RetV K σ H Γ Ao' σ' H' Γ' d own v) : RetV K σ H Γ Ao' σ' H' (unlockAll Γ' is) d own v := by
  cases own with
  | false => exact DV.mv ⟨fun _ _ _ e => e, fun b _ _ z => unlock_av.1 z⟩ h
  | true =>
    obtain ⟨a, ws, ds, e1, e2, e3, e4, e7, e5, e6⟩ := h
    refine ⟨a, ws, ds, e1, e2, e3, fun z => e4 (unlock_av.1 z), (e7.gen (σ' := σ') (Γ' := unlockAll Γ' is) (by rw [unlock_len]; exact e7.len) (fun c q => .inl q) (fun j s ej nj => .inl ?_) fun j es p st c ej nf ec => e7.lvAo (unlock_lv ⟨j, es, p, st, ej, nf, ec⟩)).1, e5.mv ⟨fun _ _ _ e => e, fun b _ _ z => z.imp unlock_av.1 id⟩, e6⟩
    rw [unlockAll_get] at ej
    split at ej
    · split at ej
      · rename_i h
        cases ej
        exact ⟨_, h, rfl, .inr ⟨_, _, _, _, _, rfl, rfl, by decide, by decide⟩⟩
      · exact ⟨s, ej, rfl, .inl rfl⟩
    · exact ⟨s, ej, rfl, .inl rfl⟩
theorem ms_for {tg iter : Expr} {t : Tg} {it : It} {body : List Stmt} {b : Sx} {pos : Pos} (hp : PassesOwn (model X.prog X.w) X.A X.env X.xe) (hc : X.calm = true) (hi : PI X tg iter (tI X.K P it)) (hg : PG X tg (gTg X.K t)) (hb : PSs X body (tS X.K P b))
    (hs : ∀ x, foldedSetIterable iter X.env x = pure x) : PS X (.For tg iter body [] pos) (tS X.K P (.forr t it b)) := (ps_for hp hc hi hg hb hs).imp fun D0 σ H q => by
  obtain ⟨Ao, Γ, r, q⟩ := q
  unfold ex at q
  rw [Out.bind] at q
  refine ⟨Ao, Γ, r, q.imp fun z ez q1 Ao1 H1 J S s1 src nm => ?_⟩
  rw [Out.bind] at q1
  have sl := StE.lockAll z.2.1 s1.rel
  have sL := s1.trans sl
  obtain ⟨Gd, Y, w, hgd, hy⟩ := src
  -- what an end of the loop gives
  have fin : ∀ {Ao' : Addr → Prop} {σ' : St} {H' : Hp} {Γ' : G}, Stp X.K Ao1 σ H1 (lockAll z.2.2 z.2.1) Ao' σ' H' Γ' → Stp X.K Ao σ H Γ Ao' σ' H' (unlockAll Γ' z.2.1) := fun {Ao' σ' H' Γ'} t =>
    s1.s.trans ((sl.s.trans t).unlockAll z.2.1 fun i hi ds p e => by
      obtain ⟨es, p', eo⟩ := evI_own ez i hi
      refine ⟨⟨es, p', eo⟩, ?_⟩
      have el : (lockAll z.2.2 z.2.1)[i]? = some (.li es p' .lock) := by rw [lockAll_get, if_pos hi, eo]
      exact (t.lk i es p' el).choose_spec.2)
  refine for_it w (fun i σ' H' => ∃ Ao' Γ', Stp X.K Ao1 σ H1 (lockAll z.2.2 z.2.1) Ao' σ' H' Γ' ∧ Out P σ H Γ (loopF (fun x Γ1 => (bindTg t x Γ1).bind fun Γ2 => ex P.S b Γ2) (z.1.drop i) Γ') fun q => EndK X.K D0 Ao σ H Γ (q.1, unlockAll q.2 z.2.1)) ?_ ?_ ?_ ?_
  · exact ⟨Ao1, _, .refl sl.rel, q1⟩
  · rintro i σ' H' _ ⟨Ao', Γ', t, _⟩
    exact hgd H' fun a o hS e => t.fr a o e (nm a hS)
  · rintro i x σ' H' H'' hi ⟨Ao', Γ', t1, o1⟩ y
    obtain ⟨sx, d, ed, dv⟩ := hy i H' x H'' Ao' σ' Γ' hi y t1.rel (sl.s.trans t1).mv
    have t2 := t1.trans sx.s
    have edr : z.1.drop i = d :: z.1.drop (i + 1) := by
      obtain ⟨hlt, hd⟩ := List.getElem?_eq_some_iff.mp ed
      rw [List.drop_eq_getElem_cons hlt, hd]
    rw [edr] at o1
    unfold loopF at o1
    rw [bind_assoc, Out.bind] at o1
    cases eb : bindTg t d Γ' with
    | exc c => exact absurd eb (bindTg_nx c)
    | no => rw [eb] at o1; exact o1.elim
    | ok Γ2 =>
      rw [eb] at o1
      refine gTg_ok t2 eb dv fun σ2 t3 _ => ?_
      have o1 : Out P σ H Γ ((ex P.S b Γ2).bind fun r => match r.1 with
        | .nx => loopF (fun x Γ1 => (bindTg t x Γ1).bind fun Γ2 => ex P.S b Γ2) (z.1.drop (i + 1)) r.2
        | .ct => loopF (fun x Γ1 => (bindTg t x Γ1).bind fun Γ2 => ex P.S b Γ2) (z.1.drop (i + 1)) r.2
        | .bk => R.ok (Fl.nx, r.2)
        | .rt d o => R.ok (Fl.rt d o, r.2)) fun q => EndK X.K D0 Ao σ H Γ (q.1, unlockAll q.2 z.2.1) := o1
      rw [Out.bind] at o1
      have t3' := sL.s.trans t3
      refine ⟨Ao', Γ2, t3.rel, Out.later t3' o1 fun r er k Ao'' σ3 H3 t4 => ?_⟩
      have t5 := t3.trans t4
      obtain ⟨f, Γ3⟩ := r
      cases f with
      | nx => exact ⟨Ao'', Γ3, t5, k⟩
      | ct => exact ⟨Ao'', Γ3, t5, k⟩
      | bk => exact k Ao'' σ3 H3 (fin t5)
      | rt d o => exact fun v rv => k Ao'' σ3 H3 (fin t5) v ((rv.after t3').unlock)
  · rintro σ' H' ⟨Ao', Γ', t1, o1⟩
    rw [List.drop_length] at o1
    exact o1 Ao' σ' H' (fin t1)
theorem ms_whl {c : Ex} {b : Sx} {ec : Expr} {body : List Stmt} {pos : Pos} (hp : PassesOwn (model X.prog X.w) X.A X.env X.xe) (hc : PT X ec (tT X.K P c)) (hb : PSs X body (tS X.K P b)) : PS X (.While ec body [] pos) (tS X.K P (.whl c b)) := (ps_while hp hc hb).imp fun D0 σ H q => by
  obtain ⟨Ao, Γ, r, q⟩ := q
  unfold ex at q
  refine ⟨fun m σ' H' => ∃ Ao' Γ', Stp X.K Ao σ H Γ Ao' σ' H' Γ' ∧ Out P σ H Γ (loopW (fun Γ1 => (ev P.S c Γ1).bind fun r => (truth (look r.2 r.1)).bind fun t => .ok (t, r.2)) (fun Γ1 => ex P.S b Γ1) m Γ') (EndK X.K D0 Ao σ H Γ), ⟨wFuel, Ao, Γ, .refl r, q⟩, ?_⟩
  rintro m σ' H' ⟨Ao', Γ', t1, o1⟩
  cases m with
  | zero => exact o1.elim
  | succ m =>
    unfold loopW at o1
    rw [Out.bind] at o1
    refine tT_go t1.rel (Out.later t1 o1 fun a _ k => k) fun z Ao2 H2 k s2 => ?_
    have t2 := t1.trans s2.s
    cases e : z.1 with
    | false =>
      rw [e, if_neg Bool.false_ne_true] at k
      rw [if_neg Bool.false_ne_true]
      exact k Ao2 σ' H2 t2
    | true =>
      rw [e, if_pos rfl, Out.bind] at k
      rw [if_pos rfl]
      refine ⟨_, fun σ'' H'' w => ⟨m, Nat.lt_succ_self m, w⟩, Ao2, z.2, t2.rel, Out.later t2 k fun r er k2 Ao3 σ3 H3 t3 => ?_⟩
      obtain ⟨f, Γ3⟩ := r
      have t4 := t2.trans t3
      cases f with
      | nx => exact ⟨Ao3, Γ3, t4, k2⟩
      | ct => exact ⟨Ao3, Γ3, t4, k2⟩
      | bk => exact k2 Ao3 σ3 H3 t4
      | rt d o => exact fun v rv => k2 Ao3 σ3 H3 t4 v (rv.after t2)
end
end Mir

set_option Elab.async false
set_option autoImplicit false
set_option linter.all false
set_option maxRecDepth 100000
set_option maxHeartbeats 4000000
/-! # Mir13: comprehensions -/
namespace Mir
open PySem L2
section
variable {K : PySem.W.Frag} {Ao Ao' Ao1 : Addr → Prop} {σ σ' σ1 : St} {H H' H0 H1 : Hp} {Γ Γ' Γ1 : G}
theorem wipe_get : ∀ (is : List Nat) (σ : St) (j : Nat), (wipe σ is)[j]? = if j ∈ is then (if j < σ.length then some none else none) else σ[j]?
  | [], σ, j => by rw [if_neg (by simp)]; rfl
  | i :: is, σ, j => by
    unfold wipe
    by_cases hj : i = j
    · subst hj
      rw [if_pos (List.mem_cons_self ..)]
      by_cases hl : i < σ.length
      · rw [if_pos hl, List.getElem?_set_self (by rw [wipe_length]; exact hl)]
      · rw [if_neg hl]
        exact List.getElem?_eq_none (by rw [List.length_set, wipe_length]; omega)
    · rw [List.getElem?_set_ne hj, wipe_get is σ j]
      by_cases hm : j ∈ is
      · rw [if_pos hm, if_pos (List.mem_cons_of_mem _ hm)]
      · rw [if_neg hm, if_neg (by simp [hm, Ne.symm hj])]
theorem wipeG_get : ∀ (is : List Nat) {Γ Γ' : G}, wipeG Γ is = .ok Γ' → Γ'.length = Γ.length ∧ (∀ j, Γ'[j]? = if j ∈ is then some .emp else Γ[j]?) ∧ ∀ j ∈ is, ∃ s, Γ[j]? = some s ∧ ∀ ds p st, s ≠ .li ds p st
  | [], Γ, Γ', e => by
    cases e
    exact ⟨rfl, fun j => by rw [if_neg (by simp)], fun j hj => by cases hj⟩
  | i :: is, Γ, Γ', e => by
    obtain ⟨Γ1, e1, e2⟩ := Mir.R.bind_eq_ok (show (wipeG Γ is).bind _ = .ok Γ' from e)
    obtain ⟨l1, g1, n1⟩ := wipeG_get is e1
    split at e2
    · cases e2
    · rename_i s hn hs
      cases e2
      refine ⟨by rw [List.length_set]; exact l1, fun j => ?_, fun j hj => ?_⟩
      · rw [get_set hs, g1]
        by_cases hj : i = j
        · rw [if_pos hj, if_pos (by rw [hj]; exact List.mem_cons_self ..)]
        · rw [if_neg hj]
          by_cases hm : j ∈ is
          · rw [if_pos hm, if_pos (List.mem_cons_of_mem _ hm)]
          · rw [if_neg hm, if_neg (by simp [hm, Ne.symm hj])]
      · by_cases hm : j ∈ is
        · exact n1 j hm
        · have hj : j = i := (List.mem_cons.mp hj).resolve_right hm
          subst hj
          rw [g1, if_neg hm] at hs
          refine ⟨s, hs, fun ds p st z => ?_⟩
          subst z
          exact hn _ _ _ rfl
    · cases e2
theorem restG_get : ∀ (is : List Nat) (Γ0 Γ : G) (j : Nat), j < Γ.length → (restG Γ0 Γ is)[j]? = if j ∈ is then some (Γ0[j]?.getD .emp) else Γ[j]?
  | [], Γ0, Γ, j, _ => by rw [if_neg (by simp)]; rfl
  | i :: is, Γ0, Γ, j, h => by
    have ln : ∀ is : List Nat, (restG Γ0 Γ is).length = Γ.length := fun is => by
      induction is with
      | nil => rfl
      | cons k ks ih => show ((restG Γ0 Γ ks).set k _).length = _; rw [List.length_set]; exact ih
    show ((restG Γ0 Γ is).set i _)[j]? = _
    by_cases hj : i = j
    · subst hj
      rw [List.getElem?_set_self (by rw [ln]; exact h), if_pos (List.mem_cons_self ..)]
    · rw [List.getElem?_set_ne hj, restG_get is Γ0 Γ j h]
      by_cases hm : j ∈ is
      · rw [if_pos hm, if_pos (List.mem_cons_of_mem _ hm)]
      · rw [if_neg hm, if_neg (by simp [hm, Ne.symm hj])]
theorem restG_len (Γ0 Γ : G) : ∀ is : List Nat, (restG Γ0 Γ is).length = Γ.length
  | [] => rfl
  | k :: ks => by show ((restG Γ0 Γ ks).set k _).length = _; rw [List.length_set]; exact restG_len Γ0 Γ ks
/-- other slots, none of them a list where they differ -/
theorem Rel.swap (r : Rel K Ao σ H Γ) (hl : σ'.length = Γ'.length) (hs : ∀ (j : Nat) s, Γ'[j]? = some s → s ≠ .emp → (Γ[j]? = some s ∧ σ'[j]? = σ[j]?) ∨ ∃ d v, s = .sh d ∧ σ'[j]? = some (some v) ∧ DV K (Av Ao σ Γ) H d v) : Rel K Ao σ' H Γ' ∧ (∀ b, Lv σ' Γ' b → Lv σ Γ b) ∧ ∀ b, Mu σ' Γ' b → Mu σ Γ b := by
  have old : ∀ {j : Nat} {ds p st}, Γ'[j]? = some (.li ds p st) → Γ[j]? = some (.li ds p st) ∧ σ'[j]? = σ[j]? := fun {j ds p st} e => by
    rcases hs j _ e (fun z => by cases z) with z | ⟨d, v, z, _⟩
    · exact z
    · cases z
  have lv : ∀ b, Lv σ' Γ' b → Lv σ Γ b := fun b ⟨j, es, q, st', e1, e2, e3⟩ => by
    obtain ⟨g1, g2⟩ := old e1
    exact ⟨j, es, q, st', g1, e2, by rw [← g2]; exact e3⟩
  have mu : ∀ b, Mu σ' Γ' b → Mu σ Γ b := fun b ⟨j, es, q, e1, e3⟩ => by
    obtain ⟨g1, g2⟩ := old e1
    exact ⟨j, es, q, g1, by rw [← g2]; exact e3⟩
  have av : ∀ b, Av Ao σ' Γ' b → Av Ao σ Γ b := fun b z => z.imp id (lv b)
  have m : Mv (Av Ao σ Γ) (Av Ao σ' Γ') H H := ⟨fun _ _ _ e => e, fun b _ _ z => av b z⟩
  refine ⟨⟨hl, r.dom, fun j d e => ?_, fun j es p st e => ?_, fun j k es p1 st1 es2 p2 st2 b e1 n1 e2 n2 f1 f2 => ?_⟩, lv, mu⟩
  · rcases hs j _ e (fun z => by cases z) with ⟨z1, z2⟩ | ⟨d', v, z1, z2, z3⟩
    · obtain ⟨v, w1, w2⟩ := r.sh j d z1
      exact ⟨v, by rw [z2]; exact w1, w2.mv m⟩
    · cases z1
      exact ⟨v, z2, z3.mv m⟩
  · obtain ⟨g1, g2⟩ := old e
    obtain ⟨b, ws, w1, w2, w3, w4, w5⟩ := r.li j es p st g1
    exact ⟨b, ws, by rw [g2]; exact w1, w2, w3.mv m, w4, fun z y => w5 z (av b y)⟩
  · obtain ⟨g1, h1⟩ := old e1
    obtain ⟨g2, h2⟩ := old e2
    exact r.inj j k es p1 st1 es2 p2 st2 b g1 n1 g2 n2 (by rw [← h1]; exact f1) (by rw [← h2]; exact f2)
theorem Stp.swap (s : Stp K Ao σ H0 Γ Ao' σ' H' Γ') {σ2 : St} {Γ2 : G} (hl : Γ2.length = Γ'.length) (hσ : σ2.length = σ'.length) (hs : ∀ (j : Nat) s, Γ2[j]? = some s → s ≠ .emp → (Γ'[j]? = some s ∧ σ2[j]? = σ'[j]?) ∨ ∃ d v, s = .sh d ∧ σ2[j]? = some (some v) ∧ DV K (Av Ao' σ' Γ') H' d v)
    (hk : ∀ (j : Nat) ds p st, Γ'[j]? = some (.li ds p st) → Γ2[j]? = some (.li ds p st) ∧ σ2[j]? = σ'[j]?) : Stp K Ao σ H0 Γ Ao' σ2 H' Γ2 := by
  obtain ⟨r, lv, mu⟩ := s.rel.swap (σ' := σ2) (Γ' := Γ2) (by rw [hσ, hl]; exact s.rel.len) hs
  refine ⟨r, s.ao, s.nw, s.fr, s.dm, fun b z => s.lv b (lv b z), fun b z => s.mu b (mu b z), fun j es st e => ?_, fun j es st e => ?_, fun j es p e => ?_, hl.trans s.len⟩
  · obtain ⟨ds', st', g1, g2⟩ := s.pin j es st e
    obtain ⟨h1, h2⟩ := hk j _ _ _ g1
    exact ⟨ds', st', h1, h2.trans g2⟩
  · rcases hs j _ e (fun z => by cases z) with ⟨z1, _⟩ | ⟨d, v, z, _⟩
    · exact s.pinb j es st z1
    · cases z
  · obtain ⟨ds', g1, g2⟩ := s.lk j es p e
    obtain ⟨h1, h2⟩ := hk j _ _ _ g1
    exact ⟨ds', h1, h2.trans g2⟩
theorem Stp.wipe (s : Stp K Ao σ H0 Γ Ao' σ' H' Γ') {is : List Nat} {Γ2 : G} (e : wipeG Γ' is = .ok Γ2) : Stp K Ao σ H0 Γ Ao' (L2.wipe σ' is) H' Γ2 := by
  obtain ⟨l, g, n⟩ := wipeG_get is e
  refine s.swap l (wipe_length ..) (fun j x ex hx => ?_) fun j ds p st ex => ?_
  · rw [g] at ex
    by_cases hj : j ∈ is
    · rw [if_pos hj] at ex
      cases ex
      exact absurd rfl hx
    · rw [if_neg hj] at ex
      exact .inl ⟨ex, by rw [wipe_get, if_neg hj]⟩
  · have hj : j ∉ is := fun hj => by
      obtain ⟨x, e1, e2⟩ := n j hj
      rw [ex] at e1
      cases e1
      exact e2 _ _ _ rfl
    exact ⟨by rw [g, if_neg hj]; exact ex, by rw [wipe_get, if_neg hj]⟩
/-- a temporary list of this step's own changes -/
theorem Stp.tmpUpd (s : Stp K Ao σ H0 Γ Ao' σ' H' Γ') {a : Addr} {vs : List V} {o : HO} (h0 : H0 a = none) (ha : Ao' a) (hv : H' a = some o) : Stp K Ao σ H0 Γ Ao' σ' (upd H' a (.lst vs)) Γ' := by
  have r := s.rel
  have m : Mv (Av Ao' σ' Γ') (Av Ao' σ' Γ') H' (upd H' a (.lst vs)) := ⟨fun b o n e => by
    rw [upd_ne (fun z => n (by subst z; exact .inl ha))]
    exact e, fun b o e z => z⟩
  have dm : ∀ b, H' b ≠ none → upd H' a (.lst vs) b ≠ none := fun b n => by
    by_cases e : b = a
    · subst e; rw [upd_same]; exact fun z => by cases z
    · rw [upd_ne e]; exact n
  refine ⟨⟨r.len, fun b z => dm b (r.dom b z), fun j d e => ?_, fun j es p st e => ?_, r.inj⟩, s.ao, s.nw, fun b o e n => ?_, fun b n => dm b (s.dm b n), s.lv, s.mu, s.pin, s.pinb, s.lk, s.len⟩
  · obtain ⟨v, w1, w2⟩ := r.sh j d e
    exact ⟨v, w1, w2.mv m⟩
  · obtain ⟨b, ws, w1, w2, w3, w4, w5⟩ := r.li j es p st e
    have hb : b ≠ a := fun z => by
      subst z
      by_cases f : st = .froz
      · exact w5 f (.inl ha)
      · exact w4 f ha
    exact ⟨b, ws, w1, by rw [upd_ne hb]; exact w2, w3.mv m, w4, w5⟩
  · have hb : b ≠ a := fun z => by
      subst z
      rw [h0] at e
      cases e
    rw [upd_ne hb]
    exact s.fr b o e n
end
/-- a comprehension's tests -/
def tCs (K : PySem.W.Frag) (P : Par) : Exs → TT
  | .nil => tYes
  | .cons c .nil => tT K P c
  | .cons _ (.cons _ _) => fun _ _ _ => False
/-- in a comprehension's block nothing is let out -/
def Par.mute (P : Par) : Par := ⟨P.S, fun _ _ => False⟩
section
variable {X : Cx} {P : Par} {K : PySem.W.Frag} {Ao Ao' Ao1 : Addr → Prop} {σ σ' σ1 : St} {H H' H0 H1 : Hp} {Γ Γ' Γ1 : G} {Q : VK}
theorem tCs_go {cs : Exs} {z : Bool × G} {Qt : Bool → Hp → Prop} (r : Rel K Ao σ H Γ) (e : evC P.S cs Γ = .ok z) (g : ∀ Ao' H', StE K Ao σ H Γ Ao' H' z.2 → Qt z.1 H') : tCs K P.mute cs σ H Qt := by
  cases cs with
  | nil =>
    unfold evC at e
    cases e
    exact g Ao H (.refl r)
  | cons c cs =>
    cases cs with
    | cons _ _ => unfold evC at e; cases e
    | nil =>
      unfold evC at e
      refine ⟨Ao, Γ, r, ?_⟩
      show Out P.mute σ H Γ ((ev P.S c Γ).bind fun r => (truth (look r.2 r.1)).bind fun t => R.ok (t, r.2)) _
      rw [e]
      exact g
theorem noX_ok {α : Type} {r : R α} {a : α} (h : R.noX r = .ok a) : r = .ok a := by
  cases r with
  | ok b => exact h
  | exc c => cases h
  | no => cases h
def blkF (S : Sem) (tg : Tg) (cs : Exs) (elt : Ex) (own : List Nat) (x : D) (Γ1 : G) : R (Option D × G) := R.noX ((bindTg tg x Γ1).bind fun Γ2 => (evC S cs Γ2).bind fun q =>
        if q.1 then (ev S elt q.2).bind fun y => (toVal y).bind fun z => (wipeG z.2 own).bind fun Γ3 => .ok (some z.1, Γ3)
        else (wipeG q.2 own).bind fun Γ3 => .ok (none, Γ3))
theorem wipe_eq {σ σ2 : St} {is : List Nat} (hl : σ2.length = σ.length) (h : ∀ j, j ∉ is → σ2[j]? = σ[j]?) : wipe σ2 is = wipe σ is := by
  apply List.ext_getElem?
  intro j
  rw [wipe_get, wipe_get, hl]
  by_cases hj : j ∈ is
  · rw [if_pos hj, if_pos hj]
  · rw [if_neg hj, if_neg hj, h j hj]
theorem wipe_wipe {σ : St} {is : List Nat} : wipe (wipe σ is) is = wipe σ is := by
  apply List.ext_getElem?
  intro j
  rw [wipe_get, wipe_get, wipe_length]
  by_cases hj : j ∈ is
  · rw [if_pos hj, if_pos hj]
  · rw [if_neg hj, if_neg hj]
theorem loopC_nx {f : D → G → R (Option D × G)} (hf : ∀ x Γ c, f x Γ ≠ .exc c) : ∀ (xs acc : List D) (Γ : G) (c : Nat), loopC f xs acc Γ ≠ .exc c
  | [], acc, Γ, c, e => by cases e
  | x :: xs, acc, Γ, c, e => by
    unfold loopC at e
    cases q : f x Γ with
    | exc c' => exact hf _ _ _ q
    | no => rw [q] at e; cases e
    | ok r =>
      rw [q] at e
      obtain ⟨o, Γ2⟩ := r
      cases o with
      | none => exact loopC_nx hf xs acc Γ2 c e
      | some y =>
        have e : (if line acc.length then loopC f xs (acc ++ [y]) Γ2 else R.no) = .exc c := e
        split at e
        · exact loopC_nx hf xs _ Γ2 c e
        · cases e
theorem wipeG_nx : ∀ (is : List Nat) (Γ : G) (c : Nat), wipeG Γ is ≠ .exc c
  | [], Γ, c, e => by cases e
  | i :: is, Γ, c, e => by
    unfold wipeG at e
    cases q : wipeG Γ is with
    | exc c' => exact wipeG_nx is Γ c' q
    | no => rw [q] at e; cases e
    | ok Γ1 =>
      rw [q] at e
      have e : (match Γ1[i]? with
        | some (.li _ _ _) => R.no
        | some _ => R.ok (Γ1.set i .emp)
        | none => R.no) = .exc c := e
      split at e <;> cases e
theorem comp_go {tg : Tg} {it : It} {cs : Exs} {elt : Ex} {own : List Nat} (hown : ∀ i ∈ tgIdx tg, i ∈ own) (q : tE K P (.comp tg it cs elt own) σ H Q) : tLc (tI K P it) (gTg K tg) (tCs K P.mute cs) (tE K P.mute elt) own σ H Q := by
  obtain ⟨Ao, Γ, r, q⟩ := q
  unfold ev at q
  have q : Out P σ H Γ ((evI P.S it Γ).bind fun r => (wipeG (lockAll r.2.2 r.2.1) own).bind fun Γ0 => (loopC (blkF P.S tg cs elt own) r.1 [] Γ0).bind fun q => R.ok (Opd.tmp q.1, unlockAll (restG r.2.2 q.2 own) r.2.1)) fun r => ∀ Ao' v H', StE K Ao σ H Γ Ao' H' r.2 → OR K H Ao' σ H' r.2 r.1 v → Q v H' := q
  rw [Out.bind] at q
  refine ⟨Ao, Γ, r, q.imp fun z ez q1 Ao1 H1 J S s1 src nm D hD => ?_⟩
  have sl := StE.lockAll z.2.1 s1.rel
  cases ew : wipeG (lockAll z.2.2 z.2.1) own with
  | exc c => exact absurd ew (wipeG_nx _ _ _)
  | no => rw [ew] at q1; exact q1.elim
  | ok Γ0 =>
    rw [ew] at q1
    have q1 : Out P σ H Γ ((loopC (blkF P.S tg cs elt own) z.1 [] Γ0).bind fun q => R.ok (Opd.tmp q.1, unlockAll (restG z.2.2 q.2 own) z.2.1)) fun r => ∀ Ao' v H', StE K Ao σ H Γ Ao' H' r.2 → OR K H Ao' σ H' r.2 r.1 v → Q v H' := q1
    cases el : loopC (blkF P.S tg cs elt own) z.1 [] Γ0 with
    | exc c => exact absurd el (loopC_nx (fun x Γ c e => by
        unfold blkF at e
        unfold R.noX at e
        split at e <;> cases e) _ _ _ _)
    | no => rw [el] at q1; exact q1.elim
    | ok y =>
      rw [el] at q1
      have q1 : ∀ Ao' v H', StE K Ao σ H Γ Ao' H' (unlockAll (restG z.2.2 y.2 own) z.2.1) → OR K H Ao' σ H' (unlockAll (restG z.2.2 y.2 own) z.2.1) (.tmp y.1) v → Q v H' := q1
      obtain ⟨Gd, Y, w, hgd, hy⟩ := src
      obtain ⟨wl, wg, wn⟩ := wipeG_get own ew
      -- with the new list
      have tD : Stp K Ao1 σ H1 (lockAll z.2.2 z.2.1) (fun a => Ao1 a ∨ a = D) σ (upd H1 D (.lst [])) (lockAll z.2.2 z.2.1) := (StE.tmp sl.rel hD).s
      have t0 := tD.wipe ew
      refine lc_it w (fun i H' => ∃ Ao' Γi accD accV, Stp K Ao1 σ H1 (lockAll z.2.2 z.2.1) Ao' (wipe σ own) H' Γi ∧ Ao' D ∧ H' D = some (.lst accV) ∧ DVs K (Av Ao' (wipe σ own) Γi) H' accD accV ∧ loopC (blkF P.S tg cs elt own) (z.1.drop i) accD Γi = .ok y ∧ (∀ j ∈ own, Γi[j]? = some .emp) ∧
        ∀ (j : Nat) s, j ∉ own → (lockAll z.2.2 z.2.1)[j]? = some s → s ≠ .emp → ∃ s', Γi[j]? = some s' ∧ s' ≠ .emp) ?_ ?_ ?_ ?_
      · exact ⟨_, Γ0, [], [], t0, .inr rfl, upd_same .., DVs.nil, el, fun j hj => by rw [wg, if_pos hj], fun j s hj e n => ⟨s, by rw [wg, if_neg hj]; exact e, n⟩⟩
      · rintro i H' _ ⟨Ao', Γi, accD, accV, t, _⟩
        exact hgd H' fun a o hS e => t.fr a o e (nm a hS)
      · rintro i x H' H'' hi ⟨Ao', Γi, accD, accV, t1, aD, hacc, dacc, lc, emp, ne⟩ yx
        obtain ⟨sx, d, ed, dv⟩ := hy i H' x H'' Ao' (wipe σ own) Γi hi yx t1.rel (sl.s.trans t1).mv
        have t2 := t1.trans sx.s
        have edr : z.1.drop i = d :: z.1.drop (i + 1) := by
          obtain ⟨hlt, hd⟩ := List.getElem?_eq_some_iff.mp ed
          rw [List.drop_eq_getElem_cons hlt, hd]
        rw [edr] at lc
        unfold loopC at lc
        obtain ⟨⟨o1, Γ5⟩, eb, lc⟩ := Mir.R.bind_eq_ok lc
        unfold blkF at eb
        have eb := noX_ok eb
        obtain ⟨Γ2, eb1, eb⟩ := Mir.R.bind_eq_ok eb
        obtain ⟨⟨tst, Γ4⟩, eb2, eb⟩ := Mir.R.bind_eq_ok eb
        -- a tracked list that is kept clear of stays
        have stay : ∀ {Ao2 Ao3 : Addr → Prop} {σ2 σ3 : St} {H2 H3 : Hp} {Γ2 Γ3 : G}, Rel K Ao2 σ2 H2 Γ2 → Stp K Ao2 σ2 H2 Γ2 Ao3 σ3 H3 Γ3 → Ao2 D → H2 D = some (.lst accV) → H3 D = some (.lst accV) := fun {Ao2 Ao3 σ2 σ3 H2 H3 Γ2 Γ3} r t a h => t.fr D _ h fun m => r.lvAo m.lv a
        have h2 := stay t1.rel sx.s aD hacc
        refine gTg_ok (.refl t2.rel) eb1 dv fun σ2 t3 hσ => ?_
        have hw : wipe σ2 own = wipe σ own := (wipe_eq (by
          have a := t3.rel.len
          have b := t2.rel.len
          rw [a, b, t3.len]) fun j hj => (hσ j fun h => hj (hown j h)).1).trans wipe_wipe
        refine ⟨hw, ?_⟩
        refine tCs_go t3.rel eb2 fun Ao4 H4 s4 => ?_
        have s4 : StE K Ao' σ2 H'' Γ2 Ao4 H4 Γ4 := s4
        have aD4 := s4.s.ao D aD
        have h4 := stay t3.rel s4.s aD h2
        have t4 := t2.trans (t3.trans s4.s)
        cases tst with
        | false =>
          rw [if_neg Bool.false_ne_true]
          obtain ⟨Γ6, ew6, eb⟩ := Mir.R.bind_eq_ok (show (wipeG Γ4 own).bind _ = R.ok (o1, Γ5) from eb)
          cases eb
          have t5 := (Stp.refl s4.rel).wipe ew6
          obtain ⟨_, wg6, _⟩ := wipeG_get own ew6
          have t6 := t4.trans t5
          rw [hw] at t5 t6
          refine ⟨Ao4, Γ5, accD, accV, t6, aD4, h4, dacc.mv (sx.s.trans (t3.trans (s4.s.trans t5))).mv, lc, fun j hj => by rw [wg6, if_pos hj], fun j s hj e n => ?_⟩
          obtain ⟨q1, g1, n1⟩ := ne j s hj e n
          have g2 : Γ2[j]? = some q1 := by rw [(hσ j fun h => hj (hown j h)).2]; exact g1
          obtain ⟨q2, g3, n3⟩ := s4.ne j q1 g2 n1
          exact ⟨q2, by rw [wg6, if_neg hj]; exact g3, n3⟩
        | true =>
          rw [if_pos rfl]
          obtain ⟨ye, ee, eb⟩ := Mir.R.bind_eq_ok (show (ev P.S elt Γ4).bind _ = R.ok (o1, Γ5) from eb)
          obtain ⟨zv, ev2, eb⟩ := Mir.R.bind_eq_ok eb
          obtain ⟨Γ6, ew6, eb⟩ := Mir.R.bind_eq_ok eb
          cases eb
          have hev : Out P.mute σ2 H4 Γ4 ((ev P.mute.S elt Γ4).bind toVal) fun r => r = zv := by
            show Out P.mute σ2 H4 Γ4 ((ev P.S elt Γ4).bind toVal) fun r => r = zv
            rw [ee]
            show Out P.mute σ2 H4 Γ4 (toVal ye) fun r => r = zv
            rw [ev2]
            exact rfl
          refine tV_go s4.rel hev fun q5 Ao5 v H5 e5 s5 dv5 => ?_
          subst e5
          have aD5 := s5.s.ao D aD4
          have h5 := stay s4.rel s5.s aD4 h4
          have t5 := (Stp.refl s5.rel).wipe ew6
          obtain ⟨_, wg6, _⟩ := wipeG_get own ew6
          have t6 := t4.trans (s5.s.trans t5)
          have mvu : Mv (Av Ao5 (wipe σ own) Γ5) (Av Ao5 (wipe σ own) Γ5) H5 (upd H5 D (.lst (accV ++ [v]))) := ⟨fun b o n e => by
            rw [upd_ne (fun z => n (by subst z; exact .inl aD5))]
            exact e, fun b o e z => z⟩
          rw [hw] at t5 t6
          have lc : (if line accD.length then loopC (blkF P.S tg cs elt own) (z.1.drop (i + 1)) (accD ++ [q5.1]) Γ5 else R.no) = .ok y := lc
          split at lc
          · rename_i hl
            refine ⟨accV, h5, by rw [dacc.length]; exact line_lt hl, Ao5, Γ5, accD ++ [q5.1], accV ++ [v], t6.tmpUpd hD aD5 h5, aD5, upd_same .., ?_, lc, fun j hj => by rw [wg6, if_pos hj], fun j s hj e n => ?_⟩
            · exact ((dacc.mv (sx.s.trans (t3.trans (s4.s.trans (s5.s.trans t5)))).mv).mv mvu).append (DVs.cons (DV.mv mvu (DV.mv t5.mv dv5)) DVs.nil)
            · obtain ⟨q1, g1, n1⟩ := ne j s hj e n
              have g2 : Γ2[j]? = some q1 := by rw [(hσ j fun h => hj (hown j h)).2]; exact g1
              obtain ⟨q2, g3, n3⟩ := s4.ne j q1 g2 n1
              obtain ⟨q3, g4, n4⟩ := s5.ne j q2 g3 n3
              exact ⟨q3, by rw [wg6, if_neg hj]; exact g4, n4⟩
          · cases lc
      · rintro H' ⟨Ao', Γi, accD, accV, t, aD, hacc, dacc, lc, emp, ne⟩
        rw [List.drop_length] at lc
        cases lc
        have rl : ∀ {j : Nat} {s : Slot}, (restG z.2.2 Γi own)[j]? = some s → j < Γi.length := fun {j s} e => by
          have h := (List.getElem?_eq_some_iff.mp e).1
          rw [restG_len] at h
          exact h
        have hs : ∀ (j : Nat) s, (restG z.2.2 Γi own)[j]? = some s → s ≠ .emp → (Γi[j]? = some s ∧ σ[j]? = (wipe σ own)[j]?) ∨ ∃ d v, s = .sh d ∧ σ[j]? = some (some v) ∧ DV K (Av Ao' (wipe σ own) Γi) H' d v := fun j s e n => by
          rw [restG_get own _ _ j (rl e)] at e
          by_cases hj : j ∈ own
          · rw [if_pos hj] at e
            right
            obtain ⟨s', e1, e2⟩ := wn j hj
            rw [lockAll_get] at e1
            cases eg : z.2.2[j]? with
            | none =>
              rw [eg] at e
              cases e
              exact absurd rfl n
            | some s1 =>
              rw [eg] at e e1
              cases e
              cases s1 with
              | emp => exact absurd rfl n
              | sh d =>
                obtain ⟨v, w1, w2⟩ := s1.rel.sh j d eg
                exact ⟨d, v, rfl, w1, DV.mv (sl.s.trans t).mv w2⟩
              | li ds p st =>
                exfalso
                by_cases hm : j ∈ z.2.1
                · rw [if_pos hm] at e1
                  cases st <;> (cases e1; exact e2 _ _ _ rfl)
                · rw [if_neg hm] at e1
                  cases e1
                  exact e2 _ _ _ rfl
          · rw [if_neg hj] at e
            exact .inl ⟨e, by rw [wipe_get, if_neg hj]⟩
        have hk : ∀ (j : Nat) ds p st, Γi[j]? = some (.li ds p st) → (restG z.2.2 Γi own)[j]? = some (.li ds p st) ∧ σ[j]? = (wipe σ own)[j]? := fun j ds p st e => by
          have hj : j ∉ own := fun hj => by
            rw [emp j hj] at e
            cases e
          exact ⟨by rw [restG_get own _ _ j (List.getElem?_eq_some_iff.mp e).1, if_neg hj]; exact e, by rw [wipe_get, if_neg hj]⟩
        have tR := t.swap (restG_len ..) (wipe_length ..).symm hs hk
        have tR' := (Stp.refl t.rel).swap (restG_len ..) (wipe_length ..).symm hs hk
        have tU : Stp K Ao σ H Γ Ao' σ H' (unlockAll (restG z.2.2 Γi own) z.2.1) := s1.s.trans ((sl.s.trans tR).unlockAll z.2.1 fun i hi ds p e => ⟨evI_own ez i hi, rfl⟩)
        refine q1 Ao' (.ref D) H' ⟨tU, fun j s e n => ?_⟩ ⟨D, accV, rfl, s1.s.bk D hD, aD, hacc, (dacc.mv tR'.mv).mv ⟨fun _ _ _ e => e, fun b _ _ z => unlock_av.1 z⟩⟩
        obtain ⟨s2, g1, n1⟩ := s1.ne j s e n
        have key : ∃ s3, (restG z.2.2 Γi own)[j]? = some s3 ∧ s3 ≠ .emp := by
          have hlt : j < Γi.length := by
            rw [t.len, sl.s.len]
            exact (List.getElem?_eq_some_iff.mp g1).1
          rw [restG_get own _ _ j hlt]
          by_cases hj : j ∈ own
          · rw [if_pos hj, g1]
            exact ⟨s2, rfl, n1⟩
          · rw [if_neg hj]
            obtain ⟨s3, g2, n2⟩ := sl.ne j s2 g1 n1
            exact ne j s3 hj g2 n2
        obtain ⟨s3, g3, n3⟩ := key
        rw [unlockAll_get, g3]
        by_cases hm : j ∈ z.2.1
        · rw [if_pos hm]
          cases s3 with
          | emp => exact absurd rfl n3
          | sh d => exact ⟨_, rfl, fun w => by cases w⟩
          | li ds p st => cases st <;> exact ⟨_, rfl, fun w => by cases w⟩
        · rw [if_neg hm]
          exact ⟨s3, rfl, n3⟩
theorem mts {cs : Exs} {ifs : List Expr} (h : match cs, ifs with | .nil, [] => True | .cons c .nil, [e] => PT X e (tT X.K P.mute c) | _, _ => False) : PTs X ifs (tCs X.K P.mute cs) := by
  cases cs with
  | nil =>
    cases ifs with
    | nil => exact pts_nil
    | cons _ _ => exact h.elim
  | cons c cs =>
    cases cs with
    | cons _ _ => exact h.elim
    | nil =>
      cases ifs with
      | nil => exact h.elim
      | cons e es =>
        cases es with
        | nil => exact pts_one h
        | cons _ _ => exact h.elim
theorem me_comp {t : Tg} {it : It} {cs : Exs} {x : Ex} {elt tg iter : Expr} {ifs : List Expr} {scope : Scope} {own : List (Str × Nat)} {pos : Pos} (hown : ∀ i ∈ tgIdx t, i ∈ own.map (·.2)) (hc : X.calm = true) (hN : X.N.Nodup) (hi : PI X tg iter (tI X.K P it)) (ok : BlkOk X.N X.env.scope scope own)
    (hg : ∀ (s : Shared) (H : Hp) (C : Addr) (cl : List (Str × Addr)) (fp : List Addr), PG (X.blk s H scope (compEnvC scope cl C X.env) fp) tg (gTg X.K t)) (ht : ∀ (s : Shared) (H : Hp) (C : Addr) (cl : List (Str × Addr)) (fp : List Addr), PTs (X.blk s H scope (compEnvC scope cl C X.env) fp) ifs (tCs X.K P.mute cs))
    (he : ∀ (s : Shared) (H : Hp) (C : Addr) (cl : List (Str × Addr)) (fp : List Addr), PE (X.blk s H scope (compEnvC scope cl C X.env) fp) elt (tE X.K P.mute x)) (hs : ∀ x, foldedSetIterable iter X.env x = pure x) :
    PE X (.ListComp elt [⟨tg, iter, ifs, 0⟩] scope pos) (tE X.K P (.comp t it cs x (own.map (·.2)))) := (pe_lc hc hN hi ok hg ht he hs).imp fun σ H Q q => comp_go hown q
theorem ms_setLc {i : Nat} {y : Str} {py spos : Pos} {t : Tg} {it : It} {cs : Exs} {x : Ex} {elt tg iter : Expr} {ifs : List Expr} {scope : Scope} {own : List (Str × Nat)} {pos : Pos} (hown : ∀ i ∈ tgIdx t, i ∈ own.map (·.2)) (hc : X.calm = true) (hN : X.N.Nodup) (hy : X.N[i]? = some y) (hyl : X.env.scope.names.lookup y = some .local)
    (hsw : swapsWith (.ListComp elt [⟨tg, iter, ifs, 0⟩] scope pos) (some (.Name y py)) spos.line X.env = pure true) (hi : PI X tg iter (tI X.K P it)) (ok : BlkOk X.N X.env.scope scope own)
    (hg : ∀ (s : Shared) (H : Hp) (C : Addr) (cl : List (Str × Addr)) (fp : List Addr), PG (X.blk s H scope (compEnvC scope cl C X.env) fp) tg (gTg X.K t)) (ht : ∀ (s : Shared) (H : Hp) (C : Addr) (cl : List (Str × Addr)) (fp : List Addr), PTs (X.blk s H scope (compEnvC scope cl C X.env) fp) ifs (tCs X.K P.mute cs))
    (he : ∀ (s : Shared) (H : Hp) (C : Addr) (cl : List (Str × Addr)) (fp : List Addr), PE (X.blk s H scope (compEnvC scope cl C X.env) fp) elt (tE X.K P.mute x)) (hs : ∀ x, foldedSetIterable iter X.env x = pure x) :
    PS X (.Assign [.Name y py] (.ListComp elt [⟨tg, iter, ifs, 0⟩] scope pos) spos) (tS X.K P (.asg (.nm i) (.comp t it cs x (own.map (·.2))))) := (ps_setLc hc hN hy hyl hsw hi ok hg ht he hs).imp fun D0 σ H q => by
  have e : tE X.K P (.comp t it cs x (own.map (·.2))) σ H fun x H1 => D0.nx (σ.set i (some x)) H1 := by
    obtain ⟨Ao, Γ, r, q⟩ := q
    have q : Out P σ H Γ ((ev P.S (.comp t it cs x (own.map (·.2))) Γ).bind fun r => (keep r).bind fun k => (setS k.2 i k.1).bind fun Γ' => R.ok (Fl.nx, Γ')) (EndK X.K D0 Ao σ H Γ) := by
      unfold ex at q
      exact q
    have e : ∀ r0 : R (Opd × G), (r0.bind fun r => (keep r).bind fun k => (setS k.2 i k.1).bind fun Γ' => R.ok (Fl.nx, Γ')) = (r0.bind fun r => (keep r).bind fun k => setS k.2 i k.1).bind fun Γ' => R.ok (Fl.nx, Γ') := fun r0 => by
      rw [bind_assoc]
      congr 1
      funext r
      rw [bind_assoc]
    rw [e, Out.bind] at q
    exact keep_set r q fun Γ2 Ao2 x H1 k s => k Ao2 _ H1 s
  exact comp_go hown e
end
end Mir

set_option Elab.async false
set_option autoImplicit false
set_option linter.all false
set_option maxRecDepth 100000
set_option maxHeartbeats 4000000
/-! # Mir14: calls of the program's own defs -/
namespace Mir
open PySem L2
/-- every list that comes in is lent -/
def Pinned (args : List Slot) : Prop := ∀ (i : Nat) ds p st, args[i]? = some (Slot.li ds p st) → p = true
/-- what a def promises -/
def spF (K : PySem.W.Frag) (C : CallT) (cl : Nat → Addr) (f : Nat) : Sp := fun vs H Q E => ∃ Ao args, Rel K Ao (vs.map some) H args ∧ Pinned args ∧ match C f args with
  | .ok r => ∀ Ao' v H', Stp K Ao (vs.map some) H args Ao' (vs.map some) H' r.2.2 → RetV K (vs.map some) H args Ao' (vs.map some) H' r.2.2 r.1 r.2.1 v → Q v H'
  | .exc c => ∀ H', FrX (vs.map some) H args H' → E (.ref (cl c)) none H'
  | .no => False
section
variable {K : PySem.W.Frag} {Ao Ao' Ao1 : Addr → Prop} {σ σ' σ1 : St} {H H' H0 H1 : Hp} {Γ Γ' Γ1 : G}
/-! ## what a call lends -/
theorem lend_slot (Γ : G) (i : Nat) : lend Γ (.slot i) = (match Γ[i]? with
    | some (.li ds _ .froz) => .sh (.list ds)
    | some (.li ds _ st) => .li ds true st
    | some s => s
    | none => .emp) := rfl
theorem lend_ok {o : Opd} {v : V} (r : Rel K Ao σ H Γ) (h : OR K H0 Ao σ H Γ o v) :
    (∃ d, lend Γ o = .sh d ∧ DV K (Av Ao σ Γ) H d v) ∨ ∃ ds st a ws, lend Γ o = .li ds true st ∧ st ≠ .froz ∧ v = .ref a ∧ H a = some (.lst ws) ∧ DVs K (Av Ao σ Γ) H ds ws ∧
      ((∃ i p, o = .slot i ∧ Γ[i]? = some (.li ds p st) ∧ σ[i]? = some (some (.ref a))) ∨ (o = .tmp ds ∧ st = .own ∧ Ao a ∧ H0 a = none)) := by
  cases o with
  | val d => exact .inl ⟨d, rfl, h⟩
  | tmp ds =>
    obtain ⟨a, ws, e, n, h1, h2, h3⟩ := h
    exact .inr ⟨ds, .own, a, ws, rfl, by decide, e, h2, h3, .inr ⟨rfl, rfl, h1, n⟩⟩
  | slot i =>
    obtain ⟨h1, s, h2, h3⟩ := h
    cases s with
    | emp => exact absurd rfl h3
    | sh d =>
      obtain ⟨w, q1, q2⟩ := r.sh i d h2
      rw [h1] at q1
      cases q1
      exact .inl ⟨d, by rw [lend_slot, h2], q2⟩
    | li ds p st =>
      obtain ⟨a, ws, q1, q2, q3, q4, q5⟩ := r.li i ds p st h2
      rw [h1] at q1
      cases q1
      cases st with
      | froz =>
        refine .inl ⟨.list ds, by rw [lend_slot, h2], ?_⟩
        unfold DV
        exact ⟨a, ws, rfl, ⟨q2, q5 rfl⟩, q3⟩
      | own => exact .inr ⟨ds, .own, a, ws, by rw [lend_slot, h2], by decide, rfl, q2, q3, .inl ⟨i, p, rfl, h2, h1⟩⟩
      | lock => exact .inr ⟨ds, .lock, a, ws, by rw [lend_slot, h2], by decide, rfl, q2, q3, .inl ⟨i, p, rfl, h2, h1⟩⟩
theorem ORs.len : ∀ {H0 : Hp} {os : List Opd} {vs : List V}, ORs K Ao σ H Γ H0 os vs → vs.length = os.length
  | _, [], _, h => by rw [show _ = [] from h]; rfl
  | _, _ :: _, _, ⟨v, q, H1, e, _, _, _, h4⟩ => by rw [e, List.length_cons, List.length_cons, ORs.len (H0 := H1) h4]
theorem ORs.get : ∀ {H0 : Hp} {os : List Opd} {vs : List V} {m : Nat} {o : Opd}, ORs K Ao σ H Γ H0 os vs → os[m]? = some o → ∃ v, vs[m]? = some v ∧ OR K H0 Ao σ H Γ o v
  | _, [], _, _, _, _, e => by simp at e
  | H0, o :: os, vs, 0, o', ⟨v, q, H1, e, h1, h2, _, h4⟩, eo => by
    simp at eo
    subst eo
    exact ⟨v, by rw [e]; rfl, h1⟩
  | H0, o :: os, vs, m + 1, o', ⟨v, q, H1, e, h1, h2, _, h4⟩, eo => by
    rw [List.getElem?_cons_succ] at eo
    obtain ⟨w, g1, g2⟩ := ORs.get (H0 := H1) (m := m) h4 eo
    exact ⟨w, by rw [e, List.getElem?_cons_succ]; exact g1, g2.back h2⟩
/-- two new lists in a row are two -/
theorem ORs.tmp : ∀ {H0 : Hp} {os : List Opd} {vs : List V} {m n : Nat} {d e : List D} {a : Addr}, ORs K Ao σ H Γ H0 os vs → m < n → os[m]? = some (Opd.tmp d) → os[n]? = some (Opd.tmp e) → vs[m]? = some (.ref a) → vs[n]? = some (.ref a) → False
  | _, [], _, _, _, _, _, _, _, _, h, _, _, _ => by simp at h
  | H0, o :: os, vs, 0, n + 1, d, e, a, ⟨v, q, H1, ev, h1, h2, h3, h4⟩, _, e1, e2, e3, e4 => by
    simp at e1
    rw [List.getElem?_cons_succ] at e2
    rw [ev] at e3 e4
    rw [List.getElem?_cons_succ] at e4
    cases e3
    obtain ⟨w, g1, b, ws, g2, g3, _⟩ := ORs.get (H0 := H1) h4 e2
    rw [e4] at g1
    cases g1
    cases g2
    exact h3 d e1 _ rfl g3
  | H0, o :: os, vs, m + 1, n + 1, d, e, a, ⟨v, q, H1, ev, h1, h2, h3, h4⟩, hl, e1, e2, e3, e4 => by
    rw [List.getElem?_cons_succ] at e1 e2
    rw [ev, List.getElem?_cons_succ] at e3 e4
    exact ORs.tmp (H0 := H1) h4 (Nat.lt_of_succ_lt_succ hl) e1 e2 e3 e4
theorem mem_lent : ∀ {os : List Opd} {m i : Nat} {ds : List D} {p : Bool} {st : LS}, os[m]? = some (Opd.slot i) → Γ[i]? = some (.li ds p st) → st ≠ .froz → i ∈ lent Γ os
  | [], _, _, _, _, _, h, _, _ => by simp at h
  | o :: os, 0, i, ds, p, st, h, e, n => by
    simp at h
    subst h
    unfold lent
    rw [e]
    cases st with
    | froz => exact absurd rfl n
    | own => exact List.mem_cons_self ..
    | lock => exact List.mem_cons_self ..
  | o :: os, m + 1, i, ds, p, st, h, e, n => by
    rw [List.getElem?_cons_succ] at h
    have ih := mem_lent (m := m) h e n
    cases o with
    | val d => exact ih
    | tmp d => exact ih
    | slot j =>
      unfold lent
      split
      · exact ih
      · exact List.mem_cons_of_mem _ ih
      · exact ih
theorem nodupB_ok {x : Nat} {xs : List Nat} (h : nodupB (x :: xs) = true) : x ∉ xs ∧ nodupB xs = true := by
  unfold nodupB at h
  rw [Bool.and_eq_true] at h
  refine ⟨fun hm => ?_, h.2⟩
  have := h.1
  rw [Bool.not_eq_true', List.contains_eq_mem] at this
  exact of_decide_eq_false this hm
theorem lent_tail {o : Opd} {os : List Opd} (h : nodupB (lent Γ (o :: os)) = true) : nodupB (lent Γ os) = true := by
  cases o with
  | val d => exact h
  | tmp d => exact h
  | slot j =>
    unfold lent at h
    split at h
    · exact h
    · exact (nodupB_ok h).2
    · exact h
theorem lent_inj : ∀ {os : List Opd} {m n i : Nat} {ds : List D} {p : Bool} {st : LS}, nodupB (lent Γ os) = true → os[m]? = some (Opd.slot i) → os[n]? = some (Opd.slot i) → Γ[i]? = some (.li ds p st) → st ≠ .froz → m = n
  | [], _, _, _, _, _, _, _, h, _, _, _ => by simp at h
  | o :: os, 0, 0, _, _, _, _, _, _, _, _, _ => rfl
  | o :: os, 0, n + 1, i, ds, p, st, nd, h1, h2, e, nf => by
    simp at h1
    subst h1
    rw [List.getElem?_cons_succ] at h2
    have hm := mem_lent h2 e nf
    exfalso
    unfold lent at nd
    rw [e] at nd
    cases st with
    | froz => exact nf rfl
    | own => exact (nodupB_ok nd).1 hm
    | lock => exact (nodupB_ok nd).1 hm
  | o :: os, m + 1, 0, i, ds, p, st, nd, h1, h2, e, nf => by
    simp at h2
    subst h2
    rw [List.getElem?_cons_succ] at h1
    have hm := mem_lent h1 e nf
    exfalso
    unfold lent at nd
    rw [e] at nd
    cases st with
    | froz => exact nf rfl
    | own => exact (nodupB_ok nd).1 hm
    | lock => exact (nodupB_ok nd).1 hm
  | o :: os, m + 1, n + 1, i, ds, p, st, nd, h1, h2, e, nf => by
    rw [List.getElem?_cons_succ] at h1 h2
    rw [lent_inj (lent_tail nd) h1 h2 e nf]
/-! ## what comes back -/
/-- a lent slot as it comes back -/
inductive Bk : Slot → Slot → Slot → Prop where
  | own (ds ds' : List D) (p : Bool) : Bk (.li ds p .own) (.li ds' true .own) (.li ds' p .own)
  | lock (ds ds' : List D) (p : Bool) : Bk (.li ds p .lock) (.li ds' true .lock) (.li ds' p .lock)
  | pin (ds ds' : List D) : Bk (.li ds true .own) (.li ds' true .froz) (.li ds' true .froz)
  | froz (ds ds' : List D) : Bk (.li ds false .own) (.li ds' true .froz) (.sh (.list ds'))
theorem back1_ok {i : Nat} {s : Slot} (h : back1 Γ i s = .ok Γ') : ∃ s0 s1, Γ[i]? = some s0 ∧ Bk s0 s s1 ∧ Γ' = Γ.set i s1 := by
  unfold back1 at h
  split at h
  · rename_i ds p st ds' st' e
    split at h
    · cases h; exact ⟨_, _, e, .own _ _ _, rfl⟩
    · cases h; exact ⟨_, _, e, .lock _ _ _, rfl⟩
    · cases h; exact ⟨_, _, e, .pin _ _, rfl⟩
    · cases h; exact ⟨_, _, e, .froz _ _, rfl⟩
    · cases h
  · cases h
theorem lent_congr {Γ Γ' : G} : ∀ {os : List Opd}, (∀ i, Opd.slot i ∈ os → Γ'[i]? = Γ[i]?) → lent Γ' os = lent Γ os
  | [], _ => rfl
  | o :: os, h => by
    have ih := lent_congr (Γ := Γ) (Γ' := Γ') (os := os) fun i hi => h i (List.mem_cons_of_mem _ hi)
    cases o with
    | val d => exact ih
    | tmp d => exact ih
    | slot j =>
      unfold lent
      rw [h j (List.mem_cons_self ..), ih]
theorem back_ok : ∀ {os : List Opd} {fs : List Slot} {Γ Γ' : G}, nodupB (lent Γ os) = true → back Γ os fs = .ok Γ' → Γ'.length = Γ.length ∧ ∀ j, (j ∉ lent Γ os ∧ Γ'[j]? = Γ[j]?) ∨ ∃ (m : Nat) (s0 s s1 : Slot), os[m]? = some (Opd.slot j) ∧ fs[m]? = some s ∧ Γ[j]? = some s0 ∧ Bk s0 s s1 ∧ Γ'[j]? = some s1
  | [], [], Γ, Γ', _, h => by cases h; exact ⟨rfl, fun j => .inl ⟨fun z => (by cases z), rfl⟩⟩
  | [], _ :: _, _, _, _, h => by cases h
  | o :: os, [], Γ, Γ', _, h => by cases o <;> cases h
  | o :: os, f :: fs, Γ, Γ', nd, h => by
    have tail : back Γ os fs = .ok Γ' → lent Γ (o :: os) = lent Γ os → Γ'.length = Γ.length ∧ ∀ j, (j ∉ lent Γ (o :: os) ∧ Γ'[j]? = Γ[j]?) ∨ ∃ (m : Nat) (s0 s s1 : Slot), (o :: os)[m]? = some (Opd.slot j) ∧ (f :: fs)[m]? = some s ∧ Γ[j]? = some s0 ∧ Bk s0 s s1 ∧ Γ'[j]? = some s1 := fun h el => by
      rw [el] at nd ⊢
      obtain ⟨l, g⟩ := back_ok nd h
      refine ⟨l, fun j => (g j).imp id fun ⟨m, s0, s, s1, e⟩ => ⟨m + 1, s0, s, s1, by rw [List.getElem?_cons_succ, List.getElem?_cons_succ]; exact e⟩⟩
    cases o with
    | val d => exact tail h rfl
    | tmp d => exact tail h rfl
    | slot i =>
      have h : (match Γ[i]? with
        | some (.li _ _ .froz) => back Γ os fs
        | some (.li _ _ _) => (back1 Γ i f).bind fun Γ' => back Γ' os fs
        | _ => back Γ os fs) = .ok Γ' := h
      split at h
      · rename_i ds p e
        refine tail h ?_
        show (match Γ[i]? with
          | some (.li _ _ .froz) => lent Γ os
          | some (.li _ _ _) => i :: lent Γ os
          | _ => lent Γ os) = lent Γ os
        rw [e]
      · rename_i ds p st nf e
        obtain ⟨Γ1, e1, e2⟩ := Mir.R.bind_eq_ok h
        obtain ⟨s0, s1, g0, bk, rfl⟩ := back1_ok e1
        have el : lent Γ (.slot i :: os) = i :: lent Γ os := by
          show (match Γ[i]? with
            | some (.li _ _ .froz) => lent Γ os
            | some (.li _ _ _) => i :: lent Γ os
            | _ => lent Γ os) = i :: lent Γ os
          rw [e]
          cases st with
          | froz => exact (nf rfl).elim
          | own => rfl
          | lock => rfl
        rw [el] at nd ⊢
        obtain ⟨n1, n2⟩ := nodupB_ok nd
        have hst : st ≠ .froz := nf
        have other : ∀ j, Opd.slot j ∈ os → (Γ.set i s1)[j]? = Γ[j]? := fun j hj => by
          obtain ⟨m, hm⟩ := List.getElem?_of_mem hj
          by_cases hij : i = j
          · subst hij
            exact absurd (mem_lent hm e hst) n1
          · rw [List.getElem?_set_ne hij]
        have lc := lent_congr other
        obtain ⟨l, g⟩ := back_ok (by rw [lc]; exact n2) e2
        refine ⟨by rw [l, List.length_set], fun j => ?_⟩
        rcases g j with ⟨k1, k2⟩ | ⟨m, t0, t, t1, k1, k2, k3, k4, k5⟩
        · rw [lc] at k1
          by_cases hij : i = j
          · subst hij
            refine .inr ⟨0, s0, f, s1, rfl, rfl, g0, bk, ?_⟩
            rw [k2, get_set g0, if_pos rfl]
          · refine .inl ⟨fun z => ?_, by rw [k2, List.getElem?_set_ne hij]⟩
            rcases List.mem_cons.mp z with z | z
            · exact hij z.symm
            · exact k1 z
        · refine .inr ⟨m + 1, t0, t, t1, k1, k2, ?_, k4, k5⟩
          rw [← other j (List.mem_of_getElem? k1)]
          exact k3
      · rename_i h1 h2
        refine tail h ?_
        show (match Γ[i]? with
          | some (.li _ _ .froz) => lent Γ os
          | some (.li _ _ _) => i :: lent Γ os
          | _ => lent Γ os) = lent Γ os
        split
        · rfl
        · rename_i ds p st nf e
          exact absurd e (h2 _ _ _)
        · rfl

/-- the heart: a call's step at its caller -/
theorem call_step {os : List Opd} {vs : List V} (r0 : Rel K Ao σ H0 Γ) (s1 : StE K Ao σ H0 Γ Ao1 H1 Γ1) (ors : ORs K Ao1 σ H1 Γ1 H0 os vs) (nd : nodupB (lent Γ1 os) = true) :
    ∃ AoC, Rel K AoC (vs.map some) H1 (os.map (lend Γ1)) ∧ Pinned (os.map (lend Γ1)) ∧ (∀ H', FrX (vs.map some) H1 (os.map (lend Γ1)) H' → FrX σ H0 Γ H') ∧
      ∀ (d : D) (own : Bool) (fin : List Slot) (v : V) (Γ2 : G) Ao' H', Stp K AoC (vs.map some) H1 (os.map (lend Γ1)) Ao' (vs.map some) H' fin → RetV K (vs.map some) H1 (os.map (lend Γ1)) Ao' (vs.map some) H' fin d own v → back Γ1 os fin = .ok Γ2 →
        (own = false → ∃ Ao2, StE K Ao σ H0 Γ Ao2 H' Γ2 ∧ OR K H0 Ao2 σ H' Γ2 (.val d) v) ∧ (∀ ds, own = true → d = .list ds → ∃ Ao2, StE K Ao σ H0 Γ Ao2 H' Γ2 ∧ OR K H0 Ao2 σ H' Γ2 (.tmp ds) v) := by
  have r1 := s1.rel
  have at_ : ∀ {m : Nat} {o : Opd}, os[m]? = some o → ∃ v, vs[m]? = some v ∧ OR K H0 Ao1 σ H1 Γ1 o v := fun {m o} e => ors.get e
  have ga : ∀ {m : Nat} {s : Slot}, (os.map (lend Γ1))[m]? = some s → ∃ o, os[m]? = some o ∧ lend Γ1 o = s := fun {m s} e => by
    rw [List.getElem?_map] at e
    cases eo : os[m]? with
    | none => rw [eo] at e; cases e
    | some o => rw [eo] at e; cases e; exact ⟨o, rfl, rfl⟩
  have gv : ∀ {m : Nat} {v : V}, vs[m]? = some v ↔ (vs.map some)[m]? = some (some v) := fun {m v} => by
    rw [List.getElem?_map]
    cases vs[m]? with
    | none => exact ⟨fun z => (by cases z), fun z => (by cases z)⟩
    | some w => exact ⟨fun z => (by cases z; rfl), fun z => (by cases z; rfl)⟩
  -- a lent list's place
  have lvA : ∀ {b : Addr}, Lv (vs.map some) (os.map (lend Γ1)) b → ∃ (m : Nat) (o : Opd) (ds : List D) (st : LS) (ws : List V), os[m]? = some o ∧ vs[m]? = some (.ref b) ∧ lend Γ1 o = .li ds true st ∧ st ≠ .froz ∧ H1 b = some (.lst ws) ∧ DVs K (Av Ao1 σ Γ1) H1 ds ws ∧
      ((∃ i p, o = .slot i ∧ Γ1[i]? = some (.li ds p st) ∧ σ[i]? = some (some (.ref b))) ∨ (o = .tmp ds ∧ st = .own ∧ Ao1 b ∧ H0 b = none)) := fun {b} ⟨m, es, p, st, e1, e2, e3⟩ => by
    obtain ⟨o, eo, el⟩ := ga e1
    obtain ⟨v, ev, orv⟩ := at_ eo
    have e3 := gv.2 e3
    rw [ev] at e3
    cases e3
    rcases lend_ok r1 orv with ⟨d, k, _⟩ | ⟨ds, st', a, ws, k1, k2, k3, k4, k5, k6⟩
    · rw [el] at k; cases k
    · cases k3
      exact ⟨m, o, ds, st', ws, eo, ev, k1, k2, k4, k5, k6⟩
  have lvAv : ∀ {b : Addr}, Lv (vs.map some) (os.map (lend Γ1)) b → Av Ao1 σ Γ1 b := fun {b} z => by
    obtain ⟨m, o, ds, st, ws, _, _, _, k2, _, _, k⟩ := lvA z
    rcases k with ⟨i, p, _, g1, g2⟩ | ⟨_, _, g, _⟩
    · exact .inr ⟨i, ds, p, st, g1, k2, g2⟩
    · exact .inl g
  have avE : ∀ b, Av (fun a => Av Ao1 σ Γ1 a ∧ ¬ Lv (vs.map some) (os.map (lend Γ1)) a) (vs.map some) (os.map (lend Γ1)) b ↔ Av Ao1 σ Γ1 b := fun b => by
    constructor
    · rintro (z | z)
      · exact z.1
      · exact lvAv z
    · intro z
      by_cases q : Lv (vs.map some) (os.map (lend Γ1)) b
      · exact .inr q
      · exact .inl ⟨z, q⟩
  have mE : Mv (Av Ao1 σ Γ1) (Av (fun a => Av Ao1 σ Γ1 a ∧ ¬ Lv (vs.map some) (os.map (lend Γ1)) a) (vs.map some) (os.map (lend Γ1))) H1 H1 := ⟨fun _ _ _ e => e, fun b _ _ z => (avE b).1 z⟩
  have pinned : Pinned (os.map (lend Γ1)) := fun i ds p st e => by
    obtain ⟨o, eo, el⟩ := ga e
    obtain ⟨v, ev, orv⟩ := at_ eo
    rcases lend_ok r1 orv with ⟨d, k, _⟩ | ⟨ds, st', a, ws, k1, _⟩
    · rw [el] at k; cases k
    · rw [el] at k1; cases k1; rfl
  have relC : Rel K (fun a => Av Ao1 σ Γ1 a ∧ ¬ Lv (vs.map some) (os.map (lend Γ1)) a) (vs.map some) H1 (os.map (lend Γ1)) := by
    refine ⟨by rw [List.length_map, List.length_map]; exact ors.len, fun a z => r1.avDom z.1, fun m d e => ?_, fun m ds p st e => ?_, fun m n es p st es' p' st' b e1 n1 e2 n2 f1 f2 => ?_⟩
    · obtain ⟨o, eo, el⟩ := ga e
      obtain ⟨v, ev, orv⟩ := at_ eo
      rcases lend_ok r1 orv with ⟨d', k, dv⟩ | ⟨ds, st', a, ws, k1, _⟩
      · rw [el] at k
        cases k
        exact ⟨v, gv.1 ev, dv.mv mE⟩
      · rw [el] at k1; cases k1
    · obtain ⟨o, eo, el⟩ := ga e
      obtain ⟨v, ev, orv⟩ := at_ eo
      rcases lend_ok r1 orv with ⟨d', k, dv⟩ | ⟨ds', st', a, ws, k1, k2, k3, k4, k5, _⟩
      · rw [el] at k; cases k
      · rw [el] at k1
        cases k1
        subst k3
        have lv : Lv (vs.map some) (os.map (lend Γ1)) a := ⟨m, ds, true, st, e, k2, gv.1 ev⟩
        exact ⟨a, ws, gv.1 ev, k4, k5.mv mE, fun _ z => z.2 lv, fun z => absurd z k2⟩
    · obtain ⟨o1, eo1, el1⟩ := ga e1
      obtain ⟨o2, eo2, el2⟩ := ga e2
      obtain ⟨v1, ev1, or1⟩ := at_ eo1
      obtain ⟨v2, ev2, or2⟩ := at_ eo2
      have f1 := gv.2 f1
      have f2 := gv.2 f2
      have f1' := f1
      have f2' := f2
      rw [ev1] at f1'
      rw [ev2] at f2'
      cases f1'
      cases f2'
      rcases lend_ok r1 or1 with ⟨d', k, _⟩ | ⟨ds1, st1, a1, ws1, k1, k2, k3, k4, k5, k6⟩
      · rw [el1] at k; cases k
      rcases lend_ok r1 or2 with ⟨d', k, _⟩ | ⟨ds2, st2, a2, ws2, j1, j2, j3, j4, j5, j6⟩
      · rw [el2] at k; cases k
      cases k3
      cases j3
      rcases k6 with ⟨i1, q1, w1, w2, w3⟩ | ⟨w1, w2, w3, w4⟩
      · rcases j6 with ⟨i2, q2, x1, x2, x3⟩ | ⟨x1, x2, x3, x4⟩
        · have ei := r1.inj i1 i2 _ _ _ _ _ _ b w2 k2 x2 j2 w3 x3
          subst ei w1 x1
          exact lent_inj nd eo1 eo2 w2 k2
        · exact absurd x3 (r1.lvAo ⟨i1, _, _, _, w2, k2, w3⟩)
      · rcases j6 with ⟨i2, q2, x1, x2, x3⟩ | ⟨x1, x2, x3, x4⟩
        · exact absurd w3 (r1.lvAo ⟨i2, _, _, _, x2, j2, x3⟩)
        · subst w1 x1
          rcases Nat.lt_trichotomy m n with h | h | h
          · exact (ors.tmp h eo1 eo2 ev1 ev2).elim
          · exact h
          · exact (ors.tmp h eo2 eo1 ev2 ev1).elim
  -- what the callee may change
  have muA : ∀ {b : Addr}, Mu (vs.map some) (os.map (lend Γ1)) b → Mu σ Γ1 b ∨ H0 b = none := fun {b} ⟨m, es, p, e1, e3⟩ => by
    obtain ⟨o, eo, el⟩ := ga e1
    obtain ⟨v, ev, orv⟩ := at_ eo
    have e3 := gv.2 e3
    rw [ev] at e3
    cases e3
    rcases lend_ok r1 orv with ⟨d, k, _⟩ | ⟨ds, st', a, ws, k1, k2, k3, k4, k5, k6⟩
    · rw [el] at k; cases k
    · rw [el] at k1
      cases k1
      cases k3
      rcases k6 with ⟨i, p', _, g1, g2⟩ | ⟨_, _, _, g⟩
      · exact .inl ⟨i, _, p', g1, g2⟩
      · exact .inr g
  have mu0 : ∀ {b : Addr} {o : HO}, H0 b = some o → ¬ Mu σ Γ b → ¬ Mu (vs.map some) (os.map (lend Γ1)) b := fun {b o} e n z => by
    rcases muA z with q | q
    · rcases s1.s.mu b q with q | q
      · exact n q
      · rw [q] at e; cases e
    · rw [q] at e; cases e
  refine ⟨_, relC, pinned, fun H' f => ⟨fun a o e n => f.1 a o (s1.s.fr a o e n) (mu0 e n), fun a n => f.2 a (s1.s.dm a n)⟩, fun d own fin v Γ2 Ao' H' s rv hb => ?_⟩
  obtain ⟨bl, bg⟩ := back_ok nd hb
  -- with the callee's result taken in
  have core : ∀ (AoR Ao2 : Addr → Prop), Rel K AoR (vs.map some) H' fin → (∀ b, Ao' b → AoR b) → (∀ b, AoR b → Ao' b ∨ H1 b = none) → (∀ b, Ao b → Ao2 b) → (∀ b, Ao2 b → Ao b ∨ (AoR b ∧ H1 b = none)) → StE K Ao σ H0 Γ Ao2 H' Γ2 ∧ ∀ b, Av Ao2 σ Γ2 b → Av AoR (vs.map some) fin b := fun AoR Ao2 r2 hR hR' hA hA' => by
    have a0 : ∀ {b : Addr}, Ao b → ¬ Lv (vs.map some) (os.map (lend Γ1)) b := fun {b} hb z => by
      obtain ⟨m, o, ds, st, ws, _, _, _, k2, _, _, k⟩ := lvA z
      rcases k with ⟨i, p, _, g1, g2⟩ | ⟨_, _, _, g⟩
      · exact r1.lvAo ⟨i, ds, p, st, g1, k2, g2⟩ (s1.s.ao b hb)
      · exact r0.dom b hb g
    have lvE : ∀ {j : Nat} {ds : List D} {p : Bool} {st : LS} {b : Addr}, j ∉ lent Γ1 os → Γ1[j]? = some (.li ds p st) → st ≠ .froz → σ[j]? = some (some (.ref b)) → ¬ Lv (vs.map some) (os.map (lend Γ1)) b := fun {j ds p st b} nj e n es z => by
      obtain ⟨m, o, ds', st', ws, eo, _, _, k2, _, _, k⟩ := lvA z
      rcases k with ⟨i, p', eo', g1, g2⟩ | ⟨_, _, g, _⟩
      · have ei := r1.inj i j _ _ _ _ _ _ b g1 k2 e n g2 es
        subst ei eo'
        exact nj (mem_lent eo g1 k2)
      · exact r1.lvAo ⟨j, ds, p, st, e, n, es⟩ g
    -- a lent slot's address
    have lentAt : ∀ {j m : Nat} {s0 t s1' : Slot}, os[m]? = some (Opd.slot j) → Γ1[j]? = some s0 → Bk s0 t s1' → ∃ b ws ds p st, s0 = .li ds p st ∧ st ≠ .froz ∧ σ[j]? = some (some (.ref b)) ∧ vs[m]? = some (.ref b) ∧ H1 b = some (.lst ws) := fun {j m s0 t s1'} eo es bk => by
      obtain ⟨v, ev, ov, _⟩ := at_ eo
      have li : ∃ ds p st, s0 = .li ds p st ∧ st ≠ .froz := by cases bk <;> exact ⟨_, _, _, rfl, by decide⟩
      obtain ⟨ds, p, st, e1, e2⟩ := li
      subst e1
      obtain ⟨b, ws, w1, w2, _⟩ := r1.li j ds p st es
      rw [ov] at w1
      cases w1
      exact ⟨b, ws, ds, p, st, rfl, e2, ov, ev, w2⟩
    have av2 : ∀ b, Av Ao2 σ Γ2 b → Av AoR (vs.map some) fin b := fun b z => by
      rcases z with z | ⟨j, es, p, st, e1, e2, e3⟩
      · rcases hA' b z with q | q
        · exact .inl (hR b (s.ao b ⟨.inl (s1.s.ao b q), a0 q⟩))
        · exact .inl q.1
      · rcases bg j with ⟨nj, ej⟩ | ⟨m, s0, t, t1, eo, ef, eg, bk, e2'⟩
        · rw [ej] at e1
          exact .inl (hR b (s.ao b ⟨.inr ⟨j, es, p, st, e1, e2, e3⟩, lvE nj e1 e2 e3⟩))
        · rw [e1] at e2'
          cases e2'
          obtain ⟨c, ws, ds0, p0, st0, k1, k2, k3, k4, k5⟩ := lentAt eo eg bk
          rw [e3] at k3
          cases k3
          cases bk with
          | own => exact .inr ⟨m, _, true, .own, ef, by decide, gv.1 k4⟩
          | lock => exact .inr ⟨m, _, true, .lock, ef, by decide, gv.1 k4⟩
          | pin => exact absurd rfl e2
    have mvR : Mv (Av Ao1 σ Γ1) (Av Ao2 σ Γ2) H1 H' := ⟨fun b o n e => s.fr b o e fun z => n (lvAv z.lv), fun b o e z => by
      have q := av2 b z
      have q : Av Ao' (vs.map some) fin b := by
        rcases q with q | q
        · rcases hR' b q with q | q
          · exact .inl q
          · rw [q] at e; cases e
        · exact .inr q
      exact (avE b).1 (s.mv.na b o e q)⟩
    have mv2 : Mv (Av AoR (vs.map some) fin) (Av Ao2 σ Γ2) H' H' := ⟨fun _ _ _ e => e, fun b _ _ z => av2 b z⟩
    have ao2 : ∀ {b : Addr} {o : HO}, Ao2 b → H1 b = some o → Ao b := fun {b o} z e => by
      rcases hA' b z with q | q
      · exact q
      · rw [q.2] at e; cases e
    have lv2 : ∀ b, Lv σ Γ2 b → Lv σ Γ1 b := fun b ⟨j, es, p, st, e1, e2, e3⟩ => by
      rcases bg j with ⟨nj, ej⟩ | ⟨m, s0, t, t1, eo, ef, eg, bk, e2'⟩
      · rw [ej] at e1
        exact ⟨j, es, p, st, e1, e2, e3⟩
      · obtain ⟨c, ws, ds0, p0, st0, k1, k2, k3, k4, k5⟩ := lentAt eo eg bk
        rw [e3] at k3
        cases k3
        exact ⟨j, ds0, p0, st0, by rw [← k1]; exact eg, k2, e3⟩
    have mu2 : ∀ b, Mu σ Γ2 b → Mu σ Γ1 b := fun b ⟨j, es, p, e1, e3⟩ => by
      rcases bg j with ⟨nj, ej⟩ | ⟨m, s0, t, t1, eo, ef, eg, bk, e2'⟩
      · rw [ej] at e1
        exact ⟨j, es, p, e1, e3⟩
      · rw [e1] at e2'
        cases e2'
        cases bk with
        | own ds ds' p => exact ⟨j, ds, p, eg, e3⟩
    have rel2 : Rel K Ao2 σ H' Γ2 := by
      refine ⟨by rw [bl]; exact r1.len, fun b z => ?_, fun j d' e => ?_, fun j es p st e => ?_, fun j k es p st es' p' st' b e1 n1 e2 n2 f1 f2 => ?_⟩
      · rcases hA' b z with q | q
        · exact s.dm b (s1.s.dm b (r0.dom b q))
        · exact r2.dom b q.1
      · rcases bg j with ⟨nj, ej⟩ | ⟨m, s0, t, t1, eo, ef, eg, bk, e2'⟩
        · rw [ej] at e
          obtain ⟨v, w1, w2⟩ := r1.sh j d' e
          exact ⟨v, w1, w2.mv mvR⟩
        · rw [e] at e2'
          cases e2'
          obtain ⟨c, ws, ds0, p0, st0, k1, k2, k3, k4, k5⟩ := lentAt eo eg bk
          cases bk with
          | froz ds ds' =>
            obtain ⟨a', ws', w1, w2, w3, _, w5⟩ := r2.li m ds' true .froz ef
            rw [gv.1 k4] at w1
            cases w1
            refine ⟨_, k3, ?_⟩
            unfold DV
            exact ⟨c, ws', rfl, ⟨w2, fun z => w5 rfl (av2 c z)⟩, w3.mv mv2⟩
      · rcases bg j with ⟨nj, ej⟩ | ⟨m, s0, t, t1, eo, ef, eg, bk, e2'⟩
        · rw [ej] at e
          obtain ⟨b, ws, w1, w2, w3, w4, w5⟩ := r1.li j es p st e
          have nb : ¬ Lv (vs.map some) (os.map (lend Γ1)) b := fun z => by
            by_cases f : st = .froz
            · exact w5 f (lvAv z)
            · exact lvE nj e f w1 z
          refine ⟨b, ws, w1, s.fr b _ w2 fun z => nb z.lv, w3.mv mvR, fun f q => w4 f (s1.s.ao b (ao2 q w2)), fun f q => w5 f (mvR.na b _ w2 q)⟩
        · rw [e] at e2'
          cases e2'
          obtain ⟨c, ws, ds0, p0, st0, k1, k2, k3, k4, k5⟩ := lentAt eo eg bk
          have lvc : Lv σ Γ1 c := ⟨j, ds0, p0, st0, by rw [← k1]; exact eg, k2, k3⟩
          have no : ¬ Ao2 c := fun q => r1.lvAo lvc (s1.s.ao c (ao2 q k5))
          cases bk with
          | own ds ds' p =>
            obtain ⟨a', ws', w1, w2, w3, _, w5⟩ := r2.li m _ true _ ef
            rw [gv.1 k4] at w1
            cases w1
            exact ⟨c, ws', k3, w2, w3.mv mv2, fun _ => no, fun z => by cases z⟩
          | lock ds ds' p =>
            obtain ⟨a', ws', w1, w2, w3, _, w5⟩ := r2.li m _ true _ ef
            rw [gv.1 k4] at w1
            cases w1
            exact ⟨c, ws', k3, w2, w3.mv mv2, fun _ => no, fun z => by cases z⟩
          | pin ds ds' =>
            obtain ⟨a', ws', w1, w2, w3, _, w5⟩ := r2.li m _ true _ ef
            rw [gv.1 k4] at w1
            cases w1
            exact ⟨c, ws', k3, w2, w3.mv mv2, fun z => absurd rfl z, fun _ z => w5 rfl (av2 c z)⟩
      · have old : ∀ {j : Nat} {es p st}, Γ2[j]? = some (.li es p st) → st ≠ .froz → ∃ es' p' st', Γ1[j]? = some (.li es' p' st') ∧ st' ≠ .froz := fun {j es p st} e n => by
          rcases bg j with ⟨nj, ej⟩ | ⟨m, s0, t, t1, eo, ef, eg, bk, e2'⟩
          · rw [ej] at e
            exact ⟨es, p, st, e, n⟩
          · obtain ⟨c, ws, ds0, p0, st0, k1, k2, k3, k4, k5⟩ := lentAt eo eg bk
            exact ⟨ds0, p0, st0, by rw [← k1]; exact eg, k2⟩
        obtain ⟨_, _, _, g1, m1⟩ := old e1 n1
        obtain ⟨_, _, _, g2, m2⟩ := old e2 n2
        exact r1.inj j k _ _ _ _ _ _ b g1 m1 g2 m2 f1 f2
    refine ⟨⟨⟨rel2, hA, fun b z => ?_, fun b o e n => s.fr b o (s1.s.fr b o e n) (mu0 e n), fun b n => s.dm b (s1.s.dm b n), fun b z => s1.s.lv b (lv2 b z), fun b z => s1.s.mu b (mu2 b z), fun j es st e => ?_, fun j es st e => ?_, fun j es p e => ?_, bl.trans s1.s.len⟩, fun j x e n => ?_⟩, av2⟩
    · rcases hA' b z with q | q
      · exact .inl q
      · exact .inr (s1.s.bk b q.2)
    · obtain ⟨ds', st', g1, g2⟩ := s1.s.pin j es st e
      rcases bg j with ⟨nj, ej⟩ | ⟨m, s0, t, t1, eo, ef, eg, bk, e2'⟩
      · exact ⟨ds', st', by rw [ej]; exact g1, rfl⟩
      · rw [g1] at eg
        cases eg
        cases bk with
        | own ds ds' p => exact ⟨_, _, e2', rfl⟩
        | lock ds ds' p => exact ⟨_, _, e2', rfl⟩
        | pin ds ds' => exact ⟨_, _, e2', rfl⟩
    · rcases bg j with ⟨nj, ej⟩ | ⟨m, s0, t, t1, eo, ef, eg, bk, e2'⟩
      · rw [ej] at e
        exact s1.s.pinb j es st e
      · rw [e] at e2'
        cases e2'
        cases bk with
        | own ds ds' p => exact s1.s.pinb j _ _ eg
        | lock ds ds' p => exact s1.s.pinb j _ _ eg
        | pin ds ds' => exact s1.s.pinb j _ _ eg
    · obtain ⟨ds', g1, g2⟩ := s1.s.lk j es p e
      rcases bg j with ⟨nj, ej⟩ | ⟨m, s0, t, t1, eo, ef, eg, bk, e2'⟩
      · exact ⟨ds', by rw [ej]; exact g1, rfl⟩
      · rw [g1] at eg
        cases eg
        cases bk with
        | lock ds ds' p => exact ⟨_, e2', rfl⟩
    · obtain ⟨y, g1, g2⟩ := s1.ne j x e n
      rcases bg j with ⟨nj, ej⟩ | ⟨m, s0, t, t1, eo, ef, eg, bk, e2'⟩
      · exact ⟨y, by rw [ej]; exact g1, g2⟩
      · exact ⟨_, e2', by cases bk <;> exact fun w => by cases w⟩
  refine ⟨fun ho => ?_, fun ds ho hd => ?_⟩
  · subst ho
    obtain ⟨st, av⟩ := core Ao' Ao s.rel (fun _ z => z) (fun _ z => .inl z) (fun _ z => z) fun _ z => .inl z
    exact ⟨Ao, st, DV.mv ⟨fun _ _ _ e => e, fun b _ _ z => av b z⟩ rv⟩
  · subst ho
    obtain ⟨a, ws, ds', e1, e2, e3, e4, e5, e6, e7⟩ := rv
    rw [hd] at e1
    cases e1
    have na : H1 a = none := by
      rcases e7 with e7 | ⟨i, es, g1, _⟩
      · exact e7
      · cases pinned i es false .own g1
    obtain ⟨st, av⟩ := core (fun b => Ao' b ∨ b = a) (fun b => Ao b ∨ b = a) e5 (fun _ z => .inl z) (fun b z => z.imp id fun z => by subst z; exact na) (fun _ z => .inl z) fun b z => z.imp id fun z => by subst z; exact ⟨.inr rfl, na⟩
    refine ⟨_, st, a, ws, e2, s1.s.bk a na, .inr rfl, e3, e6.mv ⟨fun _ _ _ e => e, fun b _ _ z => ?_⟩⟩
    rcases av b z with (z | z) | z
    · exact .inl (.inl z)
    · exact .inr z
    · exact .inl (.inr z)
end
end Mir

set_option Elab.async false
set_option autoImplicit false
set_option linter.all false
set_option maxRecDepth 100000
set_option maxHeartbeats 4000000
/-! # Mir15: calls by their readings; a def by its body -/
namespace Mir
open PySem L2
section
variable {X : Cx} {P : Par} {K : PySem.W.Frag} {Ao Ao' Ao1 : Addr → Prop} {σ σ' σ1 : St} {H H' H0 H1 : Hp} {Γ Γ' Γ1 : G} {Q : VK}
theorem back1_nx {i : Nat} {s : Slot} : ∀ c, back1 Γ i s ≠ .exc c := fun c e => by
  unfold back1 at e
  split at e
  · split at e <;> cases e
  · cases e
theorem back_nx : ∀ (os : List Opd) (fs : List Slot) (Γ : G) (c : Nat), back Γ os fs ≠ .exc c
  | [], [], _, _, e => by cases e
  | [], _ :: _, _, _, e => by cases e
  | o :: os, [], _, _, e => by cases o <;> cases e
  | o :: os, f :: fs, Γ, c, e => by
    cases o with
    | val d => exact back_nx os fs Γ c e
    | tmp d => exact back_nx os fs Γ c e
    | slot i =>
      have e : (match Γ[i]? with
        | some (.li _ _ .froz) => back Γ os fs
        | some (.li _ _ _) => (back1 Γ i f).bind fun Γ' => back Γ' os fs
        | _ => back Γ os fs) = .exc c := e
      split at e
      · exact back_nx os fs Γ c e
      · cases q : back1 Γ i f with
        | ok Γ' => rw [q] at e; exact back_nx os fs Γ' c e
        | exc c' => exact back1_nx _ q
        | no => rw [q] at e; cases e
      · exact back_nx os fs Γ c e
theorem call_go {f : Nat} {as : Exs} {cl : Nat → Addr} {W : XK} (hE : ∀ c H', P.E c H' → W (.ref (cl c)) none H') (q : tE K P (.call f as) σ H Q) : tA K P as σ H fun vs H1 => spF K P.S.call cl f vs H1 Q W := by
  obtain ⟨Ao, Γ, r, q⟩ := q
  unfold ev at q
  rw [Out.bind] at q
  refine ⟨Ao, Γ, r, q.imp fun z ez h Ao1 vs H1 s1 ors => ?_⟩
  obtain ⟨os, Γ1⟩ := z
  have h : Out P σ H Γ (if nodupB (lent Γ1 os) then
    (P.S.call f (os.map (lend Γ1))).bind fun r => (back Γ1 os r.2.2).bind fun Γ' =>
      match r.2.1, r.1 with
      | true, .list ds => R.ok (Opd.tmp ds, Γ')
      | true, _ => .no
      | false, d => .ok (.val d, Γ')
    else .no) fun r => ∀ Ao' v H', StE K Ao σ H Γ Ao' H' r.2 → OR K H Ao' σ H' r.2 r.1 v → Q v H' := h
  split at h
  · rename_i nd
    cases ec : P.S.call f (os.map (lend Γ1)) with
    | no => rw [ec] at h; exact h.elim
    | exc c =>
      rw [ec] at h
      obtain ⟨AoC, rc, pn, fx, _⟩ := call_step r s1 ors nd
      refine ⟨AoC, _, rc, pn, ?_⟩
      rw [ec]
      exact fun H' q => hE c H' (h H' (fx H' q))
    | ok rr =>
      rw [ec] at h
      obtain ⟨d, own, fin⟩ := rr
      have h : Out P σ H Γ ((back Γ1 os fin).bind fun Γ' =>
        match own, d with
        | true, .list ds => R.ok (Opd.tmp ds, Γ')
        | true, _ => .no
        | false, d => .ok (.val d, Γ')) fun r => ∀ Ao' v H', StE K Ao σ H Γ Ao' H' r.2 → OR K H Ao' σ H' r.2 r.1 v → Q v H' := h
      cases eb : back Γ1 os fin with
      | no => rw [eb] at h; exact h.elim
      | exc c => exact absurd eb (back_nx _ _ _ _)
      | ok Γ2 =>
        rw [eb] at h
        obtain ⟨AoC, rc, pn, _, st⟩ := call_step r s1 ors nd
        refine ⟨AoC, _, rc, pn, ?_⟩
        rw [ec]
        intro Ao' v H' s rv
        obtain ⟨k1, k2⟩ := st d own fin v Γ2 Ao' H' s rv eb
        cases own with
        | false =>
          obtain ⟨Ao2, s2, o2⟩ := k1 rfl
          exact h Ao2 v H' s2 o2
        | true =>
          cases d with
          | list ds =>
            obtain ⟨Ao2, s2, o2⟩ := k2 ds rfl rfl
            exact h Ao2 v H' s2 o2
          | _ => exact h.elim
  · exact h.elim
theorem me_call {CX : CXT} {k f : Nat} {fa : Addr} {fd : FuncData} {ps : List Str} {cl : Nat → Addr} {W : XK} {x : Str} {p pos : Pos} {e : Expr} {es : List Expr} {as : Exs} (hE : ∀ c H', P.E c H' → W (.ref (cl c)) none H') (tk : Takes X fun cls d _ H => W cls d H)
    (F : FnOk X.prog X.w X.K X.mg X.base (L2.CX X.prog X.w) k fa fd ps (spF X.K P.S.call cl f)) (hr : Room k X.A) (hg : Gl X x) (hm : X.mg x = some (.ref fa)) (hk : PySem.W.keepIn X.K (.ref fa) = true) (hb : Binds X.K fd ps [])
    (hd : (x == ("__debug__" : Str)) = false) (hs : (e :: es).all noStar = true) (ha : PA X (e :: es) (tA X.K P as)) : PE X (.Call (.Name x p) (e :: es) [] pos) (tE X.K P (.call f as)) := by
  rw [List.all_cons, Bool.and_eq_true] at hs
  exact (pe_callS F hr hg hm hk hb (passAt tk) ha hd (star_cons (noStar_ne hs.1)) (star_all hs.2 _)).imp fun σ H Q q => call_go hE q
theorem me_call0 {k f : Nat} {fa : Addr} {fd : FuncData} {ps : List Str} {cl : Nat → Addr} {W : XK} {x : Str} {p pos : Pos} (hE : ∀ c H', P.E c H' → W (.ref (cl c)) none H') (tk : Takes X fun cls d _ H => W cls d H)
    (F : FnOk X.prog X.w X.K X.mg X.base (L2.CX X.prog X.w) k fa fd ps (spF X.K P.S.call cl f)) (hr : Room k X.A) (hg : Gl X x) (hm : X.mg x = some (.ref fa)) (hk : PySem.W.keepIn X.K (.ref fa) = true) (hb : Binds X.K fd ps [])
    (hd : (x == ("__debug__" : Str)) = false) : PE X (.Call (.Name x p) [] [] pos) (tE X.K P (.call f .nil)) :=
  (pe_call0 (dvs := []) (ds := []) F hr hg hm hk hb .nil (passes_call (E := W) tk fun _ _ _ _ h => h) hd).imp fun σ H Q q => by
    obtain ⟨Ao, Γ, r, q⟩ := call_go hE q
    unfold evs at q
    exact q Ao [] H (.refl r) rfl

/-! ## a def's body -/
theorem start_get {N : List Str} {vs : List V} {i : Nat} : i < vs.length → (start N vs)[i]? = (vs.map some)[i]? := fun h => by
  unfold L2.start
  rw [List.getElem?_append_left (by rw [List.length_map]; exact h)]
theorem rel_start {N : List Str} {vs : List V} {args : List Slot} {n : Nat} (r : Rel K Ao (vs.map some) H args) (hn : N.length - vs.length = n) : Rel K Ao (start N vs) H (args ++ List.replicate n .emp) ∧ (∀ b, Lv (start N vs) (args ++ List.replicate n .emp) b → Lv (vs.map some) args b) ∧ ∀ b, Mu (start N vs) (args ++ List.replicate n .emp) b → Mu (vs.map some) args b := by
  have hl : args.length = vs.length := by have := r.len; rw [List.length_map] at this; exact this.symm
  refine r.swap ?_ fun j s e ne => ?_
  · unfold L2.start
    rw [List.length_append, List.length_append, List.length_map, List.length_replicate, List.length_replicate, hl, hn]
  · left
    by_cases hj : j < args.length
    · rw [List.getElem?_append_left hj] at e
      exact ⟨e, start_get (by rw [← hl]; exact hj)⟩
    · rw [List.getElem?_append_right (by omega), List.getElem?_replicate] at e
      split at e
      · cases e; exact absurd rfl ne
      · cases e
theorem fn_go {fn : Fn} {S : Sem} {N : List Str} {vs : List V} {args : List Slot} {cl : Nat → Addr} {E : XK} {Q : VK} (r : Rel K Ao (vs.map some) H args) (pn : Pinned args) (hN : N.length = fn.ns) (hle : fn.np ≤ fn.ns)
    (h : match runFn S fn args with
      | .ok r => ∀ Ao' v H', Stp K Ao (vs.map some) H args Ao' (vs.map some) H' r.2.2 → RetV K (vs.map some) H args Ao' (vs.map some) H' r.2.2 r.1 r.2.1 v → Q v H'
      | .exc c => ∀ H', FrX (vs.map some) H args H' → E (.ref (cl c)) none H'
      | .no => False) : tS K ⟨S, fun c H' => E (.ref (cl c)) none H'⟩ fn.body { nx := fun _ H' => Q .non H', rt := Q } (start N vs) H := by
  have hl : args.length = vs.length := by have := r.len; rw [List.length_map] at this; exact this.symm
  unfold runFn at h
  by_cases hnp : args.length = fn.np
  rotate_left
  · rw [if_neg hnp] at h
    exact h.elim
  rw [if_pos hnp] at h
  have hn : N.length - vs.length = fn.ns - fn.np := by rw [hN, ← hl, hnp]
  obtain ⟨rs, lv, mu⟩ := rel_start r hn
  refine ⟨Ao, _, rs, ?_⟩
  show Out _ _ _ _ (ex S fn.body (args ++ List.replicate (fn.ns - fn.np) .emp)) _
  have g0 : ∀ {j : Nat} {s : Slot}, args[j]? = some s → (args ++ List.replicate (fn.ns - fn.np) Slot.emp)[j]? = some s ∧ (start N vs)[j]? = (vs.map some)[j]? := fun {j s} e => by
    have hj : j < args.length := (List.getElem?_eq_some_iff.mp e).1
    exact ⟨by rw [List.getElem?_append_left hj]; exact e, start_get (by rw [← hl]; exact hj)⟩
  have g1 : ∀ {j : Nat} {s : Slot}, (args ++ List.replicate (fn.ns - fn.np) Slot.emp)[j]? = some s → s ≠ .emp → args[j]? = some s := fun {j s} e n => by
    by_cases hj : j < args.length
    · rw [List.getElem?_append_left hj] at e
      exact e
    · rw [List.getElem?_append_right (by omega), List.getElem?_replicate] at e
      split at e
      · cases e; exact absurd rfl n
      · cases e
  have mu' : ∀ b, Mu (vs.map some) args b → Mu (start N vs) (args ++ List.replicate (fn.ns - fn.np) .emp) b := fun b ⟨j, es, p, e1, e2⟩ => ⟨j, es, p, (g0 e1).1, by rw [(g0 e1).2]; exact e2⟩
  -- the lent lists as they are handed back
  have nar : ∀ {Ao' : Addr → Prop} {σ' : St} {H' : Hp} {Γ' : G}, Stp K Ao (start N vs) H (args ++ List.replicate (fn.ns - fn.np) .emp) Ao' σ' H' Γ' → Stp K Ao (vs.map some) H args Ao' (vs.map some) H' ((Γ'.take fn.np).map fin1) ∧
      (∀ b, Av Ao' (vs.map some) ((Γ'.take fn.np).map fin1) b → Av Ao' σ' Γ' b) ∧ ∀ AoR, Rel K AoR σ' H' Γ' → Rel K AoR (vs.map some) H' ((Γ'.take fn.np).map fin1) := fun {Ao' σ' H' Γ'} s => by
    have fg : ∀ {j : Nat} {x : Slot}, ((Γ'.take fn.np).map fin1)[j]? = some x → x ≠ .emp → ∃ ds st, x = .li ds true st ∧ Γ'[j]? = some (.li ds true st) ∧ (vs.map some)[j]? = σ'[j]? := fun {j x} e n => by
      rw [List.getElem?_map, List.getElem?_take] at e
      split at e
      · rename_i hj
        cases eg : Γ'[j]? with
        | none => rw [eg] at e; cases e
        | some y =>
          rw [eg] at e
          cases e
          cases y with
          | emp => exact absurd rfl n
          | sh d => exact absurd rfl n
          | li ds p st =>
            cases p with
            | false => exact absurd rfl n
            | true =>
              obtain ⟨ds0, st0, k⟩ := s.pinb j ds st eg
              obtain ⟨ds1, st1, k1, k2⟩ := s.pin j ds0 st0 k
              exact ⟨ds, st, rfl, rfl, by rw [k2, (g0 (g1 k fun z => by cases z)).2]⟩
      · cases e
    have ff : ∀ {j : Nat} {ds : List D} {st : LS}, j < args.length → Γ'[j]? = some (.li ds true st) → ((Γ'.take fn.np).map fin1)[j]? = some (.li ds true st) := fun {j ds st} hj e => by
      rw [List.getElem?_map, List.getElem?_take, if_pos (by rw [← hnp]; exact hj), e]
      rfl
    have ln : ((Γ'.take fn.np).map fin1).length = args.length := by
      rw [List.length_map, List.length_take, s.len, List.length_append, List.length_replicate]
      omega
    have sw : ∀ {AoR : Addr → Prop}, Rel K AoR σ' H' Γ' → _ := fun {AoR} rr => rr.swap (σ' := vs.map some) (Γ' := (Γ'.take fn.np).map fin1) (by rw [ln, List.length_map, hl]) fun j x e n => by
      obtain ⟨ds, st, rfl, e2, e3⟩ := fg e n
      exact .inl ⟨e2, e3⟩
    obtain ⟨rf, lvf, muf⟩ := sw s.rel
    refine ⟨⟨rf, s.ao, s.nw, fun b o e n => s.fr b o e fun z => n (mu b z), s.dm, fun b z => (s.lv b (lvf b z)).imp (lv b) id, fun b z => (s.mu b (muf b z)).imp (mu b) id, fun j ds st e => ?_, fun j ds st e => ?_, fun j ds p e => ?_, ln⟩, fun b z => z.imp id (lvf b), fun AoR rr => (sw rr).1⟩
    · obtain ⟨ds', st', k1, k2⟩ := s.pin j ds st (g0 e).1
      exact ⟨ds', st', ff (List.getElem?_eq_some_iff.mp e).1 k1, rfl⟩
    · obtain ⟨ds', st', ex, e2, _⟩ := fg e fun z => by cases z
      cases ex
      obtain ⟨ds0, st0, k⟩ := s.pinb j ds st e2
      exact ⟨ds0, st0, g1 k fun z => by cases z⟩
    · cases pn j ds p .lock e
      obtain ⟨ds', k1, k2⟩ := s.lk j ds true (g0 e).1
      exact ⟨ds', ff (List.getElem?_eq_some_iff.mp e).1 k1, rfl⟩
  have rnar : ∀ {Ao' : Addr → Prop} {σ' : St} {H' : Hp} {Γ' : G} {d : D} {own : Bool} {v : V}, Stp K Ao (start N vs) H (args ++ List.replicate (fn.ns - fn.np) .emp) Ao' σ' H' Γ' → RetV K (start N vs) H (args ++ List.replicate (fn.ns - fn.np) .emp) Ao' σ' H' Γ' d own v → RetV K (vs.map some) H args Ao' (vs.map some) H' ((Γ'.take fn.np).map fin1) d own v := fun {Ao' σ' H' Γ' d own v} s rv => by
    obtain ⟨_, av, rr⟩ := nar s
    cases own with
    | false => exact DV.mv ⟨fun _ _ _ e => e, fun b _ _ z => av b z⟩ rv
    | true =>
      obtain ⟨a, ws, ds, e1, e2, e3, e4, e7, e5, e6⟩ := rv
      refine ⟨a, ws, ds, e1, e2, e3, fun z => e4 (av a z), rr _ e7, e5.mv ⟨fun _ _ _ e => e, fun b _ _ z => z.imp (av b) id⟩, ?_⟩
      rcases e6 with e6 | ⟨i, es, k1, k2⟩
      · exact .inl e6
      · have k := g1 k1 fun z => by cases z
        exact .inr ⟨i, es, k, by rw [← (g0 k).2]; exact k2⟩
  unfold finish at h
  cases eb : ex S fn.body (args ++ List.replicate (fn.ns - fn.np) .emp) with
  | no => rw [eb] at h; exact h.elim
  | exc c =>
    rw [eb] at h
    exact fun H' f => h H' ⟨fun a o e n => f.1 a o e fun z => n (mu a z), f.2⟩
  | ok z =>
    rw [eb] at h
    obtain ⟨fl, Γ'⟩ := z
    intro Ao' σ' H' s
    cases fl with
    | nx => exact h Ao' .non H' (nar s).1 (by show DV _ _ _ _ _; unfold DV; rfl)
    | bk => exact h.elim
    | ct => exact h.elim
    | rt d o => exact fun v rv => h Ao' v H' (nar s).1 (rnar s rv)
end
end Mir

set_option Elab.async false
set_option autoImplicit false
set_option linter.all false
set_option maxRecDepth 100000
set_option maxHeartbeats 4000000
/-! # Mir16: a term against the text: expressions -/
namespace Mir
open PySem L2
/-- names of the world that a text may speak of -/
structure Sy where
  fnm : List Str
  gnm : List Str
  cnm : List Str
  gcd : Bool
def visB (sc : Scope) (x : Str) : Bool := match sc.names.lookup x with
  | some .local => true
  | some .cell => true
  | some .free => true
  | _ => false
def glB (sc : Scope) (x : Str) : Bool := match sc.names.lookup x with
  | some .globalImplicit => true
  | _ => false
def dbgB (x : Str) : Bool := !(x == ("__debug__" : Str)) && !(x == ("__classdict__" : Str))
def locB (sc : Scope) (fb : Str → Bool) (x : Str) : Bool := match sc.names.lookup x with
  | some .local => true
  | some .cell => fb x
  | _ => false
def lclB (sc : Scope) (x : Str) : Bool := match sc.names.lookup x with
  | some .local => true
  | _ => false
def sliceB : Expr → Bool
  | .Slice _ _ _ _ => true
  | _ => false
def setB : Expr → Bool
  | .Set _ _ _ => true
  | _ => false
def tupB : Expr → Bool
  | .Tuple _ _ _ => true
  | _ => false
def litB : D → Expr → Bool
  | .int i, .Constant (.int j) _ _ => i == j
  | .str s, .Constant (.str t) _ _ => s == t
  | .bool b, .Constant (.bool c) _ _ => b == c
  | .none, .Constant .none _ _ => true
  | _, _ => false
def bfS : Bf → Str
  | .len => "len"
  | .abs => "abs"
  | .min => "min"
  | .max => "max"
  | .sum => "sum"
  | .sorted => "sorted"
  | .all => "all"
  | .any => "any"
  | .int => "int"
  | .isi _ => "isinstance"
  | .gcd => "gcd"
/-- terms whose truth may be asked -/
def tstB : Ex → Bool
  | .ite _ _ _ => false
  | .and a b => tstB a && tstB b
  | .or a b => tstB a && tstB b
  | .not a => tstB a
  | _ => true
def trTs (N : List Str) (sc : Scope) (fb : Str → Bool) : List Nat → List Expr → Bool
  | [], [] => true
  | i :: is, .Name x _ :: es => N[i]? == some x && locB sc fb x && trTs N sc fb is es
  | _, _ => false
/-- targets -/
def trT (N : List Str) (sc : Scope) (fb : Str → Bool) : Tg → Expr → Bool
  | .nm i, .Name x _ => N[i]? == some x && locB sc fb x
  | .tp is, .Tuple es _ _ => trTs N sc fb is es
  | _, _ => false
def subB (is js : List Nat) : Bool := is.all fun i => js.contains i
def ownN (N : List Str) (own : List Nat) : List (Str × Nat) := own.map fun i => ((N[i]?.getD ("" : Str)), i)
def cellB (scope : Scope) : Str → Bool := fun x => scope.names.lookup x == some .cell
section
variable (Y : Sy) (N : List Str)
mutual
def trE : Ex → Scope → (Str → Bool) → Expr → Bool
  | .var i, sc, _, .Name x _ => N[i]? == some x && (visB sc x && dbgB x)
  | .lit d, _, _, e => litB d e
  | .glb g, sc, _, .Name x _ => Y.gnm[g]? == some x && (glB sc x && dbgB x)
  | .bin op a b, sc, fb, .BinOp l o r _ => opB op o && (trE a sc fb l && trE b sc fb r)
  | .neg a, sc, fb, .UnaryOp .USub e _ => trE a sc fb e
  | .cmp op a b, sc, fb, .Compare l [o] [r] _ => cmpB op o && (!behindInMarks o r && (trE a sc fb l && trE b sc fb r))
  | .chn op op' a b c, sc, fb, .Compare l [o, o'] [m, r] _ => cmpB op o && (cmpB op' o' && (!lastMarks [o, o'] [m, r] && (trE a sc fb l && (trE b sc fb m && trE c sc fb r))))
  | .and a b, sc, fb, .BoolOp .And [l, m] _ => trE a sc fb l && trE b sc fb m
  | .and a b, sc, fb, .BoolOp .And (l :: m :: m' :: rest) pos => trE a sc fb l && trE b sc fb (.BoolOp .And (m :: m' :: rest) pos)
  | .or a b, sc, fb, .BoolOp .Or [l, m] _ => trE a sc fb l && trE b sc fb m
  | .or a b, sc, fb, .BoolOp .Or (l :: m :: m' :: rest) pos => trE a sc fb l && trE b sc fb (.BoolOp .Or (m :: m' :: rest) pos)
  | .not a, sc, fb, .UnaryOp .Not e _ => trE a sc fb e
  | .ite c a b, sc, fb, .IfExp ec ea eb _ => tstB c && (trE c sc fb ec && (trE a sc fb ea && trE b sc fb eb))
  | .tup es, sc, fb, .Tuple xs _ _ => trEs es sc fb xs
  | .lst es, sc, fb, .List xs _ => trEs es sc fb xs
  | .ix a i, sc, fb, .Subscript l r _ => !sliceB r && (trE a sc fb l && trE i sc fb r)
  | .slc a lo hi, sc, fb, .Subscript e (.Slice l u none _) _ => trE a sc fb e && (trO lo sc fb l && trO hi sc fb u)
  | .rev a, sc, fb, .Subscript e (.Slice none none (some (.UnaryOp .USub (.Constant (.int 1) _ _) _)) _) _ => trE a sc fb e
  | .call f es, sc, fb, .Call (.Name x _) xs [] _ => Y.fnm[f]? == some x && (glB sc x && (dbgB x && trEs es sc fb xs))
  | .blt (.isi t) (.cons a .nil), sc, fb, .Call (.Name x _) [e, .Name y _] [] _ => x == ("isinstance" : Str) && (y == Str.ofString (tyS t) && (glB sc x && (glB sc y && (noStar e && trE a sc fb e))))
  | .blt (.isi _) _, _, _, _ => false
  | .blt .gcd es, sc, fb, .Call (.Name x _) (e :: xs) [] _ => Y.gcd && (x == ("gcd" : Str) && (glB sc x && trEs es sc fb (e :: xs)))
  | .blt b es, sc, fb, .Call (.Name x _) (e :: xs) [] _ => x == bfS b && (glB sc x && trEs es sc fb (e :: xs))
  | .pop0 i, sc, _, .Call (.Attribute (.Name x _) y ap) [] [] cp => y == ("pop" : Str) && (N[i]? == some x && (visB sc x && (dbgB x && ap.endLine == cp.line)))
  | .popi i a, sc, fb, .Call (.Attribute (.Name x _) y ap) [e] [] cp => y == ("pop" : Str) && (N[i]? == some x && (visB sc x && (dbgB x && (ap.endLine == cp.line && (noStar e && trE a sc fb e)))))
  | .lsq a, sc, fb, .Call (.Name x _) [e] [] _ => x == ("list" : Str) && (glB sc x && (noStar e && trE a sc fb e))
  | .tsq a, sc, fb, .Call (.Name x _) [e] [] _ => x == ("tuple" : Str) && (glB sc x && (noStar e && trE a sc fb e))
  | .lrg (.cons a .nil), sc, fb, .Call (.Name x _) [.Call (.Name y _) [e] [] _] [] _ => x == ("list" : Str) && (y == ("range" : Str) && (glB sc x && (glB sc y && (noStar e && trE a sc fb e))))
  | .trg (.cons a .nil), sc, fb, .Call (.Name x _) [.Call (.Name y _) [e] [] _] [] _ => x == ("tuple" : Str) && (y == ("range" : Str) && (glB sc x && (glB sc y && (noStar e && trE a sc fb e))))
  | .lrg (.cons a (.cons b .nil)), sc, fb, .Call (.Name x _) [.Call (.Name y _) [e, e'] [] _] [] _ => x == ("list" : Str) && (y == ("range" : Str) && (glB sc x && (glB sc y && (noStar e && (noStar e' && (trE a sc fb e && trE b sc fb e'))))))
  | .trg (.cons a (.cons b .nil)), sc, fb, .Call (.Name x _) [.Call (.Name y _) [e, e'] [] _] [] _ => x == ("tuple" : Str) && (y == ("range" : Str) && (glB sc x && (glB sc y && (noStar e && (noStar e' && (trE a sc fb e && trE b sc fb e'))))))
  | .comp tg it cs elt own, sc, fb, .ListComp elt' [⟨tg', iter, ifs, 0⟩] scope _ => blkC N sc scope (ownN N own) && (subB (tgIdx tg) own && (trT N (relS scope sc) (cellB scope) tg tg' && (trI it sc fb tg' iter && (!setB iter && (trC cs (relS scope sc) (cellB scope) ifs && trE elt (relS scope sc) (cellB scope) elt')))))
  | _, _, _, _ => false
def trEs : Exs → Scope → (Str → Bool) → List Expr → Bool
  | .nil, _, _, [] => true
  | .cons a as, sc, fb, e :: es => noStar e && (trE a sc fb e && trEs as sc fb es)
  | _, _, _, _ => false
def trO : Exs → Scope → (Str → Bool) → Option Expr → Bool
  | .nil, _, _, none => true
  | .cons a .nil, sc, fb, some e => trE a sc fb e
  | _, _, _, _ => false
def trC : Exs → Scope → (Str → Bool) → List Expr → Bool
  | .nil, _, _, [] => true
  | .cons a .nil, sc, fb, [e] => tstB a && trE a sc fb e
  | _, _, _, _ => false
def trI : It → Scope → (Str → Bool) → Expr → Expr → Bool
  | .sq a, sc, fb, _, e => trE a sc fb e
  | .rng (.cons a .nil), sc, fb, _, .Call (.Name x _) [e] [] _ => x == ("range" : Str) && (glB sc x && (noStar e && trE a sc fb e))
  | .rng (.cons a (.cons b .nil)), sc, fb, _, .Call (.Name x _) [e, e'] [] _ => x == ("range" : Str) && (glB sc x && (noStar e && (noStar e' && (trE a sc fb e && trE b sc fb e'))))
  | .rng (.cons a (.cons b (.cons d .nil))), sc, fb, _, .Call (.Name x _) [e, e', e2] [] _ => x == ("range" : Str) && (glB sc x && (noStar e && (noStar e' && (noStar e2 && (trE a sc fb e && (trE b sc fb e' && trE d sc fb e2))))))
  | .zip a b, sc, fb, .Tuple _ _ _, .Call (.Name x _) [e, e'] [] _ => x == ("zip" : Str) && (glB sc x && (noStar e && (noStar e' && (trE a sc fb e && trE b sc fb e'))))
  | .enm a, sc, fb, .Tuple _ _ _, .Call (.Name x _) [e] [] _ => x == ("enumerate" : Str) && (glB sc x && (noStar e && trE a sc fb e))
  | _, _, _, _, _ => false
end
end
end Mir

set_option Elab.async false
set_option autoImplicit false
set_option linter.all false
set_option maxRecDepth 100000
set_option maxHeartbeats 4000000
/-! # Mir17: a matched expression keeps its reading -/
namespace Mir
open PySem L2
def bNames : List Str := ["len", "abs", "min", "max", "sum", "sorted", "all", "any", "int", "isinstance", "bool", "str", "tuple", "list", "range", "zip", "enumerate"]
structure Ctx (Y : Sy) (N : List Str) (cl : Nat → Addr) (k : Nat) (sc : Scope) (fb : Str → Bool) (X : Cx) (P : Par) : Prop where
  hN : X.N = N
  nd : N.Nodup
  hsc : X.env.scope = sc
  kind : sc.kind = .function
  calm : X.calm = true
  room : Room k X.A
  hfn : ∀ x, fb x = true → X.fn x = true
  blt : ∀ x ∈ bNames, X.mg x = none
  gcd : Y.gcd = true → X.mg "gcd" = some (.builtin "math.gcd")
  con : ∀ (g : Nat) x, Y.gnm[g]? = some x → ∃ v u, X.mg x = some u ∧ RelV v u ∧ ∀ A H, DV X.K A H (P.S.con g) v
  fns : ∀ (f : Nat) x, Y.fnm[f]? = some x → ∃ fa fd ps, FnOk X.prog X.w X.K X.mg X.base (L2.CX X.prog X.w) k fa fd ps (spF X.K P.S.call cl f) ∧ X.mg x = some (.ref fa) ∧ PySem.W.keepIn X.K (.ref fa) = true ∧ Binds X.K fd ps []
  tk : ∃ W : XK, (Takes X fun cls d _ H => W cls d H) ∧ ∀ c H', P.E c H' → W (.ref (cl c)) none H'
section
variable {Y : Sy} {N : List Str} {cl : Nat → Addr} {k : Nat} {sc : Scope} {fb : Str → Bool} {X : Cx} {P : Par}
theorem nope (h : false = true) : False := Bool.false_ne_true h
theorem and2 {a b : Bool} (h : (a && b) = true) : a = true ∧ b = true := by
  rw [Bool.and_eq_true] at h
  exact h
theorem and3 {a b c : Bool} (z : (a && (b && c)) = true) : a = true ∧ b = true ∧ c = true := ⟨(and2 z).1, and2 (and2 z).2⟩
theorem and4 {a b c d : Bool} (z : (a && (b && (c && d))) = true) : a = true ∧ b = true ∧ c = true ∧ d = true := ⟨(and2 z).1, and3 (and2 z).2⟩
theorem and5 {a b c d e : Bool} (z : (a && (b && (c && (d && e)))) = true) : a = true ∧ b = true ∧ c = true ∧ d = true ∧ e = true := ⟨(and2 z).1, and4 (and2 z).2⟩
theorem and6 {a b c d e f : Bool} (z : (a && (b && (c && (d && (e && f))))) = true) : a = true ∧ b = true ∧ c = true ∧ d = true ∧ e = true ∧ f = true := ⟨(and2 z).1, and5 (and2 z).2⟩
theorem and7 {a b c d e f g : Bool} (z : (a && (b && (c && (d && (e && (f && g)))))) = true) : a = true ∧ b = true ∧ c = true ∧ d = true ∧ e = true ∧ f = true ∧ g = true := ⟨(and2 z).1, and6 (and2 z).2⟩
theorem and8 {a b c d e f g h : Bool} (z : (a && (b && (c && (d && (e && (f && (g && h))))))) = true) : a = true ∧ b = true ∧ c = true ∧ d = true ∧ e = true ∧ f = true ∧ g = true ∧ h = true := ⟨(and2 z).1, and7 (and2 z).2⟩
theorem not1 {a : Bool} (h : (!a) = true) : a = false := by
  cases a
  · rfl
  · cases h
theorem Ctx.hu (c : Ctx Y N cl k sc fb X P) : X.A.units + 80 < cLine := by have := c.room.un; omega
theorem Ctx.gl (c : Ctx Y N cl k sc fb X P) {x : Str} (h : glB sc x = true) : Gl X x := by
  unfold glB at h
  split at h
  · rename_i e
    show X.env.scope.names.lookup x = _
    rw [c.hsc]
    exact e
  · cases h
theorem Ctx.vis (c : Ctx Y N cl k sc fb X P) {x : Str} (h : visB sc x = true) : Vis X.env.scope x := by
  unfold visB at h
  rw [c.hsc]
  split at h
  · rename_i e; exact .inl e
  · rename_i e; exact .inr (.inl e)
  · rename_i e; exact .inr (.inr e)
  · cases h
theorem Ctx.loc (c : Ctx Y N cl k sc fb X P) {x : Str} (h : locB sc fb x = true) : Loc X.env.scope x ∧ (X.fn x = true ∨ X.env.scope.names.lookup x = some .local) := by
  unfold locB at h
  rw [c.hsc]
  split at h
  · rename_i e; exact ⟨.inl e, .inr e⟩
  · rename_i e; exact ⟨.inr e, .inl (c.hfn x h)⟩
  · cases h
theorem Ctx.nm (c : Ctx Y N cl k sc fb X P) {i : Nat} {x : Str} (h : (N[i]? == some x) = true) : X.N[i]? = some x := by
  rw [c.hN]
  exact eq_of_beq h
theorem dbg_and {x : Str} (h : dbgB x = true) : (x == ("__debug__" : Str)) = false ∧ (x == ("__classdict__" : Str)) = false := by
  obtain ⟨h1, h2⟩ := and2 h
  exact ⟨not1 h1, not1 h2⟩
theorem Ctx.pv (c : Ctx Y N cl k sc fb X P) {i : Nat} {x : Str} {p : Pos} (h1 : (N[i]? == some x) = true) (h2 : visB sc x = true) (h3 : dbgB x = true) : PE X (.Name x p) (tVar i) :=
  pe_var (c.nm h1) (c.vis h2) (dbg_and h3).1 (dbg_and h3).2
/-- a matched expression -/
structure Got (X : Cx) (P : Par) (a : Ex) (e : Expr) : Prop where
  pe : PE X e (tE X.K P a)
  pt : tstB a = true → PT X e (tT X.K P a)
  pw : tstB a = true → (∃ op vs pos, e = .BoolOp op vs pos) → PW X e (tT X.K P a)
theorem Got.of {a : Ex} {e : Expr} (h : PE X e (tE X.K P a)) (ht : ∀ whole, isTrue e X.env whole = (do let v ← whole; standAt e.pos; holding [v] (truthy v))) (hn : ∀ op vs pos, e ≠ .BoolOp op vs pos) : Got X P a e :=
  ⟨h, fun _ => me_truth h ht, fun _ ⟨op, vs, pos, z⟩ => absurd z (hn op vs pos)⟩
theorem lit_got {d : D} {e : Expr} (h : litB d e = true) : Got X P (.lit d) e := by
  cases e with
  | Constant c j pos =>
    cases d with
    | int i =>
      cases c with
      | int i' =>
        have z : i = i' := eq_of_beq (show (i == i') = true from h)
        subst z
        exact .of (me_lit pe_int fun _ _ => by unfold DV litV; rfl) (by intro; rfl) (by intros; intro z; cases z)
      | _ => exact (nope h).elim
    | str i =>
      cases c with
      | str i' =>
        have z : i = i' := eq_of_beq (show (i == i') = true from h)
        subst z
        exact .of (me_lit pe_str fun _ _ => by unfold DV litV; rfl) (by intro; rfl) (by intros; intro z; cases z)
      | _ => exact (nope h).elim
    | bool i =>
      cases c with
      | bool i' =>
        have z : i = i' := eq_of_beq (show (i == i') = true from h)
        subst z
        exact .of (me_lit pe_bl fun _ _ => by unfold DV litV; rfl) (by intro; rfl) (by intros; intro z; cases z)
      | _ => exact (nope h).elim
    | none =>
      cases c with
      | none => exact .of (me_lit pe_non fun _ _ => by unfold DV litV; rfl) (by intro; rfl) (by intros; intro z; cases z)
      | _ => exact (nope h).elim
    | _ => exact (nope (by cases c <;> exact h)).elim
  | _ => exact (nope (by cases d <;> exact h)).elim
theorem trTs_ok (c : Ctx Y N cl k sc fb X P) : ∀ {is : List Nat} {es : List Expr}, trTs N sc fb is es = true → PGs X es (gNs is) ∧ (assignEach es X.env).length = is.length ∧ (assignEach es X.env).findIdx? (·.1) = none ∧ (assignEach es X.env).map (·.2) = es.map fun e => assign e X.env
  | [], [], _ => ⟨pgs_nil, rfl, rfl, rfl⟩
  | [], _ :: _, h => (nope h).elim
  | _ :: _, [], h => (nope h).elim
  | i :: is, e :: es, h => by
    cases e with
    | Name x p =>
      obtain ⟨h12, h3⟩ := and2 (show ((N[i]? == some x && locB sc fb x) && trTs N sc fb is es) = true from h)
      obtain ⟨h1, h2⟩ := and2 h12
      obtain ⟨q1, q2, q3, q4⟩ := trTs_ok c h3
      obtain ⟨l1, l2⟩ := c.loc h2
      refine ⟨pgs_cons (pg_name (by rw [c.hN]; exact c.nd) (c.nm h1) l1 l2) q1 (by rfl), ?_, ?_, ?_⟩
      · show (assignEach es X.env).length + 1 = _
        rw [q2]
        rfl
      · show List.findIdx? (·.1) ((false, assign (.Name x p) X.env) :: assignEach es X.env) = none
        rw [List.findIdx?_cons]
        simp only [Bool.false_eq_true, if_false]
        rw [q3]
        rfl
      · show assign (.Name x p) X.env :: (assignEach es X.env).map (·.2) = _
        rw [q4]
        rfl
    | _ => exact (nope h).elim
theorem trT_ok (c : Ctx Y N cl k sc fb X P) {tg : Tg} {e : Expr} (h : trT N sc fb tg e = true) : PG X e (gTg X.K tg) := by
  cases tg with
  | nm i =>
    cases e with
    | Name x p =>
      obtain ⟨h1, h2⟩ := and2 h
      obtain ⟨l1, l2⟩ := c.loc h2
      exact pg_name (by rw [c.hN]; exact c.nd) (c.nm h1) l1 l2
    | _ => exact (nope h).elim
  | tp is =>
    cases e with
    | Tuple es j p =>
      obtain ⟨q1, q2, q3, _⟩ := trTs_ok c (show trTs N sc fb is es = true from h)
      exact pg_tup c.calm q1 q2 q3
    | _ => exact (nope h).elim
theorem Ctx.blk (c : Ctx Y N cl k sc fb X P) {scope : Scope} {own : List (Str × Nat)} (ok : BlkOk N sc scope own) (s : Shared) (H : Hp) (C : Addr) (cs : List (Str × Addr)) (fp : List Addr) : Ctx Y N cl k (relS scope sc) (cellB scope) (X.blk s H scope (compEnvC scope cs C X.env) fp) P.mute := by
  refine ⟨c.hN, c.nd, ?_, ok.kind, c.calm, c.room, fun x h => h, c.blt, c.gcd, c.con, c.fns, ⟨fun _ _ _ => False, takes0, fun _ _ z => z.elim⟩⟩
  show relS scope X.env.scope = relS scope sc
  rw [c.hsc]
theorem ownN_ix {own : List Nat} : (ownN N own).map (·.2) = own := by
  unfold ownN
  rw [List.map_map]
  exact List.map_id' own
theorem subB_ok {is js : List Nat} (h : subB is js = true) : ∀ i ∈ is, i ∈ js := fun i hi => by
  have := List.all_eq_true.mp h i hi
  exact List.contains_iff_mem.mp this
theorem fold_ok {e : Expr} {env : Env} (h : setB e = false) : ∀ x, foldedSetIterable e env x = pure x := fun x => by
  cases e <;> first | rfl | (cases h)
theorem pw_of {op : BoolOp} {vs : List Expr} {pos : Pos} {a : Ex} (h1 : PE X (.BoolOp op vs pos) (tE X.K P a)) (h2 : tstB a = true → PW X (.BoolOp op vs pos) (tT X.K P a)) : Got X P a (.BoolOp op vs pos) :=
  ⟨h1, fun t => (h2 t).pt, fun t _ => h2 t⟩
theorem Ctx.no (c : Ctx Y N cl k sc fb X P) (x : Str) (h : x ∈ bNames := by decide) : X.mg x = none := c.blt x h
mutual
theorem trE_ok : ∀ (a : Ex) {sc : Scope} {fb : Str → Bool} {X : Cx} {P : Par} {e : Expr}, Ctx Y N cl k sc fb X P → trE Y N a sc fb e = true → Got X P a e
  | .var i, sc, fb, X, P, e, c, h => by
    cases e with
    | Name x p =>
      obtain ⟨h1, h2⟩ := and2 h
      obtain ⟨h2, h3⟩ := and2 h2
      exact .of (me_var (c.pv h1 h2 h3)) (by intro; rfl) (by intros; intro z; cases z)
    | _ => exact (nope h).elim
  | .lit d, sc, fb, X, P, e, c, h => lit_got h
  | .glb g, sc, fb, X, P, e, c, h => by
    cases e with
    | Name x p =>
      obtain ⟨h1, h2⟩ := and2 h
      obtain ⟨h2, h3⟩ := and2 h2
      obtain ⟨v, u, g1, g2, g3⟩ := c.con g x (eq_of_beq h1)
      exact .of (me_glb (pe_glob (c.gl h2) g1 g2 (dbg_and h3).1) g3) (by intro; rfl) (by intros; intro z; cases z)
    | _ => exact (nope h).elim
  | .bin op a b, sc, fb, X, P, e, c, h => by
    cases e with
    | BinOp l o r p =>
      obtain ⟨h1, h2⟩ := and2 h
      obtain ⟨h2, h3⟩ := and2 h2
      exact .of (me_bin h1 (trE_ok a c h2).pe (trE_ok b c h3).pe) (by intro; rfl) (by intros; intro z; cases z)
    | _ => exact (nope h).elim
  | .neg a, sc, fb, X, P, e, c, h => by
    cases e with
    | UnaryOp o x p =>
      cases o with
      | USub => exact .of (me_neg (trE_ok a c h).pe) (by intro; rfl) (by intros; intro z; cases z)
      | _ => exact (nope h).elim
    | _ => exact (nope h).elim
  | .not a, sc, fb, X, P, e, c, h => by
    cases e with
    | UnaryOp o x p =>
      cases o with
      | Not =>
        have q := trE_ok a c h
        exact ⟨me_not q.pe, fun t => me_notT (q.pt t), fun _ ⟨_, _, _, z⟩ => by cases z⟩
      | _ => exact (nope h).elim
    | _ => exact (nope h).elim
  | .cmp op a b, sc, fb, X, P, e, c, h => by
    cases e with
    | Compare l os rs p =>
      cases os with
      | nil => exact (nope h).elim
      | cons o os =>
        cases os with
        | cons _ _ => exact (nope h).elim
        | nil =>
          cases rs with
          | nil => exact (nope h).elim
          | cons r rs =>
            cases rs with
            | cons _ _ => exact (nope h).elim
            | nil =>
              obtain ⟨h1, h2⟩ := and2 h
              obtain ⟨h2, h3⟩ := and2 h2
              obtain ⟨h3, h4⟩ := and2 h3
              have q1 := (trE_ok a c h3).pe
              have q2 := (trE_ok b c h4).pe
              exact ⟨me_cmp c.hu h1 (not1 h2) q1 q2, fun _ => me_cmpT c.hu h1 (not1 h2) q1 q2, fun _ ⟨_, _, _, z⟩ => by cases z⟩
    | _ => exact (nope h).elim
  | .chn op op' a b d, sc, fb, X, P, e, c, h => by
    cases e with
    | Compare l os rs p =>
      cases os with
      | nil => exact (nope h).elim
      | cons o os =>
        cases os with
        | nil => exact (nope (by cases rs with | nil => exact h | cons _ rs => cases rs <;> exact h)).elim
        | cons o' os =>
          cases os with
          | cons _ _ => exact (nope h).elim
          | nil =>
            cases rs with
            | nil => exact (nope h).elim
            | cons m rs =>
              cases rs with
              | nil => exact (nope h).elim
              | cons r rs =>
                cases rs with
                | cons _ _ => exact (nope h).elim
                | nil =>
                  obtain ⟨h1, h2⟩ := and2 h
                  obtain ⟨h2, h3⟩ := and2 h2
                  obtain ⟨h3, h4⟩ := and2 h3
                  obtain ⟨h4, h5⟩ := and2 h4
                  obtain ⟨h5, h6⟩ := and2 h5
                  have q1 := (trE_ok a c h4).pe
                  have q2 := (trE_ok b c h5).pe
                  have q3 := (trE_ok d c h6).pe
                  exact ⟨me_chn c.hu h1 h2 (not1 h3) q1 q2 q3, fun _ => me_chnT c.hu h1 h2 (not1 h3) q1 q2 q3, fun _ ⟨_, _, _, z⟩ => by cases z⟩
    | _ => exact (nope h).elim
  | .and a b, sc, fb, X, P, e, c, h => by
    cases e with
    | BoolOp o vs p =>
      cases o with
      | Or => exact (nope (by cases vs with | nil => exact h | cons _ vs => cases vs with | nil => exact h | cons _ vs => cases vs <;> exact h)).elim
      | And =>
        cases vs with
        | nil => exact (nope h).elim
        | cons l vs =>
          cases vs with
          | nil => exact (nope h).elim
          | cons m vs =>
            cases vs with
            | nil =>
              obtain ⟨h1, h2⟩ := and2 h
              have q1 := trE_ok a c h1
              have q2 := trE_ok b c h2
              exact pw_of (me_and q1.pe (pe_one q2.pe)) fun t => me_andT (q1.pt (and2 t).1) (pw_and1 (q2.pt (and2 t).2))
            | cons m' rest =>
              obtain ⟨h1, h2⟩ := and2 h
              have q1 := trE_ok a c h1
              have q2 := trE_ok b c h2
              exact pw_of (me_and q1.pe q2.pe) fun t => me_andT (q1.pt (and2 t).1) (q2.pw (and2 t).2 ⟨_, _, _, rfl⟩)
    | _ => exact (nope h).elim
  | .or a b, sc, fb, X, P, e, c, h => by
    cases e with
    | BoolOp o vs p =>
      cases o with
      | And => exact (nope (by cases vs with | nil => exact h | cons _ vs => cases vs with | nil => exact h | cons _ vs => cases vs <;> exact h)).elim
      | Or =>
        cases vs with
        | nil => exact (nope h).elim
        | cons l vs =>
          cases vs with
          | nil => exact (nope h).elim
          | cons m vs =>
            cases vs with
            | nil =>
              obtain ⟨h1, h2⟩ := and2 h
              have q1 := trE_ok a c h1
              have q2 := trE_ok b c h2
              exact pw_of (me_or q1.pe (pe_one q2.pe)) fun t => me_orT (q1.pt (and2 t).1) (pw_or1 (q2.pt (and2 t).2))
            | cons m' rest =>
              obtain ⟨h1, h2⟩ := and2 h
              have q1 := trE_ok a c h1
              have q2 := trE_ok b c h2
              exact pw_of (me_or q1.pe q2.pe) fun t => me_orT (q1.pt (and2 t).1) (q2.pw (and2 t).2 ⟨_, _, _, rfl⟩)
    | _ => exact (nope h).elim
  | .ite t a b, sc, fb, X, P, e, c, h => by
    cases e with
    | IfExp ec ea eb p =>
      obtain ⟨h1, h2⟩ := and2 h
      obtain ⟨h2, h3⟩ := and2 h2
      obtain ⟨h3, h4⟩ := and2 h3
      exact ⟨me_ite ((trE_ok t c h2).pt h1) (trE_ok a c h3).pe (trE_ok b c h4).pe, fun z => (by cases z), fun z => (by cases z)⟩
    | _ => exact (nope h).elim
  | .tup es, sc, fb, X, P, e, c, h => by
    cases e with
    | Tuple xs n p => exact .of (me_tup (trEs_ok es c h).2.1) (by intro; rfl) (by intros; intro z; cases z)
    | _ => exact (nope h).elim
  | .lst es, sc, fb, X, P, e, c, h => by
    cases e with
    | List xs p => exact .of (me_lst (trEs_ok es c h).2.1) (by intro; rfl) (by intros; intro z; cases z)
    | _ => exact (nope h).elim
  | .ix a i, sc, fb, X, P, e, c, h => by
    cases e with
    | Subscript l r p =>
      obtain ⟨h1, h2⟩ := and2 h
      obtain ⟨h2, h3⟩ := and2 h2
      exact .of (me_ix (fun _ _ _ _ z => by subst z; cases h1) (trE_ok a c h2).pe (trE_ok i c h3).pe) (by intro; rfl) (by intros; intro z; cases z)
    | _ => exact (nope h).elim
  | .slc a lo hi, sc, fb, X, P, e, c, h => by
    cases e with
    | Subscript l r p =>
      cases r with
      | Slice lw up st p2 =>
        cases st with
        | some _ => exact (nope h).elim
        | none =>
          obtain ⟨h1, h2⟩ := and2 h
          obtain ⟨h2, h3⟩ := and2 h2
          exact .of (me_slc (trE_ok a c h1).pe (trO_ok lo c h2) (trO_ok hi c h3)) (by intro; rfl) (by intros; intro z; cases z)
      | _ => exact (nope h).elim
    | _ => exact (nope h).elim
  | .rev a, sc, fb, X, P, e, c, h => by
    unfold trE at h
    split at h
    all_goals first
      | (exact (nope h).elim)
      | contradiction
      | skip
    rename_i hq
    cases hq
    exact .of (me_rev (trE_ok a c h).pe) (by intro; rfl) (by intros; intro z; cases z)
  | .call f es, sc, fb, X, P, e, c, h => by
    cases e with
    | Call fe xs kw p =>
      cases fe with
      | Name x p2 =>
        cases kw with
        | cons _ _ => exact (nope h).elim
        | nil =>
          obtain ⟨h1, g2⟩ := and2 h
          obtain ⟨h2, g3⟩ := and2 g2
          obtain ⟨h3, h4⟩ := and2 g3
          clear h g2 g3
          obtain ⟨fa, fd, ps, F, hm, hk, hb⟩ := c.fns f x (eq_of_beq h1)
          obtain ⟨W, tk, hE⟩ := c.tk
          obtain ⟨q1, _, q3⟩ := trEs_ok es c h4
          cases xs with
          | nil =>
            cases es with
            | nil => exact .of (me_call0 hE tk F c.room (c.gl h2) hm hk hb (dbg_and h3).1) (by intro; rfl) (by intros; intro z; cases z)
            | cons _ _ => exact (nope h4).elim
          | cons e es' => exact .of (me_call (CX := L2.CX X.prog X.w) hE tk F c.room (c.gl h2) hm hk hb (dbg_and h3).1 q1 q3) (by intro; rfl) (by intros; intro z; cases z)
      | _ => exact (nope h).elim
    | _ => exact (nope h).elim
  | .blt (.isi t) (.cons a .nil), sc, fb, X, P, e, c, h => by
    unfold trE at h
    split at h
    all_goals first
      | (exact (nope h).elim)
      | contradiction
      | (rename_i hq; cases hq; done)
      | (rename_i n1 n2 n3 hq; cases hq; exact (n2 _ rfl).elim)
      | (rename_i n1 n2 n3 hq; cases hq; exact (n3 rfl).elim)
      | skip
    rename_i hq
    cases hq
    obtain ⟨h1, h2, h3, h4, h5, h6⟩ := and6 h
    have e1 := eq_of_beq h1
    have e2 := eq_of_beq h2
    subst e1 e2
    exact .of (me_isi (c.gl h3) (c.no _) (c.gl h4) (by cases t <;> exact c.no _) h5 (trE_ok a c h6).pe) (by intro; rfl) (by intros; intro z; cases z)
  | .blt (.isi t) .nil, sc, fb, X, P, e, c, h => by
    unfold trE at h
    exact (nope h).elim
  | .blt (.isi t) (.cons _ (.cons _ _)), sc, fb, X, P, e, c, h => by
    unfold trE at h
    exact (nope h).elim
  | .blt .gcd es, sc, fb, X, P, e, c, h => by
    unfold trE at h
    split at h
    all_goals first
      | (exact (nope h).elim)
      | contradiction
      | (rename_i hq; cases hq; done)
      | (rename_i n1 n2 n3 hq; cases hq; exact (n2 _ rfl).elim)
      | (rename_i n1 n2 n3 hq; cases hq; exact (n3 rfl).elim)
      | skip
    rename_i hq
    cases hq
    obtain ⟨h1, h2, h3, h4⟩ := and4 h
    have e1 := eq_of_beq h2
    subst e1
    obtain ⟨q1, _, q3⟩ := trEs_ok es c h4
    exact .of (me_bltG cr_gcdD (c.gl h3) (c.gcd h1) (by decide) q1 q3) (by intro; rfl) (by intros; intro z; cases z)
  | .blt .len es, sc, fb, X, P, e, c, h => by
    unfold trE at h
    split at h
    all_goals first
      | (exact (nope h).elim)
      | contradiction
      | (rename_i hq; cases hq; done)
      | (rename_i n1 n2 n3 hq; cases hq; exact (n2 _ rfl).elim)
      | (rename_i n1 n2 n3 hq; cases hq; exact (n3 rfl).elim)
      | skip
    rename_i hq
    cases hq
    obtain ⟨h1, h2, h3⟩ := and3 h
    have e1 := eq_of_beq h1
    subst e1
    obtain ⟨q1, _, q3⟩ := trEs_ok es c h3
    exact .of (me_bltB cr_len (c.gl h2) (c.no _) (by rfl) (by decide) (by decide) q1 q3) (by intro; rfl) (by intros; intro z; cases z)
  | .blt .abs es, sc, fb, X, P, e, c, h => by
    unfold trE at h
    split at h
    all_goals first
      | (exact (nope h).elim)
      | contradiction
      | (rename_i hq; cases hq; done)
      | (rename_i n1 n2 n3 hq; cases hq; exact (n2 _ rfl).elim)
      | (rename_i n1 n2 n3 hq; cases hq; exact (n3 rfl).elim)
      | skip
    rename_i hq
    cases hq
    obtain ⟨h1, h2, h3⟩ := and3 h
    have e1 := eq_of_beq h1
    subst e1
    obtain ⟨q1, _, q3⟩ := trEs_ok es c h3
    exact .of (me_bltB cr_abs (c.gl h2) (c.no _) (by rfl) (by decide) (by decide) q1 q3) (by intro; rfl) (by intros; intro z; cases z)
  | .blt .min es, sc, fb, X, P, e, c, h => by
    unfold trE at h
    split at h
    all_goals first
      | (exact (nope h).elim)
      | contradiction
      | (rename_i hq; cases hq; done)
      | (rename_i n1 n2 n3 hq; cases hq; exact (n2 _ rfl).elim)
      | (rename_i n1 n2 n3 hq; cases hq; exact (n3 rfl).elim)
      | skip
    rename_i hq
    cases hq
    obtain ⟨h1, h2, h3⟩ := and3 h
    have e1 := eq_of_beq h1
    subst e1
    obtain ⟨q1, _, q3⟩ := trEs_ok es c h3
    exact .of (me_bltB (cr_minD c.calm c.hu) (c.gl h2) (c.no _) (by rfl) (by decide) (by decide) q1 q3) (by intro; rfl) (by intros; intro z; cases z)
  | .blt .max es, sc, fb, X, P, e, c, h => by
    unfold trE at h
    split at h
    all_goals first
      | (exact (nope h).elim)
      | contradiction
      | (rename_i hq; cases hq; done)
      | (rename_i n1 n2 n3 hq; cases hq; exact (n2 _ rfl).elim)
      | (rename_i n1 n2 n3 hq; cases hq; exact (n3 rfl).elim)
      | skip
    rename_i hq
    cases hq
    obtain ⟨h1, h2, h3⟩ := and3 h
    have e1 := eq_of_beq h1
    subst e1
    obtain ⟨q1, _, q3⟩ := trEs_ok es c h3
    exact .of (me_bltB (cr_maxD c.calm c.hu) (c.gl h2) (c.no _) (by rfl) (by decide) (by decide) q1 q3) (by intro; rfl) (by intros; intro z; cases z)
  | .blt .sum es, sc, fb, X, P, e, c, h => by
    unfold trE at h
    split at h
    all_goals first
      | (exact (nope h).elim)
      | contradiction
      | (rename_i hq; cases hq; done)
      | (rename_i n1 n2 n3 hq; cases hq; exact (n2 _ rfl).elim)
      | (rename_i n1 n2 n3 hq; cases hq; exact (n3 rfl).elim)
      | skip
    rename_i hq
    cases hq
    obtain ⟨h1, h2, h3⟩ := and3 h
    have e1 := eq_of_beq h1
    subst e1
    obtain ⟨q1, _, q3⟩ := trEs_ok es c h3
    exact .of (me_bltB (cr_sumD c.calm) (c.gl h2) (c.no _) (by rfl) (by decide) (by decide) q1 q3) (by intro; rfl) (by intros; intro z; cases z)
  | .blt .sorted es, sc, fb, X, P, e, c, h => by
    unfold trE at h
    split at h
    all_goals first
      | (exact (nope h).elim)
      | contradiction
      | (rename_i hq; cases hq; done)
      | (rename_i n1 n2 n3 hq; cases hq; exact (n2 _ rfl).elim)
      | (rename_i n1 n2 n3 hq; cases hq; exact (n3 rfl).elim)
      | skip
    rename_i hq
    cases hq
    obtain ⟨h1, h2, h3⟩ := and3 h
    have e1 := eq_of_beq h1
    subst e1
    obtain ⟨q1, _, q3⟩ := trEs_ok es c h3
    exact .of (me_bltB cr_sortedD (c.gl h2) (c.no _) (by rfl) (by decide) (by decide) q1 q3) (by intro; rfl) (by intros; intro z; cases z)
  | .blt .all es, sc, fb, X, P, e, c, h => by
    unfold trE at h
    split at h
    all_goals first
      | (exact (nope h).elim)
      | contradiction
      | (rename_i hq; cases hq; done)
      | (rename_i n1 n2 n3 hq; cases hq; exact (n2 _ rfl).elim)
      | (rename_i n1 n2 n3 hq; cases hq; exact (n3 rfl).elim)
      | skip
    rename_i hq
    cases hq
    obtain ⟨h1, h2, h3⟩ := and3 h
    have e1 := eq_of_beq h1
    subst e1
    obtain ⟨q1, _, q3⟩ := trEs_ok es c h3
    exact .of (me_bltB (cr_allD c.calm) (c.gl h2) (c.no _) (by rfl) (by decide) (by decide) q1 q3) (by intro; rfl) (by intros; intro z; cases z)
  | .blt .any es, sc, fb, X, P, e, c, h => by
    unfold trE at h
    split at h
    all_goals first
      | (exact (nope h).elim)
      | contradiction
      | (rename_i hq; cases hq; done)
      | (rename_i n1 n2 n3 hq; cases hq; exact (n2 _ rfl).elim)
      | (rename_i n1 n2 n3 hq; cases hq; exact (n3 rfl).elim)
      | skip
    rename_i hq
    cases hq
    obtain ⟨h1, h2, h3⟩ := and3 h
    have e1 := eq_of_beq h1
    subst e1
    obtain ⟨q1, _, q3⟩ := trEs_ok es c h3
    exact .of (me_bltB (cr_anyD c.calm) (c.gl h2) (c.no _) (by rfl) (by decide) (by decide) q1 q3) (by intro; rfl) (by intros; intro z; cases z)
  | .blt .int es, sc, fb, X, P, e, c, h => by
    unfold trE at h
    split at h
    all_goals first
      | (exact (nope h).elim)
      | contradiction
      | (rename_i hq; cases hq; done)
      | (rename_i n1 n2 n3 hq; cases hq; exact (n2 _ rfl).elim)
      | (rename_i n1 n2 n3 hq; cases hq; exact (n3 rfl).elim)
      | skip
    rename_i hq
    cases hq
    obtain ⟨h1, h2, h3⟩ := and3 h
    have e1 := eq_of_beq h1
    subst e1
    obtain ⟨q1, _, q3⟩ := trEs_ok es c h3
    exact .of (me_bltT cr_int (c.gl h2) (c.no _) (by rfl) (by decide) (by decide) q1 q3) (by intro; rfl) (by intros; intro z; cases z)
  | .pop0 i, sc, fb, X, P, e, c, h => by
    unfold trE at h
    split at h
    all_goals first
      | (exact (nope h).elim)
      | contradiction
      | (rename_i hq; cases hq; done)
      | (rename_i n1 n2 n3 hq; cases hq; exact (n2 _ rfl).elim)
      | (rename_i n1 n2 n3 hq; cases hq; exact (n3 rfl).elim)
      | skip
    rename_i hq
    cases hq
    obtain ⟨h1, h2, h3, h4, h5⟩ := and5 h
    have e1 := eq_of_beq h1
    subst e1
    exact .of (me_pop0 (c.pv h2 h3 h4) h5) (by intro; rfl) (by intros; intro z; cases z)
  | .popi i a, sc, fb, X, P, e, c, h => by
    unfold trE at h
    split at h
    all_goals first
      | (exact (nope h).elim)
      | contradiction
      | (rename_i hq; cases hq; done)
      | (rename_i n1 n2 n3 hq; cases hq; exact (n2 _ rfl).elim)
      | (rename_i n1 n2 n3 hq; cases hq; exact (n3 rfl).elim)
      | skip
    rename_i hq
    cases hq
    obtain ⟨h1, h2, h3, h4, h5, h6, h7⟩ := and7 h
    have e1 := eq_of_beq h1
    subst e1
    exact .of (me_popi (c.pv h2 h3 h4) h5 h6 (trE_ok a c h7).pe) (by intro; rfl) (by intros; intro z; cases z)
  | .lsq a, sc, fb, X, P, e, c, h => by
    unfold trE at h
    split at h
    all_goals first
      | (exact (nope h).elim)
      | contradiction
      | (rename_i hq; cases hq; done)
      | (rename_i n1 n2 n3 hq; cases hq; exact (n2 _ rfl).elim)
      | (rename_i n1 n2 n3 hq; cases hq; exact (n3 rfl).elim)
      | skip
    rename_i hq
    cases hq
    obtain ⟨h1, h2, h3, h4⟩ := and4 h
    have e1 := eq_of_beq h1
    subst e1
    exact .of (me_lsq (c.gl h2) (c.no _) h3 (trE_ok a c h4).pe) (by intro; rfl) (by intros; intro z; cases z)
  | .tsq a, sc, fb, X, P, e, c, h => by
    unfold trE at h
    split at h
    all_goals first
      | (exact (nope h).elim)
      | contradiction
      | (rename_i hq; cases hq; done)
      | (rename_i n1 n2 n3 hq; cases hq; exact (n2 _ rfl).elim)
      | (rename_i n1 n2 n3 hq; cases hq; exact (n3 rfl).elim)
      | skip
    rename_i hq
    cases hq
    obtain ⟨h1, h2, h3, h4⟩ := and4 h
    have e1 := eq_of_beq h1
    subst e1
    exact .of (me_tsq (c.gl h2) (c.no _) h3 (trE_ok a c h4).pe) (by intro; rfl) (by intros; intro z; cases z)
  | .lrg (.cons a .nil), sc, fb, X, P, e, c, h => by
    unfold trE at h
    split at h
    all_goals first
      | (exact (nope h).elim)
      | contradiction
      | (rename_i hq; cases hq; done)
      | (rename_i n1 n2 n3 hq; cases hq; exact (n2 _ rfl).elim)
      | (rename_i n1 n2 n3 hq; cases hq; exact (n3 rfl).elim)
      | skip
    rename_i hq
    cases hq
    obtain ⟨h1, h2, h3, h4, h5, h6⟩ := and6 h
    have e1 := eq_of_beq h1
    have e2 := eq_of_beq h2
    subst e1 e2
    exact .of (me_lrg1 c.calm (c.gl h3) (c.no _) (c.gl h4) (c.no _) h5 (trE_ok a c h6).pe) (by intro; rfl) (by intros; intro z; cases z)
  | .lrg (.cons a (.cons d .nil)), sc, fb, X, P, e, c, h => by
    unfold trE at h
    split at h
    all_goals first
      | (exact (nope h).elim)
      | contradiction
      | (rename_i hq; cases hq; done)
      | (rename_i n1 n2 n3 hq; cases hq; exact (n2 _ rfl).elim)
      | (rename_i n1 n2 n3 hq; cases hq; exact (n3 rfl).elim)
      | skip
    rename_i hq
    cases hq
    obtain ⟨h1, h2, h3, h4, h5, h6, h7, h8⟩ := and8 h
    have e1 := eq_of_beq h1
    have e2 := eq_of_beq h2
    subst e1 e2
    exact .of (me_lrg2 c.calm (c.gl h3) (c.no _) (c.gl h4) (c.no _) h5 h6 (trE_ok a c h7).pe (trE_ok d c h8).pe) (by intro; rfl) (by intros; intro z; cases z)
  | .lrg .nil, sc, fb, X, P, e, c, h => by
    unfold trE at h
    exact (nope h).elim
  | .lrg (.cons a (.cons d (.cons _ _))), sc, fb, X, P, e, c, h => by
    unfold trE at h
    exact (nope h).elim
  | .trg (.cons a .nil), sc, fb, X, P, e, c, h => by
    unfold trE at h
    split at h
    all_goals first
      | (exact (nope h).elim)
      | contradiction
      | (rename_i hq; cases hq; done)
      | (rename_i n1 n2 n3 hq; cases hq; exact (n2 _ rfl).elim)
      | (rename_i n1 n2 n3 hq; cases hq; exact (n3 rfl).elim)
      | skip
    rename_i hq
    cases hq
    obtain ⟨h1, h2, h3, h4, h5, h6⟩ := and6 h
    have e1 := eq_of_beq h1
    have e2 := eq_of_beq h2
    subst e1 e2
    exact .of (me_trg1 c.calm (c.gl h3) (c.no _) (c.gl h4) (c.no _) h5 (trE_ok a c h6).pe) (by intro; rfl) (by intros; intro z; cases z)
  | .trg (.cons a (.cons d .nil)), sc, fb, X, P, e, c, h => by
    unfold trE at h
    split at h
    all_goals first
      | (exact (nope h).elim)
      | contradiction
      | (rename_i hq; cases hq; done)
      | (rename_i n1 n2 n3 hq; cases hq; exact (n2 _ rfl).elim)
      | (rename_i n1 n2 n3 hq; cases hq; exact (n3 rfl).elim)
      | skip
    rename_i hq
    cases hq
    obtain ⟨h1, h2, h3, h4, h5, h6, h7, h8⟩ := and8 h
    have e1 := eq_of_beq h1
    have e2 := eq_of_beq h2
    subst e1 e2
    exact .of (me_trg2 c.calm (c.gl h3) (c.no _) (c.gl h4) (c.no _) h5 h6 (trE_ok a c h7).pe (trE_ok d c h8).pe) (by intro; rfl) (by intros; intro z; cases z)
  | .trg .nil, sc, fb, X, P, e, c, h => by
    unfold trE at h
    exact (nope h).elim
  | .trg (.cons a (.cons d (.cons _ _))), sc, fb, X, P, e, c, h => by
    unfold trE at h
    exact (nope h).elim
  | .comp tg it cs elt own, sc, fb, X, P, e, c, h => by
    unfold trE at h
    split at h
    all_goals first
      | (exact (nope h).elim)
      | contradiction
      | (rename_i hq; cases hq; done)
      | (rename_i n1 n2 n3 hq; cases hq; exact (n2 _ rfl).elim)
      | (rename_i n1 n2 n3 hq; cases hq; exact (n3 rfl).elim)
      | skip
    rename_i hq
    cases hq
    obtain ⟨h1, h2, h3, h4, h5, h6, h7⟩ := and7 h
    have ok := blkOk_by h1
    have ix := ownN_ix (N := N) (own := own)
    have q := fun pos => me_comp (P := P) (t := tg) (it := it) (cs := cs) (x := elt) (own := ownN N own) (pos := pos) (by rw [ix]; exact subB_ok h2) c.calm (by rw [c.hN]; exact c.nd) (trI_ok it c h4) (by rw [c.hN, c.hsc]; exact ok) (fun s H C cl' fp => trT_ok (c.blk ok s H C cl' fp) h3) (fun s H C cl' fp => trC_ok cs (c.blk ok s H C cl' fp) h6) (fun s H C cl' fp => (trE_ok elt (c.blk ok s H C cl' fp) h7).pe) (fold_ok (not1 h5))
    rw [ix] at q
    exact .of (q _) (by intro; rfl) (by intros; intro z; cases z)
theorem trEs_ok : ∀ (as : Exs) {sc : Scope} {fb : Str → Bool} {X : Cx} {P : Par} {es : List Expr}, Ctx Y N cl k sc fb X P → trEs Y N as sc fb es = true → es.all noStar = true ∧ PA X es (tAV X.K P as) ∧ PA X es (tA X.K P as)
  | .nil, sc, fb, X, P, es, c, h => by
    cases es with
    | nil => exact ⟨rfl, mv_nil, ma_nil⟩
    | cons _ _ => exact (nope h).elim
  | .cons a as, sc, fb, X, P, es, c, h => by
    cases es with
    | nil => exact (nope h).elim
    | cons e es =>
      obtain ⟨h1, h2⟩ := and2 h
      obtain ⟨h2, h3⟩ := and2 h2
      have q := (trE_ok a c h2).pe
      obtain ⟨r1, r2, r3⟩ := trEs_ok as c h3
      exact ⟨by rw [List.all_cons, h1, r1]; rfl, mv_cons (noStar_ne h1) q r2, ma_cons (noStar_ne h1) q r3⟩
theorem trO_ok : ∀ (as : Exs) {sc : Scope} {fb : Str → Bool} {X : Cx} {P : Par} {o : Option Expr}, Ctx Y N cl k sc fb X P → trO Y N as sc fb o = true → PO X o (tO X.K P as)
  | .nil, sc, fb, X, P, o, c, h => by
    cases o with
    | none => exact mo_none
    | some _ => exact (nope h).elim
  | .cons a .nil, sc, fb, X, P, o, c, h => by
    cases o with
    | none => exact (nope h).elim
    | some e => exact mo_some (trE_ok a c h).pe
  | .cons a (.cons _ _), sc, fb, X, P, o, c, h => by
    cases o <;> exact (nope h).elim
theorem trC_ok : ∀ (as : Exs) {sc : Scope} {fb : Str → Bool} {X : Cx} {P : Par} {es : List Expr}, Ctx Y N cl k sc fb X P.mute → trC Y N as sc fb es = true → PTs X es (tCs X.K P.mute as)
  | .nil, sc, fb, X, P, es, c, h => by
    cases es with
    | nil => exact mts trivial
    | cons _ _ => exact (nope h).elim
  | .cons a .nil, sc, fb, X, P, es, c, h => by
    cases es with
    | nil => exact (nope h).elim
    | cons e es =>
      cases es with
      | cons _ _ => exact (nope h).elim
      | nil =>
        obtain ⟨h1, h2⟩ := and2 h
        exact mts ((trE_ok a c h2).pt h1)
  | .cons a (.cons _ _), sc, fb, X, P, es, c, h => by
    cases es with
    | nil => exact (nope h).elim
    | cons e es => cases es <;> exact (nope h).elim
theorem trI_ok : ∀ (it : It) {sc : Scope} {fb : Str → Bool} {X : Cx} {P : Par} {tg e : Expr}, Ctx Y N cl k sc fb X P → trI Y N it sc fb tg e = true → PI X tg e (tI X.K P it)
  | .sq a, sc, fb, X, P, tg, e, c, h => mi_sq (trE_ok a c h).pe
  | .rng (.cons a .nil), sc, fb, X, P, tg, e, c, h => by
    unfold trI at h
    split at h
    all_goals first
      | (exact (nope h).elim)
      | contradiction
      | (rename_i hq; cases hq; done)
      | (rename_i n1 n2 n3 hq; cases hq; exact (n2 _ rfl).elim)
      | (rename_i n1 n2 n3 hq; cases hq; exact (n3 rfl).elim)
      | skip
    rename_i hq
    cases hq
    obtain ⟨h1, h2, h3, h4⟩ := and4 h
    have e1 := eq_of_beq h1
    subst e1
    exact mi_rng1 (c.gl h2) (c.no _) h3 (ma_cons (noStar_ne h3) (trE_ok a c h4).pe ma_nil)
  | .rng (.cons a (.cons d .nil)), sc, fb, X, P, tg, e, c, h => by
    unfold trI at h
    split at h
    all_goals first
      | (exact (nope h).elim)
      | contradiction
      | (rename_i hq; cases hq; done)
      | (rename_i n1 n2 n3 hq; cases hq; exact (n2 _ rfl).elim)
      | (rename_i n1 n2 n3 hq; cases hq; exact (n3 rfl).elim)
      | skip
    rename_i hq
    cases hq
    obtain ⟨h1, h2, h3, h4, h5, h6⟩ := and6 h
    have e1 := eq_of_beq h1
    subst e1
    exact mi_rng2 (c.gl h2) (c.no _) h3 h4 (ma_cons (noStar_ne h3) (trE_ok a c h5).pe (ma_cons (noStar_ne h4) (trE_ok d c h6).pe ma_nil))
  | .rng (.cons a (.cons d (.cons d3 .nil))), sc, fb, X, P, tg, e, c, h => by
    unfold trI at h
    split at h
    all_goals first
      | (exact (nope h).elim)
      | contradiction
      | (rename_i hq; cases hq; done)
      | (rename_i n1 n2 n3 hq; cases hq; exact (n2 _ rfl).elim)
      | (rename_i n1 n2 n3 hq; cases hq; exact (n3 rfl).elim)
      | skip
    rename_i hq
    cases hq
    obtain ⟨h1, h2, h3, h4, h5, h6, h7, h8⟩ := and8 h
    have e1 := eq_of_beq h1
    subst e1
    exact mi_rng3 (c.gl h2) (c.no _) h3 h4 h5 (ma_cons (noStar_ne h3) (trE_ok a c h6).pe (ma_cons (noStar_ne h4) (trE_ok d c h7).pe (ma_cons (noStar_ne h5) (trE_ok d3 c h8).pe ma_nil)))
  | .zip a d, sc, fb, X, P, tg, e, c, h => by
    unfold trI at h
    split at h
    all_goals first
      | (exact (nope h).elim)
      | contradiction
      | (rename_i hq; cases hq; done)
      | (rename_i n1 n2 n3 hq; cases hq; exact (n2 _ rfl).elim)
      | (rename_i n1 n2 n3 hq; cases hq; exact (n3 rfl).elim)
      | skip
    rename_i hq
    cases hq
    obtain ⟨h1, h2, h3, h4, h5, h6⟩ := and6 h
    have e1 := eq_of_beq h1
    subst e1
    exact mi_zip (c.gl h2) (c.no _) h3 h4 (trE_ok a c h5).pe (trE_ok d c h6).pe
  | .enm a, sc, fb, X, P, tg, e, c, h => by
    unfold trI at h
    split at h
    all_goals first
      | (exact (nope h).elim)
      | contradiction
      | (rename_i hq; cases hq; done)
      | (rename_i n1 n2 n3 hq; cases hq; exact (n2 _ rfl).elim)
      | (rename_i n1 n2 n3 hq; cases hq; exact (n3 rfl).elim)
      | skip
    rename_i hq
    cases hq
    obtain ⟨h1, h2, h3, h4⟩ := and4 h
    have e1 := eq_of_beq h1
    subst e1
    exact mi_enm (c.gl h2) (c.no _) h3 (trE_ok a c h4).pe
  | .rng .nil, sc, fb, X, P, tg, e, c, h => by
    unfold trI at h
    exact (nope h).elim
  | .rng (.cons _ (.cons _ (.cons _ (.cons _ _)))), sc, fb, X, P, tg, e, c, h => by
    unfold trI at h
    exact (nope h).elim
end
end
end Mir

set_option Elab.async false
set_option autoImplicit false
set_option linter.all false
set_option maxRecDepth 100000
set_option maxHeartbeats 4000000
/-! # Mir18: a term against the text: statements -/
namespace Mir
open PySem L2
def namesB (sc : Scope) (ts : List Expr) : List Str := ts.filterMap fun
    | .Name id pos => if sc.names.lookup id == some .local && pos.line == (ts.head?.map (·.pos.line)).getD 0 then some id else none
    | _ => none
def stB : Expr → Bool
  | .Starred _ _ => true
  | _ => false
theorem sws_if {ts vs : List Expr} {k k2 : Nat} {p p2 : Pos} {env : Env} (h1 : (ts.length == 2 || ts.length == 3) = true) (h2 : (vs.length != ts.length) = false) (h3 : (env.blockKind != .function) = false) : swappedStores [.Tuple ts k p] (.Tuple vs k2 p2) env =
    (if vs.any stB = true then pure none else if ((namesB env.scope ts).length != ts.length || (namesB env.scope ts).eraseDups.length != (namesB env.scope ts).length) = true then pure none else if vs.all (foldedForSure 8) = true then pure none else
      if vs.all (constantsAlone 8) = true then (do let _ ← (unsupported "assign.tuple-of-constant-expressions:order-of-the-stores" : PySem.Sem Unit); pure (some (namesB env.scope ts))) else pure (some (namesB env.scope ts))) := by
  unfold swappedStores
  simp only [h1, h2, h3, Bool.not_true, Bool.or_false, Bool.false_eq_true, if_false]
  rfl
/-- such a pair is not stored from the right -/
def nsB (sc : Scope) (ts : List Expr) : Expr → Bool
  | .Tuple vs _ _ => (!(ts.length == 2 || ts.length == 3) || vs.length != ts.length) || (vs.any stB || (((namesB sc ts).length != ts.length || (namesB sc ts).eraseDups.length != (namesB sc ts).length) || vs.all (foldedForSure 8)))
  | _ => true
theorem sws_none {ts : List Expr} {v : Expr} {k : Nat} {p : Pos} {env : Env} (h3 : (env.blockKind != .function) = false) (h : nsB env.scope ts v = true) : swappedStores [.Tuple ts k p] v env = pure none := by
  cases v with
  | Tuple vs k2 p2 =>
    by_cases c : (!(ts.length == 2 || ts.length == 3) || vs.length != ts.length) = true
    · unfold swappedStores
      simp only [c, Bool.true_or, if_true]
    · have h := (Bool.or_eq_true _ _).mp (show ((!(ts.length == 2 || ts.length == 3) || vs.length != ts.length) || (vs.any stB || (((namesB env.scope ts).length != ts.length || (namesB env.scope ts).eraseDups.length != (namesB env.scope ts).length) || vs.all (foldedForSure 8)))) = true from h)
      have h := h.resolve_left c
      rw [Bool.or_eq_true, not_or] at c
      obtain ⟨c1, c2⟩ := c
      rw [sws_if (by cases e : (ts.length == 2 || ts.length == 3) with | true => rfl | false => exact absurd (by rw [e]; rfl) c1) (by cases e : (vs.length != ts.length) with | false => rfl | true => exact absurd e c2) h3]
      by_cases c3 : vs.any stB = true
      · rw [if_pos c3]
      · rw [if_neg c3]
        have h := ((Bool.or_eq_true _ _).mp h).resolve_left c3
        by_cases c4 : ((namesB env.scope ts).length != ts.length || (namesB env.scope ts).eraseDups.length != (namesB env.scope ts).length) = true
        · rw [if_pos c4]
        · rw [if_neg c4]
          have h := ((Bool.or_eq_true _ _).mp h).resolve_left c4
          rw [if_pos h]
  | _ => rfl
/-- .. is stored from the right -/
def parB (sc : Scope) (x y : Str) (px py : Pos) (e1 e2 : Expr) : Bool := lclB sc x && (lclB sc y && (py.line == px.line && (!(x == y) && (!stB e1 && (!stB e2 && (!([e1, e2].all (foldedForSure 8)) && !([e1, e2].all (constantsAlone 8))))))))
theorem lcl_ok {sc : Scope} {x : Str} (h : lclB sc x = true) : sc.names.lookup x = some .local := by
  unfold lclB at h
  split at h
  · assumption
  · cases h
theorem sws_par {x y : Str} {px py p p2 : Pos} {k k2 : Nat} {e1 e2 : Expr} {env : Env} (h3 : (env.blockKind != .function) = false) (h : parB env.scope x y px py e1 e2 = true) : swappedStores [.Tuple [.Name x px, .Name y py] k p] (.Tuple [e1, e2] k2 p2) env = pure (some [x, y]) := by
  obtain ⟨a1, a2, a3, a4, a5, a6, a7, a8⟩ := and8 h
  have hn : namesB env.scope [.Name x px, .Name y py] = [x, y] := by
    have e3 := eq_of_beq a3
    simp [namesB, lcl_ok a1, lcl_ok a2, Expr.pos, e3]
  rw [sws_if (by rfl) (by rfl) h3, hn]
  have d1 : ([e1, e2].any stB) = false := by
    show (stB e1 || (stB e2 || false)) = false
    rw [not1 a5, not1 a6]
    rfl
  have d2 : ([x, y].eraseDups.length != [x, y].length) = false := by
    have z : (y == x) = false := by
      have z := not1 a4
      cases w : (y == x) with
      | false => rfl
      | true =>
        have w := eq_of_beq w
        subst w
        rw [beq_self_eq_true] at z
        cases z
    have e : [x, y].eraseDups = [x, y] := by
      rw [List.eraseDups_cons]
      have f : List.filter (fun b => !b == x) [y] = [y] := by
        rw [List.filter_cons]
        rw [z]
        rfl
      rw [f]
      rfl
    rw [e]
    rfl
  rw [d1, if_neg Bool.false_ne_true, d2, not1 a7, if_neg Bool.false_ne_true, not1 a8, if_neg Bool.false_ne_true]
  rw [if_neg (by rw [Bool.or_false]; exact Bool.false_ne_true)]
def lcB : Expr → Bool
  | .ListComp _ _ _ _ => true
  | .SetComp _ _ _ _ => true
  | .DictComp _ _ _ _ _ => true
  | _ => false
/-- a comprehension that is stored as it stands -/
def swB (sc : Scope) (x : Str) (p2 : Pos) : Expr → Bool
  | .ListComp _ _ scope p => sc.names.lookup x == some .local && p2.line == p.line && !(scope.names.any fun (n, k) => n == x && (k == .local || k == .cell))
  | _ => false
def scB : Expr → Bool
  | .SetComp _ _ _ _ => true
  | .DictComp _ _ _ _ _ => true
  | _ => false
theorem sw_no {v : Expr} {t : Option Expr} {l : Nat} {env : Env} (h : lcB v = false) : swapsWith v t l env = pure false := by
  cases v <;> first | rfl | (cases h)
theorem sw_is {v : Expr} {x : Str} {p2 : Pos} {l : Nat} {env : Env} (h3 : (env.blockKind == .function) = true) (h : scB v = false) : swapsWith v (some (.Name x p2)) l env = pure (swB env.scope x p2 v) := by
  cases v with
  | ListComp elt gens scope p =>
    show (pure (env.blockKind == .function && env.kindOf x == some .local && p2.line == p.line && !(scope.names.any fun (n, k) => n == x && (k == .local || k == .cell))) : PySem.Sem Bool) = _
    rw [h3]
    rfl
  | SetComp _ _ _ _ => cases h
  | DictComp _ _ _ _ _ => cases h
  | _ => rfl
theorem sw_sole {v t : Expr} {l : Nat} {env : Env} (h : ∀ x p, t ≠ .Name x p) : swapsWithSole [t] v l env = pure false := by
  cases v <;> first | rfl | (cases t <;> first | rfl | exact absurd rfl (h _ _))
section
variable (Y : Sy) (N : List Str)
mutual
def trS : Sx → Scope → (Str → Bool) → Stmt → Bool
  | .skip, _, _, .Pass _ => true
  | .skip, _, _, .Expr (.Constant (.str _) _ _) _ => true
  | .brk, _, _, .Break _ => true
  | .cnt, _, _, .Continue _ => true
  | .bad, _, _, .Raise _ _ _ => true
  | .rse c, sc, _, .Raise (some (.Call (.Name x _) [.Constant (.str _) _ _] [] _)) none _ => Y.cnm[c]? == some x && (glB sc x && dbgB x)
  | .retN, _, _, .Return none _ => true
  | .ret a, sc, fb, .Return (some e) _ => trE Y N a sc fb e
  | .exp a, sc, fb, .Expr e _ => !lcB e && trE Y N a sc fb e
  | .app i a, sc, fb, .Expr (.Call (.Attribute (.Name x _) y ap) [e] [] cp) _ => y == ("append" : Str) && (N[i]? == some x && (visB sc x && (dbgB x && (ap.endLine == cp.line && (noStar e && trE Y N a sc fb e)))))
  | .asg (.nm i) a, sc, fb, .Assign [.Name x p2] e _ => N[i]? == some x && (locB sc fb x && (!scB e && trE Y N a sc fb e))
  | .asg (.tp is) a, sc, fb, .Assign [.Tuple ts _ _] e _ => trTs N sc fb is ts && (nsB sc ts e && trE Y N a sc fb e)
  | .par i j a b, sc, fb, .Assign [.Tuple [.Name x px, .Name y py] _ _] (.Tuple [e1, e2] _ _) _ => N[i]? == some x && (N[j]? == some y && (!(i == j) && (parB sc x y px py e1 e2 && (trE Y N a sc fb e1 && trE Y N b sc fb e2))))
  | .sto i b a, sc, fb, .Assign [.Subscript (.Name x _) xe _] e _ => N[i]? == some x && (visB sc x && (dbgB x && (!sliceB xe && (trE Y N b sc fb xe && trE Y N a sc fb e))))
  | .ife c a b, sc, fb, .If ec ea eb _ => tstB c && (trE Y N c sc fb ec && (trSs a sc fb ea && trSs b sc fb eb))
  | .forr tg it b, sc, fb, .For t iter body [] _ => trT N sc fb tg t && (trI Y N it sc fb t iter && (!setB iter && trSs b sc fb body))
  | .whl c b, sc, fb, .While ec body [] _ => tstB c && (trE Y N c sc fb ec && trSs b sc fb body)
  | _, _, _, _ => false
def trSs : Sx → Scope → (Str → Bool) → List Stmt → Bool
  | .skip, _, _, [] => true
  | .seq a b, sc, fb, st :: sts => trS a sc fb st && trSs b sc fb sts
  | _, _, _, _ => false
end
end
end Mir

set_option Elab.async false
set_option autoImplicit false
set_option linter.all false
set_option maxRecDepth 100000
set_option maxHeartbeats 4000000
/-! # Mir19: matched statements keep their readings -/
namespace Mir
open PySem L2
/-- a statement's context -/
structure CtxS (Y : Sy) (N : List Str) (cl : Nat → Addr) (k : Nat) (sc : Scope) (fb : Str → Bool) (X : Cx) (P : Par) : Prop where
  c : Ctx Y N cl k sc fb X P
  hp : PassesOwn (model X.prog X.w) X.A X.env X.xe
  exc : ∀ (j : Nat) x, Y.cnm[j]? = some x → ∃ (B newId initId : String) (bmB : List Value), PySem.ExcBaseFacts B newId initId bmB ∧ PySem.W.excIn X.K (cl j) bmB newId = true ∧ X.mg x = some (.ref (cl j)) ∧ PySem.W.keepIn X.K (.ref (cl j)) = true ∧ Raises X (.ref (cl j))
section
variable {Y : Sy} {N : List Str} {cl : Nat → Addr} {k : Nat}
theorem Ctx.bk {sc : Scope} {fb : Str → Bool} {X : Cx} {P : Par} (c : Ctx Y N cl k sc fb X P) : X.env.blockKind = .function := by
  unfold Env.blockKind
  rw [c.hsc, c.kind]
  rfl
theorem ms_rse {X : Cx} {P : Par} {j : Nat} {W : XK} {x m : Str} {i : Nat} {p p2 p3 pos : Pos} {B newId initId : String} {bmB : List Value} (hc : X.calm = true) (tk : Takes X fun cls d _ H => W cls d H) (hE : ∀ c H', P.E c H' → W (.ref (cl c)) none H') (F : PySem.ExcBaseFacts B newId initId bmB) (q : PySem.W.excIn X.K (cl j) bmB newId = true) (gC : X.mg x = some (.ref (cl j))) (kC : PySem.W.keepIn X.K (.ref (cl j)) = true) (r : Raises X (.ref (cl j))) (hg : Gl X x) (hd : (x == ("__debug__" : Str)) = false) :
    PS X (.Raise (some (.Call (.Name x p) [.Constant (.str m) i p2] [] p3)) none pos) (tS X.K P (.rse j)) := (ps_raise hc tk (pmk_own F q gC kC r hg hd)).imp fun D0 σ H q => by
  obtain ⟨Ao, Γ, r, q⟩ := q
  unfold ex at q
  exact hE j H (q H ⟨fun _ _ e _ => e, fun _ n => n⟩)
/-- only a comprehension's term is a comprehension's text -/
def cmB : Ex → Bool
  | .comp _ _ _ _ _ => true
  | _ => false
theorem lc_no {a : Ex} {sc : Scope} {fb : Str → Bool} {e : Expr} (ha : cmB a = false) (h : trE Y N a sc fb e = true) (hs : scB e = false) : lcB e = false := by
  cases e with
  | ListComp elt gens scope p =>
    unfold trE at h
    split at h
    all_goals first
      | (exact (nope h).elim)
      | contradiction
      | (cases ha; done)
      | skip
    rename_i d
    cases d <;> exact (nope h).elim
  | SetComp _ _ _ _ => cases hs
  | DictComp _ _ _ _ _ => cases hs
  | _ => rfl
mutual
theorem trS_ok : ∀ (a : Sx) {sc : Scope} {fb : Str → Bool} {X : Cx} {P : Par} {st : Stmt}, CtxS Y N cl k sc fb X P → trS Y N a sc fb st = true → PS X st (tS X.K P a)
  | .skip, sc, fb, X, P, st, c, h => by
    cases st with
    | Pass p => exact ms_pass
    | Expr e p =>
      cases e with
      | Constant c j p2 =>
        cases c with
        | str z => exact ms_doc
        | _ => exact (nope h).elim
      | _ => exact (nope h).elim
    | _ => exact (nope h).elim
  | .brk, sc, fb, X, P, st, c, h => by
    cases st with
    | Break p => exact ms_brk
    | _ => exact (nope h).elim
  | .cnt, sc, fb, X, P, st, c, h => by
    cases st with
    | Continue p => exact ms_cnt
    | _ => exact (nope h).elim
  | .bad, sc, fb, X, P, st, c, h => by
    exact ms_bad
  | .rse j, sc, fb, X, P, st, c, h => by
    unfold trS at h
    split at h
    all_goals first
      | (exact (nope h).elim)
      | contradiction
      | (rename_i hq; cases hq; done)
      | skip
    rename_i hq
    cases hq
    obtain ⟨h1, h2, h3⟩ := and3 h
    obtain ⟨B, newId, initId, bmB, F, q, gC, kC, r⟩ := c.exc j _ (eq_of_beq h1)
    obtain ⟨W, tk, hE⟩ := c.c.tk
    exact ms_rse c.c.calm tk hE F q gC kC r (c.c.gl h2) (dbg_and h3).1
  | .retN, sc, fb, X, P, st, c, h => by
    unfold trS at h
    split at h
    all_goals first
      | (exact (nope h).elim)
      | contradiction
      | (rename_i hq; cases hq; done)
      | skip
    rename_i hq
    cases hq
    exact ms_retN
  | .ret a, sc, fb, X, P, st, c, h => by
    unfold trS at h
    split at h
    all_goals first
      | (exact (nope h).elim)
      | contradiction
      | (rename_i hq; cases hq; done)
      | skip
    rename_i hq
    cases hq
    exact ms_ret (trE_ok a c.c h).pe
  | .exp a, sc, fb, X, P, st, c, h => by
    unfold trS at h
    split at h
    all_goals first
      | (exact (nope h).elim)
      | contradiction
      | (rename_i hq; cases hq; done)
      | skip
    rename_i hq
    cases hq
    obtain ⟨h1, h2⟩ := and2 h
    exact ms_exp (trE_ok a c.c h2).pe (sw_no (not1 h1))
  | .app i a, sc, fb, X, P, st, c, h => by
    unfold trS at h
    split at h
    all_goals first
      | (exact (nope h).elim)
      | contradiction
      | (rename_i hq; cases hq; done)
      | skip
    rename_i hq
    cases hq
    obtain ⟨h1, h2, h3, h4, h5, h6, h7⟩ := and7 h
    have e1 := eq_of_beq h1
    subst e1
    exact ms_app (c.c.pv h2 h3 h4) h5 h6 (trE_ok a c.c h7).pe
  | .asg (.nm i) (.comp tg it cs elt own), sc, fb, X, P, st, c, h => by
    unfold trS at h
    split at h
    all_goals first
      | (exact (nope h).elim)
      | contradiction
      | (rename_i hq; cases hq; done)
      | skip
    rename_i hq
    cases hq
    obtain ⟨h1, h2, h3, h4⟩ := and4 h
    obtain ⟨l1, l2⟩ := c.c.loc h2
    have hnd : X.N.Nodup := by rw [c.c.hN]; exact c.c.nd
    rename_i x p2 e pos
    have sw := sw_is (v := e) (x := x) (p2 := p2) (l := pos.line) (env := X.env) (by rw [c.c.bk]; rfl) (not1 h3)
    cases hsw : swB X.env.scope x p2 e with
    | false =>
      rw [hsw] at sw
      exact ms_set hnd (c.c.nm h1) l1 (trE_ok _ c.c h4).pe sw l2
    | true =>
      rw [hsw] at sw
      have h40 := h4
      unfold trE at h4
      split at h4
      all_goals first
        | (exact (nope h4).elim)
        | contradiction
        | (rename_i hq; cases hq; done)
        | skip
      rename_i hq
      cases hq
      obtain ⟨g1, g2, g3, g4, g5, g6, g7⟩ := and7 h4
      have ok := blkOk_by g1
      have ix := ownN_ix (N := N) (own := own)
      have loc : X.env.scope.names.lookup x = some .local := by
        have z := (and2 (and2 hsw).1).1
        exact eq_of_beq z
      have q := ms_setLc (P := P) (t := tg) (it := it) (cs := cs) (x := elt) (own := ownN N own) (by rw [ix]; exact subB_ok g2) c.c.calm hnd (c.c.nm h1) loc sw (trI_ok it c.c g4) (by rw [c.c.hN, c.c.hsc]; exact ok) (fun s H C cl' fp => trT_ok (c.c.blk ok s H C cl' fp) g3) (fun s H C cl' fp => trC_ok cs (c.c.blk ok s H C cl' fp) g6) (fun s H C cl' fp => (trE_ok elt (c.c.blk ok s H C cl' fp) g7).pe) (fold_ok (not1 g5))
      rw [ix] at q
      exact q
  | .asg (.nm i) (.var a1), sc, fb, X, P, st, c, h => by
    unfold trS at h
    split at h
    all_goals first
      | (exact (nope h).elim)
      | contradiction
      | (rename_i hq; cases hq; done)
      | skip
    rename_i hq
    cases hq
    obtain ⟨h1, h2, h3, h4⟩ := and4 h
    obtain ⟨l1, l2⟩ := c.c.loc h2
    exact ms_set (by rw [c.c.hN]; exact c.c.nd) (c.c.nm h1) l1 (trE_ok _ c.c h4).pe (sw_no (lc_no (by rfl) h4 (not1 h3))) l2
  | .asg (.nm i) (.lit a1), sc, fb, X, P, st, c, h => by
    unfold trS at h
    split at h
    all_goals first
      | (exact (nope h).elim)
      | contradiction
      | (rename_i hq; cases hq; done)
      | skip
    rename_i hq
    cases hq
    obtain ⟨h1, h2, h3, h4⟩ := and4 h
    obtain ⟨l1, l2⟩ := c.c.loc h2
    exact ms_set (by rw [c.c.hN]; exact c.c.nd) (c.c.nm h1) l1 (trE_ok _ c.c h4).pe (sw_no (lc_no (by rfl) h4 (not1 h3))) l2
  | .asg (.nm i) (.glb a1), sc, fb, X, P, st, c, h => by
    unfold trS at h
    split at h
    all_goals first
      | (exact (nope h).elim)
      | contradiction
      | (rename_i hq; cases hq; done)
      | skip
    rename_i hq
    cases hq
    obtain ⟨h1, h2, h3, h4⟩ := and4 h
    obtain ⟨l1, l2⟩ := c.c.loc h2
    exact ms_set (by rw [c.c.hN]; exact c.c.nd) (c.c.nm h1) l1 (trE_ok _ c.c h4).pe (sw_no (lc_no (by rfl) h4 (not1 h3))) l2
  | .asg (.nm i) (.bin a1 a2 a3), sc, fb, X, P, st, c, h => by
    unfold trS at h
    split at h
    all_goals first
      | (exact (nope h).elim)
      | contradiction
      | (rename_i hq; cases hq; done)
      | skip
    rename_i hq
    cases hq
    obtain ⟨h1, h2, h3, h4⟩ := and4 h
    obtain ⟨l1, l2⟩ := c.c.loc h2
    exact ms_set (by rw [c.c.hN]; exact c.c.nd) (c.c.nm h1) l1 (trE_ok _ c.c h4).pe (sw_no (lc_no (by rfl) h4 (not1 h3))) l2
  | .asg (.nm i) (.neg a1), sc, fb, X, P, st, c, h => by
    unfold trS at h
    split at h
    all_goals first
      | (exact (nope h).elim)
      | contradiction
      | (rename_i hq; cases hq; done)
      | skip
    rename_i hq
    cases hq
    obtain ⟨h1, h2, h3, h4⟩ := and4 h
    obtain ⟨l1, l2⟩ := c.c.loc h2
    exact ms_set (by rw [c.c.hN]; exact c.c.nd) (c.c.nm h1) l1 (trE_ok _ c.c h4).pe (sw_no (lc_no (by rfl) h4 (not1 h3))) l2
  | .asg (.nm i) (.cmp a1 a2 a3), sc, fb, X, P, st, c, h => by
    unfold trS at h
    split at h
    all_goals first
      | (exact (nope h).elim)
      | contradiction
      | (rename_i hq; cases hq; done)
      | skip
    rename_i hq
    cases hq
    obtain ⟨h1, h2, h3, h4⟩ := and4 h
    obtain ⟨l1, l2⟩ := c.c.loc h2
    exact ms_set (by rw [c.c.hN]; exact c.c.nd) (c.c.nm h1) l1 (trE_ok _ c.c h4).pe (sw_no (lc_no (by rfl) h4 (not1 h3))) l2
  | .asg (.nm i) (.chn a1 a2 a3 a4 a5), sc, fb, X, P, st, c, h => by
    unfold trS at h
    split at h
    all_goals first
      | (exact (nope h).elim)
      | contradiction
      | (rename_i hq; cases hq; done)
      | skip
    rename_i hq
    cases hq
    obtain ⟨h1, h2, h3, h4⟩ := and4 h
    obtain ⟨l1, l2⟩ := c.c.loc h2
    exact ms_set (by rw [c.c.hN]; exact c.c.nd) (c.c.nm h1) l1 (trE_ok _ c.c h4).pe (sw_no (lc_no (by rfl) h4 (not1 h3))) l2
  | .asg (.nm i) (.and a1 a2), sc, fb, X, P, st, c, h => by
    unfold trS at h
    split at h
    all_goals first
      | (exact (nope h).elim)
      | contradiction
      | (rename_i hq; cases hq; done)
      | skip
    rename_i hq
    cases hq
    obtain ⟨h1, h2, h3, h4⟩ := and4 h
    obtain ⟨l1, l2⟩ := c.c.loc h2
    exact ms_set (by rw [c.c.hN]; exact c.c.nd) (c.c.nm h1) l1 (trE_ok _ c.c h4).pe (sw_no (lc_no (by rfl) h4 (not1 h3))) l2
  | .asg (.nm i) (.or a1 a2), sc, fb, X, P, st, c, h => by
    unfold trS at h
    split at h
    all_goals first
      | (exact (nope h).elim)
      | contradiction
      | (rename_i hq; cases hq; done)
      | skip
    rename_i hq
    cases hq
    obtain ⟨h1, h2, h3, h4⟩ := and4 h
    obtain ⟨l1, l2⟩ := c.c.loc h2
    exact ms_set (by rw [c.c.hN]; exact c.c.nd) (c.c.nm h1) l1 (trE_ok _ c.c h4).pe (sw_no (lc_no (by rfl) h4 (not1 h3))) l2
  | .asg (.nm i) (.not a1), sc, fb, X, P, st, c, h => by
    unfold trS at h
    split at h
    all_goals first
      | (exact (nope h).elim)
      | contradiction
      | (rename_i hq; cases hq; done)
      | skip
    rename_i hq
    cases hq
    obtain ⟨h1, h2, h3, h4⟩ := and4 h
    obtain ⟨l1, l2⟩ := c.c.loc h2
    exact ms_set (by rw [c.c.hN]; exact c.c.nd) (c.c.nm h1) l1 (trE_ok _ c.c h4).pe (sw_no (lc_no (by rfl) h4 (not1 h3))) l2
  | .asg (.nm i) (.ite a1 a2 a3), sc, fb, X, P, st, c, h => by
    unfold trS at h
    split at h
    all_goals first
      | (exact (nope h).elim)
      | contradiction
      | (rename_i hq; cases hq; done)
      | skip
    rename_i hq
    cases hq
    obtain ⟨h1, h2, h3, h4⟩ := and4 h
    obtain ⟨l1, l2⟩ := c.c.loc h2
    exact ms_set (by rw [c.c.hN]; exact c.c.nd) (c.c.nm h1) l1 (trE_ok _ c.c h4).pe (sw_no (lc_no (by rfl) h4 (not1 h3))) l2
  | .asg (.nm i) (.tup a1), sc, fb, X, P, st, c, h => by
    unfold trS at h
    split at h
    all_goals first
      | (exact (nope h).elim)
      | contradiction
      | (rename_i hq; cases hq; done)
      | skip
    rename_i hq
    cases hq
    obtain ⟨h1, h2, h3, h4⟩ := and4 h
    obtain ⟨l1, l2⟩ := c.c.loc h2
    exact ms_set (by rw [c.c.hN]; exact c.c.nd) (c.c.nm h1) l1 (trE_ok _ c.c h4).pe (sw_no (lc_no (by rfl) h4 (not1 h3))) l2
  | .asg (.nm i) (.lst a1), sc, fb, X, P, st, c, h => by
    unfold trS at h
    split at h
    all_goals first
      | (exact (nope h).elim)
      | contradiction
      | (rename_i hq; cases hq; done)
      | skip
    rename_i hq
    cases hq
    obtain ⟨h1, h2, h3, h4⟩ := and4 h
    obtain ⟨l1, l2⟩ := c.c.loc h2
    exact ms_set (by rw [c.c.hN]; exact c.c.nd) (c.c.nm h1) l1 (trE_ok _ c.c h4).pe (sw_no (lc_no (by rfl) h4 (not1 h3))) l2
  | .asg (.nm i) (.ix a1 a2), sc, fb, X, P, st, c, h => by
    unfold trS at h
    split at h
    all_goals first
      | (exact (nope h).elim)
      | contradiction
      | (rename_i hq; cases hq; done)
      | skip
    rename_i hq
    cases hq
    obtain ⟨h1, h2, h3, h4⟩ := and4 h
    obtain ⟨l1, l2⟩ := c.c.loc h2
    exact ms_set (by rw [c.c.hN]; exact c.c.nd) (c.c.nm h1) l1 (trE_ok _ c.c h4).pe (sw_no (lc_no (by rfl) h4 (not1 h3))) l2
  | .asg (.nm i) (.slc a1 a2 a3), sc, fb, X, P, st, c, h => by
    unfold trS at h
    split at h
    all_goals first
      | (exact (nope h).elim)
      | contradiction
      | (rename_i hq; cases hq; done)
      | skip
    rename_i hq
    cases hq
    obtain ⟨h1, h2, h3, h4⟩ := and4 h
    obtain ⟨l1, l2⟩ := c.c.loc h2
    exact ms_set (by rw [c.c.hN]; exact c.c.nd) (c.c.nm h1) l1 (trE_ok _ c.c h4).pe (sw_no (lc_no (by rfl) h4 (not1 h3))) l2
  | .asg (.nm i) (.rev a1), sc, fb, X, P, st, c, h => by
    unfold trS at h
    split at h
    all_goals first
      | (exact (nope h).elim)
      | contradiction
      | (rename_i hq; cases hq; done)
      | skip
    rename_i hq
    cases hq
    obtain ⟨h1, h2, h3, h4⟩ := and4 h
    obtain ⟨l1, l2⟩ := c.c.loc h2
    exact ms_set (by rw [c.c.hN]; exact c.c.nd) (c.c.nm h1) l1 (trE_ok _ c.c h4).pe (sw_no (lc_no (by rfl) h4 (not1 h3))) l2
  | .asg (.nm i) (.call a1 a2), sc, fb, X, P, st, c, h => by
    unfold trS at h
    split at h
    all_goals first
      | (exact (nope h).elim)
      | contradiction
      | (rename_i hq; cases hq; done)
      | skip
    rename_i hq
    cases hq
    obtain ⟨h1, h2, h3, h4⟩ := and4 h
    obtain ⟨l1, l2⟩ := c.c.loc h2
    exact ms_set (by rw [c.c.hN]; exact c.c.nd) (c.c.nm h1) l1 (trE_ok _ c.c h4).pe (sw_no (lc_no (by rfl) h4 (not1 h3))) l2
  | .asg (.nm i) (.blt a1 a2), sc, fb, X, P, st, c, h => by
    unfold trS at h
    split at h
    all_goals first
      | (exact (nope h).elim)
      | contradiction
      | (rename_i hq; cases hq; done)
      | skip
    rename_i hq
    cases hq
    obtain ⟨h1, h2, h3, h4⟩ := and4 h
    obtain ⟨l1, l2⟩ := c.c.loc h2
    exact ms_set (by rw [c.c.hN]; exact c.c.nd) (c.c.nm h1) l1 (trE_ok _ c.c h4).pe (sw_no (lc_no (by rfl) h4 (not1 h3))) l2
  | .asg (.nm i) (.pop0 a1), sc, fb, X, P, st, c, h => by
    unfold trS at h
    split at h
    all_goals first
      | (exact (nope h).elim)
      | contradiction
      | (rename_i hq; cases hq; done)
      | skip
    rename_i hq
    cases hq
    obtain ⟨h1, h2, h3, h4⟩ := and4 h
    obtain ⟨l1, l2⟩ := c.c.loc h2
    exact ms_set (by rw [c.c.hN]; exact c.c.nd) (c.c.nm h1) l1 (trE_ok _ c.c h4).pe (sw_no (lc_no (by rfl) h4 (not1 h3))) l2
  | .asg (.nm i) (.popi a1 a2), sc, fb, X, P, st, c, h => by
    unfold trS at h
    split at h
    all_goals first
      | (exact (nope h).elim)
      | contradiction
      | (rename_i hq; cases hq; done)
      | skip
    rename_i hq
    cases hq
    obtain ⟨h1, h2, h3, h4⟩ := and4 h
    obtain ⟨l1, l2⟩ := c.c.loc h2
    exact ms_set (by rw [c.c.hN]; exact c.c.nd) (c.c.nm h1) l1 (trE_ok _ c.c h4).pe (sw_no (lc_no (by rfl) h4 (not1 h3))) l2
  | .asg (.nm i) (.lsq a1), sc, fb, X, P, st, c, h => by
    unfold trS at h
    split at h
    all_goals first
      | (exact (nope h).elim)
      | contradiction
      | (rename_i hq; cases hq; done)
      | skip
    rename_i hq
    cases hq
    obtain ⟨h1, h2, h3, h4⟩ := and4 h
    obtain ⟨l1, l2⟩ := c.c.loc h2
    exact ms_set (by rw [c.c.hN]; exact c.c.nd) (c.c.nm h1) l1 (trE_ok _ c.c h4).pe (sw_no (lc_no (by rfl) h4 (not1 h3))) l2
  | .asg (.nm i) (.tsq a1), sc, fb, X, P, st, c, h => by
    unfold trS at h
    split at h
    all_goals first
      | (exact (nope h).elim)
      | contradiction
      | (rename_i hq; cases hq; done)
      | skip
    rename_i hq
    cases hq
    obtain ⟨h1, h2, h3, h4⟩ := and4 h
    obtain ⟨l1, l2⟩ := c.c.loc h2
    exact ms_set (by rw [c.c.hN]; exact c.c.nd) (c.c.nm h1) l1 (trE_ok _ c.c h4).pe (sw_no (lc_no (by rfl) h4 (not1 h3))) l2
  | .asg (.nm i) (.lrg a1), sc, fb, X, P, st, c, h => by
    unfold trS at h
    split at h
    all_goals first
      | (exact (nope h).elim)
      | contradiction
      | (rename_i hq; cases hq; done)
      | skip
    rename_i hq
    cases hq
    obtain ⟨h1, h2, h3, h4⟩ := and4 h
    obtain ⟨l1, l2⟩ := c.c.loc h2
    exact ms_set (by rw [c.c.hN]; exact c.c.nd) (c.c.nm h1) l1 (trE_ok _ c.c h4).pe (sw_no (lc_no (by rfl) h4 (not1 h3))) l2
  | .asg (.nm i) (.trg a1), sc, fb, X, P, st, c, h => by
    unfold trS at h
    split at h
    all_goals first
      | (exact (nope h).elim)
      | contradiction
      | (rename_i hq; cases hq; done)
      | skip
    rename_i hq
    cases hq
    obtain ⟨h1, h2, h3, h4⟩ := and4 h
    obtain ⟨l1, l2⟩ := c.c.loc h2
    exact ms_set (by rw [c.c.hN]; exact c.c.nd) (c.c.nm h1) l1 (trE_ok _ c.c h4).pe (sw_no (lc_no (by rfl) h4 (not1 h3))) l2
  | .asg (.tp is) a, sc, fb, X, P, st, c, h => by
    unfold trS at h
    split at h
    all_goals first
      | (exact (nope h).elim)
      | contradiction
      | (rename_i hq; cases hq; done)
      | skip
    rename_i hq
    cases hq
    obtain ⟨h1, h2, h3⟩ := and3 h
    obtain ⟨q1, q2, q3, q4⟩ := trTs_ok c.c h1
    refine ms_asgT (trE_ok a c.c h3).pe (pg_tup c.c.calm q1 q2 q3) (sw_sole fun x p z => by cases z) (sws_none (by rw [c.c.bk]; rfl) (by rw [c.c.hsc]; exact h2)) (by rfl)
  | .par i j a b, sc, fb, X, P, st, c, h => by
    unfold trS at h
    split at h
    all_goals first
      | (exact (nope h).elim)
      | contradiction
      | (rename_i hq; cases hq; done)
      | skip
    rename_i hq
    cases hq
    obtain ⟨h1, h2, h3, h4, h5, h6⟩ := and6 h
    obtain ⟨g1, g2, g3, g4, g5, g6, g7, g8⟩ := and8 h4
    have n1 : ∀ {e : Expr}, stB e = false → noStar e = true := fun {e} h => by cases e <;> first | rfl | (cases h)
    exact ms_par c.c.calm (by rw [c.c.hN]; exact c.c.nd) (c.c.nm h1) (c.c.nm h2) (fun z => by subst z; rw [beq_self_eq_true] at h3; cases h3) (by rw [c.c.hsc]; exact lcl_ok g1) (by rw [c.c.hsc]; exact lcl_ok g2) (n1 (not1 g5)) (n1 (not1 g6)) (trE_ok a c.c h5).pe (trE_ok b c.c h6).pe (sws_par (by rw [c.c.bk]; rfl) (by rw [c.c.hsc]; exact h4))
  | .sto i b a, sc, fb, X, P, st, c, h => by
    unfold trS at h
    split at h
    all_goals first
      | (exact (nope h).elim)
      | contradiction
      | (rename_i hq; cases hq; done)
      | skip
    rename_i hq
    cases hq
    obtain ⟨h1, h2, h3, h4, h5, h6⟩ := and6 h
    exact ms_sto (c.c.pv h1 h2 h3) (trE_ok b c.c h5).pe (trE_ok a c.c h6).pe (sw_sole fun x p z => by cases z) (by rename_i e _; cases e <;> rfl) (fun _ _ _ _ z => by subst z; cases h4)
  | .ife t a b, sc, fb, X, P, st, c, h => by
    unfold trS at h
    split at h
    all_goals first
      | (exact (nope h).elim)
      | contradiction
      | (rename_i hq; cases hq; done)
      | skip
    rename_i hq
    cases hq
    obtain ⟨h1, h2, h3, h4⟩ := and4 h
    exact ms_ife ((trE_ok t c.c h2).pt h1) (trSs_ok a c h3) (trSs_ok b c h4)
  | .forr tg it b, sc, fb, X, P, st, c, h => by
    unfold trS at h
    split at h
    all_goals first
      | (exact (nope h).elim)
      | contradiction
      | (rename_i hq; cases hq; done)
      | skip
    rename_i hq
    cases hq
    obtain ⟨h1, h2, h3, h4⟩ := and4 h
    exact ms_for c.hp c.c.calm (trI_ok it c.c h2) (trT_ok c.c h1) (trSs_ok b c h4) (fold_ok (not1 h3))
  | .whl t b, sc, fb, X, P, st, c, h => by
    unfold trS at h
    split at h
    all_goals first
      | (exact (nope h).elim)
      | contradiction
      | (rename_i hq; cases hq; done)
      | skip
    rename_i hq
    cases hq
    obtain ⟨h1, h2, h3⟩ := and3 h
    exact ms_whl c.hp ((trE_ok t c.c h2).pt h1) (trSs_ok b c h3)
  | .seq a b, sc, fb, X, P, st, c, h => by
    exact (nope (by unfold trS at h; exact h)).elim
theorem trSs_ok : ∀ (a : Sx) {sc : Scope} {fb : Str → Bool} {X : Cx} {P : Par} {sts : List Stmt}, CtxS Y N cl k sc fb X P → trSs Y N a sc fb sts = true → PSs X sts (tS X.K P a)
  | .seq a b, sc, fb, X, P, sts, c, h => by
    cases sts with
    | nil => exact (nope h).elim
    | cons st sts =>
      obtain ⟨h1, h2⟩ := and2 h
      exact ms_cons (trS_ok a c h1) (trSs_ok b c h2)
  | .skip, sc, fb, X, P, sts, c, h => by
    cases sts with
    | nil => exact ms_skip
    | cons st sts => exact (nope h).elim
  | .asg a1 a2, sc, fb, X, P, sts, c, h => (nope (by cases sts <;> exact h)).elim
  | .par a1 a2 a3 a4, sc, fb, X, P, sts, c, h => (nope (by cases sts <;> exact h)).elim
  | .sto a1 a2 a3, sc, fb, X, P, sts, c, h => (nope (by cases sts <;> exact h)).elim
  | .app a1 a2, sc, fb, X, P, sts, c, h => (nope (by cases sts <;> exact h)).elim
  | .ife a1 a2 a3, sc, fb, X, P, sts, c, h => (nope (by cases sts <;> exact h)).elim
  | .forr a1 a2 a3, sc, fb, X, P, sts, c, h => (nope (by cases sts <;> exact h)).elim
  | .whl a1 a2, sc, fb, X, P, sts, c, h => (nope (by cases sts <;> exact h)).elim
  | .ret a1, sc, fb, X, P, sts, c, h => (nope (by cases sts <;> exact h)).elim
  | .retN, sc, fb, X, P, sts, c, h => (nope (by cases sts <;> exact h)).elim
  | .exp a1, sc, fb, X, P, sts, c, h => (nope (by cases sts <;> exact h)).elim
  | .rse a1, sc, fb, X, P, sts, c, h => (nope (by cases sts <;> exact h)).elim
  | .brk, sc, fb, X, P, sts, c, h => (nope (by cases sts <;> exact h)).elim
  | .cnt, sc, fb, X, P, sts, c, h => (nope (by cases sts <;> exact h)).elim
  | .bad, sc, fb, X, P, sts, c, h => (nope (by cases sts <;> exact h)).elim
end
end
end Mir

set_option Elab.async false
set_option autoImplicit false
set_option linter.all false
set_option maxRecDepth 100000
set_option maxHeartbeats 4000000
/-! # Mir20: every def keeps its promise; the law's own head -/
namespace Mir
open PySem L2
/-- a def of the text, its term -/
structure DefW where
  x : Str
  st : Stmt
  fa : Addr
  fd : FuncData
  ps : List Str
  N : List Str
  fn : Fn
/-- a look at a def's scope and text -/
def fsB (N P : List Str) (sc : Scope) : Bool :=
  (match sc.kind with | .function => true | _ => false) && (!sc.isCoroutine && (!sc.isGenerator && (decide N.Nodup && (decide (N.take P.length = P) && (P.all (fun x => visB sc x && !(match sc.names.lookup x with | some .free => true | _ => false)) && sc.names.all fun y => !(match y.2 with | .free => true | _ => false))))))
theorem fsB_ok {N P : List Str} {sc : Scope} (h : fsB N P sc = true) : FnScope N P sc := by
  obtain ⟨h1, h2, h3, h4, h5, h6, h7⟩ := and7 h
  refine ⟨?_, not1 h2, not1 h3, of_decide_eq_true h4, of_decide_eq_true h5, fun x hx => ?_, fun y hy e => ?_⟩
  · cases e : sc.kind <;> first | rfl | (rw [e] at h1; cases h1)
  · have z := and2 (List.all_eq_true.mp h6 x hx)
    have z1 := z.1
    have z2 := not1 z.2
    unfold visB at z1
    split at z1
    · rename_i e; exact .inl e
    · rename_i e; exact .inr e
    · rename_i e; rw [e] at z2; cases z2
    · cases z1
  · have z := not1 (List.all_eq_true.mp h7 y hy)
    rw [e] at z
    cases z
def fitB (Y : Sy) (st : Stmt) (ps N : List Str) (fn : Fn) : Bool :=
  fsB N ps (defScope st) && (fn.np == ps.length && (fn.ns == N.length && (decide (fn.np ≤ fn.ns) && trSs Y N fn.body (defScope st) (fun _ => true) (defBody st))))
structure DefOk (Y : Sy) (K : PySem.W.Frag) (mg : Str → Option Value) (d : DefW) : Prop where
  F : Fun K d.x d.x d.st d.fa d.fd
  m : mg d.x = some (.ref d.fa)
  b : Binds K d.fd d.ps []
  fit : fitB Y d.st d.ps d.N d.fn = true
/-- what the module has besides -/
structure ModOk (Y : Sy) (K : PySem.W.Frag) (mg : Str → Option Value) (cl : Nat → Addr) (con : Nat → D) : Prop where
  blt : ∀ x ∈ bNames, mg x = none
  gcd : Y.gcd = true → mg "gcd" = some (.builtin "math.gcd")
  con : ∀ (g : Nat) x, Y.gnm[g]? = some x → ∃ v u, mg x = some u ∧ RelV v u ∧ ∀ A H, DV K A H (con g) v
  exc : ∀ (j : Nat) x, Y.cnm[j]? = some x → ∃ (B newId initId : String) (bmB : List Value), PySem.ExcBaseFacts B newId initId bmB ∧ PySem.W.excIn K (cl j) bmB newId = true ∧ mg x = some (.ref (cl j)) ∧ PySem.W.keepIn K (.ref (cl j)) = true ∧ PySem.W.subIn K (.ref (cl j)) (.type "BaseException") = some true ∧ PySem.W.typeIn K (.ref (cl j)) = some (.type "type")
section
variable {P : Program} {w : World} {K : PySem.W.Frag} {mg : Str → Option Value} {base : Heap} {Y : Sy} {cl : Nat → Addr} {T : Tab} {defs : List DefW}
theorem callN_len {n f : Nat} {args : List Slot} {fn : Fn} (hf : T.fns[f]? = some fn) (h : callN T n f args ≠ .no) : args.length = fn.np := by
  cases n with
  | zero => exact absurd rfl h
  | succ n =>
    unfold callN at h
    rw [hf] at h
    have h : runFn ⟨callN T n, T.con⟩ fn args ≠ .no := h
    unfold runFn at h
    by_cases e : args.length = fn.np
    · exact e
    · rw [if_neg e] at h
      exact absurd rfl h
theorem spF_len {n f : Nat} {fn : Fn} {vs : List V} {H : Hp} {Q : VK} {E : XK} (hf : T.fns[f]? = some fn) (h : spF K (callN T n) cl f vs H Q E) : vs.length = fn.np := by
  obtain ⟨Ao, args, r, _, h⟩ := h
  have l : vs.length = args.length := by have := r.len; rw [List.length_map] at this; exact this
  rw [l]
  refine callN_len (n := n) hf fun z => ?_
  rw [z] at h
  exact h
theorem all_ok (hT : T.fns = defs.map (·.fn)) (hY : Y.fnm = defs.map (·.x)) (hD : ∀ d ∈ defs, DefOk Y K mg d) (hM : ModOk Y K mg cl T.con) : ∀ (n f : Nat) (d : DefW), defs[f]? = some d → FnOk P w K mg base (L2.CX P w) n d.fa d.fd d.ps (spF K (callN T n) cl f)
  | 0, f, d, _ => ⟨fun vs H Q E ⟨_, _, _, _, h⟩ => h.elim, fun A outer s H args us vs Q E _ _ _ _ ⟨_, _, _, _, h⟩ => h.elim⟩
  | n + 1, f, d, hd => by
    have ok := hD d (List.mem_of_getElem? hd)
    obtain ⟨h1, h2, h3, h4, h5⟩ := and5 ok.fit
    have S := fsB_ok h1
    have h2 := eq_of_beq h2
    have h3 := eq_of_beq h3
    have h4 := of_decide_eq_true h4
    have hf : T.fns[f]? = some d.fn := by rw [hT, List.getElem?_map, hd]; rfl
    refine ok.F.okX S (fun vs H Q E h => (spF_len hf h).trans h2) fun cdv A outer s H vs Q E hr h => ?_
    refine ⟨tS K ⟨⟨callN T n, T.con⟩, fun c H' => E (.ref (cl c)) none H'⟩ d.fn.body, ?_, ?_⟩
    · refine trSs_ok (cl := cl) (k := n) d.fn.body ⟨⟨rfl, S.nd, rfl, S.kind, rfl, hr, fun _ _ => rfl, hM.blt, hM.gcd, hM.con, fun g x hx => ?_, ⟨E, takes_of rfl rfl rfl rfl, fun _ _ z => z⟩⟩, passes_of rfl, fun j x hx => ?_⟩ h5
      · rw [hY, List.getElem?_map] at hx
        cases e : defs[g]? with
        | none => rw [e] at hx; cases hx
        | some d' =>
          rw [e] at hx
          cases hx
          have ok' := hD d' (List.mem_of_getElem? e)
          exact ⟨d'.fa, d'.fd, d'.ps, all_ok hT hY hD hM n g d' e, ok'.m, ok'.F.kp, ok'.b⟩
      · obtain ⟨B, newId, initId, bmB, F, q, gC, kC, r1, r2⟩ := hM.exc j x hx
        exact ⟨B, newId, initId, bmB, F, q, gC, kC, raises_own r1 r2⟩
    · obtain ⟨Ao, args, r, pn, h⟩ := h
      refine fn_go r pn h3.symm h4 ?_
      have e : callN T (n + 1) f args = runFn ⟨callN T n, T.con⟩ d.fn args := by
        show (match T.fns[f]? with | some fn => runFn ⟨callN T n, T.con⟩ fn args | none => .no) = _
        rw [hf]
      rw [e] at h
      exact h
theorem rel_scr {H : Hp} {a : Addr} {ns : List Int} (h : SqL K H a (ns.map V.int)) : Rel K (fun _ => False) ([V.ref a].map some) H [.sh (.scr ns)] := by
  have nl : ∀ {b : Addr}, ¬ Lv ([V.ref a].map some) [Slot.sh (.scr ns)] b := fun {b} ⟨j, es, p, st, e, _⟩ => by
    cases j with
    | zero => cases e
    | succ j => simp at e
  refine ⟨rfl, fun b z => z.elim, fun i d e => ?_, fun i ds p st e => ?_, fun i j ds p st ds' p' st' b e => ?_⟩
  · cases i with
    | zero =>
      cases e
      refine ⟨.ref a, rfl, ?_⟩
      unfold DV
      refine ⟨a, rfl, ?_⟩
      rcases h with h | h
      · exact .inl ⟨h, fun z => z.elim id nl⟩
      · exact .inr h
    | succ i => simp at e
  · cases i with
    | zero => cases e
    | succ i => simp at e
  · cases i with
    | zero => cases e
    | succ i => simp at e
/-- what is left of a law: its value -/
theorem top_sp {n f : Nat} {H : Hp} {a : Addr} {ns : List Int} (h : SqL K H a (ns.map V.int)) (e : ∃ fin, callN T n f [.sh (.scr ns)] = .ok (.bool true, false, fin)) (E : XK) : spF K (callN T n) cl f [.ref a] H (fun v _ => v = .bl true) E := by
  refine ⟨fun _ => False, [.sh (.scr ns)], rel_scr h, fun i ds p st z => ?_, ?_⟩
  · cases i with
    | zero => cases z
    | succ i => simp at z
  · obtain ⟨fin, e⟩ := e
    rw [e]
    intro Ao' v H' s rv
    have rv : DV K (Av Ao' ([V.ref a].map some) fin) H' (.bool true) v := rv
    unfold DV at rv
    exact rv
theorem top_cx {H : Hp} {s : Shared} {e : Value} {s' : Shared} (h : L2.CX P w [] H s (fun _ _ _ => False) e s') : False := by
  obtain ⟨_, _, _, _, _, _, _, _, _, _, _, _, z⟩ := h
  exact z
end
end Mir

set_option Elab.async false
set_option autoImplicit false
set_option linter.all false
set_option maxRecDepth 100000
set_option maxHeartbeats 4000000
/-! # k57_whole_draws: terms of the defs -/
namespace Law
open PySem L2 Mir
def stt (j : Nat) : Stmt := (PySem.Challenge.pw_currentkept_k57_whole_draws).main.body.getD j (.Pass ⟨0, 0, 0, 0⟩)
/-- law -/
def tm0 : Sx := (.seq (.asg (.nm 1) (.call 4 (.cons (.var 0) .nil))) (.seq (.forr (.nm 2) (.rng (.cons (.lit (.int 12)) .nil)) (.seq (.ife (.not (.call 3 (.cons (.var 1) .nil))) (.seq (.ret (.lit (.bool false))) .skip) .skip) .skip)) (.seq (.ret (.and (.call 1 (.cons (.var 1) .nil)) (.call 2 .nil))) .skip)))
def nm0 : List Str := ["script", "cup", "turn"]
def pm0 : List Str := ["script"]
def fn0 : Fn := ⟨1, 3, tm0⟩
/-- _law_great_right -/
def tm1 : Sx := (.seq (.asg (.tp [1, 2, 3, 4]) (.tup (.cons (.call 8 (.cons (.var 0) (.cons (.lit (.int 1000)) .nil))) (.cons (.bin .add (.lit (.int 1000)) (.call 8 (.cons (.var 0) (.cons (.lit (.int 900000)) .nil)))) (.cons (.bin .add (.lit (.int 1)) (.call 8 (.cons (.var 0) (.cons (.lit (.int 100)) .nil)))) (.cons (.bin .add (.lit (.int 1)) (.call 8 (.cons (.var 0) (.cons (.lit (.int 1000000)) .nil)))) .nil)))))) (.seq (.asg (.nm 5) (.bin .add (.bin .add (.bin .mul (.tup (.cons (.var 1) .nil)) (.lit (.int 50))) (.bin .mul (.tup (.cons (.var 2) .nil)) (.var 3))) (.bin .mul (.tup (.cons (.var 1) .nil)) (.bin .sub (.lit (.int 150)) (.var 3))))) (.seq (.asg (.nm 6) (.blt .max (.cons (.lit (.int 0)) (.cons (.neg (.bin .fdiv (.neg (.bin .sub (.bin .mul (.var 3) (.var 2)) (.var 4))) (.var 3))) .nil)))) (.seq (.ife (.cmp .ge (.var 6) (.var 1)) (.seq (.ife (.or (.not (.call 5 (.cons (.call 6 (.cons (.tup (.cons (.var 4) (.cons (.lit (.int 1000000)) .nil))) (.cons (.var 5) .nil))) (.cons (.var 6) .nil)))) (.not (.call 9 (.cons (.tup (.cons (.var 4) (.cons (.lit (.int 1000000)) .nil))) (.cons (.var 5) (.cons (.var 6) (.cons (.lit (.bool true)) .nil))))))) (.seq (.ret (.lit (.bool false))) .skip) .skip) (.seq (.ife (.and (.cmp .gt (.var 6) (.lit (.int 0))) (.not (.call 9 (.cons (.tup (.cons (.var 4) (.cons (.lit (.int 1000000)) .nil))) (.cons (.var 5) (.cons (.bin .sub (.var 6) (.lit (.int 1))) (.cons (.lit (.bool false)) .nil))))))) (.seq (.ret (.lit (.bool false))) .skip) .skip) .skip)) .skip) (.seq (.asg (.nm 7) (.bin .add (.lit (.int 1)) (.call 8 (.cons (.var 0) (.cons (.lit (.int 1000)) .nil))))) (.seq (.asg (.nm 8) (.call 6 (.cons (.tup (.cons (.lit (.int 1000000)) (.cons (.var 7) .nil))) (.cons (.var 5) .nil)))) (.seq (.ife (.or (.cmp .lt (.var 8) (.bin .sub (.var 2) (.var 7))) (.or (.not (.call 7 (.cons (.tup (.cons (.lit (.int 1000000)) (.cons (.var 7) .nil))) (.cons (.var 5) (.cons (.var 8) .nil))))) (.and (.cmp .gt (.var 8) (.lit (.int 0))) (.call 7 (.cons (.tup (.cons (.lit (.int 1000000)) (.cons (.var 7) .nil))) (.cons (.var 5) (.cons (.bin .sub (.var 8) (.lit (.int 1))) .nil))))))) (.seq (.ret (.lit (.bool false))) .skip) .skip) (.seq (.asg (.nm 9) (.bin .mul (.tup (.cons (.var 2) .nil)) (.lit (.int 200)))) (.seq (.asg (.nm 8) (.lst (.cons (.call 6 (.cons (.tup (.cons (.var 4) (.cons (.lit (.int 1000000)) .nil))) (.cons (.var 9) .nil))) (.cons (.call 6 (.cons (.tup (.cons (.lit (.int 1)) (.cons (.lit (.int 1)) .nil))) (.cons (.var 9) .nil))) (.cons (.call 6 (.cons (.tup (.cons (.lit (.int 1000000)) (.cons (.lit (.int 1000000)) .nil))) (.cons (.bin .mul (.tup (.cons (.lit (.int 0)) .nil)) (.lit (.int 200))) .nil))) (.cons (.call 6 (.cons (.tup (.cons (.lit (.int 1)) (.cons (.lit (.int 1)) .nil))) (.cons (.tup (.cons (.lit (.int 1000000)) .nil)) .nil))) .nil)))))) (.seq (.ret (.call 5 (.cons (.var 8) (.cons (.lst (.cons (.blt .max (.cons (.lit (.int 0)) (.cons (.neg (.bin .fdiv (.neg (.bin .sub (.bin .mul (.lit (.int 200)) (.var 2)) (.var 4))) (.lit (.int 200)))) .nil))) (.cons (.var 2) (.cons (.lit (.int 0)) (.cons (.lit (.int 999999)) .nil))))) .nil)))) .skip))))))))))
def nm1 : List Str := ["cup", "base", "peak", "wide", "room", "loads", "due", "strength", "told", "flat"]
def pm1 : List Str := ["cup"]
def fn1 : Fn := ⟨1, 10, tm1⟩
/-- _law_written_right -/
def tm2 : Sx := (.seq (.asg (.nm 0) (.tup (.cons (.lit (.int 2)) (.cons (.lit (.int 6)) (.cons (.lit (.int 6)) (.cons (.lit (.int 2)) .nil)))))) (.seq (.asg (.nm 1) (.lst (.cons (.call 6 (.cons (.tup (.cons (.lit (.int 4)) (.cons (.lit (.int 9)) .nil))) (.cons (.var 0) .nil))) (.cons (.call 10 (.cons (.tup (.cons (.lit (.int 4)) (.cons (.lit (.int 9)) .nil))) (.cons (.var 0) (.cons (.lit (.int 3)) .nil)))) (.cons (.call 11 (.cons (.tup (.cons (.lit (.int 4)) (.cons (.lit (.int 9)) .nil))) (.cons (.var 0) (.cons (.lit (.int 4)) .nil)))) (.cons (.call 6 (.cons (.tup (.cons (.lit (.int 4)) (.cons (.lit (.int 1)) .nil))) (.cons (.var 0) .nil))) (.cons (.call 6 (.cons (.tup (.cons (.lit (.int 4)) (.cons (.lit (.int 9)) .nil))) (.cons (.tup .nil) .nil))) (.cons (.call 6 (.cons (.tup (.cons (.lit (.int 9)) (.cons (.lit (.int 9)) .nil))) (.cons (.tup (.cons (.lit (.int 2)) (.cons (.lit (.int 3)) .nil))) .nil))) .nil)))))))) (.seq (.asg (.nm 1) (.bin .add (.var 1) (.lst (.cons (.call 11 (.cons (.tup (.cons (.lit (.int 4)) (.cons (.lit (.int 9)) .nil))) (.cons (.tup (.cons (.lit (.int 9)) .nil)) (.cons (.lit (.int 4)) .nil)))) (.cons (.call 10 (.cons (.tup (.cons (.lit (.int 4)) (.cons (.lit (.int 9)) .nil))) (.cons (.tup (.cons (.lit (.int 9)) .nil)) (.cons (.lit (.int 5)) .nil)))) (.cons (.call 10 (.cons (.tup (.cons (.lit (.int 9)) (.cons (.lit (.int 4)) .nil))) (.cons (.tup (.cons (.lit (.int 9)) .nil)) (.cons (.lit (.int 4)) .nil)))) (.cons (.call 10 (.cons (.tup (.cons (.lit (.int 9)) (.cons (.lit (.int 4)) .nil))) (.cons (.tup (.cons (.lit (.int 9)) .nil)) (.cons (.lit (.int 5)) .nil)))) (.cons (.call 11 (.cons (.tup (.cons (.lit (.int 9)) (.cons (.lit (.int 4)) .nil))) (.cons (.tup (.cons (.lit (.int 9)) .nil)) (.cons (.lit (.int 4)) .nil)))) (.cons (.call 10 (.cons (.tup (.cons (.lit (.int 1)) (.cons (.lit (.int 1)) .nil))) (.cons (.tup .nil) (.cons (.lit (.int 0)) .nil)))) .nil))))))))) (.seq (.ret (.call 5 (.cons (.var 1) (.cons (.lst (.cons (.lit (.int 4)) (.cons (.lit (.bool false)) (.cons (.lit .none) (.cons (.lit (.int 5)) (.cons (.lit (.int 0)) (.cons (.lit (.int 0)) (.cons (.tup (.cons (.lit (.int 0)) (.cons (.lit (.int 0)) .nil))) (.cons (.lit (.bool true)) (.cons (.lit (.bool false)) (.cons (.lit (.bool true)) (.cons (.tup (.cons (.lit (.int 0)) (.cons (.lit (.int 0)) .nil))) (.cons (.lit (.bool true)) .nil))))))))))))) .nil)))) .skip))))
def nm2 : List Str := ["loads", "told"]
def pm2 : List Str := []
def fn2 : Fn := ⟨0, 2, tm2⟩
/-- _law_small_right -/
def tm3 : Sx := (.seq (.asg (.tp [1, 2]) (.tup (.cons (.tup (.cons (.bin .add (.lit (.int 1)) (.call 8 (.cons (.var 0) (.cons (.lit (.int 9)) .nil)))) (.cons (.bin .add (.lit (.int 1)) (.call 8 (.cons (.var 0) (.cons (.lit (.int 9)) .nil)))) .nil))) (.cons (.call 13 (.cons (.var 0) (.cons (.lit (.int 8)) (.cons (.lit (.int 9)) .nil)))) .nil)))) (.seq (.asg (.nm 3) (.comp (.nm 4) (.rng (.cons (.lit (.int 12)) .nil)) (.cons (.call 7 (.cons (.var 1) (.cons (.var 2) (.cons (.var 4) .nil)))) .nil) (.var 4) [4])) (.seq (.ife (.or (.not (.call 5 (.cons (.call 6 (.cons (.var 1) (.cons (.var 2) .nil))) (.cons (.ix (.var 3) (.lit (.int 0))) .nil)))) (.cmp .ne (.var 3) (.lrg (.cons (.ix (.var 3) (.lit (.int 0))) (.cons (.lit (.int 12)) .nil))))) (.seq (.ret (.lit (.bool false))) .skip) .skip) (.seq (.ife (.and (.cmp .ge (.ix (.var 1) (.lit (.int 1))) (.blt .max (.cons (.bin .add (.var 2) (.tup (.cons (.lit (.int 0)) .nil))) .nil))) (.cmp .ne (.call 12 (.cons (.ix (.var 1) (.lit (.int 0))) (.cons (.var 2) .nil))) (.ix (.var 3) (.lit (.int 0))))) (.seq (.ret (.lit (.bool false))) .skip) .skip) (.seq (.forr (.nm 4) (.sq (.tup (.cons (.lit (.int 0)) (.cons (.blt .max (.cons (.lit (.int 0)) (.cons (.bin .sub (.ix (.var 3) (.lit (.int 0))) (.lit (.int 1))) .nil))) (.cons (.ix (.var 3) (.lit (.int 0))) (.cons (.bin .add (.ix (.var 3) (.lit (.int 0))) (.lit (.int 1))) .nil)))))) (.seq (.ife (.not (.call 9 (.cons (.var 1) (.cons (.var 2) (.cons (.var 4) (.cons (.cmp .inn (.var 4) (.var 3)) .nil)))))) (.seq (.ret (.lit (.bool false))) .skip) .skip) .skip)) (.seq (.ret (.lit (.bool true))) .skip))))))
def nm3 : List Str := ["cup", "store", "loads", "good", "draw"]
def pm3 : List Str := ["cup"]
def fn3 : Fn := ⟨1, 5, tm3⟩
/-- _law_cup -/
def tm4 : Sx := (.seq (.asg (.nm 1) (.blt .abs (.cons (.ix (.bin .add (.lsq (.var 0)) (.lst (.cons (.lit (.int 0)) .nil))) (.lit (.int 0))) .nil))) (.seq (.ret (.lst (.cons (.ite (.cmp .ge (.var 1) (.bin .pow (.lit (.int 10)) (.lit (.int 18)))) (.bin .fdiv (.var 1) (.lit (.int 103))) (.lit (.int 0))) (.cons (.bin .add (.bin .mod (.blt .int (.cons (.bin .add (.bin .mul (.var 1) (.lit (.int 349))) (.lit (.int 5003))) .nil)) (.lit (.int 2014129333))) (.lit (.int 199))) .nil)))) .skip))
def nm4 : List Str := ["script", "cell"]
def pm4 : List Str := ["script"]
def fn4 : Fn := ⟨1, 2, tm4⟩
/-- _law_like -/
def tm5 : Sx := (.seq (.asg (.nm 2) (.call 14 (.cons (.var 1) .nil))) (.seq (.ife (.or (.cmp .ne (.call 14 (.cons (.var 0) .nil)) (.var 2)) (.cmp .eq (.var 2) (.lit (.int 6)))) (.seq (.ret (.lit (.bool false))) .skip) .skip) (.seq (.ife (.cmp .inn (.var 2) (.tup (.cons (.lit (.int 4)) (.cons (.lit (.int 5)) .nil)))) (.seq (.ret (.and (.cmp .eq (.blt .len (.cons (.var 0) .nil)) (.blt .len (.cons (.var 1) .nil))) (.cmp .eq (.comp (.tp [3, 4]) (.zip (.var 0) (.var 1)) (.cons (.not (.call 5 (.cons (.var 3) (.cons (.var 4) .nil)))) .nil) (.lit (.int 1)) [3, 4]) (.lst .nil)))) .skip) .skip) (.seq (.ret (.cmp .eq (.var 0) (.var 1))) .skip))))
def nm5 : List Str := ["one", "other", "sort", "first", "second"]
def pm5 : List Str := ["one", "other"]
def fn5 : Fn := ⟨2, 5, tm5⟩
/-- least_draw -/
def tm6 : Sx := (.seq (.exp (.call 16 (.cons (.var 0) (.cons (.var 1) .nil)))) (.seq (.par 2 3 (.lit (.int 0)) (.blt .max (.cons (.bin .add (.lst (.cons (.lit (.int 0)) .nil)) (.lsq (.var 1))) .nil))) (.seq (.whl (.cmp .lt (.var 2) (.var 3)) (.seq (.asg (.nm 4) (.bin .fdiv (.bin .add (.var 2) (.var 3)) (.lit (.int 2)))) (.seq (.ife (.call 15 (.cons (.var 0) (.cons (.var 1) (.cons (.var 4) .nil)))) (.seq (.asg (.nm 3) (.var 4)) .skip) (.seq (.asg (.nm 2) (.bin .add (.var 4) (.lit (.int 1)))) .skip)) .skip))) (.seq (.ret (.var 2)) .skip))))
def nm6 : List Str := ["store", "loads", "low", "high", "middle"]
def pm6 : List Str := ["store", "loads"]
def fn6 : Fn := ⟨2, 5, tm6⟩
/-- _law_enough -/
def tm7 : Sx := (.seq (.asg (.nm 3) (.ix (.var 0) (.lit (.int 0)))) (.seq (.forr (.nm 4) (.sq (.var 1)) (.seq (.ife (.cmp .gt (.bin .sub (.var 4) (.var 2)) (.blt .min (.cons (.ix (.var 0) (.lit (.int 1))) (.cons (.var 3) .nil)))) (.seq (.ret (.lit (.bool false))) .skip) .skip) (.seq (.asg (.nm 3) (.blt .min (.cons (.ix (.var 0) (.lit (.int 0))) (.cons (.bin .add (.var 3) (.blt .min (.cons (.bin .sub (.var 2) (.var 4)) (.cons (.ix (.var 0) (.lit (.int 1))) .nil)))) .nil)))) .skip))) (.seq (.ret (.lit (.bool true))) .skip)))
def nm7 : List Str := ["store", "loads", "draw", "level", "load"]
def pm7 : List Str := ["store", "loads", "draw"]
def fn7 : Fn := ⟨3, 5, tm7⟩
/-- _law_roll -/
def tm8 : Sx := (.seq (.ife (.cmp .gt (.ix (.var 0) (.lit (.int 0))) (.lit (.int 0))) (.seq (.asg (.nm 2) (.bin .mod (.blt .int (.cons (.ix (.var 0) (.lit (.int 0))) .nil)) (.var 1))) (.seq (.sto 0 (.lit (.int 0)) (.bin .fdiv (.ix (.var 0) (.lit (.int 0))) (.var 1))) (.seq (.ret (.var 2)) .skip))) .skip) (.seq (.sto 0 (.lit (.int 1)) (.bin .mod (.blt .int (.cons (.bin .add (.bin .mul (.ix (.var 0) (.lit (.int 1))) (.lit (.int 30307))) (.lit (.int 8707))) .nil)) (.lit (.int 2147483543)))) (.seq (.asg (.nm 3) (.bin .mod (.blt .int (.cons (.bin .mul (.ix (.var 0) (.lit (.int 1))) (.bin .add (.ix (.var 0) (.lit (.int 1))) (.lit (.int 277)))) .nil)) (.lit (.int 2147483587)))) (.seq (.ret (.bin .mod (.blt .int (.cons (.bin .fdiv (.var 3) (.lit (.int 863))) .nil)) (.var 1))) .skip))))
def nm8 : List Str := ["cup", "many", "found", "deep"]
def pm8 : List Str := ["cup", "many"]
def fn8 : Fn := ⟨2, 4, tm8⟩
/-- _law_draw_right -/
def tm9 : Sx := (.seq (.asg (.nm 4) (.call 11 (.cons (.var 0) (.cons (.var 1) (.cons (.var 2) .nil))))) (.seq (.ife (.not (.call 5 (.cons (.lst (.cons (.call 10 (.cons (.var 0) (.cons (.var 1) (.cons (.var 2) .nil)))) (.cons (.cmp .isN (.var 4) (.lit .none)) .nil))) (.cons (.lst (.cons (.var 3) (.cons (.var 3) .nil))) .nil)))) (.seq (.ret (.lit (.bool false))) .skip) .skip) (.seq (.ret (.or (.cmp .isN (.var 4) (.lit .none)) (.cmp .isN (.call 17 (.cons (.var 0) (.cons (.ix (.var 0) (.lit (.int 0))) (.cons (.tsq (.comp (.nm 5) (.sq (.var 1)) .nil (.bin .sub (.var 2) (.var 5)) [5])) (.cons (.var 4) .nil))))) (.lit (.bool true))))) .skip)))
def nm9 : List Str := ["store", "loads", "draw", "is_due", "told", "load"]
def pm9 : List Str := ["store", "loads", "draw", "is_due"]
def fn9 : Fn := ⟨4, 6, tm9⟩
/-- is_enough -/
def tm10 : Sx := (.seq (.exp (.call 16 (.cons (.var 0) (.cons (.var 1) .nil)))) (.seq (.exp (.call 18 (.cons (.var 2) (.cons (.lit (.int 0)) (.cons (.glb 0) .nil))))) (.seq (.ret (.call 15 (.cons (.var 0) (.cons (.var 1) (.cons (.var 2) .nil))))) .skip)))
def nm10 : List Str := ["store", "loads", "draw"]
def pm10 : List Str := ["store", "loads", "draw"]
def fn10 : Fn := ⟨3, 3, tm10⟩
/-- draw_stretch -/
def tm11 : Sx := (.seq (.exp (.call 16 (.cons (.var 0) (.cons (.var 1) .nil)))) (.seq (.exp (.call 18 (.cons (.var 2) (.cons (.lit (.int 0)) (.cons (.glb 0) .nil))))) (.seq (.ret (.call 19 (.cons (.var 0) (.cons (.ix (.var 0) (.lit (.int 0))) (.cons (.call 20 (.cons (.var 1) (.cons (.var 2) .nil))) .nil))))) .skip)))
def nm11 : List Str := ["store", "loads", "draw"]
def pm11 : List Str := ["store", "loads", "draw"]
def fn11 : Fn := ⟨3, 3, tm11⟩
/-- _law_by_stretches -/
def tm12 : Sx := (.seq (.asg (.nm 2) (.lit (.int 0))) (.seq (.forr (.nm 3) (.rng (.cons (.blt .len (.cons (.var 1) .nil)) .nil)) (.seq (.asg (.nm 4) (.neg (.var 0))) (.seq (.forr (.nm 5) (.rng (.cons (.var 3) (.cons (.blt .len (.cons (.var 1) .nil)) .nil))) (.seq (.asg (.nm 4) (.bin .add (.var 4) (.ix (.var 1) (.var 5)))) (.seq (.asg (.nm 2) (.blt .max (.cons (.var 2) (.cons (.neg (.bin .fdiv (.neg (.var 4)) (.bin .add (.bin .sub (.var 5) (.var 3)) (.lit (.int 1))))) .nil)))) .skip))) .skip))) (.seq (.ret (.var 2)) .skip)))
def nm12 : List Str := ["room", "loads", "best", "start", "total", "end"]
def pm12 : List Str := ["room", "loads"]
def fn12 : Fn := ⟨2, 6, tm12⟩
/-- _law_loads -/
def tm13 : Sx := (.seq (.ret (.tsq (.comp (.nm 3) (.rng (.cons (.call 8 (.cons (.var 0) (.cons (.bin .add (.var 1) (.lit (.int 1))) .nil))) .nil)) .nil (.call 21 (.cons (.var 0) (.cons (.lst (.cons (.lit (.int 0)) (.cons (.call 8 (.cons (.var 0) (.cons (.bin .add (.var 2) (.lit (.int 1))) .nil))) (.cons (.call 8 (.cons (.var 0) (.cons (.bin .add (.var 2) (.lit (.int 1))) .nil))) .nil)))) .nil))) [3]))) .skip)
def nm13 : List Str := ["cup", "hours", "most", "hour"]
def pm13 : List Str := ["cup", "hours", "most"]
def fn13 : Fn := ⟨3, 4, tm13⟩
/-- _law_sort -/
def tm14 : Sx := (.seq (.ife (.or (.cmp .isN (.var 0) (.lit .none)) (.blt (.isi .bool) (.cons (.var 0) .nil))) (.seq (.ret (.ite (.cmp .isN (.var 0) (.lit .none)) (.lit (.int 0)) (.lit (.int 1)))) .skip) .skip) (.seq (.ife (.or (.blt (.isi .int) (.cons (.var 0) .nil)) (.blt (.isi .str) (.cons (.var 0) .nil))) (.seq (.ret (.ite (.blt (.isi .int) (.cons (.var 0) .nil)) (.lit (.int 2)) (.lit (.int 3)))) .skip) .skip) (.seq (.ret (.ite (.blt (.isi .tuple) (.cons (.var 0) .nil)) (.lit (.int 4)) (.ite (.blt (.isi .list) (.cons (.var 0) .nil)) (.lit (.int 5)) (.lit (.int 6))))) .skip)))
def nm14 : List Str := ["value"]
def pm14 : List Str := ["value"]
def fn14 : Fn := ⟨1, 1, tm14⟩
/-- is_enough_in -/
def tm15 : Sx := (.seq (.ret (.cmp .notN (.call 22 (.cons (.var 0) (.cons (.ix (.var 0) (.lit (.int 0))) (.cons (.call 20 (.cons (.var 1) (.cons (.var 2) .nil))) .nil)))) (.lit .none))) .skip)
def nm15 : List Str := ["store", "loads", "draw"]
def pm15 : List Str := ["store", "loads", "draw"]
def fn15 : Fn := ⟨3, 3, tm15⟩
/-- need_question -/
def tm16 : Sx := (.seq (.exp (.call 24 (.cons (.var 0) .nil))) (.seq (.exp (.call 23 (.cons (.var 1) .nil))) .skip))
def nm16 : List Str := ["store", "loads"]
def pm16 : List Str := ["store", "loads"]
def fn16 : Fn := ⟨2, 2, tm16⟩
/-- is_dark_stretch -/
def tm17 : Sx := (.seq (.exp (.call 26 (.cons (.var 0) (.cons (.var 1) (.cons (.var 2) .nil))))) (.seq (.ret (.call 25 (.cons (.var 0) (.cons (.var 1) (.cons (.var 2) (.cons (.var 3) .nil)))))) .skip))
def nm17 : List Str := ["store", "level", "hours", "value"]
def pm17 : List Str := ["store", "level", "hours", "value"]
def fn17 : Fn := ⟨4, 4, tm17⟩
/-- need_whole -/
def tm18 : Sx := (.seq (.ife (.not (.call 27 (.cons (.var 0) (.cons (.var 1) (.cons (.var 2) .nil))))) (.seq .bad .skip) .skip) .skip)
def nm18 : List Str := ["value", "low", "high"]
def pm18 : List Str := ["value", "low", "high"]
def fn18 : Fn := ⟨3, 3, tm18⟩
/-- stretch_in -/
def tm19 : Sx := (.seq (.asg (.tp [3, 4]) (.var 0)) (.seq (.asg (.nm 5) (.call 28 (.cons (.var 4) (.cons (.var 2) .nil)))) (.seq (.forr (.tp [6, 7]) (.enm (.var 2)) (.seq (.ife (.cmp .gt (.neg (.var 7)) (.var 4)) (.seq (.ret (.tup (.cons (.var 6) (.cons (.var 6) .nil)))) .skip) .skip) (.seq (.asg (.nm 8) (.lit (.int 0))) (.seq (.forr (.nm 9) (.rng (.cons (.var 6) (.cons (.neg (.lit (.int 1))) (.cons (.neg (.lit (.int 1))) .nil)))) (.seq (.asg (.nm 8) (.bin .add (.var 8) (.ix (.var 5) (.var 9)))) (.seq (.ife (.or (.cmp .gt (.var 8) (.var 3)) (.and (.cmp .eq (.var 9) (.lit (.int 0))) (.cmp .gt (.var 8) (.var 1)))) (.seq (.ret (.tup (.cons (.var 9) (.cons (.var 6) .nil)))) .skip) .skip) .skip))) .skip)))) (.seq (.ret (.lit .none)) .skip))))
def nm19 : List Str := ["store", "level", "hours", "room", "strength", "takes", "end", "hour", "total", "start"]
def pm19 : List Str := ["store", "level", "hours"]
def fn19 : Fn := ⟨3, 10, tm19⟩
/-- hours_for -/
def tm20 : Sx := (.seq (.ret (.comp (.nm 2) (.sq (.var 0)) .nil (.bin .sub (.var 1) (.var 2)) [2])) .skip)
def nm20 : List Str := ["loads", "draw", "load"]
def pm20 : List Str := ["loads", "draw"]
def fn20 : Fn := ⟨2, 3, tm20⟩
/-- _law_some -/
def tm21 : Sx := (.seq (.ret (.ix (.var 1) (.call 8 (.cons (.var 0) (.cons (.blt .len (.cons (.var 1) .nil)) .nil))))) .skip)
def nm21 : List Str := ["cup", "things"]
def pm21 : List Str := ["cup", "things"]
def fn21 : Fn := ⟨2, 2, tm21⟩
/-- levels_in -/
def tm22 : Sx := (.seq (.asg (.tp [3, 4]) (.var 0)) (.seq (.asg (.nm 5) (.lst .nil)) (.seq (.forr (.nm 6) (.sq (.var 2)) (.seq (.ife (.or (.cmp .gt (.neg (.var 6)) (.var 4)) (.cmp .gt (.neg (.var 6)) (.var 1))) (.seq (.ret (.lit .none)) .skip) .skip) (.seq (.asg (.nm 1) (.blt .min (.cons (.var 3) (.cons (.bin .add (.var 1) (.blt .min (.cons (.var 6) (.cons (.var 4) .nil)))) .nil)))) (.seq (.app 5 (.var 1)) .skip)))) (.seq (.ret (.var 5)) .skip))))
def nm22 : List Str := ["store", "level", "hours", "room", "strength", "found", "hour"]
def pm22 : List Str := ["store", "level", "hours"]
def fn22 : Fn := ⟨3, 7, tm22⟩
/-- need_loads -/
def tm23 : Sx := (.seq (.ife (.not (.call 29 (.cons (.var 0) .nil))) (.seq .bad .skip) .skip) .skip)
def nm23 : List Str := ["loads"]
def pm23 : List Str := ["loads"]
def fn23 : Fn := ⟨1, 1, tm23⟩
/-- need_one_store -/
def tm24 : Sx := (.seq (.ife (.not (.call 30 (.cons (.var 0) .nil))) (.seq .bad .skip) .skip) .skip)
def nm24 : List Str := ["store"]
def pm24 : List Str := ["store"]
def fn24 : Fn := ⟨1, 1, tm24⟩
/-- is_dark_in -/
def tm25 : Sx := (.seq (.ife (.or (.not (.call 31 (.cons (.var 3) (.cons (.lit (.int 2)) (.cons (.lit (.int 2)) .nil))))) (.or (.not (.call 27 (.cons (.ix (.var 3) (.lit (.int 1))) (.cons (.lit (.int 0)) (.cons (.bin .sub (.blt .len (.cons (.var 2) .nil)) (.lit (.int 1))) .nil))))) (.not (.call 27 (.cons (.ix (.var 3) (.lit (.int 0))) (.cons (.lit (.int 0)) (.cons (.ix (.var 3) (.lit (.int 1))) .nil))))))) (.seq (.ret (.lit (.bool false))) .skip) .skip) (.seq (.asg (.tp [4, 5]) (.var 3)) (.seq (.asg (.nm 6) (.blt .sum (.cons (.call 28 (.cons (.ix (.var 0) (.lit (.int 1))) (.cons (.slc (.var 2) (.cons (.var 4) .nil) (.cons (.bin .add (.var 5) (.lit (.int 1))) .nil)) .nil))) .nil))) (.seq (.ife (.or (.cmp .gt (.var 6) (.ix (.var 0) (.lit (.int 0)))) (.and (.cmp .eq (.var 4) (.lit (.int 0))) (.cmp .gt (.var 6) (.var 1)))) (.seq (.ret (.lit (.bool true))) .skip) .skip) (.seq (.ret (.and (.cmp .eq (.var 4) (.var 5)) (.cmp .gt (.neg (.ix (.var 2) (.var 4))) (.ix (.var 0) (.lit (.int 1)))))) .skip)))))
def nm25 : List Str := ["store", "level", "hours", "value", "start", "end", "total"]
def pm25 : List Str := ["store", "level", "hours", "value"]
def fn25 : Fn := ⟨4, 7, tm25⟩
/-- need_all -/
def tm26 : Sx := (.seq (.exp (.call 24 (.cons (.var 0) .nil))) (.seq (.exp (.call 18 (.cons (.var 1) (.cons (.lit (.int 0)) (.cons (.ix (.var 0) (.lit (.int 0))) .nil))))) (.seq (.exp (.call 32 (.cons (.var 2) .nil))) .skip)))
def nm26 : List Str := ["store", "level", "hours"]
def pm26 : List Str := ["store", "level", "hours"]
def fn26 : Fn := ⟨3, 3, tm26⟩
/-- is_whole -/
def tm27 : Sx := (.seq (.ret (.and (.blt (.isi .int) (.cons (.var 0) .nil)) (.and (.not (.blt (.isi .bool) (.cons (.var 0) .nil))) (.chn .le .le (.var 1) (.var 0) (.var 2))))) .skip)
def nm27 : List Str := ["value", "low", "high"]
def pm27 : List Str := ["value", "low", "high"]
def fn27 : Fn := ⟨3, 3, tm27⟩
/-- lost_in -/
def tm28 : Sx := (.seq (.ret (.comp (.nm 2) (.sq (.var 1)) .nil (.neg (.blt .min (.cons (.var 2) (.cons (.var 0) .nil)))) [2])) .skip)
def nm28 : List Str := ["strength", "hours", "hour"]
def pm28 : List Str := ["strength", "hours"]
def fn28 : Fn := ⟨2, 3, tm28⟩
/-- are_loads_in -/
def tm29 : Sx := (.seq (.ret (.and (.call 31 (.cons (.var 0) (.cons (.lit (.int 0)) (.cons (.glb 1) .nil)))) (.blt .all (.cons (.comp (.nm 1) (.sq (.var 0)) .nil (.call 27 (.cons (.var 1) (.cons (.lit (.int 0)) (.cons (.glb 0) .nil)))) [1]) .nil)))) .skip)
def nm29 : List Str := ["value", "load"]
def pm29 : List Str := ["value"]
def fn29 : Fn := ⟨1, 2, tm29⟩
/-- is_store -/
def tm30 : Sx := (.seq (.ret (.and (.call 31 (.cons (.var 0) (.cons (.lit (.int 2)) (.cons (.lit (.int 2)) .nil)))) (.and (.call 27 (.cons (.ix (.var 0) (.lit (.int 0))) (.cons (.lit (.int 1)) (.cons (.glb 0) .nil)))) (.call 27 (.cons (.ix (.var 0) (.lit (.int 1))) (.cons (.lit (.int 1)) (.cons (.glb 0) .nil))))))) .skip)
def nm30 : List Str := ["value"]
def pm30 : List Str := ["value"]
def fn30 : Fn := ⟨1, 1, tm30⟩
/-- is_tuple_of -/
def tm31 : Sx := (.seq (.ret (.and (.blt (.isi .tuple) (.cons (.var 0) .nil)) (.chn .le .le (.var 1) (.blt .len (.cons (.var 0) .nil)) (.var 2)))) .skip)
def nm31 : List Str := ["value", "low", "high"]
def pm31 : List Str := ["value", "low", "high"]
def fn31 : Fn := ⟨3, 3, tm31⟩
/-- need_hours -/
def tm32 : Sx := (.seq (.ife (.not (.call 33 (.cons (.var 0) .nil))) (.seq .bad .skip) .skip) .skip)
def nm32 : List Str := ["hours"]
def pm32 : List Str := ["hours"]
def fn32 : Fn := ⟨1, 1, tm32⟩
/-- are_hours -/
def tm33 : Sx := (.seq (.ret (.and (.call 31 (.cons (.var 0) (.cons (.lit (.int 0)) (.cons (.glb 1) .nil)))) (.blt .all (.cons (.comp (.nm 1) (.sq (.var 0)) .nil (.call 27 (.cons (.var 1) (.cons (.neg (.glb 0)) (.cons (.glb 0) .nil)))) [1]) .nil)))) .skip)
def nm33 : List Str := ["value", "hour"]
def pm33 : List Str := ["value"]
def fn33 : Fn := ⟨1, 2, tm33⟩
def Ynm : List Str := (["law", "_law_great_right", "_law_written_right", "_law_small_right", "_law_cup", "_law_like", "least_draw", "_law_enough", "_law_roll", "_law_draw_right", "is_enough", "draw_stretch", "_law_by_stretches", "_law_loads", "_law_sort", "is_enough_in", "need_question", "is_dark_stretch", "need_whole", "stretch_in", "hours_for", "_law_some", "levels_in", "need_loads"] : List Str) ++ (["need_one_store", "is_dark_in", "need_all", "is_whole", "lost_in", "are_loads_in", "is_store", "is_tuple_of", "need_hours", "are_hours"] : List Str)
def Yc : Sy := ⟨Ynm, ["AMOUNT", "HOURS"], [], false⟩
def cons : List Int := [1000000, 200]
def con (g : Nat) : D := .int (cons[g]?.getD 0)
def Tb : Tab := ⟨[fn0, fn1, fn2, fn3, fn4, fn5, fn6, fn7, fn8, fn9, fn10, fn11, fn12, fn13, fn14, fn15, fn16, fn17, fn18, fn19, fn20, fn21, fn22, fn23, fn24, fn25, fn26, fn27, fn28, fn29, fn30, fn31, fn32, fn33], con⟩
theorem fit0 : fitB Yc (stt 46) pm0 nm0 fn0 = true := by decide +kernel
theorem fit1 : fitB Yc (stt 44) pm1 nm1 fn1 = true := by decide +kernel
theorem fit2 : fitB Yc (stt 45) pm2 nm2 fn2 = true := by decide +kernel
theorem fit3 : fitB Yc (stt 43) pm3 nm3 fn3 = true := by decide +kernel
theorem fit4 : fitB Yc (stt 34) pm4 nm4 fn4 = true := by decide +kernel
theorem fit5 : fitB Yc (stt 38) pm5 nm5 fn5 = true := by decide +kernel
theorem fit6 : fitB Yc (stt 31) pm6 nm6 fn6 = true := by decide +kernel
theorem fit7 : fitB Yc (stt 40) pm7 nm7 fn7 = true := by decide +kernel
theorem fit8 : fitB Yc (stt 35) pm8 nm8 fn8 = true := by decide +kernel
theorem fit9 : fitB Yc (stt 42) pm9 nm9 fn9 = true := by decide +kernel
theorem fit10 : fitB Yc (stt 30) pm10 nm10 fn10 = true := by decide +kernel
theorem fit11 : fitB Yc (stt 32) pm11 nm11 fn11 = true := by decide +kernel
theorem fit12 : fitB Yc (stt 41) pm12 nm12 fn12 = true := by decide +kernel
theorem fit13 : fitB Yc (stt 39) pm13 nm13 fn13 = true := by decide +kernel
theorem fit14 : fitB Yc (stt 37) pm14 nm14 fn14 = true := by decide +kernel
theorem fit15 : fitB Yc (stt 29) pm15 nm15 fn15 = true := by decide +kernel
theorem fit16 : fitB Yc (stt 27) pm16 nm16 fn16 = true := by decide +kernel
theorem fit17 : fitB Yc (stt 25) pm17 nm17 fn17 = true := by decide +kernel
theorem fit18 : fitB Yc (stt 8) pm18 nm18 fn18 = true := by decide +kernel
theorem fit19 : fitB Yc (stt 23) pm19 nm19 fn19 = true := by decide +kernel
theorem fit20 : fitB Yc (stt 28) pm20 nm20 fn20 = true := by decide +kernel
theorem fit21 : fitB Yc (stt 36) pm21 nm21 fn21 = true := by decide +kernel
theorem fit22 : fitB Yc (stt 21) pm22 nm22 fn22 = true := by decide +kernel
theorem fit23 : fitB Yc (stt 15) pm23 nm23 fn23 = true := by decide +kernel
theorem fit24 : fitB Yc (stt 18) pm24 nm24 fn24 = true := by decide +kernel
theorem fit25 : fitB Yc (stt 24) pm25 nm25 fn25 = true := by decide +kernel
theorem fit26 : fitB Yc (stt 20) pm26 nm26 fn26 = true := by decide +kernel
theorem fit27 : fitB Yc (stt 7) pm27 nm27 fn27 = true := by decide +kernel
theorem fit28 : fitB Yc (stt 22) pm28 nm28 fn28 = true := by decide +kernel
theorem fit29 : fitB Yc (stt 14) pm29 nm29 fn29 = true := by decide +kernel
theorem fit30 : fitB Yc (stt 13) pm30 nm30 fn30 = true := by decide +kernel
theorem fit31 : fitB Yc (stt 9) pm31 nm31 fn31 = true := by decide +kernel
theorem fit32 : fitB Yc (stt 19) pm32 nm32 fn32 = true := by decide +kernel
theorem fit33 : fitB Yc (stt 17) pm33 nm33 fn33 = true := by decide +kernel
end Law


set_option Elab.async false
set_option autoImplicit false
set_option linter.all false
set_option maxRecDepth 100000
set_option maxHeartbeats 4000000
/-! # Wp: a run that answers -/
namespace Mir
open PySem
def Wp {α : Type} (r : R α) (Q : α → Prop) : Prop := ∃ a, r = .ok a ∧ Q a
section
variable {α β : Type} {r : R α} {f : α → R β} {a : α} {Q Q' : α → Prop} {c : Prop} [Decidable c] {x y : R α}
theorem Wp.ok (h : Q a) : Wp (.ok a) Q := ⟨a, rfl, h⟩
theorem Wp.bind {Q : β → Prop} (h : Wp r fun a => Wp (f a) Q) : Wp (r.bind f) Q := by
  obtain ⟨a, rfl, b, e, q⟩ := h
  exact ⟨b, e, q⟩
theorem Wp.pos (hc : c) (h : Wp x Q) : Wp (if c then x else y) Q := by rw [if_pos hc]; exact h
theorem Wp.neg (hc : ¬ c) (h : Wp y Q) : Wp (if c then x else y) Q := by rw [if_neg hc]; exact h
theorem Wp.split (h1 : c → Wp x Q) (h2 : ¬ c → Wp y Q) : Wp (if c then x else y) Q := by
  by_cases hc : c
  · exact .pos hc (h1 hc)
  · exact .neg hc (h2 hc)
theorem Wp.eq (e : r = .ok a) (h : Q a) : Wp r Q := ⟨a, e, h⟩
theorem Wp.mono (h : Wp r Q) (g : ∀ a, Q a → Q' a) : Wp r Q' := by
  obtain ⟨a, e, q⟩ := h
  exact ⟨a, e, g a q⟩
theorem Wp.noX (h : Wp r Q) : Wp (R.noX r) Q := by
  obtain ⟨a, rfl, q⟩ := h
  exact ⟨a, rfl, q⟩
theorem wp_call {T : Tab} {n f : Nat} {fn : Fn} {args : List Slot} {Q : D × Bool × List Slot → Prop} (h : T.fns[f]? = some fn) (hl : args.length = fn.np)
    (q : ∀ C, C = callN T n → Wp (ex ⟨C, T.con⟩ fn.body (args ++ List.replicate (fn.ns - fn.np) .emp)) fun q => Wp (match q.1 with | .nx => .ok (D.none, false, (q.2.take fn.np).map fin1) | .rt d o => .ok (d, o, (q.2.take fn.np).map fin1) | _ => .no) Q) : Wp (callN T (n + 1) f args) Q := by
  have e : callN T (n + 1) f args = Mir.finish fn.np (ex ⟨callN T n, T.con⟩ fn.body (args ++ List.replicate (fn.ns - fn.np) .emp)) := by
    show (match T.fns[f]? with | some fn => runFn ⟨callN T n, T.con⟩ fn args | none => .no) = _
    rw [h]
    exact if_pos hl
  rw [e]
  exact Wp.bind (q _ rfl)
/-- a run that answers so and so -/
theorem Wp.is (h : Wp r fun b => b = a) : r = .ok a := by
  obtain ⟨b, e, q⟩ := h
  rw [e, q]
theorem wp_loopC {f : D → G → R (Option D × G)} {I : List D → List D → G → Prop} : ∀ {xs done acc : List D} {Γ : G}, I done acc Γ → acc.length + xs.length ≤ 16000000 →
    (∀ (x : D) (don acc : List D) (Γ : G), x ∈ xs → I don acc Γ → Wp (f x Γ) fun r => match r.1 with | some y => I (don ++ [x]) (acc ++ [y]) r.2 | none => I (don ++ [x]) acc r.2) → Wp (loopC f xs acc Γ) fun r => I (done ++ xs) r.1 r.2
  | [], done, acc, Γ, h, _, _ => ⟨_, rfl, by rw [List.append_nil]; exact h⟩
  | x :: xs, done, acc, Γ, h, hl, hs => by
    rw [List.length_cons] at hl
    obtain ⟨⟨o, Γ1⟩, e, q⟩ := hs x done acc Γ List.mem_cons_self h
    show Wp ((f x Γ).bind _) _
    rw [e]
    have ea : done ++ x :: xs = done ++ [x] ++ xs := by rw [List.append_assoc]; rfl
    rw [ea]
    cases o with
    | none => exact wp_loopC q (by omega) fun y don acc Γ hy => hs y don acc Γ (List.mem_cons_of_mem _ hy)
    | some y =>
      show Wp (if line acc.length = true then _ else _) _
      refine Wp.pos (decide_eq_true (by omega)) (wp_loopC q (by rw [List.length_append, List.length_singleton]; omega) fun y don acc Γ hy => hs y don acc Γ (List.mem_cons_of_mem _ hy))
theorem wp_loopF {b : D → G → R (Fl × G)} {I : List D → G → Prop} {Q : Fl × G → Prop} : ∀ {xs done : List D} {Γ : G}, I done Γ →
    (∀ (x : D) (don rest : List D) (Γ : G), done ++ xs = don ++ x :: rest → I don Γ → Wp (b x Γ) fun r => match r.1 with | .nx => I (don ++ [x]) r.2 | .ct => I (don ++ [x]) r.2 | .bk => Q (.nx, r.2) | .rt d o => Q (.rt d o, r.2)) → (∀ Γ, I (done ++ xs) Γ → Q (.nx, Γ)) → Wp (loopF b xs Γ) Q
  | [], done, Γ, h, _, he => ⟨_, rfl, he Γ (by rw [List.append_nil]; exact h)⟩
  | x :: xs, done, Γ, h, hs, he => by
    obtain ⟨⟨o, Γ1⟩, e, q⟩ := hs x done xs Γ rfl h
    show Wp ((b x Γ).bind _) _
    rw [e]
    have ea : done ++ x :: xs = done ++ [x] ++ xs := by rw [List.append_assoc]; rfl
    have next : I (done ++ [x]) Γ1 → Wp (loopF b xs Γ1) Q := fun q => wp_loopF q (fun y don rest Γ hy => hs y don rest Γ (by rw [ea]; exact hy)) fun Γ => by rw [← ea]; exact he Γ
    cases o with
    | nx => exact next q
    | ct => exact next q
    | bk => exact ⟨_, rfl, q⟩
    | rt d o => exact ⟨_, rfl, q⟩
theorem wp_loopW {c : G → R (Bool × G)} {b : G → R (Fl × G)} {I : Nat → G → Prop} {Q : Fl × G → Prop} (hs : ∀ k Γ, I k Γ → Wp (c Γ) fun t => (t.1 = true → Wp (b t.2) fun r => match r.1 with | .nx => ∃ j, k = j + 1 ∧ I j r.2 | .ct => ∃ j, k = j + 1 ∧ I j r.2 | .bk => Q (.nx, r.2) | .rt d o => Q (.rt d o, r.2)) ∧ (t.1 = false → Q (.nx, t.2))) :
    ∀ {n k : Nat} {Γ : G}, I k Γ → k < n → Wp (loopW c b n Γ) Q
  | 0, _, _, _, h => absurd h (Nat.not_lt_zero _)
  | n + 1, k, Γ, h, hk => by
    obtain ⟨⟨t, Γ1⟩, e, q⟩ := hs k Γ h
    show Wp ((c Γ).bind _) _
    rw [e]
    cases t with
    | false => exact ⟨_, rfl, q.2 rfl⟩
    | true =>
      obtain ⟨⟨o, Γ2⟩, e2, q2⟩ := q.1 rfl
      show Wp ((b Γ1).bind _) _
      rw [e2]
      cases o with
      | nx =>
        obtain ⟨j, ej, q3⟩ := q2
        exact wp_loopW hs q3 (by omega)
      | ct =>
        obtain ⟨j, ej, q3⟩ := q2
        exact wp_loopW hs q3 (by omega)
      | bk => exact ⟨_, rfl, q2⟩
      | rt d o => exact ⟨_, rfl, q2⟩
end
theorem wp_map {α : Type} {f : D → G → R (Option D × G)} {h g : α → D} {Γ : G} {l : List α} (hl : l.length ≤ 16000000) (hs : ∀ a ∈ l, Wp (f (h a) Γ) fun r => r = (some (g a), Γ)) : Wp (loopC f (l.map h) [] Γ) fun r => r = (l.map g, Γ) := by
  have key : ∀ (l : List α) (acc : List D), (∀ a ∈ l, Wp (f (h a) Γ) fun r => r = (some (g a), Γ)) → acc.length + l.length ≤ 16000000 → Wp (loopC f (l.map h) acc Γ) fun r => r = (acc ++ l.map g, Γ) := by
    intro l
    induction l with
    | nil => intro acc _ _; exact ⟨_, rfl, by rw [List.map_nil, List.append_nil]⟩
    | cons a l ih =>
      intro acc hs hl
      rw [List.length_cons] at hl
      obtain ⟨r, e, q⟩ := hs a List.mem_cons_self
      subst q
      show Wp ((f (h a) Γ).bind _) _
      rw [e]
      show Wp (if line acc.length = true then _ else _) _
      refine Wp.pos (decide_eq_true (by omega)) ((ih (acc ++ [g a]) (fun b hb => hs b (List.mem_cons_of_mem _ hb)) (by rw [List.length_append, List.length_singleton]; omega)).mono fun r hr => ?_)
      rw [hr, List.append_assoc]
      rfl
  have q := key l [] hs (by rw [List.length_nil]; omega)
  exact q
/-- what stays of a filtered walk -/
theorem wp_filter {α : Type} {f : D → G → R (Option D × G)} {h g : α → D} {p : α → Bool} {Γ : G} {l : List α} (hl : l.length ≤ 16000000) (hs : ∀ a ∈ l, Wp (f (h a) Γ) fun r => r = (if p a then some (g a) else none, Γ)) : Wp (loopC f (l.map h) [] Γ) fun r => r = ((l.filter p).map g, Γ) := by
  have key : ∀ (l : List α) (acc : List D), (∀ a ∈ l, Wp (f (h a) Γ) fun r => r = (if p a then some (g a) else none, Γ)) → acc.length + l.length ≤ 16000000 → Wp (loopC f (l.map h) acc Γ) fun r => r = (acc ++ (l.filter p).map g, Γ) := by
    intro l
    induction l with
    | nil => intro acc _ _; exact ⟨_, rfl, by rw [List.filter_nil, List.map_nil, List.append_nil]⟩
    | cons a l ih =>
      intro acc hs hl
      rw [List.length_cons] at hl
      obtain ⟨r, e, q⟩ := hs a List.mem_cons_self
      show Wp ((f (h a) Γ).bind _) _
      rw [e]
      rw [List.filter_cons]
      cases hp : p a with
      | false =>
        rw [hp] at q
        subst q
        exact ih acc (fun b hb => hs b (List.mem_cons_of_mem _ hb)) (by omega)
      | true =>
        rw [hp] at q
        subst q
        show Wp (if line acc.length = true then _ else _) _
        refine Wp.pos (decide_eq_true (by omega)) ((ih (acc ++ [g a]) (fun b hb => hs b (List.mem_cons_of_mem _ hb)) (by rw [List.length_append, List.length_singleton]; omega)).mono fun r hr => ?_)
        rw [hr, List.append_assoc, if_pos rfl]
        rfl
  have q := key l [] hs (by rw [List.length_nil]; omega)
  exact q
theorem wp_zipS {f : D → G → R (Option D × G)} {l : List D} {Γ : G} (hs : ∀ a ∈ l, Wp (f (.tup [a, a]) Γ) fun r => r = (none, Γ)) : Wp (loopC f (zipD l l) [] Γ) fun r => r = ([], Γ) := by
  induction l with
  | nil => exact ⟨_, rfl, rfl⟩
  | cons a l ih =>
    obtain ⟨r, e, q⟩ := hs a List.mem_cons_self
    subst q
    show Wp ((f (.tup [a, a]) Γ).bind _) _
    rw [e]
    exact ih fun b hb => hs b (List.mem_cons_of_mem _ hb)
theorem wp_mapK {α : Type} {f : D → G → R (Option D × G)} {h : α → D} (g : α → D) {Γ : G} {l : List α} {Q : List D × G → Prop} (hl : l.length ≤ 16000000) (hs : ∀ a ∈ l, Wp (f (h a) Γ) fun r => r = (some (g a), Γ)) (q : Q (l.map g, Γ)) : Wp (loopC f (l.map h) [] Γ) Q := (wp_map hl hs).mono fun r hr => by rw [hr]; exact q
theorem wp_filterK {α : Type} {f : D → G → R (Option D × G)} {h : α → D} (g : α → D) (p : α → Bool) {Γ : G} {l : List α} {Q : List D × G → Prop} (hl : l.length ≤ 16000000) (hs : ∀ a ∈ l, Wp (f (h a) Γ) fun r => r = (if p a then some (g a) else none, Γ)) (q : Q ((l.filter p).map g, Γ)) : Wp (loopC f (l.map h) [] Γ) Q := (wp_filter hl hs).mono fun r hr => by rw [hr]; exact q
/-- lo .. hi - 1 -/
def il (lo hi : Int) : List Int := (List.range (hi - lo).toNat).map fun k => lo + (k : Nat)
theorem il_mem {lo hi i : Int} (h : i ∈ il lo hi) : lo ≤ i ∧ i < hi := by
  obtain ⟨k, h1, h2⟩ := List.mem_map.mp h
  have := List.mem_range.mp h1
  omega
theorem il_len {lo hi : Int} : (il lo hi).length = (hi - lo).toNat := by unfold il; rw [List.length_map, List.length_range]
theorem wp_ifK {t : Bool} {A B : R (Option D × G)} {y : D} {Γ : G} (h1 : t = true → Wp A fun r => r = (some y, Γ)) (h2 : t = false → Wp B fun r => r = (none, Γ)) : Wp (if t = true then A else B) fun r => r = (if t = true then some y else none, Γ) := by
  cases t with
  | true => rw [if_pos rfl, if_pos rfl]; exact h1 rfl
  | false => rw [if_neg Bool.false_ne_true, if_neg Bool.false_ne_true]; exact h2 rfl
theorem wp_isC {f : D → G → R (Option D × G)} {xs acc : List D} {Γ : G} {Q : List D × G → Prop} (h : Wp (loopC f xs acc Γ) Q) : Wp (loopC f xs acc Γ) Q := h
theorem wp_isF {b : D → G → R (Fl × G)} {xs : List D} {Γ : G} {Q : Fl × G → Prop} (h : Wp (loopF b xs Γ) Q) : Wp (loopF b xs Γ) Q := h
theorem wp_runCall {C : CallT} {f : Nat} {os : List Opd} {Γ : G} {Q : Opd × G → Prop} (h : nodupB (lent Γ os) = true) (q : Wp (C f (os.map (lend Γ))) fun r => Wp ((back Γ os r.2.2).bind fun Γ' =>
      match r.2.1, r.1 with
      | true, .list ds => R.ok (Opd.tmp ds, Γ')
      | true, _ => .no
      | false, d => .ok (.val d, Γ')) Q) : Wp (runCall C f os Γ) Q := by
  unfold runCall
  exact Wp.pos h (Wp.bind q)
theorem wp_isCall {C : CallT} {f : Nat} {args : List Slot} {Q : D × Bool × List Slot → Prop} (h : Wp (C f args) Q) : Wp (C f args) Q := h
theorem rangeL_il (lo hi : Int) : rangeL lo hi = (il lo hi).map .int := by
  unfold rangeL il
  rw [List.map_map]
  rfl
theorem wp_rngK {f : D → G → R (Option D × G)} (g : Int → D) {lo hi : Int} {Γ : G} {Q : List D × G → Prop} (hl : hi - lo ≤ 16000000) (hs : ∀ i, lo ≤ i ∧ i < hi → Wp (f (.int i) Γ) fun r => r = (some (g i), Γ)) (q : Q ((il lo hi).map g, Γ)) : Wp (loopC f (rangeL lo hi) [] Γ) Q := by
  rw [rangeL_il]
  exact wp_mapK g (by rw [il_len]; omega) (fun i hi => hs i (il_mem hi)) q
theorem wp_rngF {f : D → G → R (Option D × G)} (g : Int → D) (p : Int → Bool) {lo hi : Int} {Γ : G} {Q : List D × G → Prop} (hl : hi - lo ≤ 16000000) (hs : ∀ i, lo ≤ i ∧ i < hi → Wp (f (.int i) Γ) fun r => r = (if p i then some (g i) else none, Γ)) (q : Q (((il lo hi).filter p).map g, Γ)) : Wp (loopC f (rangeL lo hi) [] Γ) Q := by
  rw [rangeL_il]
  exact wp_filterK g p (by rw [il_len]; omega) (fun i hi => hs i (il_mem hi)) q
theorem range_filter (m : Nat) : ∀ n : Nat, m ≤ n → (List.range n).filter (fun i => decide (i < m)) = List.range m := by
  intro n h
  have key : ∀ d : Nat, (List.range (m + d)).filter (fun i => decide (i < m)) = List.range m := by
    intro d
    induction d with
    | zero => exact List.filter_eq_self.mpr fun a ha => decide_eq_true (by have := List.mem_range.mp ha; omega)
    | succ d ih => rw [← Nat.add_assoc, List.range_succ, List.filter_append, ih, List.filter_cons, if_neg (by simp), List.filter_nil, List.append_nil]
  have z := key (n - m)
  rw [Nat.add_sub_cancel' h] at z
  exact z
theorem il_filter {lo hi M : Int} {p : Int → Bool} (h : lo ≤ M + 1) (h2 : M < hi) (hp : ∀ i, lo ≤ i ∧ i < hi → p i = decide (i ≤ M)) : (il lo hi).filter p = il lo (M + 1) := by
  unfold il
  rw [List.filter_map]
  have e : (List.range (hi - lo).toNat).filter (p ∘ fun k : Nat => lo + (k : Nat)) = (List.range (hi - lo).toNat).filter fun k => decide (k < (M + 1 - lo).toNat) := by
    refine List.filter_congr fun k hk => ?_
    have := List.mem_range.mp hk
    show p (lo + (k : Nat)) = _
    rw [hp _ (by omega)]
    exact decide_eq_decide.mpr (by omega)
  rw [e, range_filter _ _ (by omega)]
theorem il_snoc {lo hi : Int} (h : lo ≤ hi) : il lo (hi + 1) = il lo hi ++ [hi] := by
  unfold il
  have e : (hi + 1 - lo).toNat = (hi - lo).toNat + 1 := by omega
  rw [e, List.range_succ, List.map_append]
  have e2 : lo + (((hi - lo).toNat : Nat) : Int) = hi := by omega
  show _ ++ [lo + (((hi - lo).toNat : Nat) : Int)] = _
  rw [e2]
theorem ints_map : ∀ ns : List Int, intsOf (ns.map .int) = some ns
  | [] => rfl
  | n :: ns => by
    show (intsOf (ns.map .int)).map (n :: ·) = _
    rw [ints_map ns]
    rfl
theorem ints_of {α : Type} (l : List α) (h : α → Int) : intsOf (l.map fun a => D.int (h a)) = some (l.map h) := by
  have z := ints_map (l.map h)
  rw [List.map_map] at z
  exact z
theorem bools_map : ∀ ns : List Bool, boolsOf (ns.map .bool) = some ns
  | [] => rfl
  | n :: ns => by
    show (boolsOf (ns.map .bool)).map (n :: ·) = _
    rw [bools_map ns]
    rfl
theorem bools_of {α : Type} (l : List α) (h : α → Bool) : boolsOf (l.map fun a => D.bool (h a)) = some (l.map h) := by
  have z := bools_map (l.map h)
  rw [List.map_map] at z
  exact z
theorem wp_sum {xs : List D} {ns : List Int} {Q : Opd → Prop} (h : intsOf xs = some ns) (q : Q (.val (.int ns.sum))) : Wp (bapp .sum [.list xs]) Q := by
  refine ⟨_, ?_, q⟩
  show (match intsOf xs with | some ns => R.ok (Opd.val (.int ns.sum)) | none => .no) = _
  rw [h]
theorem wp_all {xs : List D} {ns : List Bool} {Q : Opd → Prop} (h : boolsOf xs = some ns) (q : Q (.val (.bool (ns.all id)))) : Wp (bapp .all [.list xs]) Q := by
  refine ⟨_, ?_, q⟩
  show (match boolsOf xs with | some ns => R.ok (Opd.val (.bool (ns.all id))) | none => .no) = _
  rw [h]
theorem wp_sortedL {xs : List D} {ns : List Int} {Q : Opd → Prop} (h : intsOf xs = some ns) (q : Q (.tmp ((sortI ns).map .int))) : Wp (bapp .sorted [.list xs]) Q := by
  refine ⟨_, ?_, q⟩
  show (match intsOf xs with | some ns => R.ok (Opd.tmp ((sortI ns).map .int)) | none => .no) = _
  rw [h]
theorem wp_sortedT {xs : List D} {ns : List Int} {Q : Opd → Prop} (h : intsOf xs = some ns) (q : Q (.tmp ((sortI ns).map .int))) : Wp (bapp .sorted [.tup xs]) Q := by
  refine ⟨_, ?_, q⟩
  show (match intsOf xs with | some ns => R.ok (Opd.tmp ((sortI ns).map .int)) | none => .no) = _
  rw [h]
theorem wp_forM {α : Type} {b : D → G → R (Fl × G)} {h : α → D} {I : List α → G → Prop} {Q : Fl × G → Prop} {l : List α} {Γ : G} (h0 : I [] Γ) (hs : ∀ (a : α) (don rest : List α) (Γ : G), l = don ++ a :: rest → I don Γ → Wp (b (h a) Γ) fun r => match r.1 with | .nx => I (don ++ [a]) r.2 | .ct => I (don ++ [a]) r.2 | .bk => Q (.nx, r.2) | .rt d o => Q (.rt d o, r.2)) (he : ∀ Γ, I l Γ → Q (.nx, Γ)) : Wp (loopF b (l.map h) Γ) Q := by
  have key : ∀ (xs don : List α) (Γ : G), l = don ++ xs → I don Γ → Wp (loopF b (xs.map h) Γ) Q := by
    intro xs
    induction xs with
    | nil =>
      intro don Γ e i
      rw [List.append_nil] at e
      subst e
      exact ⟨_, rfl, he Γ i⟩
    | cons x xs ih =>
      intro don Γ e i
      obtain ⟨⟨o, Γ1⟩, e1, q⟩ := hs x don xs Γ e i
      show Wp ((b (h x) Γ).bind _) _
      rw [e1]
      have e2 : l = (don ++ [x]) ++ xs := by rw [e, List.append_assoc]; rfl
      cases o with
      | nx => exact ih (don ++ [x]) Γ1 e2 q
      | ct => exact ih (don ++ [x]) Γ1 e2 q
      | bk => exact ⟨_, rfl, q⟩
      | rt d o => exact ⟨_, rfl, q⟩
  exact key l [] Γ rfl h0
theorem ix_at {xs : List D} {i : Int} {x : D} (h : 0 ≤ i) (e : xs[i.toNat]? = some x) : ixD (.list xs) (.int i) = .ok x := by
  have hl := (List.getElem?_eq_some_iff.mp e).1
  show (match L2.atI xs i with | some x => R.ok x | none => .no) = _
  have z : L2.atI xs i = some x := by
    unfold L2.atI L2.ixN
    rw [if_pos h, if_pos (by omega)]
    exact e
  rw [z]
theorem ix_last {xs : List D} {x : D} : ixD (.list (xs ++ [x])) (.int (-1)) = .ok x := by
  show (match L2.atI (xs ++ [x]) (-1) with | some x => R.ok x | none => .no) = _
  have z : L2.atI (xs ++ [x]) (-1) = some x := by
    unfold L2.atI L2.ixN
    rw [List.length_append, List.length_singleton, if_neg (by omega), if_pos (by omega)]
    show (xs ++ [x])[((-1 : Int) + ((xs.length + 1 : Nat) : Int)).toNat]? = some x
    have e : ((-1 : Int) + ((xs.length + 1 : Nat) : Int)).toNat = xs.length := by omega
    rw [e, List.getElem?_append_right (Nat.le_refl _), Nat.sub_self]
    rfl
  rw [z]
theorem log2_lt {n k : Nat} (h : n < 2 ^ k) (hk : 0 < k) : n.log2 < k := by
  by_cases e : n = 0
  · subst e
    exact hk
  · exact (Nat.log2_lt e).mpr h
theorem big_ok {i j : Int} (h1 : i.natAbs < 2 ^ 4000) (h2 : j.natAbs < 2 ^ 4000) : bigOk i j = true := by
  have a := log2_lt h1 (by decide)
  have b := log2_lt h2 (by decide)
  exact decide_eq_true (by omega)
theorem big_of {i j : Int} (h1 : -(2 ^ 62) ≤ i ∧ i ≤ 2 ^ 62) (h2 : -(2 ^ 62) ≤ j ∧ j ≤ 2 ^ 62) : bigOk i j = true := by
  have a : i.natAbs < 2 ^ 63 := by omega
  have b : j.natAbs < 2 ^ 63 := by omega
  have a := log2_lt a (by decide)
  have b := log2_lt b (by decide)
  exact decide_eq_true (by omega)
theorem div_of {j : Int} (h : 0 < j) (h2 : j ≤ 2 ^ 62) : j ≠ 0 ∧ j.natAbs.log2 < 9000 := by
  have b : j.natAbs < 2 ^ 63 := by omega
  have b := log2_lt b (by decide)
  exact ⟨by omega, by omega⟩
end Mir

set_option Elab.async false
set_option autoImplicit false
set_option linter.all false
set_option maxRecDepth 100000
set_option maxHeartbeats 4000000
/-! # Wq: what a run does, construct by construct -/
namespace Mir
open PySem
structure We (E : Sem) (e : Ex) (Γ : G) (K : Opd → G → Prop) : Prop where
  p : Wp (ev E e Γ) fun r => K r.1 r.2
structure Wes (E : Sem) (es : Exs) (Γ : G) (K : List Opd → G → Prop) : Prop where
  p : Wp (evs E es Γ) fun r => K r.1 r.2
structure Wvs (E : Sem) (es : Exs) (Γ : G) (K : List D → G → Prop) : Prop where
  p : Wp (evV E es Γ) fun r => K r.1 r.2
structure Wi (E : Sem) (it : It) (Γ : G) (K : List D → List Nat → G → Prop) : Prop where
  p : Wp (evI E it Γ) fun r => K r.1 r.2.1 r.2.2
structure W2 (op : B2) (x y : D) (K : Opd → Prop) : Prop where
  p : Wp (b2 op x y) K
structure Wk (op : C2) (x y : D) (K : Bool → Prop) : Prop where
  p : Wp (c2 op x y) K
structure Wt (d : D) (K : Bool → Prop) : Prop where
  p : Wp (truth d) K
structure Wv (o : Opd) (Γ : G) (K : D → G → Prop) : Prop where
  p : Wp (toVal (o, Γ)) fun r => K r.1 r.2
structure Wb (b : Bf) (ds : List D) (K : Opd → Prop) : Prop where
  p : Wp (bapp b ds) K
structure Wx (d i : D) (K : D → Prop) : Prop where
  p : Wp (ixD d i) K
structure Wr (C : CallT) (f : Nat) (args : List Slot) (K : D → Bool → List Slot → Prop) : Prop where
  p : Wp (C f args) fun r => K r.1 r.2.1 r.2.2
structure Wc (C : CallT) (f : Nat) (os : List Opd) (Γ : G) (K : Opd → G → Prop) : Prop where
  p : Wp (runCall C f os Γ) fun r => K r.1 r.2
/-- a plain step that is reckoned out -/
structure Wz {α : Type} (r : R α) (K : α → Prop) : Prop where
  p : Wp r K
structure Wn (ds : List D) (K : List D → Prop) : Prop where
  p : Wp (rngD ds) K
structure Wo (o : Bool) (d : D) (Γ : G) (K : Opd → G → Prop) : Prop where
  p : Wp (match o, d with | true, .list ds => R.ok (Opd.tmp ds, Γ) | true, _ => .no | false, d => .ok (.val d, Γ)) fun r => K r.1 r.2
def KS (N : G → Prop) (X : Fl → G → Prop) : Fl → G → Prop
  | .nx, Γ => N Γ
  | .bk, Γ => X .bk Γ
  | .ct, Γ => X .ct Γ
  | .rt d o, Γ => X (.rt d o) Γ
structure Ws (E : Sem) (s : Sx) (Γ : G) (N : G → Prop) (X : Fl → G → Prop) : Prop where
  p : Wp (ex E s Γ) fun r => KS N X r.1 r.2
def cbody (E : Sem) (tg : Tg) (cs : Exs) (elt : Ex) (own : List Nat) : D → G → R (Option D × G) := fun x Γ1 => R.noX ((bindTg tg x Γ1).bind fun Γ2 => (evC E cs Γ2).bind fun q =>
        if q.1 then (ev E elt q.2).bind fun y => (toVal y).bind fun z => (wipeG z.2 own).bind fun Γ3 => .ok (some z.1, Γ3)
        else (wipeG q.2 own).bind fun Γ3 => .ok (none, Γ3))
structure Wl (E : Sem) (tg : Tg) (cs : Exs) (elt : Ex) (own : List Nat) (xs acc : List D) (Γ : G) (K : List D → G → Prop) : Prop where
  p : Wp (loopC (cbody E tg cs elt own) xs acc Γ) fun r => K r.1 r.2
structure Wbd (E : Sem) (tg : Tg) (cs : Exs) (elt : Ex) (own : List Nat) (x : D) (Γ : G) (K : Option D → G → Prop) : Prop where
  p : Wp (cbody E tg cs elt own x Γ) fun r => K r.1 r.2
structure Wf (E : Sem) (tg : Tg) (body : Sx) (xs : List D) (Γ : G) (N : G → Prop) (X : Fl → G → Prop) : Prop where
  p : Wp (loopF (fun x Γ1 => (bindTg tg x Γ1).bind fun Γ2 => ex E body Γ2) xs Γ) fun r => KS N X r.1 r.2
section
variable {E : Sem} {e a b c i : Ex} {es : Exs} {Γ Γ' : G} {K : Opd → G → Prop} {d d' : D} {op op' : B2} {C : CallT} {f : Nat} {tg : Tg} {cs : Exs} {elt : Ex} {own : List Nat}
theorem we_var {i : Nat} (h : Γ[i]? = some (.sh d)) (k : K (.val d) Γ) : We E (.var i) Γ K := ⟨⟨(.val d, Γ), by
  show (match Γ[i]? with | some (.sh d) => R.ok (Opd.val d, Γ) | some (.li _ _ _) => .ok (.slot i, Γ) | _ => .no) = _
  rw [h], k⟩⟩
theorem we_slot {i : Nat} {ds : List D} {p : Bool} {st : LS} (h : Γ[i]? = some (.li ds p st)) (k : K (.slot i) Γ) : We E (.var i) Γ K := ⟨⟨(.slot i, Γ), by
  show (match Γ[i]? with | some (.sh d) => R.ok (Opd.val d, Γ) | some (.li _ _ _) => .ok (.slot i, Γ) | _ => .no) = _
  rw [h], k⟩⟩
theorem we_lit (k : K (.val d) Γ) : We E (.lit d) Γ K := ⟨⟨_, rfl, k⟩⟩
theorem we_glb {g : Nat} (h : E.con g = d) (k : K (.val d) Γ) : We E (.glb g) Γ K := ⟨⟨_, rfl, by subst h; exact k⟩⟩
theorem we_bin (h : We E a Γ fun x Γ1 => We E b Γ1 fun y Γ2 => W2 op (look Γ2 x) (look Γ2 y) fun o => K o Γ2) : We E (.bin op a b) Γ K := ⟨Wp.bind (h.p.mono fun _ h1 => Wp.bind (h1.p.mono fun _ h2 => Wp.bind (h2.p.mono fun _ h3 => Wp.ok h3)))⟩
theorem we_cmp {op : C2} (h : We E a Γ fun x Γ1 => We E b Γ1 fun y Γ2 => Wk op (look Γ2 x) (look Γ2 y) fun t => K (.val (.bool t)) Γ2) : We E (.cmp op a b) Γ K := ⟨Wp.bind (h.p.mono fun _ h1 => Wp.bind (h1.p.mono fun _ h2 => Wp.bind (h2.p.mono fun _ h3 => Wp.ok h3)))⟩
theorem we_chn {op op' : C2} (h : We E a Γ fun x Γ1 => We E b Γ1 fun y Γ2 => Wk op (look Γ2 x) (look Γ2 y) fun t => (t = true → We E c Γ2 fun z Γ3 => Wk op' (look Γ3 y) (look Γ3 z) fun t' => K (.val (.bool t')) Γ3) ∧ (t = false → K (.val (.bool false)) Γ2)) : We E (.chn op op' a b c) Γ K := ⟨Wp.bind (h.p.mono fun _ h1 => Wp.bind (h1.p.mono fun _ h2 => Wp.bind (h2.p.mono fun t h3 => by
  cases t with
  | false => exact Wp.ok (h3.2 rfl)
  | true => exact Wp.bind ((h3.1 rfl).p.mono fun _ h4 => Wp.bind (h4.p.mono fun _ h5 => Wp.ok h5)))))⟩
theorem we_neg (h : We E a Γ fun x Γ1 => ∃ j, look Γ1 x = .int j ∧ K (.val (.int (-j))) Γ1) : We E (.neg a) Γ K := ⟨Wp.bind (h.p.mono fun r ⟨j, e, k⟩ => by
  show Wp (match look r.2 r.1 with | .int i => R.ok (Opd.val (.int (-i)), r.2) | _ => .no) _
  rw [e]
  exact Wp.ok k)⟩
theorem we_and (h : We E a Γ fun x Γ1 => Wt (look Γ1 x) fun t => (t = true → We E b Γ1 K) ∧ (t = false → K x Γ1)) : We E (.and a b) Γ K := ⟨Wp.bind (h.p.mono fun r h1 => Wp.bind (h1.p.mono fun t h2 => by
  cases t with
  | false => exact Wp.ok (h2.2 rfl)
  | true => exact (h2.1 rfl).p))⟩
theorem we_or (h : We E a Γ fun x Γ1 => Wt (look Γ1 x) fun t => (t = true → K x Γ1) ∧ (t = false → We E b Γ1 K)) : We E (.or a b) Γ K := ⟨Wp.bind (h.p.mono fun r h1 => Wp.bind (h1.p.mono fun t h2 => by
  cases t with
  | true => exact Wp.ok (h2.1 rfl)
  | false => exact (h2.2 rfl).p))⟩
theorem we_not (h : We E a Γ fun x Γ1 => Wt (look Γ1 x) fun t => K (.val (.bool !t)) Γ1) : We E (.not a) Γ K := ⟨Wp.bind (h.p.mono fun r h1 => Wp.bind (h1.p.mono fun t h2 => Wp.ok h2))⟩
theorem we_ite (h : We E c Γ fun x Γ1 => Wt (look Γ1 x) fun t => (t = true → We E a Γ1 K) ∧ (t = false → We E b Γ1 K)) : We E (.ite c a b) Γ K := ⟨Wp.bind (h.p.mono fun r h1 => Wp.bind (h1.p.mono fun t h2 => by
  cases t with
  | true => exact (h2.1 rfl).p
  | false => exact (h2.2 rfl).p))⟩
theorem we_tup (h : Wvs E es Γ fun ds Γ1 => line ds.length = true ∧ K (.val (.tup ds)) Γ1) : We E (.tup es) Γ K := ⟨Wp.bind (h.p.mono fun r h1 => Wp.pos h1.1 (Wp.ok h1.2))⟩
theorem we_lst (h : Wvs E es Γ fun ds Γ1 => line ds.length = true ∧ K (.tmp ds) Γ1) : We E (.lst es) Γ K := ⟨Wp.bind (h.p.mono fun r h1 => Wp.pos h1.1 (Wp.ok h1.2))⟩
theorem we_ix (h : We E a Γ fun x Γ1 => We E i Γ1 fun y Γ2 => Wx (look Γ2 x) (look Γ2 y) fun d => K (.val d) Γ2) : We E (.ix a i) Γ K := ⟨Wp.bind (h.p.mono fun _ h1 => Wp.bind (h1.p.mono fun _ h2 => Wp.bind (h2.p.mono fun _ h3 => Wp.ok h3)))⟩
theorem we_slc {lo hi : Exs} (h : We E a Γ fun x Γ1 => Wes E lo Γ1 fun l Γ2 => Wz (bound (l.map (look Γ2))) fun lb => Wes E hi Γ2 fun h Γ3 => Wz (bound (h.map (look Γ3))) fun hb => Wz (slD1 (look Γ3 x) lb hb) fun o => K o Γ3) : We E (.slc a lo hi) Γ K := ⟨Wp.bind (h.p.mono fun _ h1 => Wp.bind (Wp.bind (h1.p.mono fun _ h2 => Wp.bind (h2.p.mono fun _ h3 => Wp.ok (Wp.bind (Wp.bind (h3.p.mono fun _ h4 => Wp.bind (h4.p.mono fun _ h5 => Wp.ok (Wp.bind (h5.p.mono fun _ h6 => Wp.ok h6))))))))))⟩
theorem we_rev (h : We E a Γ fun x Γ1 => Wz (revD (look Γ1 x)) fun o => K o Γ1) : We E (.rev a) Γ K := ⟨Wp.bind (h.p.mono fun _ h1 => Wp.bind (h1.p.mono fun _ h3 => Wp.ok h3))⟩
theorem we_call (h : Wes E es Γ fun os Γ1 => Wc E.call f os Γ1 K) : We E (.call f es) Γ K := ⟨Wp.bind (h.p.mono fun _ h1 => h1.p)⟩
theorem we_blt {bf : Bf} (h : Wes E es Γ fun os Γ1 => Wb bf (os.map (look Γ1)) fun o => K o Γ1) : We E (.blt bf es) Γ K := ⟨Wp.bind (h.p.mono fun _ h1 => Wp.bind (h1.p.mono fun _ h3 => Wp.ok h3))⟩
theorem we_lsq (h : We E a Γ fun x Γ1 => Wz (seqX (look Γ1 x)) fun xs => K (.tmp xs) Γ1) : We E (.lsq a) Γ K := ⟨Wp.bind (h.p.mono fun _ h1 => Wp.bind (h1.p.mono fun _ h3 => Wp.ok h3))⟩
theorem we_tsq (h : We E a Γ fun x Γ1 => Wz (seqX (look Γ1 x)) fun xs => K (.val (.tup xs)) Γ1) : We E (.tsq a) Γ K := ⟨Wp.bind (h.p.mono fun _ h1 => Wp.bind (h1.p.mono fun _ h3 => Wp.ok h3))⟩
theorem we_lrg (h : Wes E es Γ fun os Γ1 => Wz (rngX (os.map (look Γ1))) fun xs => K (.tmp xs) Γ1) : We E (.lrg es) Γ K := ⟨Wp.bind (h.p.mono fun _ h1 => Wp.bind (h1.p.mono fun _ h3 => Wp.ok h3))⟩
theorem we_trg (h : Wes E es Γ fun os Γ1 => Wz (rngX (os.map (look Γ1))) fun xs => K (.val (.tup xs)) Γ1) : We E (.trg es) Γ K := ⟨Wp.bind (h.p.mono fun _ h1 => Wp.bind (h1.p.mono fun _ h3 => Wp.ok h3))⟩
theorem we_comp {it : It} (h : Wi E it Γ fun xs ws Γ1 => Wz (wipeG (lockAll Γ1 ws) own) fun Γ0 => Wl E tg cs elt own xs [] Γ0 fun ys Γ2 => K (.tmp ys) (unlockAll (restG Γ1 Γ2 own) ws)) : We E (.comp tg it cs elt own) Γ K := ⟨Wp.bind (h.p.mono fun _ h1 => Wp.bind (h1.p.mono fun _ h2 => Wp.bind (h2.p.mono fun _ h3 => Wp.ok h3)))⟩
theorem wes_nil {K : List Opd → G → Prop} (k : K [] Γ) : Wes E .nil Γ K := ⟨Wp.ok k⟩
theorem wes_cons {K : List Opd → G → Prop} (h : We E e Γ fun x Γ1 => Wes E es Γ1 fun xs Γ2 => K (x :: xs) Γ2) : Wes E (.cons e es) Γ K := ⟨Wp.bind (h.p.mono fun _ h1 => Wp.bind (h1.p.mono fun _ h2 => Wp.ok h2))⟩
theorem wvs_nil {K : List D → G → Prop} (k : K [] Γ) : Wvs E .nil Γ K := ⟨Wp.ok k⟩
theorem wvs_cons {K : List D → G → Prop} (h : We E e Γ fun x Γ1 => Wv x Γ1 fun d Γ2 => Wvs E es Γ2 fun xs Γ3 => K (d :: xs) Γ3) : Wvs E (.cons e es) Γ K := ⟨Wp.bind (h.p.mono fun _ h1 => Wp.bind (h1.p.mono fun _ h2 => Wp.bind (h2.p.mono fun _ h3 => Wp.ok h3)))⟩
theorem wi_sq {K : List D → List Nat → G → Prop} (h : We E e Γ fun x Γ1 => Wz (itemsD (look Γ1 x)) fun xs => K xs (walked Γ1 x) Γ1) : Wi E (.sq e) Γ K := ⟨Wp.bind (h.p.mono fun _ h1 => Wp.bind (h1.p.mono fun _ h2 => Wp.ok h2))⟩
theorem wi_rng {K : List D → List Nat → G → Prop} (h : Wes E es Γ fun os Γ1 => Wn (os.map (look Γ1)) fun xs => K xs [] Γ1) : Wi E (.rng es) Γ K := ⟨Wp.bind (h.p.mono fun _ h1 => Wp.bind (h1.p.mono fun _ h2 => Wp.ok h2))⟩
theorem wz {α : Type} {r : R α} {x : α} {K : α → Prop} (h : r = .ok x) (k : K x) : Wz r K := ⟨Wp.eq h k⟩
theorem wn1 {K : List D → Prop} {n : Int} (h : -(2 ^ 62) ≤ n ∧ n < 2 ^ 62) (k : K (rangeL 0 n)) : Wn [.int n] K := ⟨Wp.pos (decide_eq_true h) (Wp.ok k)⟩
theorem wn2 {K : List D → Prop} {m n : Int} (h0 : -(2 ^ 62) ≤ m ∧ m < 2 ^ 62) (h : -(2 ^ 62) ≤ n ∧ n < 2 ^ 62) (k : K (rangeL m n)) : Wn [.int m, .int n] K := ⟨Wp.pos (by rw [show rngOk m = true from decide_eq_true h0, show rngOk n = true from decide_eq_true h]; rfl) (Wp.ok k)⟩
/-! ## operators -/
variable {m n : Int} {Q : Opd → Prop} {T : Bool → Prop}
theorem w2_add (k : Q (.val (.int (m + n)))) : W2 .add (.int m) (.int n) Q := ⟨Wp.ok k⟩
theorem w2_sub (k : Q (.val (.int (m - n)))) : W2 .sub (.int m) (.int n) Q := ⟨Wp.ok k⟩
theorem w2_mul (h : bigOk m n = true) (k : Q (.val (.int (m * n)))) : W2 .mul (.int m) (.int n) Q := ⟨Wp.pos h (Wp.ok k)⟩
theorem w2_fdiv (h : n ≠ 0 ∧ n.natAbs.log2 < 9000) (k : Q (.val (.int (m.fdiv n)))) : W2 .fdiv (.int m) (.int n) Q := ⟨Wp.pos h (Wp.ok k)⟩
theorem w2_mod (h : n ≠ 0) (k : Q (.val (.int (m.fmod n)))) : W2 .mod (.int m) (.int n) Q := ⟨Wp.pos h (Wp.ok k)⟩
theorem w2_any {x y : D} {o : Opd} (h : b2 op x y = .ok o) (k : Q o) : W2 op x y Q := ⟨Wp.eq h k⟩
theorem w2_lists {xs ys : List D} (h : xs.length + ys.length ≤ 16000000) (k : Q (.tmp (xs ++ ys))) : W2 .add (.list xs) (.list ys) Q := ⟨Wp.pos (decide_eq_true h) (Wp.ok k)⟩
theorem w2_tups {xs ys : List D} (h : xs.length + ys.length ≤ 16000000) (k : Q (.val (.tup (xs ++ ys)))) : W2 .add (.tup xs) (.tup ys) Q := ⟨Wp.pos (decide_eq_true h) (Wp.ok k)⟩
theorem wk_lt (k : T (decide (m < n))) : Wk .lt (.int m) (.int n) T := ⟨Wp.ok k⟩
theorem wk_le (k : T (decide (m ≤ n))) : Wk .le (.int m) (.int n) T := ⟨Wp.ok k⟩
theorem wk_gt (k : T (decide (n < m))) : Wk .gt (.int m) (.int n) T := ⟨Wp.ok k⟩
theorem wk_ge (k : T (decide (n ≤ m))) : Wk .ge (.int m) (.int n) T := ⟨Wp.ok k⟩
theorem wk_eqI (k : T (decide (m = n))) : Wk .eq (.int m) (.int n) T := ⟨Wp.ok k⟩
theorem wk_neI (k : T (!decide (m = n))) : Wk .ne (.int m) (.int n) T := ⟨Wp.ok k⟩
theorem wk_any {op : C2} {x y : D} {t : Bool} (h : c2 op x y = .ok t) (k : T t) : Wk op x y T := ⟨Wp.eq h k⟩
theorem wt_bool {t : Bool} (k : T t) : Wt (.bool t) T := ⟨Wp.ok k⟩
theorem wt_any {x : D} {t : Bool} (h : truth x = .ok t) (k : T t) : Wt x T := ⟨Wp.eq h k⟩
theorem wv_val {K : D → G → Prop} (k : K d Γ) : Wv (.val d) Γ K := ⟨Wp.ok k⟩
theorem wv_tmp {K : D → G → Prop} {ds : List D} (k : K (.list ds) Γ) : Wv (.tmp ds) Γ K := ⟨Wp.ok k⟩
theorem wv_slot {K : D → G → Prop} {j : Nat} {r : D × G} (h : freeze Γ j = .ok r) (k : K r.1 r.2) : Wv (.slot j) Γ K := ⟨Wp.eq h k⟩
theorem wb_len {xs : List D} (k : Q (.val (.int xs.length))) : Wb .len [.list xs] Q := ⟨Wp.ok k⟩
theorem wb_lenT {xs : List D} (k : Q (.val (.int xs.length))) : Wb .len [.tup xs] Q := ⟨Wp.ok k⟩
theorem wb_sum {xs : List D} {ns : List Int} (h : intsOf xs = some ns) (k : Q (.val (.int ns.sum))) : Wb .sum [.list xs] Q := ⟨wp_sum h k⟩
theorem wb_all {xs : List D} {ns : List Bool} (h : boolsOf xs = some ns) (k : Q (.val (.bool (ns.all id)))) : Wb .all [.list xs] Q := ⟨wp_all h k⟩
theorem wb_sortedL {xs : List D} {ns : List Int} (h : intsOf xs = some ns) (k : Q (.tmp ((sortI ns).map .int))) : Wb .sorted [.list xs] Q := ⟨wp_sortedL h k⟩
theorem wb_sortedT {xs : List D} {ns : List Int} (h : intsOf xs = some ns) (k : Q (.tmp ((sortI ns).map .int))) : Wb .sorted [.tup xs] Q := ⟨wp_sortedT h k⟩
theorem wb_min (k : Q (.val (.int (if n < m then n else m)))) : Wb .min [.int m, .int n] Q := ⟨Wp.ok k⟩
theorem wb_max (k : Q (.val (.int (if n > m then n else m)))) : Wb .max [.int m, .int n] Q := ⟨Wp.ok k⟩
theorem wb_any {bf : Bf} {ds : List D} {o : Opd} (h : bapp bf ds = .ok o) (k : Q o) : Wb bf ds Q := ⟨Wp.eq h k⟩
theorem wx_any {x y : D} {K : D → Prop} (h : ixD x y = .ok d) (k : K d) : Wx x y K := ⟨Wp.eq h k⟩
/-! ## calls -/
theorem wc {os : List Opd} (h : nodupB (lent Γ os) = true) (k : Wr C f (os.map (lend Γ)) fun d o ss => Wz (back Γ os ss) fun Γ' => Wo o d Γ' K) : Wc C f os Γ K := ⟨wp_runCall h (k.p.mono fun r h1 => Wp.bind (h1.p.mono fun r2 h2 => h2.p))⟩
theorem wr {args : List Slot} {K : D → Bool → List Slot → Prop} {o : Bool} {ss : List Slot} (h : C f args = .ok (d, o, ss)) (k : K d o ss) : Wr C f args K := ⟨Wp.eq h k⟩
theorem wo_f (k : K (.val d) Γ) : Wo false d Γ K := ⟨by
  show Wp (match d with | d => R.ok (Opd.val d, Γ)) _
  exact Wp.ok k⟩
theorem wo_t {ds : List D} (k : K (.tmp ds) Γ) : Wo true (.list ds) Γ K := ⟨Wp.ok k⟩
/-! ## comprehensions -/
theorem wbd_nil {x : D} {K : Option D → G → Prop} (h : Wz (bindTg tg x Γ) fun Γ2 => We E elt Γ2 fun y Γ4 => Wv y Γ4 fun d Γ5 => Wz (wipeG Γ5 own) fun Γ6 => K (some d) Γ6) : Wbd E tg .nil elt own x Γ K := ⟨Wp.noX (Wp.bind (h.p.mono fun _ h1 => Wp.bind (Wp.ok (Wp.pos rfl (Wp.bind (h1.p.mono fun _ h2 => Wp.bind (h2.p.mono fun _ h3 => Wp.bind (h3.p.mono fun _ h4 => Wp.ok h4))))))))⟩
theorem wbd_one {x : D} {K : Option D → G → Prop} (h : Wz (bindTg tg x Γ) fun Γ2 => We E c Γ2 fun y Γ3 => Wt (look Γ3 y) fun t => (t = true → We E elt Γ3 fun y Γ4 => Wv y Γ4 fun d Γ5 => Wz (wipeG Γ5 own) fun Γ6 => K (some d) Γ6) ∧ (t = false → Wz (wipeG Γ3 own) fun Γ4 => K none Γ4)) : Wbd E tg (.cons c .nil) elt own x Γ K := ⟨Wp.noX (Wp.bind (h.p.mono fun _ h1 => Wp.bind (Wp.bind (h1.p.mono fun _ h2 => Wp.bind (h2.p.mono fun t h3 => Wp.ok (by
  cases t with
  | true => exact Wp.pos rfl (Wp.bind ((h3.1 rfl).p.mono fun _ h4 => Wp.bind (h4.p.mono fun _ h5 => Wp.bind (h5.p.mono fun _ h6 => Wp.ok h6))))
  | false => exact Wp.neg Bool.false_ne_true (Wp.bind ((h3.2 rfl).p.mono fun _ h4 => Wp.ok h4))))))))⟩
theorem wl_map {α : Type} {h : α → D} (g : α → D) {l : List α} {K : List D → G → Prop} (hl : l.length ≤ 16000000) (hs : ∀ a ∈ l, Wbd E tg cs elt own (h a) Γ fun o Γ1 => o = some (g a) ∧ Γ1 = Γ) (k : K (l.map g) Γ) : Wl E tg cs elt own (l.map h) [] Γ K := ⟨wp_mapK g hl (fun a ha => (hs a ha).p.mono fun r h => Prod.ext h.1 h.2) k⟩
theorem wl_rng (g : Int → D) {lo hi : Int} {K : List D → G → Prop} (hl : hi - lo ≤ 16000000) (hs : ∀ i, lo ≤ i ∧ i < hi → Wbd E tg cs elt own (.int i) Γ fun o Γ1 => o = some (g i) ∧ Γ1 = Γ) (k : K ((il lo hi).map g) Γ) : Wl E tg cs elt own (rangeL lo hi) [] Γ K := ⟨wp_rngK g hl (fun a ha => (hs a ha).p.mono fun r h => Prod.ext h.1 h.2) k⟩
theorem wl_filter {α : Type} {h : α → D} (g : α → D) (p : α → Bool) {l : List α} {K : List D → G → Prop} (hl : l.length ≤ 16000000) (hs : ∀ a ∈ l, Wz (bindTg tg (h a) Γ) fun Γ2 => We E c Γ2 fun y Γ3 => Wt (look Γ3 y) fun t => t = p a ∧ (t = true → We E elt Γ3 fun y Γ4 => Wv y Γ4 fun d Γ5 => Wz (wipeG Γ5 own) fun Γ6 => d = g a ∧ Γ6 = Γ) ∧ (t = false → Wz (wipeG Γ3 own) fun Γ4 => Γ4 = Γ)) (k : K ((l.filter p).map g) Γ) : Wl E tg (.cons c .nil) elt own (l.map h) [] Γ K := ⟨wp_filterK g p hl (fun a ha => by
  have w : Wbd E tg (.cons c .nil) elt own (h a) Γ fun o Γ1 => o = (if p a then some (g a) else none) ∧ Γ1 = Γ := wbd_one ⟨(hs a ha).p.mono fun _ h1 => ⟨h1.p.mono fun _ h2 => ⟨h2.p.mono fun t h3 => by
    obtain ⟨e, h4, h5⟩ := h3
    rw [← e]
    refine ⟨fun z => ?_, fun z => ?_⟩
    · rw [z]
      exact ⟨(h4 z).p.mono fun _ h6 => ⟨h6.p.mono fun _ h7 => ⟨h7.p.mono fun _ h8 => ⟨by rw [h8.1]; rfl, h8.2⟩⟩⟩⟩
    · rw [z]
      exact ⟨(h5 z).p.mono fun _ h6 => ⟨rfl, h6⟩⟩⟩⟩⟩
  exact w.p.mono fun r h => Prod.ext h.1 h.2) k⟩
theorem wl_rngF (g : Int → D) (p : Int → Bool) {lo hi : Int} {K : List D → G → Prop} (hl : hi - lo ≤ 16000000) (hs : ∀ a, lo ≤ a ∧ a < hi → Wz (bindTg tg (.int a) Γ) fun Γ2 => We E c Γ2 fun y Γ3 => Wt (look Γ3 y) fun t => t = p a ∧ (t = true → We E elt Γ3 fun y Γ4 => Wv y Γ4 fun d Γ5 => Wz (wipeG Γ5 own) fun Γ6 => d = g a ∧ Γ6 = Γ) ∧ (t = false → Wz (wipeG Γ3 own) fun Γ4 => Γ4 = Γ)) (k : K (((il lo hi).filter p).map g) Γ) : Wl E tg (.cons c .nil) elt own (rangeL lo hi) [] Γ K := by
  rw [rangeL_il]
  exact wl_filter g p (by rw [il_len]; omega) (fun i hi => hs i (il_mem hi)) k
theorem wl_inv {I : List D → List D → G → Prop} {xs : List D} {K : List D → G → Prop} (h0 : I [] [] Γ) (hl : xs.length ≤ 16000000) (hs : ∀ (x : D) (don acc : List D) (Γ : G), x ∈ xs → I don acc Γ → Wbd E tg cs elt own x Γ fun o Γ1 => match o with | some y => I (don ++ [x]) (acc ++ [y]) Γ1 | none => I (don ++ [x]) acc Γ1) (k : ∀ acc Γ, I xs acc Γ → K acc Γ) : Wl E tg cs elt own xs [] Γ K := ⟨(wp_loopC (I := I) h0 (by rw [List.length_nil]; omega) fun x don acc Γ hx hi => (hs x don acc Γ hx hi).p).mono fun r h => k _ _ h⟩
/-! ## statements -/
variable {N : G → Prop} {X : Fl → G → Prop} {s s1 s2 : Sx}
theorem ws_skip (k : N Γ) : Ws E .skip Γ N X := ⟨Wp.ok k⟩
theorem ws_seq (h : Ws E s1 Γ (fun Γ1 => Ws E s2 Γ1 N X) X) : Ws E (.seq s1 s2) Γ N X := ⟨Wp.bind (h.p.mono fun r h1 => by
  obtain ⟨f, Γ1⟩ := r
  cases f with
  | nx => exact h1.p
  | bk => exact Wp.ok h1
  | ct => exact Wp.ok h1
  | rt d o => exact Wp.ok h1)⟩
theorem ws_asg {i : Nat} (h : We E e Γ fun x Γ1 => Wz (keep (x, Γ1)) fun k => Wz (setS k.2 i k.1) N) : Ws E (.asg (.nm i) e) Γ N X := ⟨Wp.bind (h.p.mono fun _ h1 => Wp.bind (h1.p.mono fun _ h2 => Wp.bind (h2.p.mono fun _ h3 => Wp.ok h3)))⟩
theorem ws_asgT {is : List Nat} (h : We E e Γ fun x Γ1 => Wv x Γ1 fun d Γ2 => Wz (bindTg (.tp is) d Γ2) N) : Ws E (.asg (.tp is) e) Γ N X := ⟨Wp.bind (h.p.mono fun _ h1 => Wp.bind (h1.p.mono fun _ h2 => Wp.bind (h2.p.mono fun _ h3 => Wp.ok h3)))⟩
theorem ws_par {i j : Nat} (h : We E a Γ fun x Γ1 => Wz (keep (x, Γ1)) fun k1 => We E b k1.2 fun y Γ2 => Wz (keep (y, Γ2)) fun k2 => Wz (setS k2.2 i k1.1) fun Γ3 => Wz (setS Γ3 j k2.1) N) : Ws E (.par i j a b) Γ N X := ⟨Wp.bind (h.p.mono fun _ h1 => Wp.bind (h1.p.mono fun _ h2 => Wp.bind (h2.p.mono fun _ h3 => Wp.bind (h3.p.mono fun _ h4 => Wp.bind (h4.p.mono fun _ h5 => Wp.bind (h5.p.mono fun _ h6 => Wp.ok h6))))))⟩
theorem ws_ife (h : We E c Γ fun x Γ1 => Wt (look Γ1 x) fun t => (t = true → Ws E s1 Γ1 N X) ∧ (t = false → Ws E s2 Γ1 N X)) : Ws E (.ife c s1 s2) Γ N X := ⟨Wp.bind (h.p.mono fun _ h1 => Wp.bind (h1.p.mono fun t h2 => by
  cases t with
  | true => exact (h2.1 rfl).p
  | false => exact (h2.2 rfl).p))⟩
theorem ws_ret (h : We E e Γ fun x Γ1 => Wz (retOf (x, Γ1)) fun r => KS N X r.1 r.2) : Ws E (.ret e) Γ N X := ⟨Wp.bind (h.p.mono fun _ h1 => h1.p)⟩
theorem wz_ret (k : X (.rt d false) Γ) : Wz (retOf (.val d, Γ)) fun r => KS N X r.1 r.2 := ⟨Wp.ok k⟩
theorem wz_retT {ds : List D} (k : X (.rt (.list ds) true) Γ) : Wz (retOf (.tmp ds, Γ)) fun r => KS N X r.1 r.2 := ⟨Wp.ok k⟩
theorem ws_retN (k : X (.rt .none false) Γ) : Ws E .retN Γ N X := ⟨Wp.ok k⟩
theorem ws_exp (h : We E e Γ fun x Γ1 => N Γ1) : Ws E (.exp e) Γ N X := ⟨Wp.bind (h.p.mono fun _ h1 => Wp.ok h1)⟩
theorem ws_brk (k : X .bk Γ) : Ws E .brk Γ N X := ⟨Wp.ok k⟩
theorem ws_cnt (k : X .ct Γ) : Ws E .cnt Γ N X := ⟨Wp.ok k⟩
theorem ws_app {i : Nat} (hi : isLi Γ i = true) (h : We E e Γ fun x Γ1 => Wv x Γ1 fun d Γ2 => ∃ ds p, Γ2[i]? = some (.li ds p .own) ∧ ds.length ≤ 16000000 ∧ N (Γ2.set i (.li (ds ++ [d]) p .own))) : Ws E (.app i e) Γ N X := ⟨Wp.pos hi (Wp.bind (h.p.mono fun _ h1 => Wp.bind (h1.p.mono fun r h2 => by
  obtain ⟨ds, p, e1, e2, k⟩ := h2
  show Wp (match r.2[i]? with | some (.li ds p .own) => if line ds.length then R.ok (Fl.nx, r.2.set i (.li (ds ++ [r.1]) p .own)) else .no | _ => .no) _
  rw [e1]
  exact Wp.pos (decide_eq_true e2) (Wp.ok k))))⟩
theorem ws_for {it : It} (h : Wi E it Γ fun xs ws Γ1 => Wf E tg s xs (lockAll Γ1 ws) (fun Γ2 => N (unlockAll Γ2 ws)) fun f Γ2 => X f (unlockAll Γ2 ws)) : Ws E (.forr tg it s) Γ N X := ⟨Wp.bind (h.p.mono fun r h1 => Wp.bind (h1.p.mono fun q h2 => Wp.ok (by
  obtain ⟨f, Γ1⟩ := q
  cases f <;> exact h2)))⟩
def XF (I N : G → Prop) (X : Fl → G → Prop) : Fl → G → Prop
  | .nx, Γ => I Γ
  | .ct, Γ => I Γ
  | .bk, Γ => N Γ
  | .rt d o, Γ => X (.rt d o) Γ
theorem wf_map {α : Type} {h : α → D} (I : List α → G → Prop) {l : List α} (h0 : I [] Γ) (hs : ∀ (a : α) (don rest : List α) (Γ : G), l = don ++ a :: rest → I don Γ → Wz (bindTg tg (h a) Γ) fun Γ2 => Ws E s Γ2 (I (don ++ [a])) (XF (I (don ++ [a])) N X)) (k : ∀ Γ, I l Γ → N Γ) : Wf E tg s (l.map h) Γ N X := ⟨wp_forM (I := I) h0 (fun a don rest Γ e hi => Wp.bind ((hs a don rest Γ e hi).p.mono fun Γ2 h2 => h2.p.mono fun r h3 => by
  obtain ⟨f, Γ3⟩ := r
  cases f <;> exact h3)) fun Γ hi => k Γ hi⟩
theorem wf_rng (I : Int → G → Prop) {lo hi : Int} (hl : lo ≤ hi) (h0 : I lo Γ) (hs : ∀ (i : Int) (Γ : G), lo ≤ i → i < hi → I i Γ → Wz (bindTg tg (.int i) Γ) fun Γ2 => Ws E s Γ2 (I (i + 1)) (XF (I (i + 1)) N X)) (k : ∀ Γ, I hi Γ → N Γ) : Wf E tg s (rangeL lo hi) Γ N X := by
  rw [rangeL_il]
  refine wf_map (I := fun don Γ => I (lo + don.length) Γ) (by simpa using h0) (fun a don rest Γ e hi' => ?_) fun Γ hi' => k Γ (by rw [il_len] at hi'; rw [show lo + (((hi - lo).toNat : Nat) : Int) = hi by omega] at hi'; exact hi')
  have len : don.length < (hi - lo).toNat := by
    have := congrArg List.length e
    rw [il_len, List.length_append, List.length_cons] at this
    omega
  have ea : a = lo + don.length := by
    have z : (il lo hi)[don.length]? = some a := by rw [e, List.getElem?_append_right (Nat.le_refl _), Nat.sub_self]; rfl
    unfold il at z
    rw [List.getElem?_map, List.getElem?_range len] at z
    exact (Option.some.inj z).symm
  have ez : lo + ((don ++ [a]).length : Int) = lo + don.length + 1 := by rw [List.length_append, List.length_singleton]; omega
  rw [ez]
  subst ea
  exact hs _ Γ (by omega) (by omega) hi'
theorem ws_whl (I : Nat → G → Prop) {k : Nat} (hk : k < wFuel) (h0 : I k Γ) (hs : ∀ k Γ, I k Γ → We E c Γ fun x Γ1 => Wt (look Γ1 x) fun t => (t = true → Ws E s Γ1 (fun Γ2 => ∃ j, k = j + 1 ∧ I j Γ2) (XF (fun Γ2 => ∃ j, k = j + 1 ∧ I j Γ2) N X)) ∧ (t = false → N Γ1)) : Ws E (.whl c s) Γ N X := ⟨wp_loopW (I := I) (fun k Γ hi => Wp.bind ((hs k Γ hi).p.mono fun r h1 => Wp.bind (h1.p.mono fun t h2 => Wp.ok ⟨fun ht => ((h2.1 ht).p.mono fun q h3 => by
  obtain ⟨f, Γ3⟩ := q
  cases f <;> exact h3), fun ht => h2.2 ht⟩))) h0 hk⟩
end
section
variable {E : Sem} {e : Ex} {Γ : G} {K : Opd → G → Prop} {tg : Tg} {cs : Exs} {elt : Ex} {own : List Nat} {N : G → Prop} {X : Fl → G → Prop} {s : Sx} {x : D} {xs acc : List D}
theorem we_popi {i : Nat} (hi : isLi Γ i = true) (h : We E e Γ fun x Γ1 => ∃ ds p k j d, Γ1[i]? = some (.li ds p .own) ∧ look Γ1 x = .int k ∧ (-(2 ^ 63) ≤ k ∧ k < 2 ^ 63) ∧ seqIndex? k ds.length = some j ∧ ds[j]? = some d ∧ K (.val d) (Γ1.set i (.li (ds.eraseIdx j) p .own))) : We E (.popi i e) Γ K := ⟨Wp.pos hi (Wp.bind (h.p.mono fun r h1 => by
  obtain ⟨ds, p, k, j, d, e1, e2, e3, e4, e5, q⟩ := h1
  show Wp (match r.2[i]?, look r.2 r.1 with | some (.li ds p .own), .int k => if decide (-(2 ^ 63) ≤ k ∧ k < 2 ^ 63) then (match seqIndex? k ds.length with | some j => (match ds[j]? with | some d => R.ok (Opd.val d, r.2.set i (.li (ds.eraseIdx j) p .own)) | none => .no) | none => .no) else .no | _, _ => .no) _
  rw [e1, e2]
  refine Wp.pos (decide_eq_true e3) ?_
  rw [e4]
  dsimp only
  rw [e5]
  exact Wp.ok q))⟩
theorem we_pop0 {i : Nat} {ds : List D} {p : Bool} {d : D} (h : Γ[i]? = some (.li (ds ++ [d]) p .own)) (k : K (.val d) (Γ.set i (.li ds p .own))) : We E (.pop0 i) Γ K := ⟨⟨_, by
  show (match Γ[i]? with | some (.li ds p .own) => (match ds[ds.length - 1]? with | some d => R.ok (Opd.val d, Γ.set i (.li ds.dropLast p .own)) | none => .no) | _ => .no) = R.ok (Opd.val d, Γ.set i (.li ds p .own))
  rw [h]
  have e1 : (ds ++ [d])[(ds ++ [d]).length - 1]? = some d := by rw [List.length_append, List.length_singleton, Nat.add_sub_cancel, List.getElem?_append_right (Nat.le_refl _), Nat.sub_self]; rfl
  dsimp only
  rw [e1, List.dropLast_concat], k⟩⟩
theorem wf_nil (k : N Γ) : Wf E tg s [] Γ N X := ⟨Wp.ok k⟩
theorem wf_cons (h : Wz (bindTg tg x Γ) fun Γ2 => Ws E s Γ2 (fun Γ3 => Wf E tg s xs Γ3 N X) (XF (fun Γ3 => Wf E tg s xs Γ3 N X) N X)) : Wf E tg s (x :: xs) Γ N X := ⟨Wp.bind (Wp.bind (h.p.mono fun Γ2 h2 => h2.p.mono fun r h3 => by
  obtain ⟨f, Γ3⟩ := r
  cases f with
  | nx => exact h3.p
  | ct => exact h3.p
  | bk => exact Wp.ok h3
  | rt d o => exact Wp.ok h3))⟩
theorem wl_nil {K : List D → G → Prop} (k : K acc Γ) : Wl E tg cs elt own [] acc Γ K := ⟨Wp.ok k⟩
theorem wl_cons {K : List D → G → Prop} (hl : acc.length ≤ 16000000) (h : Wbd E tg cs elt own x Γ fun o Γ1 => match o with | some y => Wl E tg cs elt own xs (acc ++ [y]) Γ1 K | none => Wl E tg cs elt own xs acc Γ1 K) : Wl E tg cs elt own (x :: xs) acc Γ K := ⟨Wp.bind (h.p.mono fun r h1 => by
  obtain ⟨o, Γ1⟩ := r
  cases o with
  | none => exact h1.p
  | some y => exact Wp.pos (decide_eq_true hl) h1.p)⟩
end
theorem wand_t {t : Bool} {A B : Prop} (h : t = true) (k : A) : (t = true → A) ∧ (t = false → B) := ⟨fun _ => k, fun z => Bool.noConfusion (h.symm.trans z)⟩
theorem wand_f {t : Bool} {A B : Prop} (h : t = false) (k : B) : (t = true → A) ∧ (t = false → B) := ⟨fun z => Bool.noConfusion (h.symm.trans z), fun _ => k⟩
theorem wline {n : Nat} {A : Prop} (h : n ≤ 16000000) (k : A) : line n = true ∧ A := ⟨decide_eq_true h, k⟩
theorem wfil {t p : Bool} {A B : Prop} (h : t = p) (k1 : t = true → A) (k2 : t = false → B) : t = p ∧ (t = true → A) ∧ (t = false → B) := ⟨h, k1, k2⟩
theorem wd {T : Tab} {n f : Nat} {fn : Fn} {args : List Slot} {d : D} {o : Bool} {ss : List Slot} (h : T.fns[f]? = some fn) (hl : args.length = fn.np)
    (q : ∀ C, C = callN T n → Ws ⟨C, T.con⟩ fn.body (args ++ List.replicate (fn.ns - fn.np) .emp) (fun Γ => d = .none ∧ o = false ∧ (Γ.take fn.np).map fin1 = ss) fun f Γ => f = .rt d o ∧ (Γ.take fn.np).map fin1 = ss) : callN T (n + 1) f args = .ok (d, o, ss) :=
  Wp.is (wp_call h hl fun C hC => (q C hC).p.mono fun r h => by
    obtain ⟨f, Γ⟩ := r
    cases f with
    | nx => obtain ⟨rfl, rfl, rfl⟩ := h; exact Wp.ok rfl
    | bk => cases h.1
    | ct => cases h.1
    | rt d o => obtain ⟨e, rfl⟩ := h; cases e; exact Wp.ok rfl)
end Mir

set_option Elab.async false
set_option autoImplicit false
set_option linter.all false
set_option maxRecDepth 100000
set_option maxHeartbeats 4000000
/-! # Wr: drawn lists, drawn turns -/
namespace Mir
open PySem
theorem KS.mono {N N' : G → Prop} {X X' : Fl → G → Prop} (h1 : ∀ Γ, N Γ → N' Γ) (h2 : ∀ f Γ, X f Γ → X' f Γ) : ∀ f Γ, KS N X f Γ → KS N' X' f Γ
  | .nx, Γ, h => h1 Γ h
  | .bk, Γ, h => h2 _ Γ h
  | .ct, Γ, h => h2 _ Γ h
  | .rt _ _, Γ, h => h2 _ Γ h
theorem Ws.mono {E : Sem} {s : Sx} {Γ : G} {N N' : G → Prop} {X X' : Fl → G → Prop} (h : Ws E s Γ N X) (h1 : ∀ Γ, N Γ → N' Γ) (h2 : ∀ f Γ, X f Γ → X' f Γ) : Ws E s Γ N' X' := ⟨h.p.mono fun r => KS.mono h1 h2 r.1 r.2⟩
theorem Wz.mono {α : Type} {r : R α} {K K' : α → Prop} (h : Wz r K) (g : ∀ a, K a → K' a) : Wz r K' := ⟨h.p.mono g⟩
theorem Wbd.mono {E : Sem} {tg : Tg} {cs : Exs} {elt : Ex} {own : List Nat} {x : D} {Γ : G} {K K' : Option D → G → Prop} (h : Wbd E tg cs elt own x Γ K) (g : ∀ o Γ, K o Γ → K' o Γ) : Wbd E tg cs elt own x Γ K' := ⟨h.p.mono fun r => g r.1 r.2⟩
/-- a comprehension of drawn items -/
theorem wl_draw {α σ : Type} {T : Tab} {dep : Nat} {Ok : σ → Prop} {P : α → Prop} {g : α → D} {Γ : σ → G} {tg : Tg} {cs : Exs} {elt : Ex} {own : List Nat}
    (step : ∀ e, Ok e → ∃ x f, P x ∧ Ok f ∧ ∀ n, dep ≤ n → ∀ C, C = callN T n → ∀ a, Wbd ⟨C, T.con⟩ tg cs elt own a (Γ e) fun o Γ' => o = some (g x) ∧ Γ' = Γ f) :
    ∀ (j : Nat) (e : σ), Ok e → ∃ (ls : List α) (f : σ), (ls.length = j ∧ ∀ x ∈ ls, P x) ∧ Ok f ∧ ∀ n, dep ≤ n → ∀ C, C = callN T n → ∀ (xs acc : List D) (K : List D → G → Prop), xs.length = j → acc.length + j ≤ 16000000 → K (acc ++ ls.map g) (Γ f) → Wl ⟨C, T.con⟩ tg cs elt own xs acc (Γ e) K := by
  intro j
  induction j with
  | zero =>
    intro e he
    refine ⟨[], e, ⟨rfl, fun x h => by cases h⟩, he, fun n hn C hC xs acc K hx hl hK => ?_⟩
    obtain rfl := List.length_eq_zero_iff.mp hx
    rw [List.map_nil, List.append_nil] at hK
    exact wl_nil hK
  | succ j ih =>
    intro e he
    obtain ⟨x, f, hx, hf, q⟩ := step e he
    obtain ⟨ls, f', ⟨hl, hls⟩, hf', q'⟩ := ih f hf
    refine ⟨x :: ls, f', ⟨by rw [List.length_cons, hl], fun y hy => ?_⟩, hf', fun n hn C hC xs acc K hxs hacc hK => ?_⟩
    · rcases List.mem_cons.mp hy with rfl | hy
      · exact hx
      · exact hls y hy
    · cases xs with
      | nil => cases hxs
      | cons a xs =>
        refine wl_cons (by omega) ((q n hn C hC a).mono fun o Γ' h => ?_)
        obtain ⟨rfl, rfl⟩ := h
        refine q' n hn C hC xs _ K (by rw [List.length_cons] at hxs; omega) (by rw [List.length_append, List.length_singleton]; omega) ?_
        rw [List.append_assoc]
        exact hK
/-- turns that draw -/
theorem wf_draw {σ τ : Type} {T : Tab} {dep : Nat} {Ok : σ → Prop} {S : τ → Prop} {Γ : σ → τ → G} {tg : Tg} {s : Sx}
    (step : ∀ e, Ok e → ∃ f, Ok f ∧ ∀ n, dep ≤ n → ∀ C, C = callN T n → ∀ a t, S t → Wz (bindTg tg a (Γ e t)) fun Γ2 => Ws ⟨C, T.con⟩ s Γ2 (fun Γ3 => ∃ t', S t' ∧ Γ3 = Γ f t') fun _ _ => False) :
    ∀ (j : Nat) (e : σ), Ok e → ∃ f, Ok f ∧ ∀ n, dep ≤ n → ∀ C, C = callN T n → ∀ (xs : List D) (t : τ) (N : G → Prop) (X : Fl → G → Prop), xs.length = j → S t → (∀ t', S t' → N (Γ f t')) → Wf ⟨C, T.con⟩ tg s xs (Γ e t) N X := by
  intro j
  induction j with
  | zero =>
    intro e he
    refine ⟨e, he, fun n hn C hC xs t N X hx ht hN => ?_⟩
    obtain rfl := List.length_eq_zero_iff.mp hx
    exact wf_nil (hN t ht)
  | succ j ih =>
    intro e he
    obtain ⟨f, hf, q⟩ := step e he
    obtain ⟨f', hf', q'⟩ := ih f hf
    refine ⟨f', hf', fun n hn C hC xs t N X hx ht hN => ?_⟩
    cases xs with
    | nil => cases hx
    | cons a xs =>
      refine wf_cons ((q n hn C hC a t ht).mono fun Γ2 h => h.mono (fun Γ3 h3 => ?_) fun _ _ z => z.elim)
      obtain ⟨t', ht', rfl⟩ := h3
      exact q' n hn C hC xs t' N X (by rw [List.length_cons] at hx; omega) ht' hN
/-- what enumerate walks -/
def enmR (d : D) (ws : List Nat) : R (List D × List Nat) :=
  match d with
  | .list xs => .ok (enmD 0 xs, ws)
  | .tup xs => .ok (enmD 0 xs, [])
  | _ => .no
theorem wi_enm {E : Sem} {e : Ex} {Γ : G} {K : List D → List Nat → G → Prop} (h : We E e Γ fun x Γ1 => Wz (enmR (look Γ1 x) (walked Γ1 x)) fun r => K r.1 r.2 Γ1) : Wi E (.enm e) Γ K := ⟨Wp.bind (h.p.mono fun r h1 => by
  obtain ⟨q, e1, k⟩ := h1.p
  show Wp (match look r.2 r.1 with | .list xs => R.ok (enmD 0 xs, walked r.2 r.1, r.2) | .tup xs => .ok (enmD 0 xs, [], r.2) | _ => .no) _
  unfold enmR at e1
  split at e1
  · rename_i xs hx
    (try rw [hx])
    cases e1
    exact Wp.ok k
  · rename_i xs hx
    (try rw [hx])
    cases e1
    exact Wp.ok k
  · cases e1)⟩
theorem enm_il {f : Int → D} : ∀ (n k : Nat), enmD k ((List.range' (k + 1) n).map fun j : Nat => f j) = (List.range' (k + 1) n).map fun j : Nat => .tup [.int ((j : Int) - 1), f j]
  | 0, k => rfl
  | n + 1, k => by
    show D.tup [.int (k : Nat), f ((k + 1 : Nat) : Int)] :: enmD (k + 1) ((List.range' (k + 1 + 1) n).map fun j : Nat => f j) = D.tup [.int (((k + 1 : Nat) : Int) - 1), f ((k + 1 : Nat) : Int)] :: _
    rw [enm_il n (k + 1)]
    have e : (((k + 1 : Nat) : Int) - 1) = (k : Nat) := by omega
    rw [e]
theorem il_range' (n : Nat) : il 1 (n + 1) = (List.range' 1 n).map fun j : Nat => (j : Int) := by
  unfold il
  have e : ((n : Int) + 1 - 1).toNat = n := by omega
  rw [e, List.range'_eq_map_range, List.map_map]
  refine List.map_congr_left fun a _ => ?_
  show (1 : Int) + (a : Nat) = ((1 + a : Nat) : Int)
  omega
theorem enm_one {f : Int → D} (n : Nat) : enmD 0 ((il 1 (n + 1)).map f) = (il 1 (n + 1)).map fun j => .tup [.int (j - 1), f j] := by
  rw [il_range', List.map_map, List.map_map]
  exact enm_il (f := f) n 0
theorem mem_il {lo hi i : Int} (h : lo ≤ i ∧ i < hi) : i ∈ il lo hi := List.mem_map.mpr ⟨(i - lo).toNat, List.mem_range.mpr (by omega), by omega⟩
theorem pl_ones {α : Type} (l : List α) : D.pls (l.map fun _ => D.int 1) = true := by
  induction l with
  | nil => rfl
  | cons a l ih => exact ih
theorem ones_nil {α : Type} (l : List α) : c2 .eq (.list (l.map fun _ => D.int 1)) (.list []) = .ok l.isEmpty := by
  have h : eqOk (.list (l.map fun _ => D.int 1)) (.list []) = true := by
    show (D.pls (l.map fun _ => D.int 1) && true && (_ || true)) = true
    rw [pl_ones, Bool.or_true]
    rfl
  show (if eqOk (.list (l.map fun _ => D.int 1)) (.list []) = true then R.ok (D.eqv (.list (l.map fun _ => D.int 1)) (.list [])) else .no) = _
  rw [if_pos h]
  cases l <;> rfl
theorem empty_iff {α : Type} {l : List α} {p : α → Bool} : (l.filter p).isEmpty = true ↔ ∀ a ∈ l, p a = false := by
  rw [List.isEmpty_iff, List.filter_eq_nil_iff]
  exact ⟨fun h a ha => by have := h a ha; cases e : p a <;> first | rfl | exact absurd e this, fun h a ha => by rw [h a ha]; exact Bool.false_ne_true⟩
/-- put off -/
structure Hold (p : Prop) : Prop where
  p : p
/-- a statement that leaves all as it is -/
theorem ws_same {E : Sem} {s : Sx} {Γ : G} {N : G → Prop} {X : Fl → G → Prop} (k : N Γ) (h : Hold (Ws E s Γ (fun Γ' => Γ' = Γ) fun _ _ => False)) : Ws E s Γ N X :=
  h.p.mono (fun Γ' e => by rw [e]; exact k) fun _ _ z => z.elim
/-! ## the greatest of some ints -/
def mxI (xs : List Int) : Int := (maxL xs).getD 0
theorem mx_fold : ∀ (xs : List Int) (x : Int), (x :: xs).foldl (fun a b => if a < b then b else a) x ∈ x :: xs ∧ (∀ y ∈ x :: xs, y ≤ (x :: xs).foldl (fun a b => if a < b then b else a) x)
  | [], x => by
    have e : ([x] : List Int).foldl (fun a b => if a < b then b else a) x = x := by show (if x < x then x else x) = x; split <;> rfl
    rw [e]
    exact ⟨List.mem_cons_self, fun y hy => by rw [List.mem_singleton.mp hy]; exact Int.le_refl _⟩
  | y :: xs, x => by
    have e : (x :: y :: xs).foldl (fun a b => if a < b then b else a) x = ((if x < y then y else x) :: xs).foldl (fun a b => if a < b then b else a) (if x < y then y else x) := by
      show xs.foldl _ (if (if x < x then x else x) < y then y else (if x < x then x else x)) = xs.foldl _ (if (if x < y then y else x) < (if x < y then y else x) then _ else _)
      simp
    obtain ⟨h1, h2⟩ := mx_fold xs (if x < y then y else x)
    rw [e]
    refine ⟨?_, fun z hz => ?_⟩
    · rcases List.mem_cons.mp h1 with h | h
      · rw [h]
        split
        · exact List.mem_cons_of_mem _ List.mem_cons_self
        · exact List.mem_cons_self
      · exact List.mem_cons_of_mem _ (List.mem_cons_of_mem _ h)
    · have q := h2 _ List.mem_cons_self
      rcases List.mem_cons.mp hz with h | h
      · subst h
        refine Int.le_trans ?_ q
        split <;> omega
      · rcases List.mem_cons.mp h with h | h
        · subst h
          refine Int.le_trans ?_ q
          split <;> omega
        · exact h2 z (List.mem_cons_of_mem _ h)
theorem mx_is {xs : List Int} (h : xs ≠ []) : maxL xs = some (mxI xs) ∧ mxI xs ∈ xs ∧ ∀ x ∈ xs, x ≤ mxI xs := by
  cases xs with
  | nil => exact absurd rfl h
  | cons x xs =>
    have z := mx_fold xs x
    have e : (x :: xs).foldl (fun a b => if a < b then b else a) x = mxI (x :: xs) := by
      show xs.foldl _ (if x < x then x else x) = xs.foldl _ x
      simp
    rw [e] at z
    exact ⟨rfl, z⟩
theorem mx_le {xs : List Int} (h : xs ≠ []) {m : Int} : mxI xs ≤ m ↔ ∀ x ∈ xs, x ≤ m :=
  ⟨fun q x hx => Int.le_trans ((mx_is h).2.2 x hx) q, fun q => q _ (mx_is h).2.1⟩
theorem bmax {ds : List D} {xs : List Int} (hi : intsOf ds = some xs) (h : xs ≠ []) : bapp .max [.list ds] = .ok (.val (.int (mxI xs))) := by
  show (match intsOf ds with | some ns => (match maxL ns with | some m => R.ok (Opd.val (.int m)) | none => .no) | none => .no) = _
  rw [hi]
  dsimp only
  rw [(mx_is h).1]
theorem bmaxT {ds : List D} {xs : List Int} (hi : intsOf ds = some xs) (h : xs ≠ []) : bapp .max [.tup ds] = .ok (.val (.int (mxI xs))) := bmax hi h
theorem ints_app {as bs : List D} {xs ys : List Int} (h1 : intsOf as = some xs) (h2 : intsOf bs = some ys) : intsOf (as ++ bs) = some (xs ++ ys) := by
  induction as generalizing xs with
  | nil => cases h1; exact h2
  | cons a as ih =>
    cases a with
    | int i =>
      have e : intsOf (.int i :: as) = (intsOf as).map (i :: ·) := rfl
      rw [e] at h1
      cases q : intsOf as with
      | none => rw [q] at h1; cases h1
      | some zs =>
        rw [q] at h1
        cases h1
        show (intsOf (as ++ bs)).map (i :: ·) = _
        rw [ih q]
        rfl
    | _ => cases h1
theorem inc_dec {k : Int} : b2 .add (.int (k - 1)) (.int 1) = .ok (.val (.int k)) := by
  show R.ok (Opd.val (.int (k - 1 + 1))) = _
  rw [Int.sub_add_cancel]
/-- a slot that holds no list of its own -/
def Sv (s : Slot) : Prop := s = .emp ∨ ∃ v, s = .sh v
theorem wz_setv {Γ : G} {i : Nat} {s t : Slot} {K : G → Prop} (h : Γ[i]? = some t) (ht : Sv t) (k : K (Γ.set i s)) : Wz (setS Γ i s) K := wz (by
  unfold setS
  rw [h]
  rcases ht with rfl | ⟨v, rfl⟩ <;> rfl) k
/-- a slot that no caller lends -/
def Sw (s : Slot) : Prop := s = .emp ∨ (∃ v, s = .sh v) ∨ ∃ ds, s = .li ds false .own
theorem Sw.e : Sw .emp := .inl rfl
theorem Sw.v {d : D} : Sw (.sh d) := .inr (.inl ⟨d, rfl⟩)
theorem Sw.l {ds : List D} : Sw (.li ds false .own) := .inr (.inr ⟨ds, rfl⟩)
theorem wz_setw {Γ : G} {i : Nat} {s t : Slot} {K : G → Prop} (h : Γ[i]? = some t) (ht : Sw t) (k : K (Γ.set i s)) : Wz (setS Γ i s) K := wz (by
  unfold setS
  rw [h]
  rcases ht with rfl | ⟨v, rfl⟩ | ⟨v, rfl⟩ <;> rfl) k
/-- a statement that may set one name alone -/
theorem ws_cutAt {E : Sem} {s : Sx} {Γ : G} {N : G → Prop} {X : Fl → G → Prop} (i : Nat) (k : ∀ t, Sw t → N (Γ.set i t)) (h : Hold (Ws E s Γ (fun Γ' => ∃ t, Sw t ∧ Γ' = Γ.set i t) fun _ _ => False)) : Ws E s Γ N X :=
  h.p.mono (fun Γ' e => by obtain ⟨t, ht, rfl⟩ := e; exact k t ht) fun _ _ z => z.elim
theorem wl_rngE {E : Sem} {tg : Tg} {cs : Exs} {elt : Ex} {own : List Nat} {Γ : G} (g : Int → D) {lo hi : Int} {xs : List D} {K : List D → G → Prop} (he : (il lo hi).map g = xs) (hl : hi - lo ≤ 16000000) (hs : ∀ i, lo ≤ i ∧ i < hi → Wbd E tg cs elt own (.int i) Γ fun o Γ1 => o = some (g i) ∧ Γ1 = Γ) (k : K xs Γ) : Wl E tg cs elt own (rangeL lo hi) [] Γ K := wl_rng g hl hs (by rw [he]; exact k)
theorem nd_t {p : Prop} [Decidable p] (h : ¬ p) : (!decide p) = true := by rw [decide_eq_false h]; rfl
theorem nd_f {p : Prop} [Decidable p] (h : p) : (!decide p) = false := by rw [decide_eq_true h]; rfl
theorem Sv.e : Sv .emp := .inl rfl
theorem Sv.v {d : D} : Sv (.sh d) := .inr ⟨d, rfl⟩
end Mir

set_option Elab.async false
set_option autoImplicit false
set_option linter.all false
set_option maxRecDepth 100000
set_option maxHeartbeats 2000000
namespace Law
open PySem Mir
def cupS (c0 c1 : Int) : Slot := .li [.int c0, .int c1] true .own
def CupOk (c0 c1 : Int) : Prop := 0 ≤ c0 ∧ 0 ≤ c1 ∧ c1 < 2 ^ 40
theorem fmod_pos {a b : Int} (hb : 0 < b) : 0 ≤ a.fmod b ∧ a.fmod b < b := ⟨Int.fmod_nonneg_of_pos a hb, Int.fmod_lt_of_pos a hb⟩
theorem fdiv_nn {a b : Int} (ha : 0 ≤ a) (hb : 0 < b) : 0 ≤ a.fdiv b := by
  rw [Int.fdiv_eq_ediv_of_nonneg a (Int.le_of_lt hb)]
  exact Int.ediv_nonneg ha (Int.le_of_lt hb)
theorem roll_hi {k : Nat} {c0 c1 m : Int} (hk : 1 ≤ k) (h0 : 0 < c0) (hm : 0 < m) (hl : m ≤ 2 ^ 62) : callN Tb k 8 [cupS c0 c1, .sh (.int m)] = .ok (.int (c0.fmod m), false, [cupS (c0.fdiv m) c1, .emp]) := by
  obtain ⟨n, rfl⟩ : ∃ n, k = n + 1 := ⟨k - 1, by omega⟩
  refine Wp.is (wp_call (fn := fn8) rfl rfl fun C hC => ?_)
  dsimp only [fn8, Nat.reduceSub, List.replicate, List.cons_append, List.nil_append]
  repeat first
    | refine Wp.bind ?_
    | (refine Wp.ok ?_; try dsimp only [List.set, List.map, Mir.lend, List.getElem?_cons_zero, List.getElem?_cons_succ, List.cons_append, List.nil_append, List.foldl, Mir.lockAll, Mir.lock1, Mir.unlockAll, Mir.unlock1, Mir.restG, Mir.walked, Option.getD, Mir.look, Mir.Slot.d])
    | refine Wp.noX ?_
    | refine Wp.pos (by first | assumption | exact decide_eq_true (by omega) | exact big_of ⟨by omega, by omega⟩ ⟨by omega, by omega⟩ | exact div_of (by omega) (by omega) | omega | exact beq_self_eq_true _ | rfl) ?_
    | refine Wp.neg (by first | exact fun h => absurd (of_decide_eq_true h) (by omega) | exact fun h => Bool.false_ne_true h | omega) ?_
    | rfl
  all_goals rfl
theorem roll_lo {k : Nat} {c0 c1 m : Int} (hk : 1 ≤ k) (h0 : ¬ 0 < c0) (hc : 0 ≤ c1 ∧ c1 < 2 ^ 40) (hm : 0 < m) (hl : m ≤ 2 ^ 62) : callN Tb k 8 [cupS c0 c1, .sh (.int m)] =
    .ok (.int (((((c1 * 30307 + 8707).fmod 2147483543) * ((c1 * 30307 + 8707).fmod 2147483543 + 277)).fmod 2147483587).fdiv 863 |>.fmod m), false, [cupS c0 ((c1 * 30307 + 8707).fmod 2147483543), .emp]) := by
  have hq := fmod_pos (a := c1 * 30307 + 8707) (b := 2147483543) (by decide)
  obtain ⟨n, rfl⟩ : ∃ n, k = n + 1 := ⟨k - 1, by omega⟩
  refine Wp.is (wp_call (fn := fn8) rfl rfl fun C hC => ?_)
  dsimp only [fn8, Nat.reduceSub, List.replicate, List.cons_append, List.nil_append]
  repeat first
    | refine Wp.bind ?_
    | (refine Wp.ok ?_; try dsimp only [List.set, List.map, Mir.lend, List.getElem?_cons_zero, List.getElem?_cons_succ, List.cons_append, List.nil_append, List.foldl, Mir.lockAll, Mir.lock1, Mir.unlockAll, Mir.unlock1, Mir.restG, Mir.walked, Option.getD, Mir.look, Mir.Slot.d])
    | refine Wp.noX ?_
    | refine Wp.pos (by first | assumption | exact decide_eq_true (by omega) | exact big_of ⟨by omega, by omega⟩ ⟨by omega, by omega⟩ | exact div_of (by omega) (by omega) | omega | exact beq_self_eq_true _ | rfl) ?_
    | refine Wp.neg (by first | exact fun h => absurd (of_decide_eq_true h) (by omega) | exact fun h => Bool.false_ne_true h | omega) ?_
    | rfl
  all_goals rfl
theorem roll (c0 c1 m : Int) (hc : CupOk c0 c1) (hm : 0 < m) (hl : m ≤ 2 ^ 62) : ∃ r d0 d1, 0 ≤ r ∧ r < m ∧ CupOk d0 d1 ∧ ∀ k, 1 ≤ k → callN Tb k 8 [cupS c0 c1, .sh (.int m)] = .ok (.int r, false, [cupS d0 d1, .emp]) := by
  obtain ⟨h0, h1, h2⟩ := hc
  by_cases h : 0 < c0
  · have a := fmod_pos (a := c0) hm
    exact ⟨_, _, _, a.1, a.2, ⟨fdiv_nn h0 hm, h1, h2⟩, fun k hk => roll_hi hk h hm hl⟩
  · have a := fmod_pos (a := (((c1 * 30307 + 8707).fmod 2147483543) * ((c1 * 30307 + 8707).fmod 2147483543 + 277)).fmod 2147483587 |>.fdiv 863) hm
    have b := fmod_pos (a := c1 * 30307 + 8707) (b := 2147483543) (by decide)
    exact ⟨_, _, _, a.1, a.2, ⟨h0, b.1, by omega⟩, fun k hk => roll_lo hk h ⟨h1, h2⟩ hm hl⟩
/-! ## the basics -/
theorem tuple_of {k : Nat} (xs : List D) (lo hi : Int) (hk : 1 ≤ k) (h1 : lo ≤ xs.length) (h2 : (xs.length : Int) ≤ hi) : callN Tb k 31 [.sh (.tup xs), .sh (.int lo), .sh (.int hi)] = .ok (.bool true, false, [.emp, .emp, .emp]) := by
  obtain ⟨n, rfl⟩ : ∃ n, k = n + 1 := ⟨k - 1, by omega⟩
  refine Wp.is (wp_call (fn := fn31) rfl rfl fun C hC => ?_)
  dsimp only [fn31, Nat.reduceSub, List.replicate, List.cons_append, List.nil_append]
  repeat first
    | refine Wp.bind ?_
    | (refine Wp.ok ?_; try dsimp only [List.set, List.map, Mir.lend, List.getElem?_cons_zero, List.getElem?_cons_succ, List.cons_append, List.nil_append, List.foldl, Mir.lockAll, Mir.lock1, Mir.unlockAll, Mir.unlock1, Mir.restG, Mir.walked, Option.getD, Mir.look, Mir.Slot.d])
    | refine Wp.noX ?_
    | refine Wp.pos (by first | assumption | exact decide_eq_true (by omega) | exact big_of ⟨by omega, by omega⟩ ⟨by omega, by omega⟩ | exact div_of (by omega) (by omega) | omega | exact beq_self_eq_true _ | rfl) ?_
    | refine Wp.neg (by first | exact fun h => absurd (of_decide_eq_true h) (by omega) | exact fun h => Bool.false_ne_true h | omega) ?_
    | rfl
  show (D.bool (decide ((xs.length : Int) ≤ hi)), _, _) = _
  rw [decide_eq_true h2]
  all_goals rfl
theorem whole {k : Nat} (i lo hi : Int) (hk : 1 ≤ k) (h1 : lo ≤ i) (h2 : i ≤ hi) : callN Tb k 27 [.sh (.int i), .sh (.int lo), .sh (.int hi)] = .ok (.bool true, false, [.emp, .emp, .emp]) := by
  obtain ⟨n, rfl⟩ : ∃ n, k = n + 1 := ⟨k - 1, by omega⟩
  refine Wp.is (wp_call (fn := fn27) rfl rfl fun C hC => ?_)
  dsimp only [fn27, Nat.reduceSub, List.replicate, List.cons_append, List.nil_append]
  repeat first
    | refine Wp.bind ?_
    | (refine Wp.ok ?_; try dsimp only [List.set, List.map, Mir.lend, List.getElem?_cons_zero, List.getElem?_cons_succ, List.cons_append, List.nil_append, List.foldl, Mir.lockAll, Mir.lock1, Mir.unlockAll, Mir.unlock1, Mir.restG, Mir.walked, Option.getD, Mir.look, Mir.Slot.d])
    | refine Wp.noX ?_
    | refine Wp.pos (by first | assumption | exact decide_eq_true (by omega) | exact big_of ⟨by omega, by omega⟩ ⟨by omega, by omega⟩ | exact div_of (by omega) (by omega) | omega | exact beq_self_eq_true _ | rfl) ?_
    | refine Wp.neg (by first | exact fun h => absurd (of_decide_eq_true h) (by omega) | exact fun h => Bool.false_ne_true h | omega) ?_
    | rfl
  show (D.bool (decide (i ≤ hi)), _, _) = _
  rw [decide_eq_true h2]
  all_goals rfl
theorem need_whole {k : Nat} (i lo hi : Int) (hk : 2 ≤ k) (h1 : lo ≤ i) (h2 : i ≤ hi) : callN Tb k 18 [.sh (.int i), .sh (.int lo), .sh (.int hi)] = .ok (.none, false, [.emp, .emp, .emp]) := by
  obtain ⟨n, rfl⟩ : ∃ n, k = n + 1 := ⟨k - 1, by omega⟩
  refine Wp.is (wp_call (fn := fn18) rfl rfl fun C hC => ?_)
  dsimp only [fn18, Nat.reduceSub, List.replicate, List.cons_append, List.nil_append]
  have e1 := whole (k := n) i lo hi (by omega) h1 h2
  rw [← hC] at e1
  repeat first
    | (refine Wp.eq e1 ?_; try dsimp only [List.set, List.map, Mir.lend, List.getElem?_cons_zero, List.getElem?_cons_succ, List.cons_append, List.nil_append, List.foldl, Mir.lockAll, Mir.lock1, Mir.unlockAll, Mir.unlock1, Mir.restG, Mir.walked, Option.getD, Mir.look, Mir.Slot.d])
    | refine Wp.bind ?_
    | (refine Wp.ok ?_; try dsimp only [List.set, List.map, Mir.lend, List.getElem?_cons_zero, List.getElem?_cons_succ, List.cons_append, List.nil_append, List.foldl, Mir.lockAll, Mir.lock1, Mir.unlockAll, Mir.unlock1, Mir.restG, Mir.walked, Option.getD, Mir.look, Mir.Slot.d])
    | refine Wp.noX ?_
    | refine Wp.pos (by first | assumption | exact decide_eq_true (by omega) | exact big_of ⟨by omega, by omega⟩ ⟨by omega, by omega⟩ | exact div_of (by omega) (by omega) | omega | exact beq_self_eq_true _ | rfl) ?_
    | refine Wp.neg (by first | exact fun h => absurd (of_decide_eq_true h) (by omega) | exact fun h => Bool.false_ne_true h | omega) ?_
    | rfl
  all_goals rfl
def storeD (p : Int × Int) : D := .tup [.int p.1, .int p.2]
def fleetD (fl : List (Int × Int)) : D := .tup (fl.map storeD)
def StOk (p : Int × Int) : Prop := 1 ≤ p.1 ∧ p.1 ≤ 1000000 ∧ 1 ≤ p.2 ∧ p.2 ≤ 1000000
def FlOk (fl : List (Int × Int)) : Prop := fl.length ≤ 60 ∧ ∀ p ∈ fl, StOk p
theorem is_store {k : Nat} {p : Int × Int} (hk : 2 ≤ k) (h : StOk p) : callN Tb k 30 [.sh (storeD p)] = .ok (.bool true, false, [.emp]) := by
  obtain ⟨h1, h2, h3, h4⟩ := h
  obtain ⟨n, rfl⟩ : ∃ n, k = n + 1 := ⟨k - 1, by omega⟩
  refine Wp.is (wp_call (fn := fn30) rfl rfl fun C hC => ?_)
  dsimp only [fn30, Nat.reduceSub, List.replicate, List.cons_append, List.nil_append]
  have e1 := tuple_of (k := n) [.int p.1, .int p.2] 2 2 (by omega) (Int.le_refl 2) (Int.le_refl 2)
  have e2 := whole (k := n) p.1 1 1000000 (by omega) h1 h2
  have e3 := whole (k := n) p.2 1 1000000 (by omega) h3 h4
  rw [← hC] at e1 e2 e3
  repeat first
    | (refine Wp.eq e1 ?_; try dsimp only [List.set, List.map, Mir.lend, List.getElem?_cons_zero, List.getElem?_cons_succ, List.cons_append, List.nil_append, List.foldl, Mir.lockAll, Mir.lock1, Mir.unlockAll, Mir.unlock1, Mir.restG, Mir.walked, Option.getD, Mir.look, Mir.Slot.d])
    | (refine Wp.eq e2 ?_; try dsimp only [List.set, List.map, Mir.lend, List.getElem?_cons_zero, List.getElem?_cons_succ, List.cons_append, List.nil_append, List.foldl, Mir.lockAll, Mir.lock1, Mir.unlockAll, Mir.unlock1, Mir.restG, Mir.walked, Option.getD, Mir.look, Mir.Slot.d])
    | (refine Wp.eq e3 ?_; try dsimp only [List.set, List.map, Mir.lend, List.getElem?_cons_zero, List.getElem?_cons_succ, List.cons_append, List.nil_append, List.foldl, Mir.lockAll, Mir.lock1, Mir.unlockAll, Mir.unlock1, Mir.restG, Mir.walked, Option.getD, Mir.look, Mir.Slot.d])
    | refine Wp.bind ?_
    | (refine Wp.ok ?_; try dsimp only [List.set, List.map, Mir.lend, List.getElem?_cons_zero, List.getElem?_cons_succ, List.cons_append, List.nil_append, List.foldl, Mir.lockAll, Mir.lock1, Mir.unlockAll, Mir.unlock1, Mir.restG, Mir.walked, Option.getD, Mir.look, Mir.Slot.d])
    | refine Wp.noX ?_
    | refine Wp.pos (by first | assumption | exact decide_eq_true (by omega) | exact big_of ⟨by omega, by omega⟩ ⟨by omega, by omega⟩ | exact div_of (by omega) (by omega) | omega | exact beq_self_eq_true _ | rfl) ?_
    | refine Wp.neg (by first | exact fun h => absurd (of_decide_eq_true h) (by omega) | exact fun h => Bool.false_ne_true h | omega) ?_
    | rfl
  all_goals rfl
theorem all_true {α : Type} (l : List α) : (l.map fun _ => true).all id = true := by
  induction l with
  | nil => rfl
  | cons a l ih => exact ih
/-- the curve -/
def crv (fl : List (Int × Int)) (k : Int) : Int := (fl.map fun p => if k * p.2 < p.1 then k * p.2 else p.1).sum
/-! ## loads -/
def loadsD (ls : List Int) : D := .tup (ls.map .int)
def LdOk (ls : List Int) : Prop := ls.length ≤ 200 ∧ ∀ l ∈ ls, 0 ≤ l ∧ l ≤ 1000000
theorem are_loads_in {k : Nat} {ls : List Int} (hk : 2 ≤ k) (h : LdOk ls) : callN Tb k 29 [.sh (loadsD ls)] = .ok (.bool true, false, [.emp]) := by
  obtain ⟨h1, h2⟩ := h
  obtain ⟨n, rfl⟩ : ∃ n, k = n + 1 := ⟨k - 1, by omega⟩
  refine Wp.is (wp_call (fn := fn29) rfl rfl fun C hC => ?_)
  dsimp only [fn29, Nat.reduceSub, List.replicate, List.cons_append, List.nil_append]
  have e1 := tuple_of (k := n) (ls.map .int) 0 200 (by omega) (by omega) (by rw [List.length_map]; omega)
  have e2 : ∀ p ∈ ls, callN Tb n 27 [.sh (.int p), .sh (.int 0), .sh (.int 1000000)] = .ok (.bool true, false, [.emp, .emp, .emp]) := fun p hp => whole p 0 1000000 (by omega) (h2 p hp).1 (h2 p hp).2
  rw [← hC] at e1 e2
  repeat first
    | (refine Wp.eq e1 ?_; try dsimp only [List.set, List.map, Mir.lend, List.getElem?_cons_zero, List.getElem?_cons_succ, List.cons_append, List.nil_append, List.foldl, Mir.lockAll, Mir.lock1, Mir.unlockAll, Mir.unlock1, Mir.restG, Mir.walked, Option.getD, Mir.look, Mir.Slot.d])
    | refine (wp_map (l := ls) (h := .int) (g := fun _ => .bool true) (by omega) fun p hp => ?_).mono fun r hr => ?_
    | refine Wp.bind ?_
    | (refine Wp.ok ?_; try dsimp only [List.set, List.map, Mir.lend, List.getElem?_cons_zero, List.getElem?_cons_succ, List.cons_append, List.nil_append, List.foldl, Mir.lockAll, Mir.lock1, Mir.unlockAll, Mir.unlock1, Mir.restG, Mir.walked, Option.getD, Mir.look, Mir.Slot.d])
    | refine Wp.noX ?_
    | refine Wp.pos (by first | assumption | exact decide_eq_true (by omega) | exact big_of ⟨by omega, by omega⟩ ⟨by omega, by omega⟩ | exact div_of (by omega) (by omega) | omega | exact beq_self_eq_true _ | rfl) ?_
    | refine Wp.neg (by first | exact fun h => absurd (of_decide_eq_true h) (by omega) | exact fun h => Bool.false_ne_true h | omega) ?_
    | rfl
  · repeat first
      | (refine Wp.eq (e2 p hp) ?_; try dsimp only [List.set, List.map, Mir.lend, List.getElem?_cons_zero, List.getElem?_cons_succ, List.cons_append, List.nil_append, List.foldl, Mir.lockAll, Mir.lock1, Mir.unlockAll, Mir.unlock1, Mir.restG, Mir.walked, Option.getD, Mir.look, Mir.Slot.d])
      | refine Wp.bind ?_
      | (refine Wp.ok ?_; try dsimp only [List.set, List.map, Mir.lend, List.getElem?_cons_zero, List.getElem?_cons_succ, List.cons_append, List.nil_append, List.foldl, Mir.lockAll, Mir.lock1, Mir.unlockAll, Mir.unlock1, Mir.restG, Mir.walked, Option.getD, Mir.look, Mir.Slot.d])
      | refine Wp.noX ?_
      | refine Wp.pos (by first | assumption | exact decide_eq_true (by omega) | exact big_of ⟨by omega, by omega⟩ ⟨by omega, by omega⟩ | exact div_of (by omega) (by omega) | omega | exact beq_self_eq_true _ | rfl) ?_
      | refine Wp.neg (by first | exact fun h => absurd (of_decide_eq_true h) (by omega) | exact fun h => Bool.false_ne_true h | omega) ?_
      | rfl
    all_goals rfl
  · subst hr
    repeat first
      | refine wp_all (bools_of ls fun _ => true) ?_
      | refine Wp.bind ?_
      | (refine Wp.ok ?_; try dsimp only [List.set, List.map, Mir.lend, List.getElem?_cons_zero, List.getElem?_cons_succ, List.cons_append, List.nil_append, List.foldl, Mir.lockAll, Mir.lock1, Mir.unlockAll, Mir.unlock1, Mir.restG, Mir.walked, Option.getD, Mir.look, Mir.Slot.d])
      | refine Wp.noX ?_
      | refine Wp.pos (by first | assumption | exact decide_eq_true (by omega) | exact big_of ⟨by omega, by omega⟩ ⟨by omega, by omega⟩ | exact div_of (by omega) (by omega) | omega | exact beq_self_eq_true _ | rfl) ?_
      | refine Wp.neg (by first | exact fun h => absurd (of_decide_eq_true h) (by omega) | exact fun h => Bool.false_ne_true h | omega) ?_
      | rfl
    rw [all_true]
    all_goals rfl
theorem need_loads {k : Nat} {ls : List Int} (hk : 3 ≤ k) (h : LdOk ls) : callN Tb k 23 [.sh (loadsD ls)] = .ok (.none, false, [.emp]) := by
  obtain ⟨n, rfl⟩ : ∃ n, k = n + 1 := ⟨k - 1, by omega⟩
  refine Wp.is (wp_call (fn := fn23) rfl rfl fun C hC => ?_)
  dsimp only [fn23, Nat.reduceSub, List.replicate, List.cons_append, List.nil_append]
  have e1 := are_loads_in (k := n) (by omega) h
  rw [← hC] at e1
  repeat first
    | (refine Wp.eq e1 ?_; try dsimp only [List.set, List.map, Mir.lend, List.getElem?_cons_zero, List.getElem?_cons_succ, List.cons_append, List.nil_append, List.foldl, Mir.lockAll, Mir.lock1, Mir.unlockAll, Mir.unlock1, Mir.restG, Mir.walked, Option.getD, Mir.look, Mir.Slot.d])
    | refine Wp.bind ?_
    | (refine Wp.ok ?_; try dsimp only [List.set, List.map, Mir.lend, List.getElem?_cons_zero, List.getElem?_cons_succ, List.cons_append, List.nil_append, List.foldl, Mir.lockAll, Mir.lock1, Mir.unlockAll, Mir.unlock1, Mir.restG, Mir.walked, Option.getD, Mir.look, Mir.Slot.d])
    | refine Wp.noX ?_
    | refine Wp.pos (by first | assumption | exact decide_eq_true (by omega) | exact big_of ⟨by omega, by omega⟩ ⟨by omega, by omega⟩ | exact div_of (by omega) (by omega) | omega | exact beq_self_eq_true _ | rfl) ?_
    | refine Wp.neg (by first | exact fun h => absurd (of_decide_eq_true h) (by omega) | exact fun h => Bool.false_ne_true h | omega) ?_
    | rfl
  all_goals rfl
/-- sums of the first ones -/
def pre : Int → List Int → List Int
  | _, [] => []
  | a, x :: xs => (a + x) :: pre (a + x) xs
def tops (ls : List Int) : List Int := 0 :: pre 0 (sortI ls).reverse
theorem pre_snoc (d : List Int) : ∀ (a x : Int), pre a (d ++ [x]) = pre a d ++ [a + d.sum + x] := by
  induction d with
  | nil => intro a x; simp [pre]
  | cons y d ih =>
    intro a x
    show (a + y) :: pre (a + y) (d ++ [x]) = (a + y) :: pre (a + y) d ++ [a + (y :: d).sum + x]
    rw [ih, List.sum_cons]
    have e : a + y + d.sum + x = a + (y + d.sum) + x := by omega
    rw [e]
    all_goals rfl
theorem pre_len (d : List Int) : ∀ a : Int, (pre a d).length = d.length := by
  induction d with
  | nil => intro a; rfl
  | cons y d ih => intro a; show (pre (a + y) d).length + 1 = _; rw [ih]; rfl
theorem sort_len (ls : List Int) : (sortI ls).length = ls.length := (sort_perm ls).length_eq
def tp (ls : List Int) (j : Nat) : Int := ((sortI ls).drop (ls.length - j)).sum
theorem pre_get (d : List Int) : ∀ (a : Int) (j : Nat), j < d.length → (pre a d)[j]? = some (a + (d.take (j + 1)).sum) := by
  induction d with
  | nil => intro a j h; simp at h
  | cons y d ih =>
    intro a j h
    cases j with
    | zero => simp [pre]
    | succ j =>
      show (pre (a + y) d)[j]? = _
      rw [ih (a + y) j (by simpa using h), List.take_succ_cons, List.sum_cons, Int.add_assoc]
theorem sum_rev (l : List Int) : l.reverse.sum = l.sum := l.sum_reverse
theorem tops_get {ls : List Int} {j : Nat} (h : j ≤ ls.length) : (tops ls)[j]? = some (tp ls j) := by
  unfold tops tp
  cases j with
  | zero =>
    have z : (sortI ls).drop (ls.length - 0) = [] := by rw [Nat.sub_zero]; exact List.drop_eq_nil_of_le (by rw [sort_len]; exact Nat.le_refl _)
    rw [z]
    all_goals rfl
  | succ j =>
    rw [List.getElem?_cons_succ, pre_get _ _ _ (by rw [List.length_reverse, sort_len]; omega), Int.zero_add, List.take_reverse, sort_len, sum_rev]
theorem cut_from {xs : List D} {i : Nat} (h : i ≤ xs.length) : cut xs (some (i : Int)) none = xs.drop i := by
  unfold cut
  have a : HT.sIx xs.length 0 (some (i : Int)) = i := by
    rw [HT.sIx_nat]
    exact Nat.min_eq_left h
  have b : HT.sIx xs.length xs.length none = xs.length := rfl
  rw [a, b, List.take_of_length_le (by rw [List.length_drop]; exact Nat.le_refl _)]
end Law

set_option Elab.async false
set_option autoImplicit false
set_option linter.all false
set_option maxRecDepth 100000
set_option maxHeartbeats 2000000
namespace Law
open PySem Mir
/-! ## alike -/
theorem sort_none {k : Nat} (hk : 1 ≤ k) : callN Tb k 14 [.sh .none] = .ok (.int 0, false, [.emp]) := by
  obtain ⟨n, rfl⟩ : ∃ n, k = n + 1 := ⟨k - 1, by omega⟩
  refine Wp.is (wp_call (fn := fn14) rfl rfl fun C hC => ?_)
  dsimp only [fn14, Nat.reduceSub, List.replicate, List.cons_append, List.nil_append]
  repeat first
    | refine Wp.bind ?_
    | (refine Wp.ok ?_; try dsimp only [List.set, List.map, Mir.lend, List.getElem?_cons_zero, List.getElem?_cons_succ, List.cons_append, List.nil_append, List.foldl, Mir.lockAll, Mir.lock1, Mir.unlockAll, Mir.unlock1, Mir.restG, Mir.walked, Option.getD, Mir.look, Mir.Slot.d])
    | refine Wp.noX ?_
    | refine Wp.pos (by first | assumption | exact decide_eq_true (by omega) | exact big_of ⟨by omega, by omega⟩ ⟨by omega, by omega⟩ | exact div_of (by omega) (by omega) | omega | exact beq_self_eq_true _ | rfl) ?_
    | refine Wp.neg (by first | exact fun h => absurd (of_decide_eq_true h) (by omega) | exact fun h => Bool.false_ne_true h | omega) ?_
    | rfl
  all_goals rfl
theorem sort_bool {k : Nat} {b : Bool} (hk : 1 ≤ k) : callN Tb k 14 [.sh (.bool b)] = .ok (.int 1, false, [.emp]) := by
  obtain ⟨n, rfl⟩ : ∃ n, k = n + 1 := ⟨k - 1, by omega⟩
  refine Wp.is (wp_call (fn := fn14) rfl rfl fun C hC => ?_)
  dsimp only [fn14, Nat.reduceSub, List.replicate, List.cons_append, List.nil_append]
  repeat first
    | refine Wp.bind ?_
    | (refine Wp.ok ?_; try dsimp only [List.set, List.map, Mir.lend, List.getElem?_cons_zero, List.getElem?_cons_succ, List.cons_append, List.nil_append, List.foldl, Mir.lockAll, Mir.lock1, Mir.unlockAll, Mir.unlock1, Mir.restG, Mir.walked, Option.getD, Mir.look, Mir.Slot.d])
    | refine Wp.noX ?_
    | refine Wp.pos (by first | assumption | exact decide_eq_true (by omega) | exact big_of ⟨by omega, by omega⟩ ⟨by omega, by omega⟩ | exact div_of (by omega) (by omega) | omega | exact beq_self_eq_true _ | rfl) ?_
    | refine Wp.neg (by first | exact fun h => absurd (of_decide_eq_true h) (by omega) | exact fun h => Bool.false_ne_true h | omega) ?_
    | rfl
  all_goals rfl
theorem sort_int {k : Nat} {i : Int} (hk : 1 ≤ k) : callN Tb k 14 [.sh (.int i)] = .ok (.int 2, false, [.emp]) := by
  obtain ⟨n, rfl⟩ : ∃ n, k = n + 1 := ⟨k - 1, by omega⟩
  refine Wp.is (wp_call (fn := fn14) rfl rfl fun C hC => ?_)
  dsimp only [fn14, Nat.reduceSub, List.replicate, List.cons_append, List.nil_append]
  repeat first
    | refine Wp.bind ?_
    | (refine Wp.ok ?_; try dsimp only [List.set, List.map, Mir.lend, List.getElem?_cons_zero, List.getElem?_cons_succ, List.cons_append, List.nil_append, List.foldl, Mir.lockAll, Mir.lock1, Mir.unlockAll, Mir.unlock1, Mir.restG, Mir.walked, Option.getD, Mir.look, Mir.Slot.d])
    | refine Wp.noX ?_
    | refine Wp.pos (by first | assumption | exact decide_eq_true (by omega) | exact big_of ⟨by omega, by omega⟩ ⟨by omega, by omega⟩ | exact div_of (by omega) (by omega) | omega | exact beq_self_eq_true _ | rfl) ?_
    | refine Wp.neg (by first | exact fun h => absurd (of_decide_eq_true h) (by omega) | exact fun h => Bool.false_ne_true h | omega) ?_
    | rfl
  all_goals rfl
theorem sort_tup {k : Nat} {xs : List D} (hk : 1 ≤ k) : callN Tb k 14 [.sh (.tup xs)] = .ok (.int 4, false, [.emp]) := by
  obtain ⟨n, rfl⟩ : ∃ n, k = n + 1 := ⟨k - 1, by omega⟩
  refine Wp.is (wp_call (fn := fn14) rfl rfl fun C hC => ?_)
  dsimp only [fn14, Nat.reduceSub, List.replicate, List.cons_append, List.nil_append]
  repeat first
    | refine Wp.bind ?_
    | (refine Wp.ok ?_; try dsimp only [List.set, List.map, Mir.lend, List.getElem?_cons_zero, List.getElem?_cons_succ, List.cons_append, List.nil_append, List.foldl, Mir.lockAll, Mir.lock1, Mir.unlockAll, Mir.unlock1, Mir.restG, Mir.walked, Option.getD, Mir.look, Mir.Slot.d])
    | refine Wp.noX ?_
    | refine Wp.pos (by first | assumption | exact decide_eq_true (by omega) | exact big_of ⟨by omega, by omega⟩ ⟨by omega, by omega⟩ | exact div_of (by omega) (by omega) | omega | exact beq_self_eq_true _ | rfl) ?_
    | refine Wp.neg (by first | exact fun h => absurd (of_decide_eq_true h) (by omega) | exact fun h => Bool.false_ne_true h | omega) ?_
    | rfl
  all_goals rfl
theorem sort_list {k : Nat} {xs : List D} (hk : 1 ≤ k) : callN Tb k 14 [.sh (.list xs)] = .ok (.int 5, false, [.emp]) := by
  obtain ⟨n, rfl⟩ : ∃ n, k = n + 1 := ⟨k - 1, by omega⟩
  refine Wp.is (wp_call (fn := fn14) rfl rfl fun C hC => ?_)
  dsimp only [fn14, Nat.reduceSub, List.replicate, List.cons_append, List.nil_append]
  repeat first
    | refine Wp.bind ?_
    | (refine Wp.ok ?_; try dsimp only [List.set, List.map, Mir.lend, List.getElem?_cons_zero, List.getElem?_cons_succ, List.cons_append, List.nil_append, List.foldl, Mir.lockAll, Mir.lock1, Mir.unlockAll, Mir.unlock1, Mir.restG, Mir.walked, Option.getD, Mir.look, Mir.Slot.d])
    | refine Wp.noX ?_
    | refine Wp.pos (by first | assumption | exact decide_eq_true (by omega) | exact big_of ⟨by omega, by omega⟩ ⟨by omega, by omega⟩ | exact div_of (by omega) (by omega) | omega | exact beq_self_eq_true _ | rfl) ?_
    | refine Wp.neg (by first | exact fun h => absurd (of_decide_eq_true h) (by omega) | exact fun h => Bool.false_ne_true h | omega) ?_
    | rfl
  all_goals rfl
theorem sort_li {k : Nat} {xs : List D} (hk : 1 ≤ k) : callN Tb k 14 [.li xs true .own] = .ok (.int 5, false, [.li xs true .own]) := by
  obtain ⟨n, rfl⟩ : ∃ n, k = n + 1 := ⟨k - 1, by omega⟩
  refine Wp.is (wp_call (fn := fn14) rfl rfl fun C hC => ?_)
  dsimp only [fn14, Nat.reduceSub, List.replicate, List.cons_append, List.nil_append]
  repeat first
    | refine Wp.bind ?_
    | (refine Wp.ok ?_; try dsimp only [List.set, List.map, Mir.lend, List.getElem?_cons_zero, List.getElem?_cons_succ, List.cons_append, List.nil_append, List.foldl, Mir.lockAll, Mir.lock1, Mir.unlockAll, Mir.unlock1, Mir.restG, Mir.walked, Option.getD, Mir.look, Mir.Slot.d])
    | refine Wp.noX ?_
    | refine Wp.pos (by first | assumption | exact decide_eq_true (by omega) | exact big_of ⟨by omega, by omega⟩ ⟨by omega, by omega⟩ | exact div_of (by omega) (by omega) | omega | exact beq_self_eq_true _ | rfl) ?_
    | refine Wp.neg (by first | exact fun h => absurd (of_decide_eq_true h) (by omega) | exact fun h => Bool.false_ne_true h | omega) ?_
    | rfl
  all_goals rfl
def LkOk : Nat → D → Prop
  | 0, .none => True
  | 0, .bool _ => True
  | 0, .int _ => True
  | 0, _ => False
  | _ + 1, .none => True
  | _ + 1, .bool _ => True
  | _ + 1, .int _ => True
  | n + 1, .list xs => ∀ x ∈ xs, LkOk n x
  | n + 1, .tup xs => ∀ x ∈ xs, LkOk n x
  | _ + 1, _ => False
theorem like_none {k : Nat} (hk : 2 ≤ k) : callN Tb k 5 [.sh .none, .sh .none] = .ok (.bool true, false, [.emp, .emp]) := by
  obtain ⟨n, rfl⟩ : ∃ n, k = n + 1 := ⟨k - 1, by omega⟩
  refine Wp.is (wp_call (fn := fn5) rfl rfl fun C hC => ?_)
  dsimp only [fn5, Nat.reduceSub, List.replicate, List.cons_append, List.nil_append]
  have e1 := sort_none (k := n) (by omega)
  rw [← hC] at e1
  repeat first
    | (refine Wp.eq e1 ?_; try dsimp only [List.set, List.map, Mir.lend, List.getElem?_cons_zero, List.getElem?_cons_succ, List.cons_append, List.nil_append, List.foldl, Mir.lockAll, Mir.lock1, Mir.unlockAll, Mir.unlock1, Mir.restG, Mir.walked, Option.getD, Mir.look, Mir.Slot.d])
    | refine Wp.bind ?_
    | (refine Wp.ok ?_; try dsimp only [List.set, List.map, Mir.lend, List.getElem?_cons_zero, List.getElem?_cons_succ, List.cons_append, List.nil_append, List.foldl, Mir.lockAll, Mir.lock1, Mir.unlockAll, Mir.unlock1, Mir.restG, Mir.walked, Option.getD, Mir.look, Mir.Slot.d])
    | refine Wp.noX ?_
    | refine Wp.pos (by first | assumption | exact decide_eq_true (by omega) | exact big_of ⟨by omega, by omega⟩ ⟨by omega, by omega⟩ | exact div_of (by omega) (by omega) | omega | exact beq_self_eq_true _ | rfl) ?_
    | refine Wp.neg (by first | exact fun h => absurd (of_decide_eq_true h) (by omega) | exact fun h => Bool.false_ne_true h | omega) ?_
    | rfl
  all_goals rfl
theorem like_bool {k : Nat} {b : Bool} (hk : 2 ≤ k) : callN Tb k 5 [.sh (.bool b), .sh (.bool b)] = .ok (.bool true, false, [.emp, .emp]) := by
  obtain ⟨n, rfl⟩ : ∃ n, k = n + 1 := ⟨k - 1, by omega⟩
  refine Wp.is (wp_call (fn := fn5) rfl rfl fun C hC => ?_)
  dsimp only [fn5, Nat.reduceSub, List.replicate, List.cons_append, List.nil_append]
  have e1 := sort_bool (k := n) (b := b) (by omega)
  rw [← hC] at e1
  repeat first
    | (refine Wp.eq e1 ?_; try dsimp only [List.set, List.map, Mir.lend, List.getElem?_cons_zero, List.getElem?_cons_succ, List.cons_append, List.nil_append, List.foldl, Mir.lockAll, Mir.lock1, Mir.unlockAll, Mir.unlock1, Mir.restG, Mir.walked, Option.getD, Mir.look, Mir.Slot.d])
    | refine Wp.bind ?_
    | (refine Wp.ok ?_; try dsimp only [List.set, List.map, Mir.lend, List.getElem?_cons_zero, List.getElem?_cons_succ, List.cons_append, List.nil_append, List.foldl, Mir.lockAll, Mir.lock1, Mir.unlockAll, Mir.unlock1, Mir.restG, Mir.walked, Option.getD, Mir.look, Mir.Slot.d])
    | refine Wp.noX ?_
    | refine Wp.pos (by first | assumption | exact decide_eq_true (by omega) | exact big_of ⟨by omega, by omega⟩ ⟨by omega, by omega⟩ | exact div_of (by omega) (by omega) | omega | exact beq_self_eq_true _ | rfl) ?_
    | refine Wp.neg (by first | exact fun h => absurd (of_decide_eq_true h) (by omega) | exact fun h => Bool.false_ne_true h | omega) ?_
    | rfl
  cases b <;> rfl
theorem like_int {k : Nat} {i : Int} (hk : 2 ≤ k) : callN Tb k 5 [.sh (.int i), .sh (.int i)] = .ok (.bool true, false, [.emp, .emp]) := by
  obtain ⟨n, rfl⟩ : ∃ n, k = n + 1 := ⟨k - 1, by omega⟩
  refine Wp.is (wp_call (fn := fn5) rfl rfl fun C hC => ?_)
  dsimp only [fn5, Nat.reduceSub, List.replicate, List.cons_append, List.nil_append]
  have e1 := sort_int (k := n) (i := i) (by omega)
  rw [← hC] at e1
  repeat first
    | (refine Wp.eq e1 ?_; try dsimp only [List.set, List.map, Mir.lend, List.getElem?_cons_zero, List.getElem?_cons_succ, List.cons_append, List.nil_append, List.foldl, Mir.lockAll, Mir.lock1, Mir.unlockAll, Mir.unlock1, Mir.restG, Mir.walked, Option.getD, Mir.look, Mir.Slot.d])
    | refine Wp.bind ?_
    | (refine Wp.ok ?_; try dsimp only [List.set, List.map, Mir.lend, List.getElem?_cons_zero, List.getElem?_cons_succ, List.cons_append, List.nil_append, List.foldl, Mir.lockAll, Mir.lock1, Mir.unlockAll, Mir.unlock1, Mir.restG, Mir.walked, Option.getD, Mir.look, Mir.Slot.d])
    | refine Wp.noX ?_
    | refine Wp.pos (by first | assumption | exact decide_eq_true (by omega) | exact big_of ⟨by omega, by omega⟩ ⟨by omega, by omega⟩ | exact div_of (by omega) (by omega) | omega | exact beq_self_eq_true _ | rfl) ?_
    | refine Wp.neg (by first | exact fun h => absurd (of_decide_eq_true h) (by omega) | exact fun h => Bool.false_ne_true h | omega) ?_
    | rfl
  show (D.bool (i == i), _, _) = _
  rw [beq_self_eq_true]
  all_goals rfl
theorem like_sh : ∀ (j : Nat) (d : D) (k : Nat), LkOk j d → j + 2 ≤ k → callN Tb k 5 [.sh d, .sh d] = .ok (.bool true, false, [.emp, .emp])
  | 0, .none, k, _, hk => like_none hk
  | 0, .bool _, k, _, hk => like_bool hk
  | 0, .int _, k, _, hk => like_int hk
  | 0, .str _, k, h, _ => h.elim
  | 0, .list _, k, h, _ => h.elim
  | 0, .tup _, k, h, _ => h.elim
  | 0, .fn _, k, h, _ => h.elim
  | 0, .scr _, k, h, _ => h.elim
  | j + 1, .none, k, _, hk => like_none (by omega)
  | j + 1, .bool _, k, _, hk => like_bool (by omega)
  | j + 1, .int _, k, _, hk => like_int (by omega)
  | j + 1, .str _, k, h, _ => h.elim
  | j + 1, .fn _, k, h, _ => h.elim
  | j + 1, .scr _, k, h, _ => h.elim
  | j + 1, .list xs, k, h, hk => by
    obtain ⟨n, rfl⟩ : ∃ n, k = n + 1 := ⟨k - 1, by omega⟩
    refine Wp.is (wp_call (fn := fn5) rfl rfl fun C hC => ?_)
    dsimp only [fn5, Nat.reduceSub, List.replicate, List.cons_append, List.nil_append]
    have e1 := sort_list (k := n) (xs := xs) (by omega)
    have e2 : ∀ a ∈ xs, callN Tb n 5 [.sh a, .sh a] = .ok (.bool true, false, [.emp, .emp]) := fun a ha => like_sh j a n (h a ha) (by omega)
    rw [← hC] at e1 e2
    repeat first
      | (refine Wp.eq e1 ?_; try dsimp only [List.set, List.map, Mir.lend, List.getElem?_cons_zero, List.getElem?_cons_succ, List.cons_append, List.nil_append, List.foldl, Mir.lockAll, Mir.lock1, Mir.unlockAll, Mir.unlock1, Mir.restG, Mir.walked, Option.getD, Mir.look, Mir.Slot.d])
      | refine (wp_zipS (l := xs) fun a ha => ?_).mono fun r hr => ?_
      | refine Wp.bind ?_
      | (refine Wp.ok ?_; try dsimp only [List.set, List.map, Mir.lend, List.getElem?_cons_zero, List.getElem?_cons_succ, List.cons_append, List.nil_append, List.foldl, Mir.lockAll, Mir.lock1, Mir.unlockAll, Mir.unlock1, Mir.restG, Mir.walked, Option.getD, Mir.look, Mir.Slot.d])
      | refine Wp.noX ?_
      | refine Wp.pos (by first | assumption | exact decide_eq_true (by omega) | exact big_of ⟨by omega, by omega⟩ ⟨by omega, by omega⟩ | exact div_of (by omega) (by omega) | omega | exact beq_self_eq_true _ | rfl) ?_
      | refine Wp.neg (by first | exact fun h => absurd (of_decide_eq_true h) (by omega) | exact fun h => Bool.false_ne_true h | omega) ?_
      | rfl
    · repeat first
        | (refine Wp.eq (e2 a ha) ?_; try dsimp only [List.set, List.map, Mir.lend, List.getElem?_cons_zero, List.getElem?_cons_succ, List.cons_append, List.nil_append, List.foldl, Mir.lockAll, Mir.lock1, Mir.unlockAll, Mir.unlock1, Mir.restG, Mir.walked, Option.getD, Mir.look, Mir.Slot.d])
        | refine Wp.bind ?_
        | (refine Wp.ok ?_; try dsimp only [List.set, List.map, Mir.lend, List.getElem?_cons_zero, List.getElem?_cons_succ, List.cons_append, List.nil_append, List.foldl, Mir.lockAll, Mir.lock1, Mir.unlockAll, Mir.unlock1, Mir.restG, Mir.walked, Option.getD, Mir.look, Mir.Slot.d])
        | refine Wp.noX ?_
        | refine Wp.pos (by first | assumption | exact decide_eq_true (by omega) | exact big_of ⟨by omega, by omega⟩ ⟨by omega, by omega⟩ | exact div_of (by omega) (by omega) | omega | exact beq_self_eq_true _ | rfl) ?_
        | refine Wp.neg (by first | exact fun h => absurd (of_decide_eq_true h) (by omega) | exact fun h => Bool.false_ne_true h | omega) ?_
        | rfl
      all_goals rfl
    · subst hr
      repeat first
        | refine Wp.bind ?_
        | (refine Wp.ok ?_; try dsimp only [List.set, List.map, Mir.lend, List.getElem?_cons_zero, List.getElem?_cons_succ, List.cons_append, List.nil_append, List.foldl, Mir.lockAll, Mir.lock1, Mir.unlockAll, Mir.unlock1, Mir.restG, Mir.walked, Option.getD, Mir.look, Mir.Slot.d])
        | refine Wp.noX ?_
        | refine Wp.pos (by first | assumption | exact decide_eq_true (by omega) | exact big_of ⟨by omega, by omega⟩ ⟨by omega, by omega⟩ | exact div_of (by omega) (by omega) | omega | exact beq_self_eq_true _ | rfl) ?_
        | refine Wp.neg (by first | exact fun h => absurd (of_decide_eq_true h) (by omega) | exact fun h => Bool.false_ne_true h | omega) ?_
        | rfl
      all_goals rfl
  | j + 1, .tup xs, k, h, hk => by
    obtain ⟨n, rfl⟩ : ∃ n, k = n + 1 := ⟨k - 1, by omega⟩
    refine Wp.is (wp_call (fn := fn5) rfl rfl fun C hC => ?_)
    dsimp only [fn5, Nat.reduceSub, List.replicate, List.cons_append, List.nil_append]
    have e1 := sort_tup (k := n) (xs := xs) (by omega)
    have e2 : ∀ a ∈ xs, callN Tb n 5 [.sh a, .sh a] = .ok (.bool true, false, [.emp, .emp]) := fun a ha => like_sh j a n (h a ha) (by omega)
    rw [← hC] at e1 e2
    repeat first
      | (refine Wp.eq e1 ?_; try dsimp only [List.set, List.map, Mir.lend, List.getElem?_cons_zero, List.getElem?_cons_succ, List.cons_append, List.nil_append, List.foldl, Mir.lockAll, Mir.lock1, Mir.unlockAll, Mir.unlock1, Mir.restG, Mir.walked, Option.getD, Mir.look, Mir.Slot.d])
      | refine (wp_zipS (l := xs) fun a ha => ?_).mono fun r hr => ?_
      | refine Wp.bind ?_
      | (refine Wp.ok ?_; try dsimp only [List.set, List.map, Mir.lend, List.getElem?_cons_zero, List.getElem?_cons_succ, List.cons_append, List.nil_append, List.foldl, Mir.lockAll, Mir.lock1, Mir.unlockAll, Mir.unlock1, Mir.restG, Mir.walked, Option.getD, Mir.look, Mir.Slot.d])
      | refine Wp.noX ?_
      | refine Wp.pos (by first | assumption | exact decide_eq_true (by omega) | exact big_of ⟨by omega, by omega⟩ ⟨by omega, by omega⟩ | exact div_of (by omega) (by omega) | omega | exact beq_self_eq_true _ | rfl) ?_
      | refine Wp.neg (by first | exact fun h => absurd (of_decide_eq_true h) (by omega) | exact fun h => Bool.false_ne_true h | omega) ?_
      | rfl
    · repeat first
        | (refine Wp.eq (e2 a ha) ?_; try dsimp only [List.set, List.map, Mir.lend, List.getElem?_cons_zero, List.getElem?_cons_succ, List.cons_append, List.nil_append, List.foldl, Mir.lockAll, Mir.lock1, Mir.unlockAll, Mir.unlock1, Mir.restG, Mir.walked, Option.getD, Mir.look, Mir.Slot.d])
        | refine Wp.bind ?_
        | (refine Wp.ok ?_; try dsimp only [List.set, List.map, Mir.lend, List.getElem?_cons_zero, List.getElem?_cons_succ, List.cons_append, List.nil_append, List.foldl, Mir.lockAll, Mir.lock1, Mir.unlockAll, Mir.unlock1, Mir.restG, Mir.walked, Option.getD, Mir.look, Mir.Slot.d])
        | refine Wp.noX ?_
        | refine Wp.pos (by first | assumption | exact decide_eq_true (by omega) | exact big_of ⟨by omega, by omega⟩ ⟨by omega, by omega⟩ | exact div_of (by omega) (by omega) | omega | exact beq_self_eq_true _ | rfl) ?_
        | refine Wp.neg (by first | exact fun h => absurd (of_decide_eq_true h) (by omega) | exact fun h => Bool.false_ne_true h | omega) ?_
        | rfl
      all_goals rfl
    · subst hr
      repeat first
        | refine Wp.bind ?_
        | (refine Wp.ok ?_; try dsimp only [List.set, List.map, Mir.lend, List.getElem?_cons_zero, List.getElem?_cons_succ, List.cons_append, List.nil_append, List.foldl, Mir.lockAll, Mir.lock1, Mir.unlockAll, Mir.unlock1, Mir.restG, Mir.walked, Option.getD, Mir.look, Mir.Slot.d])
        | refine Wp.noX ?_
        | refine Wp.pos (by first | assumption | exact decide_eq_true (by omega) | exact big_of ⟨by omega, by omega⟩ ⟨by omega, by omega⟩ | exact div_of (by omega) (by omega) | omega | exact beq_self_eq_true _ | rfl) ?_
        | refine Wp.neg (by first | exact fun h => absurd (of_decide_eq_true h) (by omega) | exact fun h => Bool.false_ne_true h | omega) ?_
        | rfl
      all_goals rfl
/-! ## what is drawn -/
theorem some_of (c0 c1 a b c : Int) (hc : CupOk c0 c1) : ∃ x d0 d1, (x = a ∨ x = b ∨ x = c) ∧ CupOk d0 d1 ∧ ∀ k, 2 ≤ k → callN Tb k 21 [cupS c0 c1, .li [.int a, .int b, .int c] true .own] = .ok (.int x, false, [cupS d0 d1, .li [.int a, .int b, .int c] true .own]) := by
  obtain ⟨r, d0, d1, r0, r1, ok, er⟩ := roll c0 c1 3 hc (by decide) (by decide)
  have hr : r = 0 ∨ r = 1 ∨ r = 2 := by omega
  have key : ∀ x : Int, [D.int a, D.int b, D.int c][r.toNat]? = some (.int x) → ∀ k, 2 ≤ k → callN Tb k 21 [cupS c0 c1, .li [.int a, .int b, .int c] true .own] = .ok (.int x, false, [cupS d0 d1, .li [.int a, .int b, .int c] true .own]) := fun x hx k hk => by
    obtain ⟨n, rfl⟩ : ∃ n, k = n + 1 := ⟨k - 1, by omega⟩
    refine Wp.is (wp_call (fn := fn21) rfl rfl fun C hC => ?_)
    dsimp only [fn21, Nat.reduceSub, List.replicate, List.cons_append, List.nil_append]
    have e1 := er n (by omega)
    have e2 := ix_at r0 hx
    rw [← hC] at e1
    repeat first
      | (refine Wp.eq e1 ?_; try dsimp only [List.set, List.map, Mir.lend, List.getElem?_cons_zero, List.getElem?_cons_succ, List.cons_append, List.nil_append, List.foldl, Mir.lockAll, Mir.lock1, Mir.unlockAll, Mir.unlock1, Mir.restG, Mir.walked, Option.getD, Mir.look, Mir.Slot.d])
      | (refine Wp.eq e2 ?_; try dsimp only [List.set, List.map, Mir.lend, List.getElem?_cons_zero, List.getElem?_cons_succ, List.cons_append, List.nil_append, List.foldl, Mir.lockAll, Mir.lock1, Mir.unlockAll, Mir.unlock1, Mir.restG, Mir.walked, Option.getD, Mir.look, Mir.Slot.d])
      | refine Wp.bind ?_
      | (refine Wp.ok ?_; try dsimp only [List.set, List.map, Mir.lend, List.getElem?_cons_zero, List.getElem?_cons_succ, List.cons_append, List.nil_append, List.foldl, Mir.lockAll, Mir.lock1, Mir.unlockAll, Mir.unlock1, Mir.restG, Mir.walked, Option.getD, Mir.look, Mir.Slot.d])
      | refine Wp.noX ?_
      | refine Wp.pos (by first | assumption | exact decide_eq_true (by omega) | exact big_of ⟨by omega, by omega⟩ ⟨by omega, by omega⟩ | exact div_of (by omega) (by omega) | omega | exact beq_self_eq_true _ | rfl) ?_
      | refine Wp.neg (by first | exact fun h => absurd (of_decide_eq_true h) (by omega) | exact fun h => Bool.false_ne_true h | omega) ?_
      | rfl
    all_goals rfl
  rcases hr with rfl | rfl | rfl
  · exact ⟨a, d0, d1, .inl rfl, ok, key a rfl⟩
  · exact ⟨b, d0, d1, .inr (.inl rfl), ok, key b rfl⟩
  · exact ⟨c, d0, d1, .inr (.inr rfl), ok, key c rfl⟩
end Law

set_option Elab.async false
set_option autoImplicit false
set_option linter.all false
set_option maxRecDepth 100000
set_option maxHeartbeats 2000000
namespace Law
open PySem Mir
theorem like_li {j : Nat} {xs : List D} {k : Nat} (h : ∀ x ∈ xs, LkOk j x) (hk : j + 3 ≤ k) : callN Tb k 5 [.li xs true .own, .li xs true .own] = .ok (.bool true, false, [.li xs true .own, .li xs true .own]) := by
  obtain ⟨n, rfl⟩ : ∃ n, k = n + 1 := ⟨k - 1, by omega⟩
  refine Wp.is (wp_call (fn := fn5) rfl rfl fun C hC => ?_)
  dsimp only [fn5, Nat.reduceSub, List.replicate, List.cons_append, List.nil_append]
  have e1 := sort_li (k := n) (xs := xs) (by omega)
  have e2 : ∀ a ∈ xs, callN Tb n 5 [.sh a, .sh a] = .ok (.bool true, false, [.emp, .emp]) := fun a ha => like_sh j a n (h a ha) (by omega)
  rw [← hC] at e1 e2
  repeat first
    | (refine Wp.eq e1 ?_; try dsimp only [List.set, List.map, Mir.lend, List.getElem?_cons_zero, List.getElem?_cons_succ, List.cons_append, List.nil_append, List.foldl, Mir.lockAll, Mir.lock1, Mir.unlockAll, Mir.unlock1, Mir.restG, Mir.walked, Option.getD, Mir.look, Mir.Slot.d])
    | refine (wp_zipS (l := xs) fun a ha => ?_).mono fun r hr => ?_
    | refine Wp.bind ?_
    | (refine Wp.ok ?_; try dsimp only [List.set, List.map, Mir.lend, List.getElem?_cons_zero, List.getElem?_cons_succ, List.cons_append, List.nil_append, List.foldl, Mir.lockAll, Mir.lock1, Mir.unlockAll, Mir.unlock1, Mir.restG, Mir.walked, Option.getD, Mir.look, Mir.Slot.d])
    | refine Wp.noX ?_
    | refine Wp.pos (by first | assumption | exact decide_eq_true (by omega) | exact big_of ⟨by omega, by omega⟩ ⟨by omega, by omega⟩ | exact div_of (by omega) (by omega) | omega | exact beq_self_eq_true _ | rfl) ?_
    | refine Wp.neg (by first | exact fun h => absurd (of_decide_eq_true h) (by omega) | exact fun h => Bool.false_ne_true h | omega) ?_
    | rfl
  · repeat first
      | (refine Wp.eq (e2 a ha) ?_; try dsimp only [List.set, List.map, Mir.lend, List.getElem?_cons_zero, List.getElem?_cons_succ, List.cons_append, List.nil_append, List.foldl, Mir.lockAll, Mir.lock1, Mir.unlockAll, Mir.unlock1, Mir.restG, Mir.walked, Option.getD, Mir.look, Mir.Slot.d])
      | refine Wp.bind ?_
      | (refine Wp.ok ?_; try dsimp only [List.set, List.map, Mir.lend, List.getElem?_cons_zero, List.getElem?_cons_succ, List.cons_append, List.nil_append, List.foldl, Mir.lockAll, Mir.lock1, Mir.unlockAll, Mir.unlock1, Mir.restG, Mir.walked, Option.getD, Mir.look, Mir.Slot.d])
      | refine Wp.noX ?_
      | refine Wp.pos (by first | assumption | exact decide_eq_true (by omega) | exact big_of ⟨by omega, by omega⟩ ⟨by omega, by omega⟩ | exact div_of (by omega) (by omega) | omega | exact beq_self_eq_true _ | rfl) ?_
      | refine Wp.neg (by first | exact fun h => absurd (of_decide_eq_true h) (by omega) | exact fun h => Bool.false_ne_true h | omega) ?_
      | rfl
    all_goals rfl
  · subst hr
    repeat first
      | refine Wp.bind ?_
      | (refine Wp.ok ?_; try dsimp only [List.set, List.map, Mir.lend, List.getElem?_cons_zero, List.getElem?_cons_succ, List.cons_append, List.nil_append, List.foldl, Mir.lockAll, Mir.lock1, Mir.unlockAll, Mir.unlock1, Mir.restG, Mir.walked, Option.getD, Mir.look, Mir.Slot.d])
      | refine Wp.noX ?_
      | refine Wp.pos (by first | assumption | exact decide_eq_true (by omega) | exact big_of ⟨by omega, by omega⟩ ⟨by omega, by omega⟩ | exact div_of (by omega) (by omega) | omega | exact beq_self_eq_true _ | rfl) ?_
      | refine Wp.neg (by first | exact fun h => absurd (of_decide_eq_true h) (by omega) | exact fun h => Bool.false_ne_true h | omega) ?_
      | rfl
    all_goals rfl
theorem like_ints (k : Nat) (hk : 3 ≤ k) (ns : List Int) : callN Tb k 5 [.li (ns.map .int) true .own, .li (ns.map .int) true .own] = .ok (.bool true, false, [.li (ns.map .int) true .own, .li (ns.map .int) true .own]) := like_li (j := 0) (fun x hx => by
  obtain ⟨i, _, rfl⟩ := List.mem_map.mp hx
  trivial) hk
theorem loads_of (h m c0 c1 : Int) (hh : 0 ≤ h ∧ h ≤ 1000) (hm : 0 ≤ m ∧ m ≤ 2 ^ 40) (hc : CupOk c0 c1) : ∃ (ls : List Int) (d0 d1 : Int), (ls.length ≤ h ∧ ∀ l ∈ ls, 0 ≤ l ∧ l ≤ m) ∧ CupOk d0 d1 ∧ ∀ k, 3 ≤ k → callN Tb k 13 [cupS c0 c1, .sh (.int h), .sh (.int m)] = .ok (loadsD ls, false, [cupS d0 d1, .emp, .emp]) := by
  obtain ⟨r, b0, b1, r0, r1, ok, er⟩ := roll c0 c1 (h + 1) hc (by omega) (by omega)
  have all := wl_draw (T := Tb) (dep := 2) (Ok := fun e : Int × Int => CupOk e.1 e.2) (P := fun l : Int => 0 ≤ l ∧ l ≤ m) (g := D.int) (Γ := fun e => [cupS e.1 e.2, .sh (.int h), .sh (.int m), .emp]) (tg := .nm 3) (cs := .nil) (own := [3])
    (elt := .call 21 (.cons (.var 0) (.cons (.lst (.cons (.lit (.int 0)) (.cons (.call 8 (.cons (.var 0) (.cons (.bin .add (.var 2) (.lit (.int 1))) .nil))) (.cons (.call 8 (.cons (.var 0) (.cons (.bin .add (.var 2) (.lit (.int 1))) .nil))) .nil)))) .nil))) (by
      rintro ⟨e0, e1⟩ he
      obtain ⟨a, g0, g1, a0, a1, ok1, q1⟩ := roll e0 e1 (m + 1) he (by omega) (by omega)
      obtain ⟨b, g2, g3, b0, b1, ok2, q2⟩ := roll g0 g1 (m + 1) ok1 (by omega) (by omega)
      obtain ⟨x, f0, f1, hx, ok3, q3⟩ := some_of g2 g3 0 a b ok2
      refine ⟨x, (f0, f1), by rcases hx with rfl | rfl | rfl <;> omega, ok3, fun n hn C hC z => ?_⟩
      have k1 := q1 n (by omega)
      have k2 := q2 n (by omega)
      have k3 := q3 n hn
      rw [← hC] at k1 k2 k3
      repeat first
        | refine ws_seq ?_
        | refine ws_asg ?_
        | refine we_bin ?_
        | refine we_cmp ?_
        | refine we_call ?_
        | refine we_blt ?_
        | refine we_lit ?_
        | (refine we_glb (by rfl) ?_)
        | (refine we_var (by rfl) ?_; try dsimp only [List.set, List.map, Mir.lend, List.getElem?_cons_zero, List.getElem?_cons_succ, List.cons_append, List.nil_append, List.foldl, Mir.lockAll, Mir.lock1, Mir.unlockAll, Mir.unlock1, Mir.restG, Mir.walked, Option.getD, Mir.look, Mir.Slot.d, Mir.XF])
        | (refine we_slot (by rfl) ?_; try dsimp only [List.set, List.map, Mir.lend, List.getElem?_cons_zero, List.getElem?_cons_succ, List.cons_append, List.nil_append, List.foldl, Mir.lockAll, Mir.lock1, Mir.unlockAll, Mir.unlock1, Mir.restG, Mir.walked, Option.getD, Mir.look, Mir.Slot.d, Mir.XF])
        | refine wes_cons ?_
        | refine wes_nil ?_
        | refine wvs_cons ?_
        | refine wvs_nil ?_
        | refine wv_val ?_
        | refine wv_tmp ?_
        | (refine wv_slot (by rfl) ?_; try dsimp only [List.set, List.map, Mir.lend, List.getElem?_cons_zero, List.getElem?_cons_succ, List.cons_append, List.nil_append, List.foldl, Mir.lockAll, Mir.lock1, Mir.unlockAll, Mir.unlock1, Mir.restG, Mir.walked, Option.getD, Mir.look, Mir.Slot.d, Mir.XF])
        | (refine wc (by rfl) ?_; try dsimp only [List.set, List.map, Mir.lend, List.getElem?_cons_zero, List.getElem?_cons_succ, List.cons_append, List.nil_append, List.foldl, Mir.lockAll, Mir.lock1, Mir.unlockAll, Mir.unlock1, Mir.restG, Mir.walked, Option.getD, Mir.look, Mir.Slot.d, Mir.XF])
        | (refine wr k1 ?_)
        | (refine wr k2 ?_)
        | (refine wr k3 ?_)
        | (refine wz (by rfl) ?_; try dsimp only [List.set, List.map, Mir.lend, List.getElem?_cons_zero, List.getElem?_cons_succ, List.cons_append, List.nil_append, List.foldl, Mir.lockAll, Mir.lock1, Mir.unlockAll, Mir.unlock1, Mir.restG, Mir.walked, Option.getD, Mir.look, Mir.Slot.d, Mir.XF])
        | (refine wz_setv (by rfl) (by assumption) ?_; try dsimp only [List.set, List.map, Mir.lend, List.getElem?_cons_zero, List.getElem?_cons_succ, List.cons_append, List.nil_append, List.foldl, Mir.lockAll, Mir.lock1, Mir.unlockAll, Mir.unlock1, Mir.restG, Mir.walked, Option.getD, Mir.look, Mir.Slot.d, Mir.XF])
        | (refine wz_setw (by rfl) (by assumption) ?_; try dsimp only [List.set, List.map, Mir.lend, List.getElem?_cons_zero, List.getElem?_cons_succ, List.cons_append, List.nil_append, List.foldl, Mir.lockAll, Mir.lock1, Mir.unlockAll, Mir.unlock1, Mir.restG, Mir.walked, Option.getD, Mir.look, Mir.Slot.d, Mir.XF])
        | refine wo_f ?_
        | refine wo_t ?_
        | refine wline (by first | omega | exact Nat.le_of_ble_eq_true rfl) ?_
        | refine w2_add ?_
        | refine w2_sub ?_
        | refine w2_mul (by first | assumption | exact big_of ⟨by omega, by omega⟩ ⟨by omega, by omega⟩) ?_
        | refine w2_fdiv (by first | assumption | exact div_of (by omega) (by omega)) ?_
        | refine w2_mod (by omega) ?_
        | refine w2_lists (by first | omega | exact Nat.le_of_ble_eq_true rfl | (simp only [List.length_cons, List.length_nil]; omega)) ?_
        | refine w2_tups (by first | omega | (simp only [List.length_cons, List.length_nil, List.length_map, List.length_replicate]; omega)) ?_
        | refine wk_lt ?_
        | refine wk_le ?_
        | refine wk_gt ?_
        | refine wk_ge ?_
        | refine wk_eqI ?_
        | refine wk_neI ?_
        | refine wk_any (by first | assumption | rfl) ?_
        | refine wt_bool ?_
        | refine wt_any (by first | assumption | rfl) ?_
        | refine wand_t (by first | rfl | assumption | exact decide_eq_true (by omega) | exact nd_t (by omega)) ?_
        | refine wand_f (by first | rfl | assumption | exact decide_eq_false (by omega) | exact nd_f (by omega)) ?_
        | refine ws_ife ?_
        | (refine ws_ret ?_)
        | refine wz_ret ?_
        | refine wz_retT ?_
        | refine ws_skip ?_
        | refine ws_exp ?_
        | refine ws_par ?_
        | refine ws_asgT ?_
        | refine we_tup ?_
        | refine we_lst ?_
        | refine we_ix ?_
        | refine we_not ?_
        | refine we_and ?_
        | refine we_or ?_
        | refine we_ite ?_
        | refine we_chn ?_
        | refine we_comp ?_
        | refine wi_rng ?_
        | refine wi_sq ?_
        | refine wi_enm ?_
        | refine wn1 ⟨by omega, by omega⟩ ?_
        | refine wn2 ⟨by omega, by omega⟩ ⟨by omega, by omega⟩ ?_
        | refine wbd_nil ?_
        | refine wbd_one ?_
        | refine wb_len ?_
        | refine wb_lenT ?_
        | refine wb_min ?_
        | refine wb_max ?_
        | refine we_neg ?_
        | refine we_slc ?_
        | refine we_rev ?_
        | refine we_lsq ?_
        | refine we_tsq ?_
        | refine we_lrg ?_
        | refine we_trg ?_
        | refine ws_for ?_
        | refine ws_brk ?_
        | refine ws_cnt ?_
        | refine ws_retN ?_
        | refine wx_any (by first | assumption | rfl) ?_
        | refine ⟨_, rfl, ?_⟩
        | refine wfil (by rfl) (fun ht => ?_) (fun ht => ?_)
        | exact ⟨rfl, rfl⟩
      )
  obtain ⟨ls, ⟨d0, d1⟩, ⟨hl, hls⟩, okl, ql⟩ := all r.toNat (b0, b1) ok
  refine ⟨ls, d0, d1, ⟨by omega, hls⟩, okl, fun k hk => ?_⟩
  obtain ⟨n, rfl⟩ : ∃ n, k = n + 1 := ⟨k - 1, by omega⟩
  refine wd (fn := fn13) rfl rfl fun C hC => ?_
  dsimp only [fn13, tm13, Nat.reduceSub, List.replicate, List.cons_append, List.nil_append]
  have e1 := er n (by omega)
  rw [← hC] at e1
  repeat first
    | refine ql n (by omega) C hC _ [] _ (by rw [rangeL_len]; omega) (by show 0 + _ ≤ _; omega) ?_
    | refine ws_seq ?_
    | refine ws_asg ?_
    | refine we_bin ?_
    | refine we_cmp ?_
    | refine we_call ?_
    | refine we_blt ?_
    | refine we_lit ?_
    | (refine we_glb (by rfl) ?_)
    | (refine we_var (by rfl) ?_; try dsimp only [List.set, List.map, Mir.lend, List.getElem?_cons_zero, List.getElem?_cons_succ, List.cons_append, List.nil_append, List.foldl, Mir.lockAll, Mir.lock1, Mir.unlockAll, Mir.unlock1, Mir.restG, Mir.walked, Option.getD, Mir.look, Mir.Slot.d, Mir.XF])
    | (refine we_slot (by rfl) ?_; try dsimp only [List.set, List.map, Mir.lend, List.getElem?_cons_zero, List.getElem?_cons_succ, List.cons_append, List.nil_append, List.foldl, Mir.lockAll, Mir.lock1, Mir.unlockAll, Mir.unlock1, Mir.restG, Mir.walked, Option.getD, Mir.look, Mir.Slot.d, Mir.XF])
    | refine wes_cons ?_
    | refine wes_nil ?_
    | refine wvs_cons ?_
    | refine wvs_nil ?_
    | refine wv_val ?_
    | refine wv_tmp ?_
    | (refine wv_slot (by rfl) ?_; try dsimp only [List.set, List.map, Mir.lend, List.getElem?_cons_zero, List.getElem?_cons_succ, List.cons_append, List.nil_append, List.foldl, Mir.lockAll, Mir.lock1, Mir.unlockAll, Mir.unlock1, Mir.restG, Mir.walked, Option.getD, Mir.look, Mir.Slot.d, Mir.XF])
    | (refine wc (by rfl) ?_; try dsimp only [List.set, List.map, Mir.lend, List.getElem?_cons_zero, List.getElem?_cons_succ, List.cons_append, List.nil_append, List.foldl, Mir.lockAll, Mir.lock1, Mir.unlockAll, Mir.unlock1, Mir.restG, Mir.walked, Option.getD, Mir.look, Mir.Slot.d, Mir.XF])
    | (refine wr e1 ?_)
    | (refine wz (by rfl) ?_; try dsimp only [List.set, List.map, Mir.lend, List.getElem?_cons_zero, List.getElem?_cons_succ, List.cons_append, List.nil_append, List.foldl, Mir.lockAll, Mir.lock1, Mir.unlockAll, Mir.unlock1, Mir.restG, Mir.walked, Option.getD, Mir.look, Mir.Slot.d, Mir.XF])
    | (refine wz_setv (by rfl) (by assumption) ?_; try dsimp only [List.set, List.map, Mir.lend, List.getElem?_cons_zero, List.getElem?_cons_succ, List.cons_append, List.nil_append, List.foldl, Mir.lockAll, Mir.lock1, Mir.unlockAll, Mir.unlock1, Mir.restG, Mir.walked, Option.getD, Mir.look, Mir.Slot.d, Mir.XF])
    | (refine wz_setw (by rfl) (by assumption) ?_; try dsimp only [List.set, List.map, Mir.lend, List.getElem?_cons_zero, List.getElem?_cons_succ, List.cons_append, List.nil_append, List.foldl, Mir.lockAll, Mir.lock1, Mir.unlockAll, Mir.unlock1, Mir.restG, Mir.walked, Option.getD, Mir.look, Mir.Slot.d, Mir.XF])
    | refine wo_f ?_
    | refine wo_t ?_
    | refine wline (by first | omega | exact Nat.le_of_ble_eq_true rfl) ?_
    | refine w2_add ?_
    | refine w2_sub ?_
    | refine w2_mul (by first | assumption | exact big_of ⟨by omega, by omega⟩ ⟨by omega, by omega⟩) ?_
    | refine w2_fdiv (by first | assumption | exact div_of (by omega) (by omega)) ?_
    | refine w2_mod (by omega) ?_
    | refine w2_lists (by first | omega | exact Nat.le_of_ble_eq_true rfl | (simp only [List.length_cons, List.length_nil]; omega)) ?_
    | refine w2_tups (by first | omega | (simp only [List.length_cons, List.length_nil, List.length_map, List.length_replicate]; omega)) ?_
    | refine wk_lt ?_
    | refine wk_le ?_
    | refine wk_gt ?_
    | refine wk_ge ?_
    | refine wk_eqI ?_
    | refine wk_neI ?_
    | refine wk_any (by first | assumption | rfl) ?_
    | refine wt_bool ?_
    | refine wt_any (by first | assumption | rfl) ?_
    | refine wand_t (by first | rfl | assumption | exact decide_eq_true (by omega) | exact nd_t (by omega)) ?_
    | refine wand_f (by first | rfl | assumption | exact decide_eq_false (by omega) | exact nd_f (by omega)) ?_
    | refine ws_ife ?_
    | (refine ws_ret ?_)
    | refine wz_ret ?_
    | refine wz_retT ?_
    | refine ws_skip ?_
    | refine ws_exp ?_
    | refine ws_par ?_
    | refine ws_asgT ?_
    | refine we_tup ?_
    | refine we_lst ?_
    | refine we_ix ?_
    | refine we_not ?_
    | refine we_and ?_
    | refine we_or ?_
    | refine we_ite ?_
    | refine we_chn ?_
    | refine we_comp ?_
    | refine wi_rng ?_
    | refine wi_sq ?_
    | refine wi_enm ?_
    | refine wn1 ⟨by omega, by omega⟩ ?_
    | refine wn2 ⟨by omega, by omega⟩ ⟨by omega, by omega⟩ ?_
    | refine wbd_nil ?_
    | refine wbd_one ?_
    | refine wb_len ?_
    | refine wb_lenT ?_
    | refine wb_min ?_
    | refine wb_max ?_
    | refine we_neg ?_
    | refine we_slc ?_
    | refine we_rev ?_
    | refine we_lsq ?_
    | refine we_tsq ?_
    | refine we_lrg ?_
    | refine we_trg ?_
    | refine ws_for ?_
    | refine ws_brk ?_
    | refine ws_cnt ?_
    | refine ws_retN ?_
    | refine wx_any (by first | assumption | rfl) ?_
    | refine ⟨_, rfl, ?_⟩
    | refine wfil (by rfl) (fun ht => ?_) (fun ht => ?_)
    | exact ⟨rfl, rfl⟩
end Law

set_option Elab.async false
set_option autoImplicit false
set_option linter.all false
set_option maxRecDepth 100000
set_option maxHeartbeats 2000000
namespace Law
open PySem Mir
theorem bits_log (z : Int) (h : Builtin.Int.intBits z ≤ 1048576) : z.natAbs.log2 ≤ 1048576 := by
  unfold Builtin.Int.intBits at h
  split at h
  · rename_i c
    rw [eq_of_beq c]
    decide
  · omega
theorem cup_of (ns : List Int) (hn : ns.length ≤ 63) (hb : ∀ z ∈ ns, Builtin.Int.intBits z ≤ 1048576) : ∃ c0 c1, CupOk c0 c1 ∧ ∀ k, 1 ≤ k → callN Tb k 4 [.sh (.scr ns)] = .ok (.list [.int c0, .int c1], true, [.emp]) := by
  obtain ⟨c, hc, hx⟩ : ∃ c : Int, c.natAbs.log2 ≤ 1048576 ∧ ixD (.list (ns.map .int ++ [.int 0])) (.int 0) = .ok (.int c) := by
    cases ns with
    | nil => exact ⟨0, by decide, rfl⟩
    | cons a ns => exact ⟨a, bits_log a (hb a List.mem_cons_self), ix_at (by decide) rfl⟩
  have hl : ((if c < 0 then -c else c) : Int).natAbs.log2 ≤ 1048576 := by
    have e : ((if c < 0 then -c else c) : Int).natAbs = c.natAbs := by split <;> omega
    rw [e]; exact hc
  generalize hce : (if c < 0 then -c else c) = e at hl
  have he : 0 ≤ e := by rw [← hce]; split <;> omega
  have b1 : bigOk e 349 = true := decide_eq_true (by
    have : (349 : Int).natAbs.log2 = 8 := by decide
    omega)
  have hm : (ns.map D.int).length ≤ 63 := by rw [List.length_map]; exact hn
  have a1 : bapp .abs [.int c] = .ok (.val (.int e)) := by rw [← hce]; rfl
  have p1 : b2 .pow (.int 10) (.int 18) = .ok (.val (.int 1000000000000000000)) := by rfl
  have m1 := fmod_pos (a := e * 349 + 5003) (b := 2014129333) (by decide)
  by_cases c18 : 1000000000000000000 ≤ e
  · refine ⟨e.fdiv 103, (e * 349 + 5003).fmod 2014129333 + 199, ⟨fdiv_nn he (by decide), by omega, by omega⟩, fun k hk => ?_⟩
    obtain ⟨n, rfl⟩ : ∃ n, k = n + 1 := ⟨k - 1, by omega⟩
    refine wd (fn := fn4) rfl rfl fun C hC => ?_
    dsimp only [fn4, tm4, Nat.reduceSub, List.replicate, List.cons_append, List.nil_append]
    repeat first
      | refine w2_any p1 ?_
      | refine wb_any a1 ?_
      | refine wx_any hx ?_
      | refine ws_seq ?_
      | refine ws_asg ?_
      | refine we_bin ?_
      | refine we_cmp ?_
      | refine we_call ?_
      | refine we_blt ?_
      | refine we_lit ?_
      | (refine we_glb (by rfl) ?_)
      | (refine we_var (by rfl) ?_; try dsimp only [List.set, List.map, Mir.lend, List.getElem?_cons_zero, List.getElem?_cons_succ, List.cons_append, List.nil_append, List.foldl, Mir.lockAll, Mir.lock1, Mir.unlockAll, Mir.unlock1, Mir.restG, Mir.walked, Option.getD, Mir.look, Mir.Slot.d, Mir.XF])
      | (refine we_slot (by rfl) ?_; try dsimp only [List.set, List.map, Mir.lend, List.getElem?_cons_zero, List.getElem?_cons_succ, List.cons_append, List.nil_append, List.foldl, Mir.lockAll, Mir.lock1, Mir.unlockAll, Mir.unlock1, Mir.restG, Mir.walked, Option.getD, Mir.look, Mir.Slot.d, Mir.XF])
      | refine wes_cons ?_
      | refine wes_nil ?_
      | refine wvs_cons ?_
      | refine wvs_nil ?_
      | refine wv_val ?_
      | refine wv_tmp ?_
      | (refine wv_slot (by rfl) ?_; try dsimp only [List.set, List.map, Mir.lend, List.getElem?_cons_zero, List.getElem?_cons_succ, List.cons_append, List.nil_append, List.foldl, Mir.lockAll, Mir.lock1, Mir.unlockAll, Mir.unlock1, Mir.restG, Mir.walked, Option.getD, Mir.look, Mir.Slot.d, Mir.XF])
      | (refine wc (by rfl) ?_; try dsimp only [List.set, List.map, Mir.lend, List.getElem?_cons_zero, List.getElem?_cons_succ, List.cons_append, List.nil_append, List.foldl, Mir.lockAll, Mir.lock1, Mir.unlockAll, Mir.unlock1, Mir.restG, Mir.walked, Option.getD, Mir.look, Mir.Slot.d, Mir.XF])
      | (refine wz (by rfl) ?_; try dsimp only [List.set, List.map, Mir.lend, List.getElem?_cons_zero, List.getElem?_cons_succ, List.cons_append, List.nil_append, List.foldl, Mir.lockAll, Mir.lock1, Mir.unlockAll, Mir.unlock1, Mir.restG, Mir.walked, Option.getD, Mir.look, Mir.Slot.d, Mir.XF])
      | (refine wz_setv (by rfl) (by assumption) ?_; try dsimp only [List.set, List.map, Mir.lend, List.getElem?_cons_zero, List.getElem?_cons_succ, List.cons_append, List.nil_append, List.foldl, Mir.lockAll, Mir.lock1, Mir.unlockAll, Mir.unlock1, Mir.restG, Mir.walked, Option.getD, Mir.look, Mir.Slot.d, Mir.XF])
      | (refine wz_setw (by rfl) (by assumption) ?_; try dsimp only [List.set, List.map, Mir.lend, List.getElem?_cons_zero, List.getElem?_cons_succ, List.cons_append, List.nil_append, List.foldl, Mir.lockAll, Mir.lock1, Mir.unlockAll, Mir.unlock1, Mir.restG, Mir.walked, Option.getD, Mir.look, Mir.Slot.d, Mir.XF])
      | refine wo_f ?_
      | refine wo_t ?_
      | refine wline (by first | omega | exact Nat.le_of_ble_eq_true rfl) ?_
      | refine w2_add ?_
      | refine w2_sub ?_
      | refine w2_mul (by first | assumption | exact big_of ⟨by omega, by omega⟩ ⟨by omega, by omega⟩) ?_
      | refine w2_fdiv (by first | assumption | exact div_of (by omega) (by omega)) ?_
      | refine w2_mod (by omega) ?_
      | refine w2_lists (by first | omega | exact Nat.le_of_ble_eq_true rfl | (simp only [List.length_cons, List.length_nil]; omega)) ?_
      | refine w2_tups (by first | omega | (simp only [List.length_cons, List.length_nil, List.length_map, List.length_replicate]; omega)) ?_
      | refine wk_lt ?_
      | refine wk_le ?_
      | refine wk_gt ?_
      | refine wk_ge ?_
      | refine wk_eqI ?_
      | refine wk_neI ?_
      | refine wk_any (by first | assumption | rfl) ?_
      | refine wt_bool ?_
      | refine wt_any (by first | assumption | rfl) ?_
      | refine wand_t (by first | rfl | assumption | exact decide_eq_true (by omega) | exact nd_t (by omega)) ?_
      | refine wand_f (by first | rfl | assumption | exact decide_eq_false (by omega) | exact nd_f (by omega)) ?_
      | refine ws_ife ?_
      | (refine ws_ret ?_)
      | refine wz_ret ?_
      | refine wz_retT ?_
      | refine ws_skip ?_
      | refine ws_exp ?_
      | refine ws_par ?_
      | refine ws_asgT ?_
      | refine we_tup ?_
      | refine we_lst ?_
      | refine we_ix ?_
      | refine we_not ?_
      | refine we_and ?_
      | refine we_or ?_
      | refine we_ite ?_
      | refine we_chn ?_
      | refine we_comp ?_
      | refine wi_rng ?_
      | refine wi_sq ?_
      | refine wi_enm ?_
      | refine wn1 ⟨by omega, by omega⟩ ?_
      | refine wn2 ⟨by omega, by omega⟩ ⟨by omega, by omega⟩ ?_
      | refine wbd_nil ?_
      | refine wbd_one ?_
      | refine wb_len ?_
      | refine wb_lenT ?_
      | refine wb_min ?_
      | refine wb_max ?_
      | refine we_neg ?_
      | refine we_slc ?_
      | refine we_rev ?_
      | refine we_lsq ?_
      | refine we_tsq ?_
      | refine we_lrg ?_
      | refine we_trg ?_
      | refine ws_for ?_
      | refine ws_brk ?_
      | refine ws_cnt ?_
      | refine ws_retN ?_
      | refine wx_any (by first | assumption | rfl) ?_
      | refine ⟨_, rfl, ?_⟩
      | refine wfil (by rfl) (fun ht => ?_) (fun ht => ?_)
      | exact ⟨rfl, rfl⟩
  · refine ⟨0, (e * 349 + 5003).fmod 2014129333 + 199, ⟨by omega, by omega, by omega⟩, fun k hk => ?_⟩
    obtain ⟨n, rfl⟩ : ∃ n, k = n + 1 := ⟨k - 1, by omega⟩
    refine wd (fn := fn4) rfl rfl fun C hC => ?_
    dsimp only [fn4, tm4, Nat.reduceSub, List.replicate, List.cons_append, List.nil_append]
    repeat first
      | refine w2_any p1 ?_
      | refine wb_any a1 ?_
      | refine wx_any hx ?_
      | refine ws_seq ?_
      | refine ws_asg ?_
      | refine we_bin ?_
      | refine we_cmp ?_
      | refine we_call ?_
      | refine we_blt ?_
      | refine we_lit ?_
      | (refine we_glb (by rfl) ?_)
      | (refine we_var (by rfl) ?_; try dsimp only [List.set, List.map, Mir.lend, List.getElem?_cons_zero, List.getElem?_cons_succ, List.cons_append, List.nil_append, List.foldl, Mir.lockAll, Mir.lock1, Mir.unlockAll, Mir.unlock1, Mir.restG, Mir.walked, Option.getD, Mir.look, Mir.Slot.d, Mir.XF])
      | (refine we_slot (by rfl) ?_; try dsimp only [List.set, List.map, Mir.lend, List.getElem?_cons_zero, List.getElem?_cons_succ, List.cons_append, List.nil_append, List.foldl, Mir.lockAll, Mir.lock1, Mir.unlockAll, Mir.unlock1, Mir.restG, Mir.walked, Option.getD, Mir.look, Mir.Slot.d, Mir.XF])
      | refine wes_cons ?_
      | refine wes_nil ?_
      | refine wvs_cons ?_
      | refine wvs_nil ?_
      | refine wv_val ?_
      | refine wv_tmp ?_
      | (refine wv_slot (by rfl) ?_; try dsimp only [List.set, List.map, Mir.lend, List.getElem?_cons_zero, List.getElem?_cons_succ, List.cons_append, List.nil_append, List.foldl, Mir.lockAll, Mir.lock1, Mir.unlockAll, Mir.unlock1, Mir.restG, Mir.walked, Option.getD, Mir.look, Mir.Slot.d, Mir.XF])
      | (refine wc (by rfl) ?_; try dsimp only [List.set, List.map, Mir.lend, List.getElem?_cons_zero, List.getElem?_cons_succ, List.cons_append, List.nil_append, List.foldl, Mir.lockAll, Mir.lock1, Mir.unlockAll, Mir.unlock1, Mir.restG, Mir.walked, Option.getD, Mir.look, Mir.Slot.d, Mir.XF])
      | (refine wz (by rfl) ?_; try dsimp only [List.set, List.map, Mir.lend, List.getElem?_cons_zero, List.getElem?_cons_succ, List.cons_append, List.nil_append, List.foldl, Mir.lockAll, Mir.lock1, Mir.unlockAll, Mir.unlock1, Mir.restG, Mir.walked, Option.getD, Mir.look, Mir.Slot.d, Mir.XF])
      | (refine wz_setv (by rfl) (by assumption) ?_; try dsimp only [List.set, List.map, Mir.lend, List.getElem?_cons_zero, List.getElem?_cons_succ, List.cons_append, List.nil_append, List.foldl, Mir.lockAll, Mir.lock1, Mir.unlockAll, Mir.unlock1, Mir.restG, Mir.walked, Option.getD, Mir.look, Mir.Slot.d, Mir.XF])
      | (refine wz_setw (by rfl) (by assumption) ?_; try dsimp only [List.set, List.map, Mir.lend, List.getElem?_cons_zero, List.getElem?_cons_succ, List.cons_append, List.nil_append, List.foldl, Mir.lockAll, Mir.lock1, Mir.unlockAll, Mir.unlock1, Mir.restG, Mir.walked, Option.getD, Mir.look, Mir.Slot.d, Mir.XF])
      | refine wo_f ?_
      | refine wo_t ?_
      | refine wline (by first | omega | exact Nat.le_of_ble_eq_true rfl) ?_
      | refine w2_add ?_
      | refine w2_sub ?_
      | refine w2_mul (by first | assumption | exact big_of ⟨by omega, by omega⟩ ⟨by omega, by omega⟩) ?_
      | refine w2_fdiv (by first | assumption | exact div_of (by omega) (by omega)) ?_
      | refine w2_mod (by omega) ?_
      | refine w2_lists (by first | omega | exact Nat.le_of_ble_eq_true rfl | (simp only [List.length_cons, List.length_nil]; omega)) ?_
      | refine w2_tups (by first | omega | (simp only [List.length_cons, List.length_nil, List.length_map, List.length_replicate]; omega)) ?_
      | refine wk_lt ?_
      | refine wk_le ?_
      | refine wk_gt ?_
      | refine wk_ge ?_
      | refine wk_eqI ?_
      | refine wk_neI ?_
      | refine wk_any (by first | assumption | rfl) ?_
      | refine wt_bool ?_
      | refine wt_any (by first | assumption | rfl) ?_
      | refine wand_t (by first | rfl | assumption | exact decide_eq_true (by omega) | exact nd_t (by omega)) ?_
      | refine wand_f (by first | rfl | assumption | exact decide_eq_false (by omega) | exact nd_f (by omega)) ?_
      | refine ws_ife ?_
      | (refine ws_ret ?_)
      | refine wz_ret ?_
      | refine wz_retT ?_
      | refine ws_skip ?_
      | refine ws_exp ?_
      | refine ws_par ?_
      | refine ws_asgT ?_
      | refine we_tup ?_
      | refine we_lst ?_
      | refine we_ix ?_
      | refine we_not ?_
      | refine we_and ?_
      | refine we_or ?_
      | refine we_ite ?_
      | refine we_chn ?_
      | refine we_comp ?_
      | refine wi_rng ?_
      | refine wi_sq ?_
      | refine wi_enm ?_
      | refine wn1 ⟨by omega, by omega⟩ ?_
      | refine wn2 ⟨by omega, by omega⟩ ⟨by omega, by omega⟩ ?_
      | refine wbd_nil ?_
      | refine wbd_one ?_
      | refine wb_len ?_
      | refine wb_lenT ?_
      | refine wb_min ?_
      | refine wb_max ?_
      | refine we_neg ?_
      | refine we_slc ?_
      | refine we_rev ?_
      | refine we_lsq ?_
      | refine we_tsq ?_
      | refine we_lrg ?_
      | refine we_trg ?_
      | refine ws_for ?_
      | refine ws_brk ?_
      | refine ws_cnt ?_
      | refine ws_retN ?_
      | refine wx_any (by first | assumption | rfl) ?_
      | refine ⟨_, rfl, ?_⟩
      | refine wfil (by rfl) (fun ht => ?_) (fun ht => ?_)
      | exact ⟨rfl, rfl⟩
end Law

set_option Elab.async false
set_option autoImplicit false
set_option linter.all false
set_option maxRecDepth 100000
set_option maxHeartbeats 1000000
namespace Law
open PySem Mir
/-! ## one store, hours that lack or have too much -/
def mi (x y : Int) : Int := if y < x then y else x
theorem mi_le {x y z : Int} : z ≤ mi x y ↔ z ≤ x ∧ z ≤ y := by unfold mi; split <;> omega
theorem mi_is (x y : Int) : mi x y ≤ x ∧ mi x y ≤ y ∧ (mi x y = x ∨ mi x y = y) := by unfold mi; split <;> omega
def keeps (R S : Int) : Int → List Int → Bool
  | _, [] => true
  | lv, h :: hs => if -h > S ∨ -h > lv then false else keeps R S (mi R (lv + mi h S)) hs
def tk (S h : Int) : Int := -(mi h S)
def tks (S : Int) (hs : List Int) : Int := (hs.map (tk S)).sum
theorem tks_cons {S h : Int} {hs : List Int} : tks S (h :: hs) = tk S h + tks S hs := by unfold tks; rw [List.map_cons, List.sum_cons]
theorem keeps_iff {R S : Int} (hS : 0 ≤ S) : ∀ (hs : List Int) (lv : Int), 0 ≤ lv → lv ≤ R → (keeps R S lv hs = true ↔ (∀ h ∈ hs, -h ≤ S) ∧ (∀ mid post, hs = mid ++ post → tks S mid ≤ lv) ∧ ∀ pre mid post, hs = pre ++ (mid ++ post) → tks S mid ≤ R)
  | [], lv, h0, h1 => by
    refine ⟨fun _ => ⟨fun h hh => (by cases hh), fun mid post e => ?_, fun pre mid post e => ?_⟩, fun _ => rfl⟩
    · obtain ⟨rfl, rfl⟩ := List.append_eq_nil_iff.mp e.symm
      exact h0
    · obtain ⟨_, e2⟩ := List.append_eq_nil_iff.mp e.symm
      obtain ⟨rfl, _⟩ := List.append_eq_nil_iff.mp e2
      exact Int.le_trans h0 h1
  | h :: hs, lv, h0, h1 => by
    have m := mi_is h S
    have tkd : tk S h = -(mi h S) := rfl
    have step : keeps R S lv (h :: hs) = true ↔ -h ≤ S ∧ -h ≤ lv ∧ keeps R S (mi R (lv + mi h S)) hs = true := by
      show (if -h > S ∨ -h > lv then false else keeps R S (mi R (lv + mi h S)) hs) = true ↔ _
      by_cases c : -h > S ∨ -h > lv
      · rw [if_pos c]
        constructor
        · intro z; cases z
        · rintro ⟨a, b, _⟩; omega
      · rw [if_neg c]
        constructor
        · intro z; exact ⟨by omega, by omega, z⟩
        · exact fun z => z.2.2
    rw [step]
    have nl : -h ≤ lv → 0 ≤ mi R (lv + mi h S) ∧ mi R (lv + mi h S) ≤ R := fun z => ⟨mi_le.mpr ⟨by omega, by omega⟩, (mi_is _ _).1⟩
    constructor
    · rintro ⟨a, b, c⟩
      obtain ⟨i1, i2, i3⟩ := (keeps_iff hS hs _ (nl b).1 (nl b).2).mp c
      have pf : ∀ mid post, h :: hs = mid ++ post → tks S mid ≤ lv := fun mid post e => by
        cases mid with
        | nil => exact h0
        | cons x mid =>
          rw [List.cons_append] at e
          obtain ⟨ex, e2⟩ := List.cons.inj e
          subst ex
          have z := (mi_le.mp (i2 mid post e2)).2
          rw [tks_cons]
          omega
      refine ⟨fun x hx => ?_, pf, fun pre mid post e => ?_⟩
      · rcases List.mem_cons.mp hx with rfl | hx
        · exact a
        · exact i1 x hx
      · cases pre with
        | nil => exact Int.le_trans (pf mid post e) h1
        | cons x pre =>
          rw [List.cons_append] at e
          exact i3 pre mid post (List.cons.inj e).2
    · rintro ⟨a, b, c⟩
      have b1 := b [h] hs rfl
      have e1 : tks S [h] = tk S h := by rw [tks_cons]; show tk S h + 0 = _; omega
      have hl : -h ≤ lv := by omega
      refine ⟨a h List.mem_cons_self, hl, (keeps_iff hS hs _ (nl hl).1 (nl hl).2).mpr ⟨fun x hx => a x (List.mem_cons_of_mem _ hx), fun mid post e => mi_le.mpr ⟨c [h] mid post (by rw [e]; rfl), ?_⟩, fun pre mid post e => c (h :: pre) mid post (by rw [e]; rfl)⟩⟩
      have z := b (h :: mid) post (by rw [e]; rfl)
      rw [tks_cons] at z
      omega
/-- full at first -/
theorem keeps_full {R S : Int} (hS : 0 ≤ S) (hR : 0 ≤ R) (hs : List Int) : keeps R S R hs = true ↔ (∀ h ∈ hs, -h ≤ S) ∧ ∀ pre mid post, hs = pre ++ (mid ++ post) → tks S mid ≤ R := by
  rw [keeps_iff hS hs R hR (Int.le_refl R)]
  exact ⟨fun z => ⟨z.1, z.2.2⟩, fun z => ⟨z.1, fun mid post e => z.2 [] mid post e, z.2⟩⟩
/-- from s to e -/
def T (S : Int) (hs : List Int) (s e : Nat) : Int := tks S ((hs.drop s).take (e + 1 - s))
theorem T_step {S : Int} {hs : List Int} {s e : Nat} (h : s ≤ e) (he : e < hs.length) : T S hs s e = tk S (hs[s]'(by omega)) + T S hs (s + 1) e := by
  unfold T
  rw [List.drop_eq_getElem_cons (by omega : s < hs.length)]
  have e1 : e + 1 - s = (e + 1 - (s + 1)) + 1 := by omega
  rw [e1, List.take_succ_cons, tks_cons]
theorem T_end {S : Int} {hs : List Int} {e : Nat} : T S hs (e + 1) e = 0 := by
  unfold T
  rw [Nat.sub_self, List.take_zero]
  all_goals rfl
def NoDark (R S : Int) (hs : List Int) : Prop := (∀ h ∈ hs, -h ≤ S) ∧ ∀ s e : Nat, s ≤ e → e < hs.length → T S hs s e ≤ R
theorem keeps_dark {R S : Int} (hS : 0 ≤ S) (hR : 0 ≤ R) (hs : List Int) : keeps R S R hs = true ↔ NoDark R S hs := by
  rw [keeps_full hS hR]
  constructor
  · rintro ⟨a, b⟩
    refine ⟨a, fun s e h1 h2 => b (hs.take s) ((hs.drop s).take (e + 1 - s)) ((hs.drop s).drop (e + 1 - s)) ?_⟩
    rw [List.take_append_drop, List.take_append_drop]
  · rintro ⟨a, b⟩
    refine ⟨a, fun pre mid post e => ?_⟩
    cases mid with
    | nil => exact hR
    | cons x mid =>
      have z := b pre.length (pre.length + mid.length) (by omega) (by rw [e, List.length_append, List.length_append, List.length_cons]; omega)
      have q : (hs.drop pre.length).take (pre.length + mid.length + 1 - pre.length) = x :: mid := by
        have e2 : pre.length + mid.length + 1 - pre.length = (x :: mid).length := by rw [List.length_cons]; omega
        rw [e, List.drop_left, e2, List.take_left]
      unfold T at z
      rw [q] at z
      exact z
/-! ## draws -/
def hrs (ls : List Int) (d : Int) : List Int := ls.map fun l => d - l
def en (st : Int × Int) (ls : List Int) (d : Int) : Bool := keeps st.1 st.2 st.1 (hrs ls d)
theorem keeps_mono {R S : Int} : ∀ (ls : List Int) (d d' lv lv' : Int), d ≤ d' → lv ≤ lv' → keeps R S lv (hrs ls d) = true → keeps R S lv' (hrs ls d') = true
  | [], _, _, _, _, _, _, _ => rfl
  | l :: ls, d, d', lv, lv', h1, h2, h => by
    have h : (if -(d - l) > S ∨ -(d - l) > lv then false else keeps R S (mi R (lv + mi (d - l) S)) (hrs ls d)) = true := h
    show (if -(d' - l) > S ∨ -(d' - l) > lv' then false else keeps R S (mi R (lv' + mi (d' - l) S)) (hrs ls d')) = true
    by_cases c : -(d - l) > S ∨ -(d - l) > lv
    · rw [if_pos c] at h; cases h
    · rw [if_neg c] at h
      rw [if_neg (by omega)]
      refine keeps_mono ls d d' _ _ h1 ?_ h
      unfold mi
      split <;> split <;> split <;> split <;> omega
theorem en_mono {st : Int × Int} {ls : List Int} {d d' : Int} (h : d ≤ d') (e : en st ls d = true) : en st ls d' = true := keeps_mono ls d d' _ _ h (Int.le_refl _) e
theorem en_high {st : Int × Int} (hs : StOk st) {ls : List Int} {d : Int} (h : ∀ l ∈ ls, l ≤ d) : en st ls d = true := by
  have go : ∀ (ls : List Int) (lv : Int), 0 ≤ lv → (∀ l ∈ ls, l ≤ d) → keeps st.1 st.2 lv (hrs ls d) = true := by
    intro ls
    induction ls with
    | nil => intro _ _ _; rfl
    | cons l ls ih =>
      intro lv h0 h
      have a := h l List.mem_cons_self
      obtain ⟨s1, _, s2, _⟩ := hs
      show (if -(d - l) > st.2 ∨ -(d - l) > lv then false else keeps st.1 st.2 (mi st.1 (lv + mi (d - l) st.2)) (hrs ls d)) = true
      rw [if_neg (by omega)]
      exact ih _ (mi_le.mpr ⟨by omega, by have := mi_le (x := d - l) (y := st.2) (z := 0); have := this.mpr ⟨by omega, by omega⟩; omega⟩) fun x hx => h x (List.mem_cons_of_mem _ hx)
  obtain ⟨s1, _⟩ := hs
  exact go ls _ (by omega) h
def IsDraw (st : Int × Int) (ls : List Int) (d : Int) : Prop := 0 ≤ d ∧ en st ls d = true ∧ ∀ j, 0 ≤ j → j < d → en st ls j = false
theorem draw_uniq {st : Int × Int} {ls : List Int} {d d' : Int} (h : IsDraw st ls d) (h' : IsDraw st ls d') : d = d' := by
  obtain ⟨a, b, c⟩ := h
  obtain ⟨a', b', c'⟩ := h'
  apply Int.le_antisymm
  · apply Int.not_lt.mp; intro z; rw [c d' a' z] at b'; cases b'
  · apply Int.not_lt.mp; intro z; rw [c' d a z] at b; cases b
theorem draw_of {st : Int × Int} {ls : List Int} {d : Int} (h0 : 0 ≤ d) (h1 : en st ls d = true) (h2 : 0 < d → en st ls (d - 1) = false) : IsDraw st ls d := by
  refine ⟨h0, h1, fun j a b => ?_⟩
  cases e : en st ls j with
  | false => rfl
  | true =>
    have z := en_mono (show j ≤ d - 1 by omega) e
    rw [h2 (by omega)] at z
    cases z
theorem draw_en {st : Int × Int} {ls : List Int} {d j : Int} (h : IsDraw st ls d) (hj : 0 ≤ j) : en st ls j = decide (d ≤ j) := by
  by_cases c : d ≤ j
  · rw [decide_eq_true c]; exact en_mono c h.2.1
  · rw [decide_eq_false c]; exact h.2.2 j hj (by omega)
theorem draw_is {st : Int × Int} (hs : StOk st) {ls : List Int} {b : Int} (hb : 0 ≤ b) (h : ∀ l ∈ ls, l ≤ b) : ∃ d, d ≤ b ∧ IsDraw st ls d := by
  have top := en_high hs h
  have go : ∀ n : Nat, (n : Int) ≤ b → (∃ d, d ≤ b ∧ IsDraw st ls d) ∨ ∀ j : Int, 0 ≤ j → j < n → en st ls j = false := by
    intro n
    induction n with
    | zero => intro _; exact .inr fun j a b => by omega
    | succ n ih =>
      intro hn
      rcases ih (by omega) with h | h
      · exact .inl h
      · cases e : en st ls n with
        | true => exact .inl ⟨n, by omega, by omega, e, h⟩
        | false =>
          refine .inr fun j a b => ?_
          by_cases c : j = n
          · rw [c]; exact e
          · exact h j a (by omega)
  rcases go b.toNat (by omega) with h | h
  · exact h
  · exact ⟨b, Int.le_refl _, hb, top, fun j a c => h j a (by omega)⟩
end Law

set_option Elab.async false
set_option autoImplicit false
set_option linter.all false
set_option maxRecDepth 100000
set_option maxHeartbeats 2000000
namespace Law
open PySem Mir
/-- a def's answer that is known by what holds of it -/
theorem wdE {T : Tab} {n f : Nat} {fn : Fn} {args : List Slot} {P : D → Prop} {o : Bool} {ss : List Slot} (h : T.fns[f]? = some fn) (hl : args.length = fn.np)
    (q : ∀ C, C = callN T n → Ws ⟨C, T.con⟩ fn.body (args ++ List.replicate (fn.ns - fn.np) .emp) (fun _ => False) fun f Γ => ∃ d, P d ∧ f = .rt d o ∧ (Γ.take fn.np).map fin1 = ss) : ∃ d, P d ∧ callN T (n + 1) f args = .ok (d, o, ss) := by
  have z : Wp (callN T (n + 1) f args) fun r => ∃ d, P d ∧ r = (d, o, ss) := wp_call h hl fun C hC => (q C hC).p.mono fun r h => by
    obtain ⟨f, Γ⟩ := r
    cases f with
    | nx => exact h.elim
    | bk => obtain ⟨d, _, e, _⟩ := h; cases e
    | ct => obtain ⟨d, _, e, _⟩ := h; cases e
    | rt d o => obtain ⟨d', p, e, rfl⟩ := h; cases e; exact Wp.ok ⟨d, p, rfl⟩
  obtain ⟨r, e, d, p, rfl⟩ := z
  exact ⟨d, p, e⟩
def hoursD (hs : List Int) : D := .tup (hs.map .int)
def hoursL (hs : List Int) : Slot := .li (hs.map .int) true .own
theorem need_one {k : Nat} {st : Int × Int} (hk : 3 ≤ k) (h : StOk st) : callN Tb k 24 [.sh (storeD st)] = .ok (.none, false, [.emp]) := by
  obtain ⟨n, rfl⟩ : ∃ n, k = n + 1 := ⟨k - 1, by omega⟩
  refine wd (fn := fn24) rfl rfl fun C hC => ?_
  dsimp only [fn24, tm24, Nat.reduceSub, List.replicate, List.cons_append, List.nil_append]
  have e1 := is_store (k := n) (by omega) h
  rw [← hC] at e1
  repeat first
    | exact ⟨rfl, rfl, rfl⟩
    | refine ws_seq ?_
    | refine ws_asg ?_
    | refine we_bin ?_
    | refine we_cmp ?_
    | refine we_call ?_
    | refine we_blt ?_
    | refine we_lit ?_
    | (refine we_glb (by rfl) ?_)
    | (refine we_var (by rfl) ?_; try dsimp only [List.set, List.map, Mir.lend, List.getElem?_cons_zero, List.getElem?_cons_succ, List.cons_append, List.nil_append, List.foldl, Mir.lockAll, Mir.lock1, Mir.unlockAll, Mir.unlock1, Mir.restG, Mir.walked, Option.getD, Mir.look, Mir.Slot.d, Mir.XF])
    | (refine we_slot (by rfl) ?_; try dsimp only [List.set, List.map, Mir.lend, List.getElem?_cons_zero, List.getElem?_cons_succ, List.cons_append, List.nil_append, List.foldl, Mir.lockAll, Mir.lock1, Mir.unlockAll, Mir.unlock1, Mir.restG, Mir.walked, Option.getD, Mir.look, Mir.Slot.d, Mir.XF])
    | refine wes_cons ?_
    | refine wes_nil ?_
    | refine wvs_cons ?_
    | refine wvs_nil ?_
    | refine wv_val ?_
    | refine wv_tmp ?_
    | (refine wv_slot (by rfl) ?_; try dsimp only [List.set, List.map, Mir.lend, List.getElem?_cons_zero, List.getElem?_cons_succ, List.cons_append, List.nil_append, List.foldl, Mir.lockAll, Mir.lock1, Mir.unlockAll, Mir.unlock1, Mir.restG, Mir.walked, Option.getD, Mir.look, Mir.Slot.d, Mir.XF])
    | (refine wc (by rfl) ?_; try dsimp only [List.set, List.map, Mir.lend, List.getElem?_cons_zero, List.getElem?_cons_succ, List.cons_append, List.nil_append, List.foldl, Mir.lockAll, Mir.lock1, Mir.unlockAll, Mir.unlock1, Mir.restG, Mir.walked, Option.getD, Mir.look, Mir.Slot.d, Mir.XF])
    | (refine wr e1 ?_)
    | (refine wz (by rfl) ?_; try dsimp only [List.set, List.map, Mir.lend, List.getElem?_cons_zero, List.getElem?_cons_succ, List.cons_append, List.nil_append, List.foldl, Mir.lockAll, Mir.lock1, Mir.unlockAll, Mir.unlock1, Mir.restG, Mir.walked, Option.getD, Mir.look, Mir.Slot.d, Mir.XF])
    | (refine wz_setv (by rfl) (by assumption) ?_; try dsimp only [List.set, List.map, Mir.lend, List.getElem?_cons_zero, List.getElem?_cons_succ, List.cons_append, List.nil_append, List.foldl, Mir.lockAll, Mir.lock1, Mir.unlockAll, Mir.unlock1, Mir.restG, Mir.walked, Option.getD, Mir.look, Mir.Slot.d, Mir.XF])
    | (refine wz_setw (by rfl) (by assumption) ?_; try dsimp only [List.set, List.map, Mir.lend, List.getElem?_cons_zero, List.getElem?_cons_succ, List.cons_append, List.nil_append, List.foldl, Mir.lockAll, Mir.lock1, Mir.unlockAll, Mir.unlock1, Mir.restG, Mir.walked, Option.getD, Mir.look, Mir.Slot.d, Mir.XF])
    | refine wo_f ?_
    | refine wo_t ?_
    | refine wline (by first | omega | exact Nat.le_of_ble_eq_true rfl) ?_
    | refine w2_add ?_
    | refine w2_sub ?_
    | refine w2_mul (by first | assumption | exact big_of ⟨by omega, by omega⟩ ⟨by omega, by omega⟩) ?_
    | refine w2_fdiv (by first | assumption | exact div_of (by omega) (by omega)) ?_
    | refine w2_mod (by omega) ?_
    | refine w2_lists (by first | omega | exact Nat.le_of_ble_eq_true rfl | (simp only [List.length_cons, List.length_nil]; omega)) ?_
    | refine w2_tups (by first | omega | (simp only [List.length_cons, List.length_nil, List.length_map, List.length_replicate]; omega)) ?_
    | refine wk_lt ?_
    | refine wk_le ?_
    | refine wk_gt ?_
    | refine wk_ge ?_
    | refine wk_eqI ?_
    | refine wk_neI ?_
    | refine wk_any (by first | assumption | rfl) ?_
    | refine wt_bool ?_
    | refine wt_any (by first | assumption | rfl) ?_
    | refine wand_t (by first | rfl | assumption | exact decide_eq_true (by omega) | exact nd_t (by omega)) ?_
    | refine wand_f (by first | rfl | assumption | exact decide_eq_false (by omega) | exact nd_f (by omega)) ?_
    | refine ws_ife ?_
    | (refine ws_ret ?_)
    | refine wz_ret ?_
    | refine wz_retT ?_
    | refine ws_skip ?_
    | refine ws_exp ?_
    | refine ws_par ?_
    | refine ws_asgT ?_
    | refine we_tup ?_
    | refine we_lst ?_
    | refine we_ix ?_
    | refine we_not ?_
    | refine we_and ?_
    | refine we_or ?_
    | refine we_ite ?_
    | refine we_chn ?_
    | refine we_comp ?_
    | refine wi_rng ?_
    | refine wi_sq ?_
    | refine wi_enm ?_
    | refine wn1 ⟨by omega, by omega⟩ ?_
    | refine wn2 ⟨by omega, by omega⟩ ⟨by omega, by omega⟩ ?_
    | refine wbd_nil ?_
    | refine wbd_one ?_
    | refine wb_len ?_
    | refine wb_lenT ?_
    | refine wb_min ?_
    | refine wb_max ?_
    | refine we_neg ?_
    | refine we_slc ?_
    | refine we_rev ?_
    | refine we_lsq ?_
    | refine we_tsq ?_
    | refine we_lrg ?_
    | refine we_trg ?_
    | refine ws_for ?_
    | refine ws_brk ?_
    | refine ws_cnt ?_
    | refine ws_retN ?_
    | refine wx_any (by first | assumption | rfl) ?_
    | refine ⟨_, rfl, ?_⟩
    | refine wfil (by rfl) (fun ht => ?_) (fun ht => ?_)
    | exact ⟨rfl, rfl⟩
theorem need_question {k : Nat} {st : Int × Int} {ls : List Int} (hk : 4 ≤ k) (h : StOk st) (hl : LdOk ls) : callN Tb k 16 [.sh (storeD st), .sh (loadsD ls)] = .ok (.none, false, [.emp, .emp]) := by
  obtain ⟨n, rfl⟩ : ∃ n, k = n + 1 := ⟨k - 1, by omega⟩
  refine wd (fn := fn16) rfl rfl fun C hC => ?_
  dsimp only [fn16, tm16, Nat.reduceSub, List.replicate, List.cons_append, List.nil_append]
  have e1 := need_one (k := n) (by omega) h
  have e2 := need_loads (k := n) (by omega) hl
  rw [← hC] at e1 e2
  repeat first
    | exact ⟨rfl, rfl, rfl⟩
    | refine ws_seq ?_
    | refine ws_asg ?_
    | refine we_bin ?_
    | refine we_cmp ?_
    | refine we_call ?_
    | refine we_blt ?_
    | refine we_lit ?_
    | (refine we_glb (by rfl) ?_)
    | (refine we_var (by rfl) ?_; try dsimp only [List.set, List.map, Mir.lend, List.getElem?_cons_zero, List.getElem?_cons_succ, List.cons_append, List.nil_append, List.foldl, Mir.lockAll, Mir.lock1, Mir.unlockAll, Mir.unlock1, Mir.restG, Mir.walked, Option.getD, Mir.look, Mir.Slot.d, Mir.XF])
    | (refine we_slot (by rfl) ?_; try dsimp only [List.set, List.map, Mir.lend, List.getElem?_cons_zero, List.getElem?_cons_succ, List.cons_append, List.nil_append, List.foldl, Mir.lockAll, Mir.lock1, Mir.unlockAll, Mir.unlock1, Mir.restG, Mir.walked, Option.getD, Mir.look, Mir.Slot.d, Mir.XF])
    | refine wes_cons ?_
    | refine wes_nil ?_
    | refine wvs_cons ?_
    | refine wvs_nil ?_
    | refine wv_val ?_
    | refine wv_tmp ?_
    | (refine wv_slot (by rfl) ?_; try dsimp only [List.set, List.map, Mir.lend, List.getElem?_cons_zero, List.getElem?_cons_succ, List.cons_append, List.nil_append, List.foldl, Mir.lockAll, Mir.lock1, Mir.unlockAll, Mir.unlock1, Mir.restG, Mir.walked, Option.getD, Mir.look, Mir.Slot.d, Mir.XF])
    | (refine wc (by rfl) ?_; try dsimp only [List.set, List.map, Mir.lend, List.getElem?_cons_zero, List.getElem?_cons_succ, List.cons_append, List.nil_append, List.foldl, Mir.lockAll, Mir.lock1, Mir.unlockAll, Mir.unlock1, Mir.restG, Mir.walked, Option.getD, Mir.look, Mir.Slot.d, Mir.XF])
    | (refine wr e1 ?_)
    | (refine wr e2 ?_)
    | (refine wz (by rfl) ?_; try dsimp only [List.set, List.map, Mir.lend, List.getElem?_cons_zero, List.getElem?_cons_succ, List.cons_append, List.nil_append, List.foldl, Mir.lockAll, Mir.lock1, Mir.unlockAll, Mir.unlock1, Mir.restG, Mir.walked, Option.getD, Mir.look, Mir.Slot.d, Mir.XF])
    | (refine wz_setv (by rfl) (by assumption) ?_; try dsimp only [List.set, List.map, Mir.lend, List.getElem?_cons_zero, List.getElem?_cons_succ, List.cons_append, List.nil_append, List.foldl, Mir.lockAll, Mir.lock1, Mir.unlockAll, Mir.unlock1, Mir.restG, Mir.walked, Option.getD, Mir.look, Mir.Slot.d, Mir.XF])
    | (refine wz_setw (by rfl) (by assumption) ?_; try dsimp only [List.set, List.map, Mir.lend, List.getElem?_cons_zero, List.getElem?_cons_succ, List.cons_append, List.nil_append, List.foldl, Mir.lockAll, Mir.lock1, Mir.unlockAll, Mir.unlock1, Mir.restG, Mir.walked, Option.getD, Mir.look, Mir.Slot.d, Mir.XF])
    | refine wo_f ?_
    | refine wo_t ?_
    | refine wline (by first | omega | exact Nat.le_of_ble_eq_true rfl) ?_
    | refine w2_add ?_
    | refine w2_sub ?_
    | refine w2_mul (by first | assumption | exact big_of ⟨by omega, by omega⟩ ⟨by omega, by omega⟩) ?_
    | refine w2_fdiv (by first | assumption | exact div_of (by omega) (by omega)) ?_
    | refine w2_mod (by omega) ?_
    | refine w2_lists (by first | omega | exact Nat.le_of_ble_eq_true rfl | (simp only [List.length_cons, List.length_nil]; omega)) ?_
    | refine w2_tups (by first | omega | (simp only [List.length_cons, List.length_nil, List.length_map, List.length_replicate]; omega)) ?_
    | refine wk_lt ?_
    | refine wk_le ?_
    | refine wk_gt ?_
    | refine wk_ge ?_
    | refine wk_eqI ?_
    | refine wk_neI ?_
    | refine wk_any (by first | assumption | rfl) ?_
    | refine wt_bool ?_
    | refine wt_any (by first | assumption | rfl) ?_
    | refine wand_t (by first | rfl | assumption | exact decide_eq_true (by omega) | exact nd_t (by omega)) ?_
    | refine wand_f (by first | rfl | assumption | exact decide_eq_false (by omega) | exact nd_f (by omega)) ?_
    | refine ws_ife ?_
    | (refine ws_ret ?_)
    | refine wz_ret ?_
    | refine wz_retT ?_
    | refine ws_skip ?_
    | refine ws_exp ?_
    | refine ws_par ?_
    | refine ws_asgT ?_
    | refine we_tup ?_
    | refine we_lst ?_
    | refine we_ix ?_
    | refine we_not ?_
    | refine we_and ?_
    | refine we_or ?_
    | refine we_ite ?_
    | refine we_chn ?_
    | refine we_comp ?_
    | refine wi_rng ?_
    | refine wi_sq ?_
    | refine wi_enm ?_
    | refine wn1 ⟨by omega, by omega⟩ ?_
    | refine wn2 ⟨by omega, by omega⟩ ⟨by omega, by omega⟩ ?_
    | refine wbd_nil ?_
    | refine wbd_one ?_
    | refine wb_len ?_
    | refine wb_lenT ?_
    | refine wb_min ?_
    | refine wb_max ?_
    | refine we_neg ?_
    | refine we_slc ?_
    | refine we_rev ?_
    | refine we_lsq ?_
    | refine we_tsq ?_
    | refine we_lrg ?_
    | refine we_trg ?_
    | refine ws_for ?_
    | refine ws_brk ?_
    | refine ws_cnt ?_
    | refine ws_retN ?_
    | refine wx_any (by first | assumption | rfl) ?_
    | refine ⟨_, rfl, ?_⟩
    | refine wfil (by rfl) (fun ht => ?_) (fun ht => ?_)
    | exact ⟨rfl, rfl⟩
theorem hours_for {k : Nat} {ls : List Int} {d : Int} (hk : 1 ≤ k) (hl : LdOk ls) : callN Tb k 20 [.sh (loadsD ls), .sh (.int d)] = .ok (.list ((hrs ls d).map .int), true, [.emp, .emp]) := by
  have h200 := hl.1
  have em : (hrs ls d).map D.int = ls.map fun l => .int (d - l) := by unfold hrs; rw [List.map_map]; rfl
  rw [em]
  obtain ⟨n, rfl⟩ : ∃ n, k = n + 1 := ⟨k - 1, by omega⟩
  refine wd (fn := fn20) rfl rfl fun C hC => ?_
  dsimp only [fn20, tm20, Nat.reduceSub, List.replicate, List.cons_append, List.nil_append]
  repeat first
    | refine wl_map (l := ls) (h := .int) (fun l => .int (d - l)) (by omega) (fun i hi => ?_) ?_
    | refine ws_seq ?_
    | refine ws_asg ?_
    | refine we_bin ?_
    | refine we_cmp ?_
    | refine we_call ?_
    | refine we_blt ?_
    | refine we_lit ?_
    | (refine we_glb (by rfl) ?_)
    | (refine we_var (by rfl) ?_; try dsimp only [List.set, List.map, Mir.lend, List.getElem?_cons_zero, List.getElem?_cons_succ, List.cons_append, List.nil_append, List.foldl, Mir.lockAll, Mir.lock1, Mir.unlockAll, Mir.unlock1, Mir.restG, Mir.walked, Option.getD, Mir.look, Mir.Slot.d, Mir.XF])
    | (refine we_slot (by rfl) ?_; try dsimp only [List.set, List.map, Mir.lend, List.getElem?_cons_zero, List.getElem?_cons_succ, List.cons_append, List.nil_append, List.foldl, Mir.lockAll, Mir.lock1, Mir.unlockAll, Mir.unlock1, Mir.restG, Mir.walked, Option.getD, Mir.look, Mir.Slot.d, Mir.XF])
    | refine wes_cons ?_
    | refine wes_nil ?_
    | refine wvs_cons ?_
    | refine wvs_nil ?_
    | refine wv_val ?_
    | refine wv_tmp ?_
    | (refine wv_slot (by rfl) ?_; try dsimp only [List.set, List.map, Mir.lend, List.getElem?_cons_zero, List.getElem?_cons_succ, List.cons_append, List.nil_append, List.foldl, Mir.lockAll, Mir.lock1, Mir.unlockAll, Mir.unlock1, Mir.restG, Mir.walked, Option.getD, Mir.look, Mir.Slot.d, Mir.XF])
    | (refine wc (by rfl) ?_; try dsimp only [List.set, List.map, Mir.lend, List.getElem?_cons_zero, List.getElem?_cons_succ, List.cons_append, List.nil_append, List.foldl, Mir.lockAll, Mir.lock1, Mir.unlockAll, Mir.unlock1, Mir.restG, Mir.walked, Option.getD, Mir.look, Mir.Slot.d, Mir.XF])
    | (refine wz (by rfl) ?_; try dsimp only [List.set, List.map, Mir.lend, List.getElem?_cons_zero, List.getElem?_cons_succ, List.cons_append, List.nil_append, List.foldl, Mir.lockAll, Mir.lock1, Mir.unlockAll, Mir.unlock1, Mir.restG, Mir.walked, Option.getD, Mir.look, Mir.Slot.d, Mir.XF])
    | (refine wz_setv (by rfl) (by assumption) ?_; try dsimp only [List.set, List.map, Mir.lend, List.getElem?_cons_zero, List.getElem?_cons_succ, List.cons_append, List.nil_append, List.foldl, Mir.lockAll, Mir.lock1, Mir.unlockAll, Mir.unlock1, Mir.restG, Mir.walked, Option.getD, Mir.look, Mir.Slot.d, Mir.XF])
    | (refine wz_setw (by rfl) (by assumption) ?_; try dsimp only [List.set, List.map, Mir.lend, List.getElem?_cons_zero, List.getElem?_cons_succ, List.cons_append, List.nil_append, List.foldl, Mir.lockAll, Mir.lock1, Mir.unlockAll, Mir.unlock1, Mir.restG, Mir.walked, Option.getD, Mir.look, Mir.Slot.d, Mir.XF])
    | refine wo_f ?_
    | refine wo_t ?_
    | refine wline (by first | omega | exact Nat.le_of_ble_eq_true rfl) ?_
    | refine w2_add ?_
    | refine w2_sub ?_
    | refine w2_mul (by first | assumption | exact big_of ⟨by omega, by omega⟩ ⟨by omega, by omega⟩) ?_
    | refine w2_fdiv (by first | assumption | exact div_of (by omega) (by omega)) ?_
    | refine w2_mod (by omega) ?_
    | refine w2_lists (by first | omega | exact Nat.le_of_ble_eq_true rfl | (simp only [List.length_cons, List.length_nil]; omega)) ?_
    | refine w2_tups (by first | omega | (simp only [List.length_cons, List.length_nil, List.length_map, List.length_replicate]; omega)) ?_
    | refine wk_lt ?_
    | refine wk_le ?_
    | refine wk_gt ?_
    | refine wk_ge ?_
    | refine wk_eqI ?_
    | refine wk_neI ?_
    | refine wk_any (by first | assumption | rfl) ?_
    | refine wt_bool ?_
    | refine wt_any (by first | assumption | rfl) ?_
    | refine wand_t (by first | rfl | assumption | exact decide_eq_true (by omega) | exact nd_t (by omega)) ?_
    | refine wand_f (by first | rfl | assumption | exact decide_eq_false (by omega) | exact nd_f (by omega)) ?_
    | refine ws_ife ?_
    | (refine ws_ret ?_)
    | refine wz_ret ?_
    | refine wz_retT ?_
    | refine ws_skip ?_
    | refine ws_exp ?_
    | refine ws_par ?_
    | refine ws_asgT ?_
    | refine we_tup ?_
    | refine we_lst ?_
    | refine we_ix ?_
    | refine we_not ?_
    | refine we_and ?_
    | refine we_or ?_
    | refine we_ite ?_
    | refine we_chn ?_
    | refine we_comp ?_
    | refine wi_rng ?_
    | refine wi_sq ?_
    | refine wi_enm ?_
    | refine wn1 ⟨by omega, by omega⟩ ?_
    | refine wn2 ⟨by omega, by omega⟩ ⟨by omega, by omega⟩ ?_
    | refine wbd_nil ?_
    | refine wbd_one ?_
    | refine wb_len ?_
    | refine wb_lenT ?_
    | refine wb_min ?_
    | refine wb_max ?_
    | refine we_neg ?_
    | refine we_slc ?_
    | refine we_rev ?_
    | refine we_lsq ?_
    | refine we_tsq ?_
    | refine we_lrg ?_
    | refine we_trg ?_
    | refine ws_for ?_
    | refine ws_brk ?_
    | refine ws_cnt ?_
    | refine ws_retN ?_
    | refine wx_any (by first | assumption | rfl) ?_
    | refine ⟨_, rfl, ?_⟩
    | refine wfil (by rfl) (fun ht => ?_) (fun ht => ?_)
    | exact ⟨rfl, rfl⟩
theorem lost_L {k : Nat} {S : Int} {hs : List Int} (hk : 1 ≤ k) (hl : hs.length ≤ 200) : callN Tb k 28 [.sh (.int S), hoursL hs] = .ok (.list ((hs.map (tk S)).map .int), true, [.emp, hoursL hs]) := by
  have em : (hs.map (tk S)).map D.int = hs.map fun l => .int (tk S l) := by rw [List.map_map]; rfl
  rw [em]
  obtain ⟨n, rfl⟩ : ∃ n, k = n + 1 := ⟨k - 1, by omega⟩
  refine wd (fn := fn28) rfl rfl fun C hC => ?_
  dsimp only [fn28, tm28, Nat.reduceSub, List.replicate, List.cons_append, List.nil_append]
  repeat first
    | refine wl_map (l := hs) (h := .int) (fun l => .int (tk S l)) (by omega) (fun i hi => ?_) ?_
    | refine ws_seq ?_
    | refine ws_asg ?_
    | refine we_bin ?_
    | refine we_cmp ?_
    | refine we_call ?_
    | refine we_blt ?_
    | refine we_lit ?_
    | (refine we_glb (by rfl) ?_)
    | (refine we_var (by rfl) ?_; try dsimp only [List.set, List.map, Mir.lend, List.getElem?_cons_zero, List.getElem?_cons_succ, List.cons_append, List.nil_append, List.foldl, Mir.lockAll, Mir.lock1, Mir.unlockAll, Mir.unlock1, Mir.restG, Mir.walked, Option.getD, Mir.look, Mir.Slot.d, Mir.XF])
    | (refine we_slot (by rfl) ?_; try dsimp only [List.set, List.map, Mir.lend, List.getElem?_cons_zero, List.getElem?_cons_succ, List.cons_append, List.nil_append, List.foldl, Mir.lockAll, Mir.lock1, Mir.unlockAll, Mir.unlock1, Mir.restG, Mir.walked, Option.getD, Mir.look, Mir.Slot.d, Mir.XF])
    | refine wes_cons ?_
    | refine wes_nil ?_
    | refine wvs_cons ?_
    | refine wvs_nil ?_
    | refine wv_val ?_
    | refine wv_tmp ?_
    | (refine wv_slot (by rfl) ?_; try dsimp only [List.set, List.map, Mir.lend, List.getElem?_cons_zero, List.getElem?_cons_succ, List.cons_append, List.nil_append, List.foldl, Mir.lockAll, Mir.lock1, Mir.unlockAll, Mir.unlock1, Mir.restG, Mir.walked, Option.getD, Mir.look, Mir.Slot.d, Mir.XF])
    | (refine wc (by rfl) ?_; try dsimp only [List.set, List.map, Mir.lend, List.getElem?_cons_zero, List.getElem?_cons_succ, List.cons_append, List.nil_append, List.foldl, Mir.lockAll, Mir.lock1, Mir.unlockAll, Mir.unlock1, Mir.restG, Mir.walked, Option.getD, Mir.look, Mir.Slot.d, Mir.XF])
    | (refine wz (by rfl) ?_; try dsimp only [List.set, List.map, Mir.lend, List.getElem?_cons_zero, List.getElem?_cons_succ, List.cons_append, List.nil_append, List.foldl, Mir.lockAll, Mir.lock1, Mir.unlockAll, Mir.unlock1, Mir.restG, Mir.walked, Option.getD, Mir.look, Mir.Slot.d, Mir.XF])
    | (refine wz_setv (by rfl) (by assumption) ?_; try dsimp only [List.set, List.map, Mir.lend, List.getElem?_cons_zero, List.getElem?_cons_succ, List.cons_append, List.nil_append, List.foldl, Mir.lockAll, Mir.lock1, Mir.unlockAll, Mir.unlock1, Mir.restG, Mir.walked, Option.getD, Mir.look, Mir.Slot.d, Mir.XF])
    | (refine wz_setw (by rfl) (by assumption) ?_; try dsimp only [List.set, List.map, Mir.lend, List.getElem?_cons_zero, List.getElem?_cons_succ, List.cons_append, List.nil_append, List.foldl, Mir.lockAll, Mir.lock1, Mir.unlockAll, Mir.unlock1, Mir.restG, Mir.walked, Option.getD, Mir.look, Mir.Slot.d, Mir.XF])
    | refine wo_f ?_
    | refine wo_t ?_
    | refine wline (by first | omega | exact Nat.le_of_ble_eq_true rfl) ?_
    | refine w2_add ?_
    | refine w2_sub ?_
    | refine w2_mul (by first | assumption | exact big_of ⟨by omega, by omega⟩ ⟨by omega, by omega⟩) ?_
    | refine w2_fdiv (by first | assumption | exact div_of (by omega) (by omega)) ?_
    | refine w2_mod (by omega) ?_
    | refine w2_lists (by first | omega | exact Nat.le_of_ble_eq_true rfl | (simp only [List.length_cons, List.length_nil]; omega)) ?_
    | refine w2_tups (by first | omega | (simp only [List.length_cons, List.length_nil, List.length_map, List.length_replicate]; omega)) ?_
    | refine wk_lt ?_
    | refine wk_le ?_
    | refine wk_gt ?_
    | refine wk_ge ?_
    | refine wk_eqI ?_
    | refine wk_neI ?_
    | refine wk_any (by first | assumption | rfl) ?_
    | refine wt_bool ?_
    | refine wt_any (by first | assumption | rfl) ?_
    | refine wand_t (by first | rfl | assumption | exact decide_eq_true (by omega) | exact nd_t (by omega)) ?_
    | refine wand_f (by first | rfl | assumption | exact decide_eq_false (by omega) | exact nd_f (by omega)) ?_
    | refine ws_ife ?_
    | (refine ws_ret ?_)
    | refine wz_ret ?_
    | refine wz_retT ?_
    | refine ws_skip ?_
    | refine ws_exp ?_
    | refine ws_par ?_
    | refine ws_asgT ?_
    | refine we_tup ?_
    | refine we_lst ?_
    | refine we_ix ?_
    | refine we_not ?_
    | refine we_and ?_
    | refine we_or ?_
    | refine we_ite ?_
    | refine we_chn ?_
    | refine we_comp ?_
    | refine wi_rng ?_
    | refine wi_sq ?_
    | refine wi_enm ?_
    | refine wn1 ⟨by omega, by omega⟩ ?_
    | refine wn2 ⟨by omega, by omega⟩ ⟨by omega, by omega⟩ ?_
    | refine wbd_nil ?_
    | refine wbd_one ?_
    | refine wb_len ?_
    | refine wb_lenT ?_
    | refine wb_min ?_
    | refine wb_max ?_
    | refine we_neg ?_
    | refine we_slc ?_
    | refine we_rev ?_
    | refine we_lsq ?_
    | refine we_tsq ?_
    | refine we_lrg ?_
    | refine we_trg ?_
    | refine ws_for ?_
    | refine ws_brk ?_
    | refine ws_cnt ?_
    | refine ws_retN ?_
    | refine wx_any (by first | assumption | rfl) ?_
    | refine ⟨_, rfl, ?_⟩
    | refine wfil (by rfl) (fun ht => ?_) (fun ht => ?_)
    | exact ⟨rfl, rfl⟩
theorem lost_T {k : Nat} {S : Int} {hs : List Int} (hk : 1 ≤ k) (hl : hs.length ≤ 200) : callN Tb k 28 [.sh (.int S), .sh (hoursD hs)] = .ok (.list ((hs.map (tk S)).map .int), true, [.emp, .emp]) := by
  have em : (hs.map (tk S)).map D.int = hs.map fun l => .int (tk S l) := by rw [List.map_map]; rfl
  rw [em]
  obtain ⟨n, rfl⟩ : ∃ n, k = n + 1 := ⟨k - 1, by omega⟩
  refine wd (fn := fn28) rfl rfl fun C hC => ?_
  dsimp only [fn28, tm28, Nat.reduceSub, List.replicate, List.cons_append, List.nil_append]
  repeat first
    | refine wl_map (l := hs) (h := .int) (fun l => .int (tk S l)) (by omega) (fun i hi => ?_) ?_
    | refine ws_seq ?_
    | refine ws_asg ?_
    | refine we_bin ?_
    | refine we_cmp ?_
    | refine we_call ?_
    | refine we_blt ?_
    | refine we_lit ?_
    | (refine we_glb (by rfl) ?_)
    | (refine we_var (by rfl) ?_; try dsimp only [List.set, List.map, Mir.lend, List.getElem?_cons_zero, List.getElem?_cons_succ, List.cons_append, List.nil_append, List.foldl, Mir.lockAll, Mir.lock1, Mir.unlockAll, Mir.unlock1, Mir.restG, Mir.walked, Option.getD, Mir.look, Mir.Slot.d, Mir.XF])
    | (refine we_slot (by rfl) ?_; try dsimp only [List.set, List.map, Mir.lend, List.getElem?_cons_zero, List.getElem?_cons_succ, List.cons_append, List.nil_append, List.foldl, Mir.lockAll, Mir.lock1, Mir.unlockAll, Mir.unlock1, Mir.restG, Mir.walked, Option.getD, Mir.look, Mir.Slot.d, Mir.XF])
    | refine wes_cons ?_
    | refine wes_nil ?_
    | refine wvs_cons ?_
    | refine wvs_nil ?_
    | refine wv_val ?_
    | refine wv_tmp ?_
    | (refine wv_slot (by rfl) ?_; try dsimp only [List.set, List.map, Mir.lend, List.getElem?_cons_zero, List.getElem?_cons_succ, List.cons_append, List.nil_append, List.foldl, Mir.lockAll, Mir.lock1, Mir.unlockAll, Mir.unlock1, Mir.restG, Mir.walked, Option.getD, Mir.look, Mir.Slot.d, Mir.XF])
    | (refine wc (by rfl) ?_; try dsimp only [List.set, List.map, Mir.lend, List.getElem?_cons_zero, List.getElem?_cons_succ, List.cons_append, List.nil_append, List.foldl, Mir.lockAll, Mir.lock1, Mir.unlockAll, Mir.unlock1, Mir.restG, Mir.walked, Option.getD, Mir.look, Mir.Slot.d, Mir.XF])
    | (refine wz (by rfl) ?_; try dsimp only [List.set, List.map, Mir.lend, List.getElem?_cons_zero, List.getElem?_cons_succ, List.cons_append, List.nil_append, List.foldl, Mir.lockAll, Mir.lock1, Mir.unlockAll, Mir.unlock1, Mir.restG, Mir.walked, Option.getD, Mir.look, Mir.Slot.d, Mir.XF])
    | (refine wz_setv (by rfl) (by assumption) ?_; try dsimp only [List.set, List.map, Mir.lend, List.getElem?_cons_zero, List.getElem?_cons_succ, List.cons_append, List.nil_append, List.foldl, Mir.lockAll, Mir.lock1, Mir.unlockAll, Mir.unlock1, Mir.restG, Mir.walked, Option.getD, Mir.look, Mir.Slot.d, Mir.XF])
    | (refine wz_setw (by rfl) (by assumption) ?_; try dsimp only [List.set, List.map, Mir.lend, List.getElem?_cons_zero, List.getElem?_cons_succ, List.cons_append, List.nil_append, List.foldl, Mir.lockAll, Mir.lock1, Mir.unlockAll, Mir.unlock1, Mir.restG, Mir.walked, Option.getD, Mir.look, Mir.Slot.d, Mir.XF])
    | refine wo_f ?_
    | refine wo_t ?_
    | refine wline (by first | omega | exact Nat.le_of_ble_eq_true rfl) ?_
    | refine w2_add ?_
    | refine w2_sub ?_
    | refine w2_mul (by first | assumption | exact big_of ⟨by omega, by omega⟩ ⟨by omega, by omega⟩) ?_
    | refine w2_fdiv (by first | assumption | exact div_of (by omega) (by omega)) ?_
    | refine w2_mod (by omega) ?_
    | refine w2_lists (by first | omega | exact Nat.le_of_ble_eq_true rfl | (simp only [List.length_cons, List.length_nil]; omega)) ?_
    | refine w2_tups (by first | omega | (simp only [List.length_cons, List.length_nil, List.length_map, List.length_replicate]; omega)) ?_
    | refine wk_lt ?_
    | refine wk_le ?_
    | refine wk_gt ?_
    | refine wk_ge ?_
    | refine wk_eqI ?_
    | refine wk_neI ?_
    | refine wk_any (by first | assumption | rfl) ?_
    | refine wt_bool ?_
    | refine wt_any (by first | assumption | rfl) ?_
    | refine wand_t (by first | rfl | assumption | exact decide_eq_true (by omega) | exact nd_t (by omega)) ?_
    | refine wand_f (by first | rfl | assumption | exact decide_eq_false (by omega) | exact nd_f (by omega)) ?_
    | refine ws_ife ?_
    | (refine ws_ret ?_)
    | refine wz_ret ?_
    | refine wz_retT ?_
    | refine ws_skip ?_
    | refine ws_exp ?_
    | refine ws_par ?_
    | refine ws_asgT ?_
    | refine we_tup ?_
    | refine we_lst ?_
    | refine we_ix ?_
    | refine we_not ?_
    | refine we_and ?_
    | refine we_or ?_
    | refine we_ite ?_
    | refine we_chn ?_
    | refine we_comp ?_
    | refine wi_rng ?_
    | refine wi_sq ?_
    | refine wi_enm ?_
    | refine wn1 ⟨by omega, by omega⟩ ?_
    | refine wn2 ⟨by omega, by omega⟩ ⟨by omega, by omega⟩ ?_
    | refine wbd_nil ?_
    | refine wbd_one ?_
    | refine wb_len ?_
    | refine wb_lenT ?_
    | refine wb_min ?_
    | refine wb_max ?_
    | refine we_neg ?_
    | refine we_slc ?_
    | refine we_rev ?_
    | refine we_lsq ?_
    | refine we_tsq ?_
    | refine we_lrg ?_
    | refine we_trg ?_
    | refine ws_for ?_
    | refine ws_brk ?_
    | refine ws_cnt ?_
    | refine ws_retN ?_
    | refine wx_any (by first | assumption | rfl) ?_
    | refine ⟨_, rfl, ?_⟩
    | refine wfil (by rfl) (fun ht => ?_) (fun ht => ?_)
    | exact ⟨rfl, rfl⟩
/-! ## levels -/
theorem levels_loop {C : CallT} {st : Int × Int} (X : Fl → G → Prop) (N : G → Prop) : ∀ (hs : List Int) (A : Slot) (lv : Int) (acc : List D) (s : Slot), Sv s → acc.length + hs.length ≤ 200 →
    (keeps st.1 st.2 lv hs = true → ∀ lv' acc' s', Sv s' → N [.sh (storeD st), .sh (.int lv'), A, .sh (.int st.1), .sh (.int st.2), .li acc' false .own, s']) →
    (keeps st.1 st.2 lv hs = false → ∀ lv' acc' s', Sv s' → X (.rt .none false) [.sh (storeD st), .sh (.int lv'), A, .sh (.int st.1), .sh (.int st.2), .li acc' false .own, s']) →
    Wf ⟨C, Tb.con⟩ (.nm 6) (.seq (.ife (.or (.cmp .gt (.neg (.var 6)) (.var 4)) (.cmp .gt (.neg (.var 6)) (.var 1))) (.seq (.ret (.lit .none)) .skip) .skip) (.seq (.asg (.nm 1) (.blt .min (.cons (.var 3) (.cons (.bin .add (.var 1) (.blt .min (.cons (.var 6) (.cons (.var 4) .nil)))) .nil)))) (.seq (.app 5 (.var 1)) .skip))) (hs.map .int)
      [.sh (storeD st), .sh (.int lv), A, .sh (.int st.1), .sh (.int st.2), .li acc false .own, s] N X := by
  intro hs
  induction hs with
  | nil => intro A lv acc s hs hl hN hX; exact wf_nil (hN rfl lv acc s hs)
  | cons h hs ih =>
    intro A lv acc s hsv hl hN hX
    rw [List.length_cons] at hl
    have step : keeps st.1 st.2 lv (h :: hs) = if -h > st.2 ∨ -h > lv then false else keeps st.1 st.2 (mi st.1 (lv + mi h st.2)) hs := rfl
    refine wf_cons ?_
    by_cases c1 : -h > st.2
    · rw [step, if_pos (.inl c1)] at hX
      rcases hsv with rfl | ⟨v, rfl⟩
      · repeat first
          | exact hX rfl _ _ _ Sv.v
          | refine ws_seq ?_
          | refine ws_asg ?_
          | refine we_bin ?_
          | refine we_cmp ?_
          | refine we_call ?_
          | refine we_blt ?_
          | refine we_lit ?_
          | (refine we_glb (by rfl) ?_)
          | (refine we_var (by rfl) ?_; try dsimp only [List.set, List.map, Mir.lend, List.getElem?_cons_zero, List.getElem?_cons_succ, List.cons_append, List.nil_append, List.foldl, Mir.lockAll, Mir.lock1, Mir.unlockAll, Mir.unlock1, Mir.restG, Mir.walked, Option.getD, Mir.look, Mir.Slot.d, Mir.XF])
          | (refine we_slot (by rfl) ?_; try dsimp only [List.set, List.map, Mir.lend, List.getElem?_cons_zero, List.getElem?_cons_succ, List.cons_append, List.nil_append, List.foldl, Mir.lockAll, Mir.lock1, Mir.unlockAll, Mir.unlock1, Mir.restG, Mir.walked, Option.getD, Mir.look, Mir.Slot.d, Mir.XF])
          | refine wes_cons ?_
          | refine wes_nil ?_
          | refine wvs_cons ?_
          | refine wvs_nil ?_
          | refine wv_val ?_
          | refine wv_tmp ?_
          | (refine wv_slot (by rfl) ?_; try dsimp only [List.set, List.map, Mir.lend, List.getElem?_cons_zero, List.getElem?_cons_succ, List.cons_append, List.nil_append, List.foldl, Mir.lockAll, Mir.lock1, Mir.unlockAll, Mir.unlock1, Mir.restG, Mir.walked, Option.getD, Mir.look, Mir.Slot.d, Mir.XF])
          | (refine wc (by rfl) ?_; try dsimp only [List.set, List.map, Mir.lend, List.getElem?_cons_zero, List.getElem?_cons_succ, List.cons_append, List.nil_append, List.foldl, Mir.lockAll, Mir.lock1, Mir.unlockAll, Mir.unlock1, Mir.restG, Mir.walked, Option.getD, Mir.look, Mir.Slot.d, Mir.XF])
          | (refine wz (by rfl) ?_; try dsimp only [List.set, List.map, Mir.lend, List.getElem?_cons_zero, List.getElem?_cons_succ, List.cons_append, List.nil_append, List.foldl, Mir.lockAll, Mir.lock1, Mir.unlockAll, Mir.unlock1, Mir.restG, Mir.walked, Option.getD, Mir.look, Mir.Slot.d, Mir.XF])
          | (refine wz_setv (by rfl) (by assumption) ?_; try dsimp only [List.set, List.map, Mir.lend, List.getElem?_cons_zero, List.getElem?_cons_succ, List.cons_append, List.nil_append, List.foldl, Mir.lockAll, Mir.lock1, Mir.unlockAll, Mir.unlock1, Mir.restG, Mir.walked, Option.getD, Mir.look, Mir.Slot.d, Mir.XF])
          | (refine wz_setw (by rfl) (by assumption) ?_; try dsimp only [List.set, List.map, Mir.lend, List.getElem?_cons_zero, List.getElem?_cons_succ, List.cons_append, List.nil_append, List.foldl, Mir.lockAll, Mir.lock1, Mir.unlockAll, Mir.unlock1, Mir.restG, Mir.walked, Option.getD, Mir.look, Mir.Slot.d, Mir.XF])
          | refine wo_f ?_
          | refine wo_t ?_
          | refine wline (by first | omega | exact Nat.le_of_ble_eq_true rfl) ?_
          | refine w2_add ?_
          | refine w2_sub ?_
          | refine w2_mul (by first | assumption | exact big_of ⟨by omega, by omega⟩ ⟨by omega, by omega⟩) ?_
          | refine w2_fdiv (by first | assumption | exact div_of (by omega) (by omega)) ?_
          | refine w2_mod (by omega) ?_
          | refine w2_lists (by first | omega | exact Nat.le_of_ble_eq_true rfl | (simp only [List.length_cons, List.length_nil]; omega)) ?_
          | refine w2_tups (by first | omega | (simp only [List.length_cons, List.length_nil, List.length_map, List.length_replicate]; omega)) ?_
          | refine wk_lt ?_
          | refine wk_le ?_
          | refine wk_gt ?_
          | refine wk_ge ?_
          | refine wk_eqI ?_
          | refine wk_neI ?_
          | refine wk_any (by first | assumption | rfl) ?_
          | refine wt_bool ?_
          | refine wt_any (by first | assumption | rfl) ?_
          | refine wand_t (by first | rfl | assumption | exact decide_eq_true (by omega) | exact nd_t (by omega)) ?_
          | refine wand_f (by first | rfl | assumption | exact decide_eq_false (by omega) | exact nd_f (by omega)) ?_
          | refine ws_ife ?_
          | (refine ws_ret ?_)
          | refine wz_ret ?_
          | refine wz_retT ?_
          | refine ws_skip ?_
          | refine ws_exp ?_
          | refine ws_par ?_
          | refine ws_asgT ?_
          | refine we_tup ?_
          | refine we_lst ?_
          | refine we_ix ?_
          | refine we_not ?_
          | refine we_and ?_
          | refine we_or ?_
          | refine we_ite ?_
          | refine we_chn ?_
          | refine we_comp ?_
          | refine wi_rng ?_
          | refine wi_sq ?_
          | refine wi_enm ?_
          | refine wn1 ⟨by omega, by omega⟩ ?_
          | refine wn2 ⟨by omega, by omega⟩ ⟨by omega, by omega⟩ ?_
          | refine wbd_nil ?_
          | refine wbd_one ?_
          | refine wb_len ?_
          | refine wb_lenT ?_
          | refine wb_min ?_
          | refine wb_max ?_
          | refine we_neg ?_
          | refine we_slc ?_
          | refine we_rev ?_
          | refine we_lsq ?_
          | refine we_tsq ?_
          | refine we_lrg ?_
          | refine we_trg ?_
          | refine ws_for ?_
          | refine ws_brk ?_
          | refine ws_cnt ?_
          | refine ws_retN ?_
          | refine wx_any (by first | assumption | rfl) ?_
          | refine ⟨_, rfl, ?_⟩
          | refine wfil (by rfl) (fun ht => ?_) (fun ht => ?_)
          | exact ⟨rfl, rfl⟩
      · repeat first
          | exact hX rfl _ _ _ Sv.v
          | refine ws_seq ?_
          | refine ws_asg ?_
          | refine we_bin ?_
          | refine we_cmp ?_
          | refine we_call ?_
          | refine we_blt ?_
          | refine we_lit ?_
          | (refine we_glb (by rfl) ?_)
          | (refine we_var (by rfl) ?_; try dsimp only [List.set, List.map, Mir.lend, List.getElem?_cons_zero, List.getElem?_cons_succ, List.cons_append, List.nil_append, List.foldl, Mir.lockAll, Mir.lock1, Mir.unlockAll, Mir.unlock1, Mir.restG, Mir.walked, Option.getD, Mir.look, Mir.Slot.d, Mir.XF])
          | (refine we_slot (by rfl) ?_; try dsimp only [List.set, List.map, Mir.lend, List.getElem?_cons_zero, List.getElem?_cons_succ, List.cons_append, List.nil_append, List.foldl, Mir.lockAll, Mir.lock1, Mir.unlockAll, Mir.unlock1, Mir.restG, Mir.walked, Option.getD, Mir.look, Mir.Slot.d, Mir.XF])
          | refine wes_cons ?_
          | refine wes_nil ?_
          | refine wvs_cons ?_
          | refine wvs_nil ?_
          | refine wv_val ?_
          | refine wv_tmp ?_
          | (refine wv_slot (by rfl) ?_; try dsimp only [List.set, List.map, Mir.lend, List.getElem?_cons_zero, List.getElem?_cons_succ, List.cons_append, List.nil_append, List.foldl, Mir.lockAll, Mir.lock1, Mir.unlockAll, Mir.unlock1, Mir.restG, Mir.walked, Option.getD, Mir.look, Mir.Slot.d, Mir.XF])
          | (refine wc (by rfl) ?_; try dsimp only [List.set, List.map, Mir.lend, List.getElem?_cons_zero, List.getElem?_cons_succ, List.cons_append, List.nil_append, List.foldl, Mir.lockAll, Mir.lock1, Mir.unlockAll, Mir.unlock1, Mir.restG, Mir.walked, Option.getD, Mir.look, Mir.Slot.d, Mir.XF])
          | (refine wz (by rfl) ?_; try dsimp only [List.set, List.map, Mir.lend, List.getElem?_cons_zero, List.getElem?_cons_succ, List.cons_append, List.nil_append, List.foldl, Mir.lockAll, Mir.lock1, Mir.unlockAll, Mir.unlock1, Mir.restG, Mir.walked, Option.getD, Mir.look, Mir.Slot.d, Mir.XF])
          | (refine wz_setv (by rfl) (by assumption) ?_; try dsimp only [List.set, List.map, Mir.lend, List.getElem?_cons_zero, List.getElem?_cons_succ, List.cons_append, List.nil_append, List.foldl, Mir.lockAll, Mir.lock1, Mir.unlockAll, Mir.unlock1, Mir.restG, Mir.walked, Option.getD, Mir.look, Mir.Slot.d, Mir.XF])
          | (refine wz_setw (by rfl) (by assumption) ?_; try dsimp only [List.set, List.map, Mir.lend, List.getElem?_cons_zero, List.getElem?_cons_succ, List.cons_append, List.nil_append, List.foldl, Mir.lockAll, Mir.lock1, Mir.unlockAll, Mir.unlock1, Mir.restG, Mir.walked, Option.getD, Mir.look, Mir.Slot.d, Mir.XF])
          | refine wo_f ?_
          | refine wo_t ?_
          | refine wline (by first | omega | exact Nat.le_of_ble_eq_true rfl) ?_
          | refine w2_add ?_
          | refine w2_sub ?_
          | refine w2_mul (by first | assumption | exact big_of ⟨by omega, by omega⟩ ⟨by omega, by omega⟩) ?_
          | refine w2_fdiv (by first | assumption | exact div_of (by omega) (by omega)) ?_
          | refine w2_mod (by omega) ?_
          | refine w2_lists (by first | omega | exact Nat.le_of_ble_eq_true rfl | (simp only [List.length_cons, List.length_nil]; omega)) ?_
          | refine w2_tups (by first | omega | (simp only [List.length_cons, List.length_nil, List.length_map, List.length_replicate]; omega)) ?_
          | refine wk_lt ?_
          | refine wk_le ?_
          | refine wk_gt ?_
          | refine wk_ge ?_
          | refine wk_eqI ?_
          | refine wk_neI ?_
          | refine wk_any (by first | assumption | rfl) ?_
          | refine wt_bool ?_
          | refine wt_any (by first | assumption | rfl) ?_
          | refine wand_t (by first | rfl | assumption | exact decide_eq_true (by omega) | exact nd_t (by omega)) ?_
          | refine wand_f (by first | rfl | assumption | exact decide_eq_false (by omega) | exact nd_f (by omega)) ?_
          | refine ws_ife ?_
          | (refine ws_ret ?_)
          | refine wz_ret ?_
          | refine wz_retT ?_
          | refine ws_skip ?_
          | refine ws_exp ?_
          | refine ws_par ?_
          | refine ws_asgT ?_
          | refine we_tup ?_
          | refine we_lst ?_
          | refine we_ix ?_
          | refine we_not ?_
          | refine we_and ?_
          | refine we_or ?_
          | refine we_ite ?_
          | refine we_chn ?_
          | refine we_comp ?_
          | refine wi_rng ?_
          | refine wi_sq ?_
          | refine wi_enm ?_
          | refine wn1 ⟨by omega, by omega⟩ ?_
          | refine wn2 ⟨by omega, by omega⟩ ⟨by omega, by omega⟩ ?_
          | refine wbd_nil ?_
          | refine wbd_one ?_
          | refine wb_len ?_
          | refine wb_lenT ?_
          | refine wb_min ?_
          | refine wb_max ?_
          | refine we_neg ?_
          | refine we_slc ?_
          | refine we_rev ?_
          | refine we_lsq ?_
          | refine we_tsq ?_
          | refine we_lrg ?_
          | refine we_trg ?_
          | refine ws_for ?_
          | refine ws_brk ?_
          | refine ws_cnt ?_
          | refine ws_retN ?_
          | refine wx_any (by first | assumption | rfl) ?_
          | refine ⟨_, rfl, ?_⟩
          | refine wfil (by rfl) (fun ht => ?_) (fun ht => ?_)
          | exact ⟨rfl, rfl⟩
    · by_cases c2 : -h > lv
      · rw [step, if_pos (.inr c2)] at hX
        rcases hsv with rfl | ⟨v, rfl⟩
        · repeat first
            | exact hX rfl _ _ _ Sv.v
            | refine ws_seq ?_
            | refine ws_asg ?_
            | refine we_bin ?_
            | refine we_cmp ?_
            | refine we_call ?_
            | refine we_blt ?_
            | refine we_lit ?_
            | (refine we_glb (by rfl) ?_)
            | (refine we_var (by rfl) ?_; try dsimp only [List.set, List.map, Mir.lend, List.getElem?_cons_zero, List.getElem?_cons_succ, List.cons_append, List.nil_append, List.foldl, Mir.lockAll, Mir.lock1, Mir.unlockAll, Mir.unlock1, Mir.restG, Mir.walked, Option.getD, Mir.look, Mir.Slot.d, Mir.XF])
            | (refine we_slot (by rfl) ?_; try dsimp only [List.set, List.map, Mir.lend, List.getElem?_cons_zero, List.getElem?_cons_succ, List.cons_append, List.nil_append, List.foldl, Mir.lockAll, Mir.lock1, Mir.unlockAll, Mir.unlock1, Mir.restG, Mir.walked, Option.getD, Mir.look, Mir.Slot.d, Mir.XF])
            | refine wes_cons ?_
            | refine wes_nil ?_
            | refine wvs_cons ?_
            | refine wvs_nil ?_
            | refine wv_val ?_
            | refine wv_tmp ?_
            | (refine wv_slot (by rfl) ?_; try dsimp only [List.set, List.map, Mir.lend, List.getElem?_cons_zero, List.getElem?_cons_succ, List.cons_append, List.nil_append, List.foldl, Mir.lockAll, Mir.lock1, Mir.unlockAll, Mir.unlock1, Mir.restG, Mir.walked, Option.getD, Mir.look, Mir.Slot.d, Mir.XF])
            | (refine wc (by rfl) ?_; try dsimp only [List.set, List.map, Mir.lend, List.getElem?_cons_zero, List.getElem?_cons_succ, List.cons_append, List.nil_append, List.foldl, Mir.lockAll, Mir.lock1, Mir.unlockAll, Mir.unlock1, Mir.restG, Mir.walked, Option.getD, Mir.look, Mir.Slot.d, Mir.XF])
            | (refine wz (by rfl) ?_; try dsimp only [List.set, List.map, Mir.lend, List.getElem?_cons_zero, List.getElem?_cons_succ, List.cons_append, List.nil_append, List.foldl, Mir.lockAll, Mir.lock1, Mir.unlockAll, Mir.unlock1, Mir.restG, Mir.walked, Option.getD, Mir.look, Mir.Slot.d, Mir.XF])
            | (refine wz_setv (by rfl) (by assumption) ?_; try dsimp only [List.set, List.map, Mir.lend, List.getElem?_cons_zero, List.getElem?_cons_succ, List.cons_append, List.nil_append, List.foldl, Mir.lockAll, Mir.lock1, Mir.unlockAll, Mir.unlock1, Mir.restG, Mir.walked, Option.getD, Mir.look, Mir.Slot.d, Mir.XF])
            | (refine wz_setw (by rfl) (by assumption) ?_; try dsimp only [List.set, List.map, Mir.lend, List.getElem?_cons_zero, List.getElem?_cons_succ, List.cons_append, List.nil_append, List.foldl, Mir.lockAll, Mir.lock1, Mir.unlockAll, Mir.unlock1, Mir.restG, Mir.walked, Option.getD, Mir.look, Mir.Slot.d, Mir.XF])
            | refine wo_f ?_
            | refine wo_t ?_
            | refine wline (by first | omega | exact Nat.le_of_ble_eq_true rfl) ?_
            | refine w2_add ?_
            | refine w2_sub ?_
            | refine w2_mul (by first | assumption | exact big_of ⟨by omega, by omega⟩ ⟨by omega, by omega⟩) ?_
            | refine w2_fdiv (by first | assumption | exact div_of (by omega) (by omega)) ?_
            | refine w2_mod (by omega) ?_
            | refine w2_lists (by first | omega | exact Nat.le_of_ble_eq_true rfl | (simp only [List.length_cons, List.length_nil]; omega)) ?_
            | refine w2_tups (by first | omega | (simp only [List.length_cons, List.length_nil, List.length_map, List.length_replicate]; omega)) ?_
            | refine wk_lt ?_
            | refine wk_le ?_
            | refine wk_gt ?_
            | refine wk_ge ?_
            | refine wk_eqI ?_
            | refine wk_neI ?_
            | refine wk_any (by first | assumption | rfl) ?_
            | refine wt_bool ?_
            | refine wt_any (by first | assumption | rfl) ?_
            | refine wand_t (by first | rfl | assumption | exact decide_eq_true (by omega) | exact nd_t (by omega)) ?_
            | refine wand_f (by first | rfl | assumption | exact decide_eq_false (by omega) | exact nd_f (by omega)) ?_
            | refine ws_ife ?_
            | (refine ws_ret ?_)
            | refine wz_ret ?_
            | refine wz_retT ?_
            | refine ws_skip ?_
            | refine ws_exp ?_
            | refine ws_par ?_
            | refine ws_asgT ?_
            | refine we_tup ?_
            | refine we_lst ?_
            | refine we_ix ?_
            | refine we_not ?_
            | refine we_and ?_
            | refine we_or ?_
            | refine we_ite ?_
            | refine we_chn ?_
            | refine we_comp ?_
            | refine wi_rng ?_
            | refine wi_sq ?_
            | refine wi_enm ?_
            | refine wn1 ⟨by omega, by omega⟩ ?_
            | refine wn2 ⟨by omega, by omega⟩ ⟨by omega, by omega⟩ ?_
            | refine wbd_nil ?_
            | refine wbd_one ?_
            | refine wb_len ?_
            | refine wb_lenT ?_
            | refine wb_min ?_
            | refine wb_max ?_
            | refine we_neg ?_
            | refine we_slc ?_
            | refine we_rev ?_
            | refine we_lsq ?_
            | refine we_tsq ?_
            | refine we_lrg ?_
            | refine we_trg ?_
            | refine ws_for ?_
            | refine ws_brk ?_
            | refine ws_cnt ?_
            | refine ws_retN ?_
            | refine wx_any (by first | assumption | rfl) ?_
            | refine ⟨_, rfl, ?_⟩
            | refine wfil (by rfl) (fun ht => ?_) (fun ht => ?_)
            | exact ⟨rfl, rfl⟩
        · repeat first
            | exact hX rfl _ _ _ Sv.v
            | refine ws_seq ?_
            | refine ws_asg ?_
            | refine we_bin ?_
            | refine we_cmp ?_
            | refine we_call ?_
            | refine we_blt ?_
            | refine we_lit ?_
            | (refine we_glb (by rfl) ?_)
            | (refine we_var (by rfl) ?_; try dsimp only [List.set, List.map, Mir.lend, List.getElem?_cons_zero, List.getElem?_cons_succ, List.cons_append, List.nil_append, List.foldl, Mir.lockAll, Mir.lock1, Mir.unlockAll, Mir.unlock1, Mir.restG, Mir.walked, Option.getD, Mir.look, Mir.Slot.d, Mir.XF])
            | (refine we_slot (by rfl) ?_; try dsimp only [List.set, List.map, Mir.lend, List.getElem?_cons_zero, List.getElem?_cons_succ, List.cons_append, List.nil_append, List.foldl, Mir.lockAll, Mir.lock1, Mir.unlockAll, Mir.unlock1, Mir.restG, Mir.walked, Option.getD, Mir.look, Mir.Slot.d, Mir.XF])
            | refine wes_cons ?_
            | refine wes_nil ?_
            | refine wvs_cons ?_
            | refine wvs_nil ?_
            | refine wv_val ?_
            | refine wv_tmp ?_
            | (refine wv_slot (by rfl) ?_; try dsimp only [List.set, List.map, Mir.lend, List.getElem?_cons_zero, List.getElem?_cons_succ, List.cons_append, List.nil_append, List.foldl, Mir.lockAll, Mir.lock1, Mir.unlockAll, Mir.unlock1, Mir.restG, Mir.walked, Option.getD, Mir.look, Mir.Slot.d, Mir.XF])
            | (refine wc (by rfl) ?_; try dsimp only [List.set, List.map, Mir.lend, List.getElem?_cons_zero, List.getElem?_cons_succ, List.cons_append, List.nil_append, List.foldl, Mir.lockAll, Mir.lock1, Mir.unlockAll, Mir.unlock1, Mir.restG, Mir.walked, Option.getD, Mir.look, Mir.Slot.d, Mir.XF])
            | (refine wz (by rfl) ?_; try dsimp only [List.set, List.map, Mir.lend, List.getElem?_cons_zero, List.getElem?_cons_succ, List.cons_append, List.nil_append, List.foldl, Mir.lockAll, Mir.lock1, Mir.unlockAll, Mir.unlock1, Mir.restG, Mir.walked, Option.getD, Mir.look, Mir.Slot.d, Mir.XF])
            | (refine wz_setv (by rfl) (by assumption) ?_; try dsimp only [List.set, List.map, Mir.lend, List.getElem?_cons_zero, List.getElem?_cons_succ, List.cons_append, List.nil_append, List.foldl, Mir.lockAll, Mir.lock1, Mir.unlockAll, Mir.unlock1, Mir.restG, Mir.walked, Option.getD, Mir.look, Mir.Slot.d, Mir.XF])
            | (refine wz_setw (by rfl) (by assumption) ?_; try dsimp only [List.set, List.map, Mir.lend, List.getElem?_cons_zero, List.getElem?_cons_succ, List.cons_append, List.nil_append, List.foldl, Mir.lockAll, Mir.lock1, Mir.unlockAll, Mir.unlock1, Mir.restG, Mir.walked, Option.getD, Mir.look, Mir.Slot.d, Mir.XF])
            | refine wo_f ?_
            | refine wo_t ?_
            | refine wline (by first | omega | exact Nat.le_of_ble_eq_true rfl) ?_
            | refine w2_add ?_
            | refine w2_sub ?_
            | refine w2_mul (by first | assumption | exact big_of ⟨by omega, by omega⟩ ⟨by omega, by omega⟩) ?_
            | refine w2_fdiv (by first | assumption | exact div_of (by omega) (by omega)) ?_
            | refine w2_mod (by omega) ?_
            | refine w2_lists (by first | omega | exact Nat.le_of_ble_eq_true rfl | (simp only [List.length_cons, List.length_nil]; omega)) ?_
            | refine w2_tups (by first | omega | (simp only [List.length_cons, List.length_nil, List.length_map, List.length_replicate]; omega)) ?_
            | refine wk_lt ?_
            | refine wk_le ?_
            | refine wk_gt ?_
            | refine wk_ge ?_
            | refine wk_eqI ?_
            | refine wk_neI ?_
            | refine wk_any (by first | assumption | rfl) ?_
            | refine wt_bool ?_
            | refine wt_any (by first | assumption | rfl) ?_
            | refine wand_t (by first | rfl | assumption | exact decide_eq_true (by omega) | exact nd_t (by omega)) ?_
            | refine wand_f (by first | rfl | assumption | exact decide_eq_false (by omega) | exact nd_f (by omega)) ?_
            | refine ws_ife ?_
            | (refine ws_ret ?_)
            | refine wz_ret ?_
            | refine wz_retT ?_
            | refine ws_skip ?_
            | refine ws_exp ?_
            | refine ws_par ?_
            | refine ws_asgT ?_
            | refine we_tup ?_
            | refine we_lst ?_
            | refine we_ix ?_
            | refine we_not ?_
            | refine we_and ?_
            | refine we_or ?_
            | refine we_ite ?_
            | refine we_chn ?_
            | refine we_comp ?_
            | refine wi_rng ?_
            | refine wi_sq ?_
            | refine wi_enm ?_
            | refine wn1 ⟨by omega, by omega⟩ ?_
            | refine wn2 ⟨by omega, by omega⟩ ⟨by omega, by omega⟩ ?_
            | refine wbd_nil ?_
            | refine wbd_one ?_
            | refine wb_len ?_
            | refine wb_lenT ?_
            | refine wb_min ?_
            | refine wb_max ?_
            | refine we_neg ?_
            | refine we_slc ?_
            | refine we_rev ?_
            | refine we_lsq ?_
            | refine we_tsq ?_
            | refine we_lrg ?_
            | refine we_trg ?_
            | refine ws_for ?_
            | refine ws_brk ?_
            | refine ws_cnt ?_
            | refine ws_retN ?_
            | refine wx_any (by first | assumption | rfl) ?_
            | refine ⟨_, rfl, ?_⟩
            | refine wfil (by rfl) (fun ht => ?_) (fun ht => ?_)
            | exact ⟨rfl, rfl⟩
      · rw [step, if_neg (by omega)] at hN hX
        have next := fun s' hs' => ih A (mi st.1 (lv + mi h st.2)) (acc ++ [.int (mi st.1 (lv + mi h st.2))]) s' hs' (by rw [List.length_append, List.length_singleton]; omega) hN hX
        rcases hsv with rfl | ⟨v, rfl⟩
        · repeat first
            | refine ws_app (by rfl) ?_
            | refine ⟨_, _, by rfl, by omega, ?_⟩
            | exact next _ Sv.v
            | refine ws_seq ?_
            | refine ws_asg ?_
            | refine we_bin ?_
            | refine we_cmp ?_
            | refine we_call ?_
            | refine we_blt ?_
            | refine we_lit ?_
            | (refine we_glb (by rfl) ?_)
            | (refine we_var (by rfl) ?_; try dsimp only [List.set, List.map, Mir.lend, List.getElem?_cons_zero, List.getElem?_cons_succ, List.cons_append, List.nil_append, List.foldl, Mir.lockAll, Mir.lock1, Mir.unlockAll, Mir.unlock1, Mir.restG, Mir.walked, Option.getD, Mir.look, Mir.Slot.d, Mir.XF])
            | (refine we_slot (by rfl) ?_; try dsimp only [List.set, List.map, Mir.lend, List.getElem?_cons_zero, List.getElem?_cons_succ, List.cons_append, List.nil_append, List.foldl, Mir.lockAll, Mir.lock1, Mir.unlockAll, Mir.unlock1, Mir.restG, Mir.walked, Option.getD, Mir.look, Mir.Slot.d, Mir.XF])
            | refine wes_cons ?_
            | refine wes_nil ?_
            | refine wvs_cons ?_
            | refine wvs_nil ?_
            | refine wv_val ?_
            | refine wv_tmp ?_
            | (refine wv_slot (by rfl) ?_; try dsimp only [List.set, List.map, Mir.lend, List.getElem?_cons_zero, List.getElem?_cons_succ, List.cons_append, List.nil_append, List.foldl, Mir.lockAll, Mir.lock1, Mir.unlockAll, Mir.unlock1, Mir.restG, Mir.walked, Option.getD, Mir.look, Mir.Slot.d, Mir.XF])
            | (refine wc (by rfl) ?_; try dsimp only [List.set, List.map, Mir.lend, List.getElem?_cons_zero, List.getElem?_cons_succ, List.cons_append, List.nil_append, List.foldl, Mir.lockAll, Mir.lock1, Mir.unlockAll, Mir.unlock1, Mir.restG, Mir.walked, Option.getD, Mir.look, Mir.Slot.d, Mir.XF])
            | (refine wz (by rfl) ?_; try dsimp only [List.set, List.map, Mir.lend, List.getElem?_cons_zero, List.getElem?_cons_succ, List.cons_append, List.nil_append, List.foldl, Mir.lockAll, Mir.lock1, Mir.unlockAll, Mir.unlock1, Mir.restG, Mir.walked, Option.getD, Mir.look, Mir.Slot.d, Mir.XF])
            | (refine wz_setv (by rfl) (by assumption) ?_; try dsimp only [List.set, List.map, Mir.lend, List.getElem?_cons_zero, List.getElem?_cons_succ, List.cons_append, List.nil_append, List.foldl, Mir.lockAll, Mir.lock1, Mir.unlockAll, Mir.unlock1, Mir.restG, Mir.walked, Option.getD, Mir.look, Mir.Slot.d, Mir.XF])
            | (refine wz_setw (by rfl) (by assumption) ?_; try dsimp only [List.set, List.map, Mir.lend, List.getElem?_cons_zero, List.getElem?_cons_succ, List.cons_append, List.nil_append, List.foldl, Mir.lockAll, Mir.lock1, Mir.unlockAll, Mir.unlock1, Mir.restG, Mir.walked, Option.getD, Mir.look, Mir.Slot.d, Mir.XF])
            | refine wo_f ?_
            | refine wo_t ?_
            | refine wline (by first | omega | exact Nat.le_of_ble_eq_true rfl) ?_
            | refine w2_add ?_
            | refine w2_sub ?_
            | refine w2_mul (by first | assumption | exact big_of ⟨by omega, by omega⟩ ⟨by omega, by omega⟩) ?_
            | refine w2_fdiv (by first | assumption | exact div_of (by omega) (by omega)) ?_
            | refine w2_mod (by omega) ?_
            | refine w2_lists (by first | omega | exact Nat.le_of_ble_eq_true rfl | (simp only [List.length_cons, List.length_nil]; omega)) ?_
            | refine w2_tups (by first | omega | (simp only [List.length_cons, List.length_nil, List.length_map, List.length_replicate]; omega)) ?_
            | refine wk_lt ?_
            | refine wk_le ?_
            | refine wk_gt ?_
            | refine wk_ge ?_
            | refine wk_eqI ?_
            | refine wk_neI ?_
            | refine wk_any (by first | assumption | rfl) ?_
            | refine wt_bool ?_
            | refine wt_any (by first | assumption | rfl) ?_
            | refine wand_t (by first | rfl | assumption | exact decide_eq_true (by omega) | exact nd_t (by omega)) ?_
            | refine wand_f (by first | rfl | assumption | exact decide_eq_false (by omega) | exact nd_f (by omega)) ?_
            | refine ws_ife ?_
            | (refine ws_ret ?_)
            | refine wz_ret ?_
            | refine wz_retT ?_
            | refine ws_skip ?_
            | refine ws_exp ?_
            | refine ws_par ?_
            | refine ws_asgT ?_
            | refine we_tup ?_
            | refine we_lst ?_
            | refine we_ix ?_
            | refine we_not ?_
            | refine we_and ?_
            | refine we_or ?_
            | refine we_ite ?_
            | refine we_chn ?_
            | refine we_comp ?_
            | refine wi_rng ?_
            | refine wi_sq ?_
            | refine wi_enm ?_
            | refine wn1 ⟨by omega, by omega⟩ ?_
            | refine wn2 ⟨by omega, by omega⟩ ⟨by omega, by omega⟩ ?_
            | refine wbd_nil ?_
            | refine wbd_one ?_
            | refine wb_len ?_
            | refine wb_lenT ?_
            | refine wb_min ?_
            | refine wb_max ?_
            | refine we_neg ?_
            | refine we_slc ?_
            | refine we_rev ?_
            | refine we_lsq ?_
            | refine we_tsq ?_
            | refine we_lrg ?_
            | refine we_trg ?_
            | refine ws_for ?_
            | refine ws_brk ?_
            | refine ws_cnt ?_
            | refine ws_retN ?_
            | refine wx_any (by first | assumption | rfl) ?_
            | refine ⟨_, rfl, ?_⟩
            | refine wfil (by rfl) (fun ht => ?_) (fun ht => ?_)
            | exact ⟨rfl, rfl⟩
        · repeat first
            | refine ws_app (by rfl) ?_
            | refine ⟨_, _, by rfl, by omega, ?_⟩
            | exact next _ Sv.v
            | refine ws_seq ?_
            | refine ws_asg ?_
            | refine we_bin ?_
            | refine we_cmp ?_
            | refine we_call ?_
            | refine we_blt ?_
            | refine we_lit ?_
            | (refine we_glb (by rfl) ?_)
            | (refine we_var (by rfl) ?_; try dsimp only [List.set, List.map, Mir.lend, List.getElem?_cons_zero, List.getElem?_cons_succ, List.cons_append, List.nil_append, List.foldl, Mir.lockAll, Mir.lock1, Mir.unlockAll, Mir.unlock1, Mir.restG, Mir.walked, Option.getD, Mir.look, Mir.Slot.d, Mir.XF])
            | (refine we_slot (by rfl) ?_; try dsimp only [List.set, List.map, Mir.lend, List.getElem?_cons_zero, List.getElem?_cons_succ, List.cons_append, List.nil_append, List.foldl, Mir.lockAll, Mir.lock1, Mir.unlockAll, Mir.unlock1, Mir.restG, Mir.walked, Option.getD, Mir.look, Mir.Slot.d, Mir.XF])
            | refine wes_cons ?_
            | refine wes_nil ?_
            | refine wvs_cons ?_
            | refine wvs_nil ?_
            | refine wv_val ?_
            | refine wv_tmp ?_
            | (refine wv_slot (by rfl) ?_; try dsimp only [List.set, List.map, Mir.lend, List.getElem?_cons_zero, List.getElem?_cons_succ, List.cons_append, List.nil_append, List.foldl, Mir.lockAll, Mir.lock1, Mir.unlockAll, Mir.unlock1, Mir.restG, Mir.walked, Option.getD, Mir.look, Mir.Slot.d, Mir.XF])
            | (refine wc (by rfl) ?_; try dsimp only [List.set, List.map, Mir.lend, List.getElem?_cons_zero, List.getElem?_cons_succ, List.cons_append, List.nil_append, List.foldl, Mir.lockAll, Mir.lock1, Mir.unlockAll, Mir.unlock1, Mir.restG, Mir.walked, Option.getD, Mir.look, Mir.Slot.d, Mir.XF])
            | (refine wz (by rfl) ?_; try dsimp only [List.set, List.map, Mir.lend, List.getElem?_cons_zero, List.getElem?_cons_succ, List.cons_append, List.nil_append, List.foldl, Mir.lockAll, Mir.lock1, Mir.unlockAll, Mir.unlock1, Mir.restG, Mir.walked, Option.getD, Mir.look, Mir.Slot.d, Mir.XF])
            | (refine wz_setv (by rfl) (by assumption) ?_; try dsimp only [List.set, List.map, Mir.lend, List.getElem?_cons_zero, List.getElem?_cons_succ, List.cons_append, List.nil_append, List.foldl, Mir.lockAll, Mir.lock1, Mir.unlockAll, Mir.unlock1, Mir.restG, Mir.walked, Option.getD, Mir.look, Mir.Slot.d, Mir.XF])
            | (refine wz_setw (by rfl) (by assumption) ?_; try dsimp only [List.set, List.map, Mir.lend, List.getElem?_cons_zero, List.getElem?_cons_succ, List.cons_append, List.nil_append, List.foldl, Mir.lockAll, Mir.lock1, Mir.unlockAll, Mir.unlock1, Mir.restG, Mir.walked, Option.getD, Mir.look, Mir.Slot.d, Mir.XF])
            | refine wo_f ?_
            | refine wo_t ?_
            | refine wline (by first | omega | exact Nat.le_of_ble_eq_true rfl) ?_
            | refine w2_add ?_
            | refine w2_sub ?_
            | refine w2_mul (by first | assumption | exact big_of ⟨by omega, by omega⟩ ⟨by omega, by omega⟩) ?_
            | refine w2_fdiv (by first | assumption | exact div_of (by omega) (by omega)) ?_
            | refine w2_mod (by omega) ?_
            | refine w2_lists (by first | omega | exact Nat.le_of_ble_eq_true rfl | (simp only [List.length_cons, List.length_nil]; omega)) ?_
            | refine w2_tups (by first | omega | (simp only [List.length_cons, List.length_nil, List.length_map, List.length_replicate]; omega)) ?_
            | refine wk_lt ?_
            | refine wk_le ?_
            | refine wk_gt ?_
            | refine wk_ge ?_
            | refine wk_eqI ?_
            | refine wk_neI ?_
            | refine wk_any (by first | assumption | rfl) ?_
            | refine wt_bool ?_
            | refine wt_any (by first | assumption | rfl) ?_
            | refine wand_t (by first | rfl | assumption | exact decide_eq_true (by omega) | exact nd_t (by omega)) ?_
            | refine wand_f (by first | rfl | assumption | exact decide_eq_false (by omega) | exact nd_f (by omega)) ?_
            | refine ws_ife ?_
            | (refine ws_ret ?_)
            | refine wz_ret ?_
            | refine wz_retT ?_
            | refine ws_skip ?_
            | refine ws_exp ?_
            | refine ws_par ?_
            | refine ws_asgT ?_
            | refine we_tup ?_
            | refine we_lst ?_
            | refine we_ix ?_
            | refine we_not ?_
            | refine we_and ?_
            | refine we_or ?_
            | refine we_ite ?_
            | refine we_chn ?_
            | refine we_comp ?_
            | refine wi_rng ?_
            | refine wi_sq ?_
            | refine wi_enm ?_
            | refine wn1 ⟨by omega, by omega⟩ ?_
            | refine wn2 ⟨by omega, by omega⟩ ⟨by omega, by omega⟩ ?_
            | refine wbd_nil ?_
            | refine wbd_one ?_
            | refine wb_len ?_
            | refine wb_lenT ?_
            | refine wb_min ?_
            | refine wb_max ?_
            | refine we_neg ?_
            | refine we_slc ?_
            | refine we_rev ?_
            | refine we_lsq ?_
            | refine we_tsq ?_
            | refine we_lrg ?_
            | refine we_trg ?_
            | refine ws_for ?_
            | refine ws_brk ?_
            | refine ws_cnt ?_
            | refine ws_retN ?_
            | refine wx_any (by first | assumption | rfl) ?_
            | refine ⟨_, rfl, ?_⟩
            | refine wfil (by rfl) (fun ht => ?_) (fun ht => ?_)
            | exact ⟨rfl, rfl⟩
end Law

set_option Elab.async false
set_option autoImplicit false
set_option linter.all false
set_option maxRecDepth 100000
set_option maxHeartbeats 4000000
namespace Law
open PySem Mir
theorem levels_no {k : Nat} {st : Int × Int} {hs : List Int} (hk : 1 ≤ k) (hl : hs.length ≤ 200) (h : keeps st.1 st.2 st.1 hs = false) : callN Tb k 22 [.sh (storeD st), .sh (.int st.1), hoursL hs] = .ok (.none, false, [.emp, .emp, hoursL hs]) := by
  obtain ⟨n, rfl⟩ : ∃ n, k = n + 1 := ⟨k - 1, by omega⟩
  refine wd (fn := fn22) rfl rfl fun C hC => ?_
  dsimp only [fn22, tm22, Nat.reduceSub, List.replicate, List.cons_append, List.nil_append]
  repeat first
    | refine levels_loop (st := st) _ _ hs _ _ [] _ Sv.e (by simpa using hl) (fun z => absurd (h.symm.trans z) Bool.false_ne_true) (fun _ lv' acc' s' hs' => ?_)
    | refine ws_seq ?_
    | refine ws_asg ?_
    | refine we_bin ?_
    | refine we_cmp ?_
    | refine we_call ?_
    | refine we_blt ?_
    | refine we_lit ?_
    | (refine we_glb (by rfl) ?_)
    | (refine we_var (by rfl) ?_; try dsimp only [List.set, List.map, Mir.lend, List.getElem?_cons_zero, List.getElem?_cons_succ, List.cons_append, List.nil_append, List.foldl, Mir.lockAll, Mir.lock1, Mir.unlockAll, Mir.unlock1, Mir.restG, Mir.walked, Option.getD, Mir.look, Mir.Slot.d, Mir.XF])
    | (refine we_slot (by rfl) ?_; try dsimp only [List.set, List.map, Mir.lend, List.getElem?_cons_zero, List.getElem?_cons_succ, List.cons_append, List.nil_append, List.foldl, Mir.lockAll, Mir.lock1, Mir.unlockAll, Mir.unlock1, Mir.restG, Mir.walked, Option.getD, Mir.look, Mir.Slot.d, Mir.XF])
    | refine wes_cons ?_
    | refine wes_nil ?_
    | refine wvs_cons ?_
    | refine wvs_nil ?_
    | refine wv_val ?_
    | refine wv_tmp ?_
    | (refine wv_slot (by rfl) ?_; try dsimp only [List.set, List.map, Mir.lend, List.getElem?_cons_zero, List.getElem?_cons_succ, List.cons_append, List.nil_append, List.foldl, Mir.lockAll, Mir.lock1, Mir.unlockAll, Mir.unlock1, Mir.restG, Mir.walked, Option.getD, Mir.look, Mir.Slot.d, Mir.XF])
    | (refine wc (by rfl) ?_; try dsimp only [List.set, List.map, Mir.lend, List.getElem?_cons_zero, List.getElem?_cons_succ, List.cons_append, List.nil_append, List.foldl, Mir.lockAll, Mir.lock1, Mir.unlockAll, Mir.unlock1, Mir.restG, Mir.walked, Option.getD, Mir.look, Mir.Slot.d, Mir.XF])
    | (refine wz (by rfl) ?_; try dsimp only [List.set, List.map, Mir.lend, List.getElem?_cons_zero, List.getElem?_cons_succ, List.cons_append, List.nil_append, List.foldl, Mir.lockAll, Mir.lock1, Mir.unlockAll, Mir.unlock1, Mir.restG, Mir.walked, Option.getD, Mir.look, Mir.Slot.d, Mir.XF])
    | (refine wz_setv (by rfl) (by assumption) ?_; try dsimp only [List.set, List.map, Mir.lend, List.getElem?_cons_zero, List.getElem?_cons_succ, List.cons_append, List.nil_append, List.foldl, Mir.lockAll, Mir.lock1, Mir.unlockAll, Mir.unlock1, Mir.restG, Mir.walked, Option.getD, Mir.look, Mir.Slot.d, Mir.XF])
    | (refine wz_setw (by rfl) (by assumption) ?_; try dsimp only [List.set, List.map, Mir.lend, List.getElem?_cons_zero, List.getElem?_cons_succ, List.cons_append, List.nil_append, List.foldl, Mir.lockAll, Mir.lock1, Mir.unlockAll, Mir.unlock1, Mir.restG, Mir.walked, Option.getD, Mir.look, Mir.Slot.d, Mir.XF])
    | refine wo_f ?_
    | refine wo_t ?_
    | refine wline (by first | omega | exact Nat.le_of_ble_eq_true rfl) ?_
    | refine w2_add ?_
    | refine w2_sub ?_
    | refine w2_mul (by first | assumption | exact big_of ⟨by omega, by omega⟩ ⟨by omega, by omega⟩) ?_
    | refine w2_fdiv (by first | assumption | exact div_of (by omega) (by omega)) ?_
    | refine w2_mod (by omega) ?_
    | refine w2_lists (by first | omega | exact Nat.le_of_ble_eq_true rfl | (simp only [List.length_cons, List.length_nil]; omega)) ?_
    | refine w2_tups (by first | omega | (simp only [List.length_cons, List.length_nil, List.length_map, List.length_replicate]; omega)) ?_
    | refine wk_lt ?_
    | refine wk_le ?_
    | refine wk_gt ?_
    | refine wk_ge ?_
    | refine wk_eqI ?_
    | refine wk_neI ?_
    | refine wk_any (by first | assumption | rfl) ?_
    | refine wt_bool ?_
    | refine wt_any (by first | assumption | rfl) ?_
    | refine wand_t (by first | rfl | assumption | exact decide_eq_true (by omega) | exact nd_t (by omega)) ?_
    | refine wand_f (by first | rfl | assumption | exact decide_eq_false (by omega) | exact nd_f (by omega)) ?_
    | refine ws_ife ?_
    | (refine ws_ret ?_)
    | refine wz_ret ?_
    | refine wz_retT ?_
    | refine ws_skip ?_
    | refine ws_exp ?_
    | refine ws_par ?_
    | refine ws_asgT ?_
    | refine we_tup ?_
    | refine we_lst ?_
    | refine we_ix ?_
    | refine we_not ?_
    | refine we_and ?_
    | refine we_or ?_
    | refine we_ite ?_
    | refine we_chn ?_
    | refine we_comp ?_
    | refine wi_rng ?_
    | refine wi_sq ?_
    | refine wi_enm ?_
    | refine wn1 ⟨by omega, by omega⟩ ?_
    | refine wn2 ⟨by omega, by omega⟩ ⟨by omega, by omega⟩ ?_
    | refine wbd_nil ?_
    | refine wbd_one ?_
    | refine wb_len ?_
    | refine wb_lenT ?_
    | refine wb_min ?_
    | refine wb_max ?_
    | refine we_neg ?_
    | refine we_slc ?_
    | refine we_rev ?_
    | refine we_lsq ?_
    | refine we_tsq ?_
    | refine we_lrg ?_
    | refine we_trg ?_
    | refine ws_for ?_
    | refine ws_brk ?_
    | refine ws_cnt ?_
    | refine ws_retN ?_
    | refine wx_any (by first | assumption | rfl) ?_
    | refine ⟨_, rfl, ?_⟩
    | refine wfil (by rfl) (fun ht => ?_) (fun ht => ?_)
    | exact ⟨rfl, rfl⟩
theorem levels_yes {k : Nat} {st : Int × Int} {hs : List Int} (hk : 1 ≤ k) (hl : hs.length ≤ 200) (h : keeps st.1 st.2 st.1 hs = true) : ∃ d, (∃ xs, d = D.list xs) ∧ callN Tb k 22 [.sh (storeD st), .sh (.int st.1), hoursL hs] = .ok (d, true, [.emp, .emp, hoursL hs]) := by
  obtain ⟨n, rfl⟩ : ∃ n, k = n + 1 := ⟨k - 1, by omega⟩
  refine wdE (fn := fn22) rfl rfl fun C hC => ?_
  dsimp only [fn22, tm22, Nat.reduceSub, List.replicate, List.cons_append, List.nil_append]
  repeat first
    | refine levels_loop (st := st) _ _ hs _ _ [] _ Sv.e (by simpa using hl) (fun _ lv' acc' s' hs' => ?_) (fun z => absurd (z.symm.trans h) Bool.false_ne_true)
    | exact ⟨_, ⟨_, rfl⟩, rfl, rfl⟩
    | refine ws_seq ?_
    | refine ws_asg ?_
    | refine we_bin ?_
    | refine we_cmp ?_
    | refine we_call ?_
    | refine we_blt ?_
    | refine we_lit ?_
    | (refine we_glb (by rfl) ?_)
    | (refine we_var (by rfl) ?_; try dsimp only [List.set, List.map, Mir.lend, List.getElem?_cons_zero, List.getElem?_cons_succ, List.cons_append, List.nil_append, List.foldl, Mir.lockAll, Mir.lock1, Mir.unlockAll, Mir.unlock1, Mir.restG, Mir.walked, Option.getD, Mir.look, Mir.Slot.d, Mir.XF])
    | (refine we_slot (by rfl) ?_; try dsimp only [List.set, List.map, Mir.lend, List.getElem?_cons_zero, List.getElem?_cons_succ, List.cons_append, List.nil_append, List.foldl, Mir.lockAll, Mir.lock1, Mir.unlockAll, Mir.unlock1, Mir.restG, Mir.walked, Option.getD, Mir.look, Mir.Slot.d, Mir.XF])
    | refine wes_cons ?_
    | refine wes_nil ?_
    | refine wvs_cons ?_
    | refine wvs_nil ?_
    | refine wv_val ?_
    | refine wv_tmp ?_
    | (refine wv_slot (by rfl) ?_; try dsimp only [List.set, List.map, Mir.lend, List.getElem?_cons_zero, List.getElem?_cons_succ, List.cons_append, List.nil_append, List.foldl, Mir.lockAll, Mir.lock1, Mir.unlockAll, Mir.unlock1, Mir.restG, Mir.walked, Option.getD, Mir.look, Mir.Slot.d, Mir.XF])
    | (refine wc (by rfl) ?_; try dsimp only [List.set, List.map, Mir.lend, List.getElem?_cons_zero, List.getElem?_cons_succ, List.cons_append, List.nil_append, List.foldl, Mir.lockAll, Mir.lock1, Mir.unlockAll, Mir.unlock1, Mir.restG, Mir.walked, Option.getD, Mir.look, Mir.Slot.d, Mir.XF])
    | (refine wz (by rfl) ?_; try dsimp only [List.set, List.map, Mir.lend, List.getElem?_cons_zero, List.getElem?_cons_succ, List.cons_append, List.nil_append, List.foldl, Mir.lockAll, Mir.lock1, Mir.unlockAll, Mir.unlock1, Mir.restG, Mir.walked, Option.getD, Mir.look, Mir.Slot.d, Mir.XF])
    | (refine wz_setv (by rfl) (by assumption) ?_; try dsimp only [List.set, List.map, Mir.lend, List.getElem?_cons_zero, List.getElem?_cons_succ, List.cons_append, List.nil_append, List.foldl, Mir.lockAll, Mir.lock1, Mir.unlockAll, Mir.unlock1, Mir.restG, Mir.walked, Option.getD, Mir.look, Mir.Slot.d, Mir.XF])
    | (refine wz_setw (by rfl) (by assumption) ?_; try dsimp only [List.set, List.map, Mir.lend, List.getElem?_cons_zero, List.getElem?_cons_succ, List.cons_append, List.nil_append, List.foldl, Mir.lockAll, Mir.lock1, Mir.unlockAll, Mir.unlock1, Mir.restG, Mir.walked, Option.getD, Mir.look, Mir.Slot.d, Mir.XF])
    | refine wo_f ?_
    | refine wo_t ?_
    | refine wline (by first | omega | exact Nat.le_of_ble_eq_true rfl) ?_
    | refine w2_add ?_
    | refine w2_sub ?_
    | refine w2_mul (by first | assumption | exact big_of ⟨by omega, by omega⟩ ⟨by omega, by omega⟩) ?_
    | refine w2_fdiv (by first | assumption | exact div_of (by omega) (by omega)) ?_
    | refine w2_mod (by omega) ?_
    | refine w2_lists (by first | omega | exact Nat.le_of_ble_eq_true rfl | (simp only [List.length_cons, List.length_nil]; omega)) ?_
    | refine w2_tups (by first | omega | (simp only [List.length_cons, List.length_nil, List.length_map, List.length_replicate]; omega)) ?_
    | refine wk_lt ?_
    | refine wk_le ?_
    | refine wk_gt ?_
    | refine wk_ge ?_
    | refine wk_eqI ?_
    | refine wk_neI ?_
    | refine wk_any (by first | assumption | rfl) ?_
    | refine wt_bool ?_
    | refine wt_any (by first | assumption | rfl) ?_
    | refine wand_t (by first | rfl | assumption | exact decide_eq_true (by omega) | exact nd_t (by omega)) ?_
    | refine wand_f (by first | rfl | assumption | exact decide_eq_false (by omega) | exact nd_f (by omega)) ?_
    | refine ws_ife ?_
    | (refine ws_ret ?_)
    | refine wz_ret ?_
    | refine wz_retT ?_
    | refine ws_skip ?_
    | refine ws_exp ?_
    | refine ws_par ?_
    | refine ws_asgT ?_
    | refine we_tup ?_
    | refine we_lst ?_
    | refine we_ix ?_
    | refine we_not ?_
    | refine we_and ?_
    | refine we_or ?_
    | refine we_ite ?_
    | refine we_chn ?_
    | refine we_comp ?_
    | refine wi_rng ?_
    | refine wi_sq ?_
    | refine wi_enm ?_
    | refine wn1 ⟨by omega, by omega⟩ ?_
    | refine wn2 ⟨by omega, by omega⟩ ⟨by omega, by omega⟩ ?_
    | refine wbd_nil ?_
    | refine wbd_one ?_
    | refine wb_len ?_
    | refine wb_lenT ?_
    | refine wb_min ?_
    | refine wb_max ?_
    | refine we_neg ?_
    | refine we_slc ?_
    | refine we_rev ?_
    | refine we_lsq ?_
    | refine we_tsq ?_
    | refine we_lrg ?_
    | refine we_trg ?_
    | refine ws_for ?_
    | refine ws_brk ?_
    | refine ws_cnt ?_
    | refine ws_retN ?_
    | refine wx_any (by first | assumption | rfl) ?_
    | refine ⟨_, rfl, ?_⟩
    | refine wfil (by rfl) (fun ht => ?_) (fun ht => ?_)
    | exact ⟨rfl, rfl⟩
theorem hrs_len (ls : List Int) (d : Int) : (hrs ls d).length = ls.length := by unfold hrs; rw [List.length_map]
theorem is_enough_in {k : Nat} {st : Int × Int} {ls : List Int} {d : Int} (hk : 2 ≤ k) (hl : LdOk ls) : callN Tb k 15 [.sh (storeD st), .sh (loadsD ls), .sh (.int d)] = .ok (.bool (en st ls d), false, [.emp, .emp, .emp]) := by
  have h200 : (hrs ls d).length ≤ 200 := by rw [hrs_len]; exact hl.1
  obtain ⟨n, rfl⟩ : ∃ n, k = n + 1 := ⟨k - 1, by omega⟩
  refine wd (fn := fn15) rfl rfl fun C hC => ?_
  dsimp only [fn15, tm15, Nat.reduceSub, List.replicate, List.cons_append, List.nil_append]
  have e1 := hours_for (k := n) (d := d) (by omega) hl
  cases c : en st ls d with
  | true =>
    obtain ⟨x, ⟨xs, rfl⟩, e2⟩ := levels_yes (k := n) (by omega) h200 c
    rw [← hC] at e1 e2
    repeat first
      | refine ws_seq ?_
      | refine ws_asg ?_
      | refine we_bin ?_
      | refine we_cmp ?_
      | refine we_call ?_
      | refine we_blt ?_
      | refine we_lit ?_
      | (refine we_glb (by rfl) ?_)
      | (refine we_var (by rfl) ?_; try dsimp only [List.set, List.map, Mir.lend, List.getElem?_cons_zero, List.getElem?_cons_succ, List.cons_append, List.nil_append, List.foldl, Mir.lockAll, Mir.lock1, Mir.unlockAll, Mir.unlock1, Mir.restG, Mir.walked, Option.getD, Mir.look, Mir.Slot.d, Mir.XF])
      | (refine we_slot (by rfl) ?_; try dsimp only [List.set, List.map, Mir.lend, List.getElem?_cons_zero, List.getElem?_cons_succ, List.cons_append, List.nil_append, List.foldl, Mir.lockAll, Mir.lock1, Mir.unlockAll, Mir.unlock1, Mir.restG, Mir.walked, Option.getD, Mir.look, Mir.Slot.d, Mir.XF])
      | refine wes_cons ?_
      | refine wes_nil ?_
      | refine wvs_cons ?_
      | refine wvs_nil ?_
      | refine wv_val ?_
      | refine wv_tmp ?_
      | (refine wv_slot (by rfl) ?_; try dsimp only [List.set, List.map, Mir.lend, List.getElem?_cons_zero, List.getElem?_cons_succ, List.cons_append, List.nil_append, List.foldl, Mir.lockAll, Mir.lock1, Mir.unlockAll, Mir.unlock1, Mir.restG, Mir.walked, Option.getD, Mir.look, Mir.Slot.d, Mir.XF])
      | (refine wc (by rfl) ?_; try dsimp only [List.set, List.map, Mir.lend, List.getElem?_cons_zero, List.getElem?_cons_succ, List.cons_append, List.nil_append, List.foldl, Mir.lockAll, Mir.lock1, Mir.unlockAll, Mir.unlock1, Mir.restG, Mir.walked, Option.getD, Mir.look, Mir.Slot.d, Mir.XF])
      | (refine wr e1 ?_)
      | (refine wr e2 ?_)
      | (refine wz (by rfl) ?_; try dsimp only [List.set, List.map, Mir.lend, List.getElem?_cons_zero, List.getElem?_cons_succ, List.cons_append, List.nil_append, List.foldl, Mir.lockAll, Mir.lock1, Mir.unlockAll, Mir.unlock1, Mir.restG, Mir.walked, Option.getD, Mir.look, Mir.Slot.d, Mir.XF])
      | (refine wz_setv (by rfl) (by assumption) ?_; try dsimp only [List.set, List.map, Mir.lend, List.getElem?_cons_zero, List.getElem?_cons_succ, List.cons_append, List.nil_append, List.foldl, Mir.lockAll, Mir.lock1, Mir.unlockAll, Mir.unlock1, Mir.restG, Mir.walked, Option.getD, Mir.look, Mir.Slot.d, Mir.XF])
      | (refine wz_setw (by rfl) (by assumption) ?_; try dsimp only [List.set, List.map, Mir.lend, List.getElem?_cons_zero, List.getElem?_cons_succ, List.cons_append, List.nil_append, List.foldl, Mir.lockAll, Mir.lock1, Mir.unlockAll, Mir.unlock1, Mir.restG, Mir.walked, Option.getD, Mir.look, Mir.Slot.d, Mir.XF])
      | refine wo_f ?_
      | refine wo_t ?_
      | refine wline (by first | omega | exact Nat.le_of_ble_eq_true rfl) ?_
      | refine w2_add ?_
      | refine w2_sub ?_
      | refine w2_mul (by first | assumption | exact big_of ⟨by omega, by omega⟩ ⟨by omega, by omega⟩) ?_
      | refine w2_fdiv (by first | assumption | exact div_of (by omega) (by omega)) ?_
      | refine w2_mod (by omega) ?_
      | refine w2_lists (by first | omega | exact Nat.le_of_ble_eq_true rfl | (simp only [List.length_cons, List.length_nil]; omega)) ?_
      | refine w2_tups (by first | omega | (simp only [List.length_cons, List.length_nil, List.length_map, List.length_replicate]; omega)) ?_
      | refine wk_lt ?_
      | refine wk_le ?_
      | refine wk_gt ?_
      | refine wk_ge ?_
      | refine wk_eqI ?_
      | refine wk_neI ?_
      | refine wk_any (by first | assumption | rfl) ?_
      | refine wt_bool ?_
      | refine wt_any (by first | assumption | rfl) ?_
      | refine wand_t (by first | rfl | assumption | exact decide_eq_true (by omega) | exact nd_t (by omega)) ?_
      | refine wand_f (by first | rfl | assumption | exact decide_eq_false (by omega) | exact nd_f (by omega)) ?_
      | refine ws_ife ?_
      | (refine ws_ret ?_)
      | refine wz_ret ?_
      | refine wz_retT ?_
      | refine ws_skip ?_
      | refine ws_exp ?_
      | refine ws_par ?_
      | refine ws_asgT ?_
      | refine we_tup ?_
      | refine we_lst ?_
      | refine we_ix ?_
      | refine we_not ?_
      | refine we_and ?_
      | refine we_or ?_
      | refine we_ite ?_
      | refine we_chn ?_
      | refine we_comp ?_
      | refine wi_rng ?_
      | refine wi_sq ?_
      | refine wi_enm ?_
      | refine wn1 ⟨by omega, by omega⟩ ?_
      | refine wn2 ⟨by omega, by omega⟩ ⟨by omega, by omega⟩ ?_
      | refine wbd_nil ?_
      | refine wbd_one ?_
      | refine wb_len ?_
      | refine wb_lenT ?_
      | refine wb_min ?_
      | refine wb_max ?_
      | refine we_neg ?_
      | refine we_slc ?_
      | refine we_rev ?_
      | refine we_lsq ?_
      | refine we_tsq ?_
      | refine we_lrg ?_
      | refine we_trg ?_
      | refine ws_for ?_
      | refine ws_brk ?_
      | refine ws_cnt ?_
      | refine ws_retN ?_
      | refine wx_any (by first | assumption | rfl) ?_
      | refine ⟨_, rfl, ?_⟩
      | refine wfil (by rfl) (fun ht => ?_) (fun ht => ?_)
      | exact ⟨rfl, rfl⟩
  | false =>
    have e2 := levels_no (k := n) (by omega) h200 c
    rw [← hC] at e1 e2
    repeat first
      | refine ws_seq ?_
      | refine ws_asg ?_
      | refine we_bin ?_
      | refine we_cmp ?_
      | refine we_call ?_
      | refine we_blt ?_
      | refine we_lit ?_
      | (refine we_glb (by rfl) ?_)
      | (refine we_var (by rfl) ?_; try dsimp only [List.set, List.map, Mir.lend, List.getElem?_cons_zero, List.getElem?_cons_succ, List.cons_append, List.nil_append, List.foldl, Mir.lockAll, Mir.lock1, Mir.unlockAll, Mir.unlock1, Mir.restG, Mir.walked, Option.getD, Mir.look, Mir.Slot.d, Mir.XF])
      | (refine we_slot (by rfl) ?_; try dsimp only [List.set, List.map, Mir.lend, List.getElem?_cons_zero, List.getElem?_cons_succ, List.cons_append, List.nil_append, List.foldl, Mir.lockAll, Mir.lock1, Mir.unlockAll, Mir.unlock1, Mir.restG, Mir.walked, Option.getD, Mir.look, Mir.Slot.d, Mir.XF])
      | refine wes_cons ?_
      | refine wes_nil ?_
      | refine wvs_cons ?_
      | refine wvs_nil ?_
      | refine wv_val ?_
      | refine wv_tmp ?_
      | (refine wv_slot (by rfl) ?_; try dsimp only [List.set, List.map, Mir.lend, List.getElem?_cons_zero, List.getElem?_cons_succ, List.cons_append, List.nil_append, List.foldl, Mir.lockAll, Mir.lock1, Mir.unlockAll, Mir.unlock1, Mir.restG, Mir.walked, Option.getD, Mir.look, Mir.Slot.d, Mir.XF])
      | (refine wc (by rfl) ?_; try dsimp only [List.set, List.map, Mir.lend, List.getElem?_cons_zero, List.getElem?_cons_succ, List.cons_append, List.nil_append, List.foldl, Mir.lockAll, Mir.lock1, Mir.unlockAll, Mir.unlock1, Mir.restG, Mir.walked, Option.getD, Mir.look, Mir.Slot.d, Mir.XF])
      | (refine wr e1 ?_)
      | (refine wr e2 ?_)
      | (refine wz (by rfl) ?_; try dsimp only [List.set, List.map, Mir.lend, List.getElem?_cons_zero, List.getElem?_cons_succ, List.cons_append, List.nil_append, List.foldl, Mir.lockAll, Mir.lock1, Mir.unlockAll, Mir.unlock1, Mir.restG, Mir.walked, Option.getD, Mir.look, Mir.Slot.d, Mir.XF])
      | (refine wz_setv (by rfl) (by assumption) ?_; try dsimp only [List.set, List.map, Mir.lend, List.getElem?_cons_zero, List.getElem?_cons_succ, List.cons_append, List.nil_append, List.foldl, Mir.lockAll, Mir.lock1, Mir.unlockAll, Mir.unlock1, Mir.restG, Mir.walked, Option.getD, Mir.look, Mir.Slot.d, Mir.XF])
      | (refine wz_setw (by rfl) (by assumption) ?_; try dsimp only [List.set, List.map, Mir.lend, List.getElem?_cons_zero, List.getElem?_cons_succ, List.cons_append, List.nil_append, List.foldl, Mir.lockAll, Mir.lock1, Mir.unlockAll, Mir.unlock1, Mir.restG, Mir.walked, Option.getD, Mir.look, Mir.Slot.d, Mir.XF])
      | refine wo_f ?_
      | refine wo_t ?_
      | refine wline (by first | omega | exact Nat.le_of_ble_eq_true rfl) ?_
      | refine w2_add ?_
      | refine w2_sub ?_
      | refine w2_mul (by first | assumption | exact big_of ⟨by omega, by omega⟩ ⟨by omega, by omega⟩) ?_
      | refine w2_fdiv (by first | assumption | exact div_of (by omega) (by omega)) ?_
      | refine w2_mod (by omega) ?_
      | refine w2_lists (by first | omega | exact Nat.le_of_ble_eq_true rfl | (simp only [List.length_cons, List.length_nil]; omega)) ?_
      | refine w2_tups (by first | omega | (simp only [List.length_cons, List.length_nil, List.length_map, List.length_replicate]; omega)) ?_
      | refine wk_lt ?_
      | refine wk_le ?_
      | refine wk_gt ?_
      | refine wk_ge ?_
      | refine wk_eqI ?_
      | refine wk_neI ?_
      | refine wk_any (by first | assumption | rfl) ?_
      | refine wt_bool ?_
      | refine wt_any (by first | assumption | rfl) ?_
      | refine wand_t (by first | rfl | assumption | exact decide_eq_true (by omega) | exact nd_t (by omega)) ?_
      | refine wand_f (by first | rfl | assumption | exact decide_eq_false (by omega) | exact nd_f (by omega)) ?_
      | refine ws_ife ?_
      | (refine ws_ret ?_)
      | refine wz_ret ?_
      | refine wz_retT ?_
      | refine ws_skip ?_
      | refine ws_exp ?_
      | refine ws_par ?_
      | refine ws_asgT ?_
      | refine we_tup ?_
      | refine we_lst ?_
      | refine we_ix ?_
      | refine we_not ?_
      | refine we_and ?_
      | refine we_or ?_
      | refine we_ite ?_
      | refine we_chn ?_
      | refine we_comp ?_
      | refine wi_rng ?_
      | refine wi_sq ?_
      | refine wi_enm ?_
      | refine wn1 ⟨by omega, by omega⟩ ?_
      | refine wn2 ⟨by omega, by omega⟩ ⟨by omega, by omega⟩ ?_
      | refine wbd_nil ?_
      | refine wbd_one ?_
      | refine wb_len ?_
      | refine wb_lenT ?_
      | refine wb_min ?_
      | refine wb_max ?_
      | refine we_neg ?_
      | refine we_slc ?_
      | refine we_rev ?_
      | refine we_lsq ?_
      | refine we_tsq ?_
      | refine we_lrg ?_
      | refine we_trg ?_
      | refine ws_for ?_
      | refine ws_brk ?_
      | refine ws_cnt ?_
      | refine ws_retN ?_
      | refine wx_any (by first | assumption | rfl) ?_
      | refine ⟨_, rfl, ?_⟩
      | refine wfil (by rfl) (fun ht => ?_) (fun ht => ?_)
      | exact ⟨rfl, rfl⟩
theorem is_enough {k : Nat} {st : Int × Int} {ls : List Int} {d : Int} (hk : 5 ≤ k) (hs : StOk st) (hl : LdOk ls) (h0 : 0 ≤ d) (h1 : d ≤ 1000000) : callN Tb k 10 [.sh (storeD st), .sh (loadsD ls), .sh (.int d)] = .ok (.bool (en st ls d), false, [.emp, .emp, .emp]) := by
  obtain ⟨n, rfl⟩ : ∃ n, k = n + 1 := ⟨k - 1, by omega⟩
  refine wd (fn := fn10) rfl rfl fun C hC => ?_
  dsimp only [fn10, tm10, Nat.reduceSub, List.replicate, List.cons_append, List.nil_append]
  have e1 := need_question (k := n) (by omega) hs hl
  have e2 := need_whole (k := n) d 0 1000000 (by omega) h0 h1
  have e3 := is_enough_in (k := n) (st := st) (d := d) (by omega) hl
  rw [← hC] at e1 e2 e3
  repeat first
    | refine ws_seq ?_
    | refine ws_asg ?_
    | refine we_bin ?_
    | refine we_cmp ?_
    | refine we_call ?_
    | refine we_blt ?_
    | refine we_lit ?_
    | (refine we_glb (by rfl) ?_)
    | (refine we_var (by rfl) ?_; try dsimp only [List.set, List.map, Mir.lend, List.getElem?_cons_zero, List.getElem?_cons_succ, List.cons_append, List.nil_append, List.foldl, Mir.lockAll, Mir.lock1, Mir.unlockAll, Mir.unlock1, Mir.restG, Mir.walked, Option.getD, Mir.look, Mir.Slot.d, Mir.XF])
    | (refine we_slot (by rfl) ?_; try dsimp only [List.set, List.map, Mir.lend, List.getElem?_cons_zero, List.getElem?_cons_succ, List.cons_append, List.nil_append, List.foldl, Mir.lockAll, Mir.lock1, Mir.unlockAll, Mir.unlock1, Mir.restG, Mir.walked, Option.getD, Mir.look, Mir.Slot.d, Mir.XF])
    | refine wes_cons ?_
    | refine wes_nil ?_
    | refine wvs_cons ?_
    | refine wvs_nil ?_
    | refine wv_val ?_
    | refine wv_tmp ?_
    | (refine wv_slot (by rfl) ?_; try dsimp only [List.set, List.map, Mir.lend, List.getElem?_cons_zero, List.getElem?_cons_succ, List.cons_append, List.nil_append, List.foldl, Mir.lockAll, Mir.lock1, Mir.unlockAll, Mir.unlock1, Mir.restG, Mir.walked, Option.getD, Mir.look, Mir.Slot.d, Mir.XF])
    | (refine wc (by rfl) ?_; try dsimp only [List.set, List.map, Mir.lend, List.getElem?_cons_zero, List.getElem?_cons_succ, List.cons_append, List.nil_append, List.foldl, Mir.lockAll, Mir.lock1, Mir.unlockAll, Mir.unlock1, Mir.restG, Mir.walked, Option.getD, Mir.look, Mir.Slot.d, Mir.XF])
    | (refine wr e1 ?_)
    | (refine wr e2 ?_)
    | (refine wr e3 ?_)
    | (refine wz (by rfl) ?_; try dsimp only [List.set, List.map, Mir.lend, List.getElem?_cons_zero, List.getElem?_cons_succ, List.cons_append, List.nil_append, List.foldl, Mir.lockAll, Mir.lock1, Mir.unlockAll, Mir.unlock1, Mir.restG, Mir.walked, Option.getD, Mir.look, Mir.Slot.d, Mir.XF])
    | (refine wz_setv (by rfl) (by assumption) ?_; try dsimp only [List.set, List.map, Mir.lend, List.getElem?_cons_zero, List.getElem?_cons_succ, List.cons_append, List.nil_append, List.foldl, Mir.lockAll, Mir.lock1, Mir.unlockAll, Mir.unlock1, Mir.restG, Mir.walked, Option.getD, Mir.look, Mir.Slot.d, Mir.XF])
    | (refine wz_setw (by rfl) (by assumption) ?_; try dsimp only [List.set, List.map, Mir.lend, List.getElem?_cons_zero, List.getElem?_cons_succ, List.cons_append, List.nil_append, List.foldl, Mir.lockAll, Mir.lock1, Mir.unlockAll, Mir.unlock1, Mir.restG, Mir.walked, Option.getD, Mir.look, Mir.Slot.d, Mir.XF])
    | refine wo_f ?_
    | refine wo_t ?_
    | refine wline (by first | omega | exact Nat.le_of_ble_eq_true rfl) ?_
    | refine w2_add ?_
    | refine w2_sub ?_
    | refine w2_mul (by first | assumption | exact big_of ⟨by omega, by omega⟩ ⟨by omega, by omega⟩) ?_
    | refine w2_fdiv (by first | assumption | exact div_of (by omega) (by omega)) ?_
    | refine w2_mod (by omega) ?_
    | refine w2_lists (by first | omega | exact Nat.le_of_ble_eq_true rfl | (simp only [List.length_cons, List.length_nil]; omega)) ?_
    | refine w2_tups (by first | omega | (simp only [List.length_cons, List.length_nil, List.length_map, List.length_replicate]; omega)) ?_
    | refine wk_lt ?_
    | refine wk_le ?_
    | refine wk_gt ?_
    | refine wk_ge ?_
    | refine wk_eqI ?_
    | refine wk_neI ?_
    | refine wk_any (by first | assumption | rfl) ?_
    | refine wt_bool ?_
    | refine wt_any (by first | assumption | rfl) ?_
    | refine wand_t (by first | rfl | assumption | exact decide_eq_true (by omega) | exact nd_t (by omega)) ?_
    | refine wand_f (by first | rfl | assumption | exact decide_eq_false (by omega) | exact nd_f (by omega)) ?_
    | refine ws_ife ?_
    | (refine ws_ret ?_)
    | refine wz_ret ?_
    | refine wz_retT ?_
    | refine ws_skip ?_
    | refine ws_exp ?_
    | refine ws_par ?_
    | refine ws_asgT ?_
    | refine we_tup ?_
    | refine we_lst ?_
    | refine we_ix ?_
    | refine we_not ?_
    | refine we_and ?_
    | refine we_or ?_
    | refine we_ite ?_
    | refine we_chn ?_
    | refine we_comp ?_
    | refine wi_rng ?_
    | refine wi_sq ?_
    | refine wi_enm ?_
    | refine wn1 ⟨by omega, by omega⟩ ?_
    | refine wn2 ⟨by omega, by omega⟩ ⟨by omega, by omega⟩ ?_
    | refine wbd_nil ?_
    | refine wbd_one ?_
    | refine wb_len ?_
    | refine wb_lenT ?_
    | refine wb_min ?_
    | refine wb_max ?_
    | refine we_neg ?_
    | refine we_slc ?_
    | refine we_rev ?_
    | refine we_lsq ?_
    | refine we_tsq ?_
    | refine we_lrg ?_
    | refine we_trg ?_
    | refine ws_for ?_
    | refine ws_brk ?_
    | refine ws_cnt ?_
    | refine ws_retN ?_
    | refine wx_any (by first | assumption | rfl) ?_
    | refine ⟨_, rfl, ?_⟩
    | refine wfil (by rfl) (fun ht => ?_) (fun ht => ?_)
    | exact ⟨rfl, rfl⟩
/-! ## a dark stretch -/
def Found (R S : Int) (hs : List Int) (d : D) : Prop := (d = .none ∧ NoDark R S hs) ∨ ∃ s e : Nat, d = .tup [.int s, .int e] ∧ s ≤ e ∧ ∃ he : e < hs.length, (s = e ∧ -hs[e] > S) ∨ T S hs s e > R
theorem range_at {n a : Nat} {don rest : List Nat} (h : List.range n = don ++ a :: rest) : a = don.length ∧ a < n := by
  have len : don.length < n := by
    have := congrArg List.length h
    rw [List.length_range, List.length_append, List.length_cons] at this
    omega
  have z : (List.range n)[don.length]? = some a := by rw [h, List.getElem?_append_right (Nat.le_refl _), Nat.sub_self]; rfl
  rw [List.getElem?_range len] at z
  have := Option.some.inj z
  omega
theorem rangeDn_nat (e : Nat) : rangeDn (e : Int) (-1) = (List.range (e + 1)).map fun k : Nat => .int ((e : Int) - (k : Nat)) := by
  unfold rangeDn
  have z : ((e : Int) - (-1)).toNat = e + 1 := by omega
  rw [z]
theorem wn3 {K : List D → Prop} {m n : Int} (h0 : -(2 ^ 62) ≤ m ∧ m < 2 ^ 62) (h : -(2 ^ 62) ≤ n ∧ n < 2 ^ 62) (k : K (rangeDn m n)) : Wn [.int m, .int n, .int (-1)] K := ⟨Wp.pos (by rw [show rngOk m = true from decide_eq_true h0, show rngOk n = true from decide_eq_true h]; rfl) (Wp.ok k)⟩
theorem inner {C : CallT} {st : Int × Int} {hs : List Int} {e : Nat} (he : e < hs.length) (A s7 s9 : Slot) (N : G → Prop) (X : Fl → G → Prop) (h9 : Sv s9)
    (hN : (∀ s, s ≤ e → T st.2 hs s e ≤ st.1) → ∀ s8 s9, Sv s8 → Sv s9 → N [.sh (storeD st), .sh (.int st.1), A, .sh (.int st.1), .sh (.int st.2), .li ((hs.map (tk st.2)).map .int) false .own, .sh (.int e), s7, s8, s9])
    (hX : ∀ s, s ≤ e → T st.2 hs s e > st.1 → ∀ s8 s9, Sv s8 → Sv s9 → X (.rt (.tup [.int s, .int e]) false) [.sh (storeD st), .sh (.int st.1), A, .sh (.int st.1), .sh (.int st.2), .li ((hs.map (tk st.2)).map .int) false .own, .sh (.int e), s7, s8, s9]) :
    Wf ⟨C, Tb.con⟩ (.nm 9) (.seq (.asg (.nm 8) (.bin .add (.var 8) (.ix (.var 5) (.var 9)))) (.seq (.ife (.or (.cmp .gt (.var 8) (.var 3)) (.and (.cmp .eq (.var 9) (.lit (.int 0))) (.cmp .gt (.var 8) (.var 1)))) (.seq (.ret (.tup (.cons (.var 9) (.cons (.var 6) .nil)))) .skip) .skip) .skip)) (rangeDn (e : Int) (-1)) [.sh (storeD st), .sh (.int st.1), A, .sh (.int st.1), .sh (.int st.2), .li ((hs.map (tk st.2)).map .int) false .own, .sh (.int e), s7, .sh (.int 0), s9] N X := by
  rw [rangeDn_nat]
  refine wf_map (fun don Γ => ∃ s9, Sv s9 ∧ Γ = [.sh (storeD st), .sh (.int st.1), A, .sh (.int st.1), .sh (.int st.2), .li ((hs.map (tk st.2)).map .int) false .own, .sh (.int e), s7, .sh (.int (T st.2 hs (e + 1 - don.length) e)), s9] ∧ ∀ s, e < s + don.length → s ≤ e → T st.2 hs s e ≤ st.1) ⟨s9, h9, by rw [List.length_nil, Nat.sub_zero, T_end], fun s a b => by rw [List.length_nil] at a; omega⟩ (fun a don rest Γ el hi => ?_) (fun Γ hi => ?_)
  · obtain ⟨s9, h9, rfl, hd⟩ := hi
    obtain ⟨ea, la⟩ := range_at el
    rw [← ea] at hd ⊢
    have le : e - a < hs.length := by omega
    have ts := T_step (S := st.2) (hs := hs) (s := e - a) (e := e) (by omega) he
    have es : e - a + 1 = e + 1 - a := by omega
    rw [es] at ts
    have ic : ((e : Int) - (a : Nat)) = ((e - a : Nat) : Int) := by omega
    have ix : ixD (.list ((hs.map (tk st.2)).map D.int)) (.int ((e : Int) - (a : Nat))) = .ok (.int (tk st.2 hs[e - a])) := by
      rw [ic]
      refine ix_at (by omega) ?_
      rw [Int.toNat_natCast, List.getElem?_map, List.getElem?_map, List.getElem?_eq_getElem le]
      all_goals rfl
    have tot : T st.2 hs (e + 1 - a) e + tk st.2 hs[e - a] = T st.2 hs (e - a) e := by omega
    have w1 : b2 .add (.int (T st.2 hs (e + 1 - a) e)) (.int (tk st.2 hs[e - a])) = .ok (.val (.int (T st.2 hs (e - a) e))) := by
      show R.ok (Opd.val (.int (T st.2 hs (e + 1 - a) e + tk st.2 hs[e - a]))) = _
      rw [tot]
    have nx : e + 1 - (a + 1) = e - a := by omega
    by_cases c : T st.2 hs (e - a) e > st.1
    · have fin := fun s8 s9 h8 h9 => hX (e - a) (by omega) c s8 s9 h8 h9
      rw [← ic] at fin
      rcases h9 with rfl | ⟨v, rfl⟩
      · repeat first
          | refine wx_any ix ?_
          | refine w2_any w1 ?_
          | exact fin _ _ Sv.v Sv.v
          | refine ws_seq ?_
          | refine ws_asg ?_
          | refine we_bin ?_
          | refine we_cmp ?_
          | refine we_call ?_
          | refine we_blt ?_
          | refine we_lit ?_
          | (refine we_glb (by rfl) ?_)
          | (refine we_var (by rfl) ?_; try dsimp only [List.set, List.map, Mir.lend, List.getElem?_cons_zero, List.getElem?_cons_succ, List.cons_append, List.nil_append, List.foldl, Mir.lockAll, Mir.lock1, Mir.unlockAll, Mir.unlock1, Mir.restG, Mir.walked, Option.getD, Mir.look, Mir.Slot.d, Mir.XF])
          | (refine we_slot (by rfl) ?_; try dsimp only [List.set, List.map, Mir.lend, List.getElem?_cons_zero, List.getElem?_cons_succ, List.cons_append, List.nil_append, List.foldl, Mir.lockAll, Mir.lock1, Mir.unlockAll, Mir.unlock1, Mir.restG, Mir.walked, Option.getD, Mir.look, Mir.Slot.d, Mir.XF])
          | refine wes_cons ?_
          | refine wes_nil ?_
          | refine wvs_cons ?_
          | refine wvs_nil ?_
          | refine wv_val ?_
          | refine wv_tmp ?_
          | (refine wv_slot (by rfl) ?_; try dsimp only [List.set, List.map, Mir.lend, List.getElem?_cons_zero, List.getElem?_cons_succ, List.cons_append, List.nil_append, List.foldl, Mir.lockAll, Mir.lock1, Mir.unlockAll, Mir.unlock1, Mir.restG, Mir.walked, Option.getD, Mir.look, Mir.Slot.d, Mir.XF])
          | (refine wc (by rfl) ?_; try dsimp only [List.set, List.map, Mir.lend, List.getElem?_cons_zero, List.getElem?_cons_succ, List.cons_append, List.nil_append, List.foldl, Mir.lockAll, Mir.lock1, Mir.unlockAll, Mir.unlock1, Mir.restG, Mir.walked, Option.getD, Mir.look, Mir.Slot.d, Mir.XF])
          | (refine wz (by rfl) ?_; try dsimp only [List.set, List.map, Mir.lend, List.getElem?_cons_zero, List.getElem?_cons_succ, List.cons_append, List.nil_append, List.foldl, Mir.lockAll, Mir.lock1, Mir.unlockAll, Mir.unlock1, Mir.restG, Mir.walked, Option.getD, Mir.look, Mir.Slot.d, Mir.XF])
          | (refine wz_setv (by rfl) (by assumption) ?_; try dsimp only [List.set, List.map, Mir.lend, List.getElem?_cons_zero, List.getElem?_cons_succ, List.cons_append, List.nil_append, List.foldl, Mir.lockAll, Mir.lock1, Mir.unlockAll, Mir.unlock1, Mir.restG, Mir.walked, Option.getD, Mir.look, Mir.Slot.d, Mir.XF])
          | (refine wz_setw (by rfl) (by assumption) ?_; try dsimp only [List.set, List.map, Mir.lend, List.getElem?_cons_zero, List.getElem?_cons_succ, List.cons_append, List.nil_append, List.foldl, Mir.lockAll, Mir.lock1, Mir.unlockAll, Mir.unlock1, Mir.restG, Mir.walked, Option.getD, Mir.look, Mir.Slot.d, Mir.XF])
          | refine wo_f ?_
          | refine wo_t ?_
          | refine wline (by first | omega | exact Nat.le_of_ble_eq_true rfl) ?_
          | refine w2_add ?_
          | refine w2_sub ?_
          | refine w2_mul (by first | assumption | exact big_of ⟨by omega, by omega⟩ ⟨by omega, by omega⟩) ?_
          | refine w2_fdiv (by first | assumption | exact div_of (by omega) (by omega)) ?_
          | refine w2_mod (by omega) ?_
          | refine w2_lists (by first | omega | exact Nat.le_of_ble_eq_true rfl | (simp only [List.length_cons, List.length_nil]; omega)) ?_
          | refine w2_tups (by first | omega | (simp only [List.length_cons, List.length_nil, List.length_map, List.length_replicate]; omega)) ?_
          | refine wk_lt ?_
          | refine wk_le ?_
          | refine wk_gt ?_
          | refine wk_ge ?_
          | refine wk_eqI ?_
          | refine wk_neI ?_
          | refine wk_any (by first | assumption | rfl) ?_
          | refine wt_bool ?_
          | refine wt_any (by first | assumption | rfl) ?_
          | refine wand_t (by first | rfl | assumption | exact decide_eq_true (by omega) | exact nd_t (by omega)) ?_
          | refine wand_f (by first | rfl | assumption | exact decide_eq_false (by omega) | exact nd_f (by omega)) ?_
          | refine ws_ife ?_
          | (refine ws_ret ?_)
          | refine wz_ret ?_
          | refine wz_retT ?_
          | refine ws_skip ?_
          | refine ws_exp ?_
          | refine ws_par ?_
          | refine ws_asgT ?_
          | refine we_tup ?_
          | refine we_lst ?_
          | refine we_ix ?_
          | refine we_not ?_
          | refine we_and ?_
          | refine we_or ?_
          | refine we_ite ?_
          | refine we_chn ?_
          | refine we_comp ?_
          | refine wi_rng ?_
          | refine wi_sq ?_
          | refine wi_enm ?_
          | refine wn1 ⟨by omega, by omega⟩ ?_
          | refine wn2 ⟨by omega, by omega⟩ ⟨by omega, by omega⟩ ?_
          | refine wbd_nil ?_
          | refine wbd_one ?_
          | refine wb_len ?_
          | refine wb_lenT ?_
          | refine wb_min ?_
          | refine wb_max ?_
          | refine we_neg ?_
          | refine we_slc ?_
          | refine we_rev ?_
          | refine we_lsq ?_
          | refine we_tsq ?_
          | refine we_lrg ?_
          | refine we_trg ?_
          | refine ws_for ?_
          | refine ws_brk ?_
          | refine ws_cnt ?_
          | refine ws_retN ?_
          | refine wx_any (by first | assumption | rfl) ?_
          | refine ⟨_, rfl, ?_⟩
          | refine wfil (by rfl) (fun ht => ?_) (fun ht => ?_)
          | exact ⟨rfl, rfl⟩
      · repeat first
          | refine wx_any ix ?_
          | refine w2_any w1 ?_
          | exact fin _ _ Sv.v Sv.v
          | refine ws_seq ?_
          | refine ws_asg ?_
          | refine we_bin ?_
          | refine we_cmp ?_
          | refine we_call ?_
          | refine we_blt ?_
          | refine we_lit ?_
          | (refine we_glb (by rfl) ?_)
          | (refine we_var (by rfl) ?_; try dsimp only [List.set, List.map, Mir.lend, List.getElem?_cons_zero, List.getElem?_cons_succ, List.cons_append, List.nil_append, List.foldl, Mir.lockAll, Mir.lock1, Mir.unlockAll, Mir.unlock1, Mir.restG, Mir.walked, Option.getD, Mir.look, Mir.Slot.d, Mir.XF])
          | (refine we_slot (by rfl) ?_; try dsimp only [List.set, List.map, Mir.lend, List.getElem?_cons_zero, List.getElem?_cons_succ, List.cons_append, List.nil_append, List.foldl, Mir.lockAll, Mir.lock1, Mir.unlockAll, Mir.unlock1, Mir.restG, Mir.walked, Option.getD, Mir.look, Mir.Slot.d, Mir.XF])
          | refine wes_cons ?_
          | refine wes_nil ?_
          | refine wvs_cons ?_
          | refine wvs_nil ?_
          | refine wv_val ?_
          | refine wv_tmp ?_
          | (refine wv_slot (by rfl) ?_; try dsimp only [List.set, List.map, Mir.lend, List.getElem?_cons_zero, List.getElem?_cons_succ, List.cons_append, List.nil_append, List.foldl, Mir.lockAll, Mir.lock1, Mir.unlockAll, Mir.unlock1, Mir.restG, Mir.walked, Option.getD, Mir.look, Mir.Slot.d, Mir.XF])
          | (refine wc (by rfl) ?_; try dsimp only [List.set, List.map, Mir.lend, List.getElem?_cons_zero, List.getElem?_cons_succ, List.cons_append, List.nil_append, List.foldl, Mir.lockAll, Mir.lock1, Mir.unlockAll, Mir.unlock1, Mir.restG, Mir.walked, Option.getD, Mir.look, Mir.Slot.d, Mir.XF])
          | (refine wz (by rfl) ?_; try dsimp only [List.set, List.map, Mir.lend, List.getElem?_cons_zero, List.getElem?_cons_succ, List.cons_append, List.nil_append, List.foldl, Mir.lockAll, Mir.lock1, Mir.unlockAll, Mir.unlock1, Mir.restG, Mir.walked, Option.getD, Mir.look, Mir.Slot.d, Mir.XF])
          | (refine wz_setv (by rfl) (by assumption) ?_; try dsimp only [List.set, List.map, Mir.lend, List.getElem?_cons_zero, List.getElem?_cons_succ, List.cons_append, List.nil_append, List.foldl, Mir.lockAll, Mir.lock1, Mir.unlockAll, Mir.unlock1, Mir.restG, Mir.walked, Option.getD, Mir.look, Mir.Slot.d, Mir.XF])
          | (refine wz_setw (by rfl) (by assumption) ?_; try dsimp only [List.set, List.map, Mir.lend, List.getElem?_cons_zero, List.getElem?_cons_succ, List.cons_append, List.nil_append, List.foldl, Mir.lockAll, Mir.lock1, Mir.unlockAll, Mir.unlock1, Mir.restG, Mir.walked, Option.getD, Mir.look, Mir.Slot.d, Mir.XF])
          | refine wo_f ?_
          | refine wo_t ?_
          | refine wline (by first | omega | exact Nat.le_of_ble_eq_true rfl) ?_
          | refine w2_add ?_
          | refine w2_sub ?_
          | refine w2_mul (by first | assumption | exact big_of ⟨by omega, by omega⟩ ⟨by omega, by omega⟩) ?_
          | refine w2_fdiv (by first | assumption | exact div_of (by omega) (by omega)) ?_
          | refine w2_mod (by omega) ?_
          | refine w2_lists (by first | omega | exact Nat.le_of_ble_eq_true rfl | (simp only [List.length_cons, List.length_nil]; omega)) ?_
          | refine w2_tups (by first | omega | (simp only [List.length_cons, List.length_nil, List.length_map, List.length_replicate]; omega)) ?_
          | refine wk_lt ?_
          | refine wk_le ?_
          | refine wk_gt ?_
          | refine wk_ge ?_
          | refine wk_eqI ?_
          | refine wk_neI ?_
          | refine wk_any (by first | assumption | rfl) ?_
          | refine wt_bool ?_
          | refine wt_any (by first | assumption | rfl) ?_
          | refine wand_t (by first | rfl | assumption | exact decide_eq_true (by omega) | exact nd_t (by omega)) ?_
          | refine wand_f (by first | rfl | assumption | exact decide_eq_false (by omega) | exact nd_f (by omega)) ?_
          | refine ws_ife ?_
          | (refine ws_ret ?_)
          | refine wz_ret ?_
          | refine wz_retT ?_
          | refine ws_skip ?_
          | refine ws_exp ?_
          | refine ws_par ?_
          | refine ws_asgT ?_
          | refine we_tup ?_
          | refine we_lst ?_
          | refine we_ix ?_
          | refine we_not ?_
          | refine we_and ?_
          | refine we_or ?_
          | refine we_ite ?_
          | refine we_chn ?_
          | refine we_comp ?_
          | refine wi_rng ?_
          | refine wi_sq ?_
          | refine wi_enm ?_
          | refine wn1 ⟨by omega, by omega⟩ ?_
          | refine wn2 ⟨by omega, by omega⟩ ⟨by omega, by omega⟩ ?_
          | refine wbd_nil ?_
          | refine wbd_one ?_
          | refine wb_len ?_
          | refine wb_lenT ?_
          | refine wb_min ?_
          | refine wb_max ?_
          | refine we_neg ?_
          | refine we_slc ?_
          | refine we_rev ?_
          | refine we_lsq ?_
          | refine we_tsq ?_
          | refine we_lrg ?_
          | refine we_trg ?_
          | refine ws_for ?_
          | refine ws_brk ?_
          | refine ws_cnt ?_
          | refine ws_retN ?_
          | refine wx_any (by first | assumption | rfl) ?_
          | refine ⟨_, rfl, ?_⟩
          | refine wfil (by rfl) (fun ht => ?_) (fun ht => ?_)
          | exact ⟨rfl, rfl⟩
    · have fin : ∃ s9, Sv s9 ∧ [Slot.sh (storeD st), .sh (.int st.1), A, .sh (.int st.1), .sh (.int st.2), .li ((hs.map (tk st.2)).map .int) false .own, .sh (.int e), s7, .sh (.int (T st.2 hs (e - a) e)), .sh (.int ((e : Int) - (a : Nat)))] = [Slot.sh (storeD st), .sh (.int st.1), A, .sh (.int st.1), .sh (.int st.2), .li ((hs.map (tk st.2)).map .int) false .own, .sh (.int e), s7, .sh (.int (T st.2 hs (e + 1 - (don ++ [a]).length) e)), s9] ∧ ∀ s, e < s + (don ++ [a]).length → s ≤ e → T st.2 hs s e ≤ st.1 := by
        rw [List.length_append, List.length_singleton, ← ea, nx]
        refine ⟨_, Sv.v, rfl, fun s x y => ?_⟩
        by_cases q : s = e - a
        · rw [q]; omega
        · exact hd s (by omega) y
      by_cases z : (e : Int) - (a : Nat) = 0
      · rcases h9 with rfl | ⟨v, rfl⟩
        · repeat first
            | refine wx_any ix ?_
            | refine w2_any w1 ?_
            | exact fin
            | refine ws_seq ?_
            | refine ws_asg ?_
            | refine we_bin ?_
            | refine we_cmp ?_
            | refine we_call ?_
            | refine we_blt ?_
            | refine we_lit ?_
            | (refine we_glb (by rfl) ?_)
            | (refine we_var (by rfl) ?_; try dsimp only [List.set, List.map, Mir.lend, List.getElem?_cons_zero, List.getElem?_cons_succ, List.cons_append, List.nil_append, List.foldl, Mir.lockAll, Mir.lock1, Mir.unlockAll, Mir.unlock1, Mir.restG, Mir.walked, Option.getD, Mir.look, Mir.Slot.d, Mir.XF])
            | (refine we_slot (by rfl) ?_; try dsimp only [List.set, List.map, Mir.lend, List.getElem?_cons_zero, List.getElem?_cons_succ, List.cons_append, List.nil_append, List.foldl, Mir.lockAll, Mir.lock1, Mir.unlockAll, Mir.unlock1, Mir.restG, Mir.walked, Option.getD, Mir.look, Mir.Slot.d, Mir.XF])
            | refine wes_cons ?_
            | refine wes_nil ?_
            | refine wvs_cons ?_
            | refine wvs_nil ?_
            | refine wv_val ?_
            | refine wv_tmp ?_
            | (refine wv_slot (by rfl) ?_; try dsimp only [List.set, List.map, Mir.lend, List.getElem?_cons_zero, List.getElem?_cons_succ, List.cons_append, List.nil_append, List.foldl, Mir.lockAll, Mir.lock1, Mir.unlockAll, Mir.unlock1, Mir.restG, Mir.walked, Option.getD, Mir.look, Mir.Slot.d, Mir.XF])
            | (refine wc (by rfl) ?_; try dsimp only [List.set, List.map, Mir.lend, List.getElem?_cons_zero, List.getElem?_cons_succ, List.cons_append, List.nil_append, List.foldl, Mir.lockAll, Mir.lock1, Mir.unlockAll, Mir.unlock1, Mir.restG, Mir.walked, Option.getD, Mir.look, Mir.Slot.d, Mir.XF])
            | (refine wz (by rfl) ?_; try dsimp only [List.set, List.map, Mir.lend, List.getElem?_cons_zero, List.getElem?_cons_succ, List.cons_append, List.nil_append, List.foldl, Mir.lockAll, Mir.lock1, Mir.unlockAll, Mir.unlock1, Mir.restG, Mir.walked, Option.getD, Mir.look, Mir.Slot.d, Mir.XF])
            | (refine wz_setv (by rfl) (by assumption) ?_; try dsimp only [List.set, List.map, Mir.lend, List.getElem?_cons_zero, List.getElem?_cons_succ, List.cons_append, List.nil_append, List.foldl, Mir.lockAll, Mir.lock1, Mir.unlockAll, Mir.unlock1, Mir.restG, Mir.walked, Option.getD, Mir.look, Mir.Slot.d, Mir.XF])
            | (refine wz_setw (by rfl) (by assumption) ?_; try dsimp only [List.set, List.map, Mir.lend, List.getElem?_cons_zero, List.getElem?_cons_succ, List.cons_append, List.nil_append, List.foldl, Mir.lockAll, Mir.lock1, Mir.unlockAll, Mir.unlock1, Mir.restG, Mir.walked, Option.getD, Mir.look, Mir.Slot.d, Mir.XF])
            | refine wo_f ?_
            | refine wo_t ?_
            | refine wline (by first | omega | exact Nat.le_of_ble_eq_true rfl) ?_
            | refine w2_add ?_
            | refine w2_sub ?_
            | refine w2_mul (by first | assumption | exact big_of ⟨by omega, by omega⟩ ⟨by omega, by omega⟩) ?_
            | refine w2_fdiv (by first | assumption | exact div_of (by omega) (by omega)) ?_
            | refine w2_mod (by omega) ?_
            | refine w2_lists (by first | omega | exact Nat.le_of_ble_eq_true rfl | (simp only [List.length_cons, List.length_nil]; omega)) ?_
            | refine w2_tups (by first | omega | (simp only [List.length_cons, List.length_nil, List.length_map, List.length_replicate]; omega)) ?_
            | refine wk_lt ?_
            | refine wk_le ?_
            | refine wk_gt ?_
            | refine wk_ge ?_
            | refine wk_eqI ?_
            | refine wk_neI ?_
            | refine wk_any (by first | assumption | rfl) ?_
            | refine wt_bool ?_
            | refine wt_any (by first | assumption | rfl) ?_
            | refine wand_t (by first | rfl | assumption | exact decide_eq_true (by omega) | exact nd_t (by omega)) ?_
            | refine wand_f (by first | rfl | assumption | exact decide_eq_false (by omega) | exact nd_f (by omega)) ?_
            | refine ws_ife ?_
            | (refine ws_ret ?_)
            | refine wz_ret ?_
            | refine wz_retT ?_
            | refine ws_skip ?_
            | refine ws_exp ?_
            | refine ws_par ?_
            | refine ws_asgT ?_
            | refine we_tup ?_
            | refine we_lst ?_
            | refine we_ix ?_
            | refine we_not ?_
            | refine we_and ?_
            | refine we_or ?_
            | refine we_ite ?_
            | refine we_chn ?_
            | refine we_comp ?_
            | refine wi_rng ?_
            | refine wi_sq ?_
            | refine wi_enm ?_
            | refine wn1 ⟨by omega, by omega⟩ ?_
            | refine wn2 ⟨by omega, by omega⟩ ⟨by omega, by omega⟩ ?_
            | refine wbd_nil ?_
            | refine wbd_one ?_
            | refine wb_len ?_
            | refine wb_lenT ?_
            | refine wb_min ?_
            | refine wb_max ?_
            | refine we_neg ?_
            | refine we_slc ?_
            | refine we_rev ?_
            | refine we_lsq ?_
            | refine we_tsq ?_
            | refine we_lrg ?_
            | refine we_trg ?_
            | refine ws_for ?_
            | refine ws_brk ?_
            | refine ws_cnt ?_
            | refine ws_retN ?_
            | refine wx_any (by first | assumption | rfl) ?_
            | refine ⟨_, rfl, ?_⟩
            | refine wfil (by rfl) (fun ht => ?_) (fun ht => ?_)
            | exact ⟨rfl, rfl⟩
        · repeat first
            | refine wx_any ix ?_
            | refine w2_any w1 ?_
            | exact fin
            | refine ws_seq ?_
            | refine ws_asg ?_
            | refine we_bin ?_
            | refine we_cmp ?_
            | refine we_call ?_
            | refine we_blt ?_
            | refine we_lit ?_
            | (refine we_glb (by rfl) ?_)
            | (refine we_var (by rfl) ?_; try dsimp only [List.set, List.map, Mir.lend, List.getElem?_cons_zero, List.getElem?_cons_succ, List.cons_append, List.nil_append, List.foldl, Mir.lockAll, Mir.lock1, Mir.unlockAll, Mir.unlock1, Mir.restG, Mir.walked, Option.getD, Mir.look, Mir.Slot.d, Mir.XF])
            | (refine we_slot (by rfl) ?_; try dsimp only [List.set, List.map, Mir.lend, List.getElem?_cons_zero, List.getElem?_cons_succ, List.cons_append, List.nil_append, List.foldl, Mir.lockAll, Mir.lock1, Mir.unlockAll, Mir.unlock1, Mir.restG, Mir.walked, Option.getD, Mir.look, Mir.Slot.d, Mir.XF])
            | refine wes_cons ?_
            | refine wes_nil ?_
            | refine wvs_cons ?_
            | refine wvs_nil ?_
            | refine wv_val ?_
            | refine wv_tmp ?_
            | (refine wv_slot (by rfl) ?_; try dsimp only [List.set, List.map, Mir.lend, List.getElem?_cons_zero, List.getElem?_cons_succ, List.cons_append, List.nil_append, List.foldl, Mir.lockAll, Mir.lock1, Mir.unlockAll, Mir.unlock1, Mir.restG, Mir.walked, Option.getD, Mir.look, Mir.Slot.d, Mir.XF])
            | (refine wc (by rfl) ?_; try dsimp only [List.set, List.map, Mir.lend, List.getElem?_cons_zero, List.getElem?_cons_succ, List.cons_append, List.nil_append, List.foldl, Mir.lockAll, Mir.lock1, Mir.unlockAll, Mir.unlock1, Mir.restG, Mir.walked, Option.getD, Mir.look, Mir.Slot.d, Mir.XF])
            | (refine wz (by rfl) ?_; try dsimp only [List.set, List.map, Mir.lend, List.getElem?_cons_zero, List.getElem?_cons_succ, List.cons_append, List.nil_append, List.foldl, Mir.lockAll, Mir.lock1, Mir.unlockAll, Mir.unlock1, Mir.restG, Mir.walked, Option.getD, Mir.look, Mir.Slot.d, Mir.XF])
            | (refine wz_setv (by rfl) (by assumption) ?_; try dsimp only [List.set, List.map, Mir.lend, List.getElem?_cons_zero, List.getElem?_cons_succ, List.cons_append, List.nil_append, List.foldl, Mir.lockAll, Mir.lock1, Mir.unlockAll, Mir.unlock1, Mir.restG, Mir.walked, Option.getD, Mir.look, Mir.Slot.d, Mir.XF])
            | (refine wz_setw (by rfl) (by assumption) ?_; try dsimp only [List.set, List.map, Mir.lend, List.getElem?_cons_zero, List.getElem?_cons_succ, List.cons_append, List.nil_append, List.foldl, Mir.lockAll, Mir.lock1, Mir.unlockAll, Mir.unlock1, Mir.restG, Mir.walked, Option.getD, Mir.look, Mir.Slot.d, Mir.XF])
            | refine wo_f ?_
            | refine wo_t ?_
            | refine wline (by first | omega | exact Nat.le_of_ble_eq_true rfl) ?_
            | refine w2_add ?_
            | refine w2_sub ?_
            | refine w2_mul (by first | assumption | exact big_of ⟨by omega, by omega⟩ ⟨by omega, by omega⟩) ?_
            | refine w2_fdiv (by first | assumption | exact div_of (by omega) (by omega)) ?_
            | refine w2_mod (by omega) ?_
            | refine w2_lists (by first | omega | exact Nat.le_of_ble_eq_true rfl | (simp only [List.length_cons, List.length_nil]; omega)) ?_
            | refine w2_tups (by first | omega | (simp only [List.length_cons, List.length_nil, List.length_map, List.length_replicate]; omega)) ?_
            | refine wk_lt ?_
            | refine wk_le ?_
            | refine wk_gt ?_
            | refine wk_ge ?_
            | refine wk_eqI ?_
            | refine wk_neI ?_
            | refine wk_any (by first | assumption | rfl) ?_
            | refine wt_bool ?_
            | refine wt_any (by first | assumption | rfl) ?_
            | refine wand_t (by first | rfl | assumption | exact decide_eq_true (by omega) | exact nd_t (by omega)) ?_
            | refine wand_f (by first | rfl | assumption | exact decide_eq_false (by omega) | exact nd_f (by omega)) ?_
            | refine ws_ife ?_
            | (refine ws_ret ?_)
            | refine wz_ret ?_
            | refine wz_retT ?_
            | refine ws_skip ?_
            | refine ws_exp ?_
            | refine ws_par ?_
            | refine ws_asgT ?_
            | refine we_tup ?_
            | refine we_lst ?_
            | refine we_ix ?_
            | refine we_not ?_
            | refine we_and ?_
            | refine we_or ?_
            | refine we_ite ?_
            | refine we_chn ?_
            | refine we_comp ?_
            | refine wi_rng ?_
            | refine wi_sq ?_
            | refine wi_enm ?_
            | refine wn1 ⟨by omega, by omega⟩ ?_
            | refine wn2 ⟨by omega, by omega⟩ ⟨by omega, by omega⟩ ?_
            | refine wbd_nil ?_
            | refine wbd_one ?_
            | refine wb_len ?_
            | refine wb_lenT ?_
            | refine wb_min ?_
            | refine wb_max ?_
            | refine we_neg ?_
            | refine we_slc ?_
            | refine we_rev ?_
            | refine we_lsq ?_
            | refine we_tsq ?_
            | refine we_lrg ?_
            | refine we_trg ?_
            | refine ws_for ?_
            | refine ws_brk ?_
            | refine ws_cnt ?_
            | refine ws_retN ?_
            | refine wx_any (by first | assumption | rfl) ?_
            | refine ⟨_, rfl, ?_⟩
            | refine wfil (by rfl) (fun ht => ?_) (fun ht => ?_)
            | exact ⟨rfl, rfl⟩
      · rcases h9 with rfl | ⟨v, rfl⟩
        · repeat first
            | refine wx_any ix ?_
            | refine w2_any w1 ?_
            | exact fin
            | refine ws_seq ?_
            | refine ws_asg ?_
            | refine we_bin ?_
            | refine we_cmp ?_
            | refine we_call ?_
            | refine we_blt ?_
            | refine we_lit ?_
            | (refine we_glb (by rfl) ?_)
            | (refine we_var (by rfl) ?_; try dsimp only [List.set, List.map, Mir.lend, List.getElem?_cons_zero, List.getElem?_cons_succ, List.cons_append, List.nil_append, List.foldl, Mir.lockAll, Mir.lock1, Mir.unlockAll, Mir.unlock1, Mir.restG, Mir.walked, Option.getD, Mir.look, Mir.Slot.d, Mir.XF])
            | (refine we_slot (by rfl) ?_; try dsimp only [List.set, List.map, Mir.lend, List.getElem?_cons_zero, List.getElem?_cons_succ, List.cons_append, List.nil_append, List.foldl, Mir.lockAll, Mir.lock1, Mir.unlockAll, Mir.unlock1, Mir.restG, Mir.walked, Option.getD, Mir.look, Mir.Slot.d, Mir.XF])
            | refine wes_cons ?_
            | refine wes_nil ?_
            | refine wvs_cons ?_
            | refine wvs_nil ?_
            | refine wv_val ?_
            | refine wv_tmp ?_
            | (refine wv_slot (by rfl) ?_; try dsimp only [List.set, List.map, Mir.lend, List.getElem?_cons_zero, List.getElem?_cons_succ, List.cons_append, List.nil_append, List.foldl, Mir.lockAll, Mir.lock1, Mir.unlockAll, Mir.unlock1, Mir.restG, Mir.walked, Option.getD, Mir.look, Mir.Slot.d, Mir.XF])
            | (refine wc (by rfl) ?_; try dsimp only [List.set, List.map, Mir.lend, List.getElem?_cons_zero, List.getElem?_cons_succ, List.cons_append, List.nil_append, List.foldl, Mir.lockAll, Mir.lock1, Mir.unlockAll, Mir.unlock1, Mir.restG, Mir.walked, Option.getD, Mir.look, Mir.Slot.d, Mir.XF])
            | (refine wz (by rfl) ?_; try dsimp only [List.set, List.map, Mir.lend, List.getElem?_cons_zero, List.getElem?_cons_succ, List.cons_append, List.nil_append, List.foldl, Mir.lockAll, Mir.lock1, Mir.unlockAll, Mir.unlock1, Mir.restG, Mir.walked, Option.getD, Mir.look, Mir.Slot.d, Mir.XF])
            | (refine wz_setv (by rfl) (by assumption) ?_; try dsimp only [List.set, List.map, Mir.lend, List.getElem?_cons_zero, List.getElem?_cons_succ, List.cons_append, List.nil_append, List.foldl, Mir.lockAll, Mir.lock1, Mir.unlockAll, Mir.unlock1, Mir.restG, Mir.walked, Option.getD, Mir.look, Mir.Slot.d, Mir.XF])
            | (refine wz_setw (by rfl) (by assumption) ?_; try dsimp only [List.set, List.map, Mir.lend, List.getElem?_cons_zero, List.getElem?_cons_succ, List.cons_append, List.nil_append, List.foldl, Mir.lockAll, Mir.lock1, Mir.unlockAll, Mir.unlock1, Mir.restG, Mir.walked, Option.getD, Mir.look, Mir.Slot.d, Mir.XF])
            | refine wo_f ?_
            | refine wo_t ?_
            | refine wline (by first | omega | exact Nat.le_of_ble_eq_true rfl) ?_
            | refine w2_add ?_
            | refine w2_sub ?_
            | refine w2_mul (by first | assumption | exact big_of ⟨by omega, by omega⟩ ⟨by omega, by omega⟩) ?_
            | refine w2_fdiv (by first | assumption | exact div_of (by omega) (by omega)) ?_
            | refine w2_mod (by omega) ?_
            | refine w2_lists (by first | omega | exact Nat.le_of_ble_eq_true rfl | (simp only [List.length_cons, List.length_nil]; omega)) ?_
            | refine w2_tups (by first | omega | (simp only [List.length_cons, List.length_nil, List.length_map, List.length_replicate]; omega)) ?_
            | refine wk_lt ?_
            | refine wk_le ?_
            | refine wk_gt ?_
            | refine wk_ge ?_
            | refine wk_eqI ?_
            | refine wk_neI ?_
            | refine wk_any (by first | assumption | rfl) ?_
            | refine wt_bool ?_
            | refine wt_any (by first | assumption | rfl) ?_
            | refine wand_t (by first | rfl | assumption | exact decide_eq_true (by omega) | exact nd_t (by omega)) ?_
            | refine wand_f (by first | rfl | assumption | exact decide_eq_false (by omega) | exact nd_f (by omega)) ?_
            | refine ws_ife ?_
            | (refine ws_ret ?_)
            | refine wz_ret ?_
            | refine wz_retT ?_
            | refine ws_skip ?_
            | refine ws_exp ?_
            | refine ws_par ?_
            | refine ws_asgT ?_
            | refine we_tup ?_
            | refine we_lst ?_
            | refine we_ix ?_
            | refine we_not ?_
            | refine we_and ?_
            | refine we_or ?_
            | refine we_ite ?_
            | refine we_chn ?_
            | refine we_comp ?_
            | refine wi_rng ?_
            | refine wi_sq ?_
            | refine wi_enm ?_
            | refine wn1 ⟨by omega, by omega⟩ ?_
            | refine wn2 ⟨by omega, by omega⟩ ⟨by omega, by omega⟩ ?_
            | refine wbd_nil ?_
            | refine wbd_one ?_
            | refine wb_len ?_
            | refine wb_lenT ?_
            | refine wb_min ?_
            | refine wb_max ?_
            | refine we_neg ?_
            | refine we_slc ?_
            | refine we_rev ?_
            | refine we_lsq ?_
            | refine we_tsq ?_
            | refine we_lrg ?_
            | refine we_trg ?_
            | refine ws_for ?_
            | refine ws_brk ?_
            | refine ws_cnt ?_
            | refine ws_retN ?_
            | refine wx_any (by first | assumption | rfl) ?_
            | refine ⟨_, rfl, ?_⟩
            | refine wfil (by rfl) (fun ht => ?_) (fun ht => ?_)
            | exact ⟨rfl, rfl⟩
        · repeat first
            | refine wx_any ix ?_
            | refine w2_any w1 ?_
            | exact fin
            | refine ws_seq ?_
            | refine ws_asg ?_
            | refine we_bin ?_
            | refine we_cmp ?_
            | refine we_call ?_
            | refine we_blt ?_
            | refine we_lit ?_
            | (refine we_glb (by rfl) ?_)
            | (refine we_var (by rfl) ?_; try dsimp only [List.set, List.map, Mir.lend, List.getElem?_cons_zero, List.getElem?_cons_succ, List.cons_append, List.nil_append, List.foldl, Mir.lockAll, Mir.lock1, Mir.unlockAll, Mir.unlock1, Mir.restG, Mir.walked, Option.getD, Mir.look, Mir.Slot.d, Mir.XF])
            | (refine we_slot (by rfl) ?_; try dsimp only [List.set, List.map, Mir.lend, List.getElem?_cons_zero, List.getElem?_cons_succ, List.cons_append, List.nil_append, List.foldl, Mir.lockAll, Mir.lock1, Mir.unlockAll, Mir.unlock1, Mir.restG, Mir.walked, Option.getD, Mir.look, Mir.Slot.d, Mir.XF])
            | refine wes_cons ?_
            | refine wes_nil ?_
            | refine wvs_cons ?_
            | refine wvs_nil ?_
            | refine wv_val ?_
            | refine wv_tmp ?_
            | (refine wv_slot (by rfl) ?_; try dsimp only [List.set, List.map, Mir.lend, List.getElem?_cons_zero, List.getElem?_cons_succ, List.cons_append, List.nil_append, List.foldl, Mir.lockAll, Mir.lock1, Mir.unlockAll, Mir.unlock1, Mir.restG, Mir.walked, Option.getD, Mir.look, Mir.Slot.d, Mir.XF])
            | (refine wc (by rfl) ?_; try dsimp only [List.set, List.map, Mir.lend, List.getElem?_cons_zero, List.getElem?_cons_succ, List.cons_append, List.nil_append, List.foldl, Mir.lockAll, Mir.lock1, Mir.unlockAll, Mir.unlock1, Mir.restG, Mir.walked, Option.getD, Mir.look, Mir.Slot.d, Mir.XF])
            | (refine wz (by rfl) ?_; try dsimp only [List.set, List.map, Mir.lend, List.getElem?_cons_zero, List.getElem?_cons_succ, List.cons_append, List.nil_append, List.foldl, Mir.lockAll, Mir.lock1, Mir.unlockAll, Mir.unlock1, Mir.restG, Mir.walked, Option.getD, Mir.look, Mir.Slot.d, Mir.XF])
            | (refine wz_setv (by rfl) (by assumption) ?_; try dsimp only [List.set, List.map, Mir.lend, List.getElem?_cons_zero, List.getElem?_cons_succ, List.cons_append, List.nil_append, List.foldl, Mir.lockAll, Mir.lock1, Mir.unlockAll, Mir.unlock1, Mir.restG, Mir.walked, Option.getD, Mir.look, Mir.Slot.d, Mir.XF])
            | (refine wz_setw (by rfl) (by assumption) ?_; try dsimp only [List.set, List.map, Mir.lend, List.getElem?_cons_zero, List.getElem?_cons_succ, List.cons_append, List.nil_append, List.foldl, Mir.lockAll, Mir.lock1, Mir.unlockAll, Mir.unlock1, Mir.restG, Mir.walked, Option.getD, Mir.look, Mir.Slot.d, Mir.XF])
            | refine wo_f ?_
            | refine wo_t ?_
            | refine wline (by first | omega | exact Nat.le_of_ble_eq_true rfl) ?_
            | refine w2_add ?_
            | refine w2_sub ?_
            | refine w2_mul (by first | assumption | exact big_of ⟨by omega, by omega⟩ ⟨by omega, by omega⟩) ?_
            | refine w2_fdiv (by first | assumption | exact div_of (by omega) (by omega)) ?_
            | refine w2_mod (by omega) ?_
            | refine w2_lists (by first | omega | exact Nat.le_of_ble_eq_true rfl | (simp only [List.length_cons, List.length_nil]; omega)) ?_
            | refine w2_tups (by first | omega | (simp only [List.length_cons, List.length_nil, List.length_map, List.length_replicate]; omega)) ?_
            | refine wk_lt ?_
            | refine wk_le ?_
            | refine wk_gt ?_
            | refine wk_ge ?_
            | refine wk_eqI ?_
            | refine wk_neI ?_
            | refine wk_any (by first | assumption | rfl) ?_
            | refine wt_bool ?_
            | refine wt_any (by first | assumption | rfl) ?_
            | refine wand_t (by first | rfl | assumption | exact decide_eq_true (by omega) | exact nd_t (by omega)) ?_
            | refine wand_f (by first | rfl | assumption | exact decide_eq_false (by omega) | exact nd_f (by omega)) ?_
            | refine ws_ife ?_
            | (refine ws_ret ?_)
            | refine wz_ret ?_
            | refine wz_retT ?_
            | refine ws_skip ?_
            | refine ws_exp ?_
            | refine ws_par ?_
            | refine ws_asgT ?_
            | refine we_tup ?_
            | refine we_lst ?_
            | refine we_ix ?_
            | refine we_not ?_
            | refine we_and ?_
            | refine we_or ?_
            | refine we_ite ?_
            | refine we_chn ?_
            | refine we_comp ?_
            | refine wi_rng ?_
            | refine wi_sq ?_
            | refine wi_enm ?_
            | refine wn1 ⟨by omega, by omega⟩ ?_
            | refine wn2 ⟨by omega, by omega⟩ ⟨by omega, by omega⟩ ?_
            | refine wbd_nil ?_
            | refine wbd_one ?_
            | refine wb_len ?_
            | refine wb_lenT ?_
            | refine wb_min ?_
            | refine wb_max ?_
            | refine we_neg ?_
            | refine we_slc ?_
            | refine we_rev ?_
            | refine we_lsq ?_
            | refine we_tsq ?_
            | refine we_lrg ?_
            | refine we_trg ?_
            | refine ws_for ?_
            | refine ws_brk ?_
            | refine ws_cnt ?_
            | refine ws_retN ?_
            | refine wx_any (by first | assumption | rfl) ?_
            | refine ⟨_, rfl, ?_⟩
            | refine wfil (by rfl) (fun ht => ?_) (fun ht => ?_)
            | exact ⟨rfl, rfl⟩
  · obtain ⟨s9, h9, rfl, hd⟩ := hi
    rw [List.length_range] at hd
    exact hN (fun s hs => hd s (by omega) hs) _ _ Sv.v h9
theorem zip_at {hs : List Int} {p : Int × Nat} {don rest : List (Int × Nat)} (h : hs.zipIdx = don ++ p :: rest) : ∃ he : don.length < hs.length, p = (hs[don.length], don.length) := by
  have len : don.length < hs.length := by
    have := congrArg List.length h
    rw [List.length_zipIdx, List.length_append, List.length_cons] at this
    omega
  have z : (hs.zipIdx)[don.length]? = some p := by rw [h, List.getElem?_append_right (Nat.le_refl _), Nat.sub_self]; rfl
  rw [List.getElem?_zipIdx, List.getElem?_eq_getElem len] at z
  refine ⟨len, ?_⟩
  have := Option.some.inj z
  rw [← this]
  simp
theorem enm_zip {f : Int → D} : ∀ (hs : List Int) (k : Nat), enmD k (hs.map f) = (hs.zipIdx k).map fun p : Int × Nat => .tup [.int (p.2 : Nat), f p.1]
  | [], _ => rfl
  | h :: hs, k => by
    show D.tup [.int (k : Nat), f h] :: enmD (k + 1) (hs.map f) = _
    rw [enm_zip hs (k + 1)]
    all_goals rfl
theorem wz_bind2 {i j : Nat} {Γ : G} {d1 d2 : D} {s t : Slot} {K : G → Prop} (h1 : Γ[i]? = some s) (hs : Sv s) (h2 : (Γ.set i (.sh d1))[j]? = some t) (ht : Sv t) (k : K ((Γ.set i (.sh d1)).set j (.sh d2))) : Wz (bindTg (.tp [i, j]) (.tup [d1, d2]) Γ) K := wz (by
  show ((setS Γ i (.sh d1)).bind fun Γ' => (setS Γ' j (.sh d2)).bind fun Γ' => R.ok Γ') = _
  have e1 : setS Γ i (.sh d1) = .ok (Γ.set i (.sh d1)) := by
    unfold setS
    rw [h1]
    rcases hs with rfl | ⟨v, rfl⟩ <;> rfl
  rw [e1]
  show ((setS (Γ.set i (.sh d1)) j (.sh d2)).bind fun Γ' => R.ok Γ') = _
  have e2 : setS (Γ.set i (.sh d1)) j (.sh d2) = .ok ((Γ.set i (.sh d1)).set j (.sh d2)) := by
    unfold setS
    rw [h2]
    rcases ht with rfl | ⟨v, rfl⟩ <;> rfl
  rw [e2]
  rfl) k
theorem stretch_in {k : Nat} {st : Int × Int} {hs : List Int} (hk : 2 ≤ k) (hl : hs.length ≤ 200) : ∃ d, Found st.1 st.2 hs d ∧ callN Tb k 19 [.sh (storeD st), .sh (.int st.1), hoursL hs] = .ok (d, false, [.emp, .emp, hoursL hs]) := by
  obtain ⟨n, rfl⟩ : ∃ n, k = n + 1 := ⟨k - 1, by omega⟩
  refine wdE (fn := fn19) rfl rfl fun C hC => ?_
  dsimp only [fn19, tm19, Nat.reduceSub, List.replicate, List.cons_append, List.nil_append]
  have e1 := lost_L (k := n) (S := st.2) (by omega) hl
  rw [← hC] at e1
  have en : ∀ ws, enmR (.list (hs.map D.int)) ws = .ok (hs.zipIdx.map (fun p : Int × Nat => .tup [.int (p.2 : Nat), .int p.1]), ws) := fun ws => by
    show R.ok (enmD 0 (hs.map D.int), ws) = _
    rw [enm_zip]
  repeat first
    | refine wz (en _) ?_
    | refine wf_map (l := hs.zipIdx) (fun don Γ => ∃ s6 s7 s8 s9, Sv s6 ∧ Sv s7 ∧ Sv s8 ∧ Sv s9 ∧ Γ = [.sh (storeD st), .sh (.int st.1), .li (hs.map .int) true .lock, .sh (.int st.1), .sh (.int st.2), .li ((hs.map (tk st.2)).map .int) false .own, s6, s7, s8, s9] ∧ ∀ e (he : e < hs.length), e < don.length → -hs[e] ≤ st.2 ∧ ∀ s, s ≤ e → T st.2 hs s e ≤ st.1) ⟨_, _, _, _, Sv.e, Sv.e, Sv.e, Sv.e, rfl, fun e he z => absurd z (Nat.not_lt_zero e)⟩ (fun p don rest Γ el hi => ?_) (fun Γ hi => ?_)
    | refine ws_seq ?_
    | refine ws_asg ?_
    | refine we_bin ?_
    | refine we_cmp ?_
    | refine we_call ?_
    | refine we_blt ?_
    | refine we_lit ?_
    | (refine we_glb (by rfl) ?_)
    | (refine we_var (by rfl) ?_; try dsimp only [List.set, List.map, Mir.lend, List.getElem?_cons_zero, List.getElem?_cons_succ, List.cons_append, List.nil_append, List.foldl, Mir.lockAll, Mir.lock1, Mir.unlockAll, Mir.unlock1, Mir.restG, Mir.walked, Option.getD, Mir.look, Mir.Slot.d, Mir.XF])
    | (refine we_slot (by rfl) ?_; try dsimp only [List.set, List.map, Mir.lend, List.getElem?_cons_zero, List.getElem?_cons_succ, List.cons_append, List.nil_append, List.foldl, Mir.lockAll, Mir.lock1, Mir.unlockAll, Mir.unlock1, Mir.restG, Mir.walked, Option.getD, Mir.look, Mir.Slot.d, Mir.XF])
    | refine wes_cons ?_
    | refine wes_nil ?_
    | refine wvs_cons ?_
    | refine wvs_nil ?_
    | refine wv_val ?_
    | refine wv_tmp ?_
    | (refine wv_slot (by rfl) ?_; try dsimp only [List.set, List.map, Mir.lend, List.getElem?_cons_zero, List.getElem?_cons_succ, List.cons_append, List.nil_append, List.foldl, Mir.lockAll, Mir.lock1, Mir.unlockAll, Mir.unlock1, Mir.restG, Mir.walked, Option.getD, Mir.look, Mir.Slot.d, Mir.XF])
    | (refine wc (by rfl) ?_; try dsimp only [List.set, List.map, Mir.lend, List.getElem?_cons_zero, List.getElem?_cons_succ, List.cons_append, List.nil_append, List.foldl, Mir.lockAll, Mir.lock1, Mir.unlockAll, Mir.unlock1, Mir.restG, Mir.walked, Option.getD, Mir.look, Mir.Slot.d, Mir.XF])
    | (refine wr e1 ?_)
    | (refine wz (by rfl) ?_; try dsimp only [List.set, List.map, Mir.lend, List.getElem?_cons_zero, List.getElem?_cons_succ, List.cons_append, List.nil_append, List.foldl, Mir.lockAll, Mir.lock1, Mir.unlockAll, Mir.unlock1, Mir.restG, Mir.walked, Option.getD, Mir.look, Mir.Slot.d, Mir.XF])
    | (refine wz_setv (by rfl) (by assumption) ?_; try dsimp only [List.set, List.map, Mir.lend, List.getElem?_cons_zero, List.getElem?_cons_succ, List.cons_append, List.nil_append, List.foldl, Mir.lockAll, Mir.lock1, Mir.unlockAll, Mir.unlock1, Mir.restG, Mir.walked, Option.getD, Mir.look, Mir.Slot.d, Mir.XF])
    | (refine wz_setw (by rfl) (by assumption) ?_; try dsimp only [List.set, List.map, Mir.lend, List.getElem?_cons_zero, List.getElem?_cons_succ, List.cons_append, List.nil_append, List.foldl, Mir.lockAll, Mir.lock1, Mir.unlockAll, Mir.unlock1, Mir.restG, Mir.walked, Option.getD, Mir.look, Mir.Slot.d, Mir.XF])
    | refine wo_f ?_
    | refine wo_t ?_
    | refine wline (by first | omega | exact Nat.le_of_ble_eq_true rfl) ?_
    | refine w2_add ?_
    | refine w2_sub ?_
    | refine w2_mul (by first | assumption | exact big_of ⟨by omega, by omega⟩ ⟨by omega, by omega⟩) ?_
    | refine w2_fdiv (by first | assumption | exact div_of (by omega) (by omega)) ?_
    | refine w2_mod (by omega) ?_
    | refine w2_lists (by first | omega | exact Nat.le_of_ble_eq_true rfl | (simp only [List.length_cons, List.length_nil]; omega)) ?_
    | refine w2_tups (by first | omega | (simp only [List.length_cons, List.length_nil, List.length_map, List.length_replicate]; omega)) ?_
    | refine wk_lt ?_
    | refine wk_le ?_
    | refine wk_gt ?_
    | refine wk_ge ?_
    | refine wk_eqI ?_
    | refine wk_neI ?_
    | refine wk_any (by first | assumption | rfl) ?_
    | refine wt_bool ?_
    | refine wt_any (by first | assumption | rfl) ?_
    | refine wand_t (by first | rfl | assumption | exact decide_eq_true (by omega) | exact nd_t (by omega)) ?_
    | refine wand_f (by first | rfl | assumption | exact decide_eq_false (by omega) | exact nd_f (by omega)) ?_
    | refine ws_ife ?_
    | (refine ws_ret ?_)
    | refine wz_ret ?_
    | refine wz_retT ?_
    | refine ws_skip ?_
    | refine ws_exp ?_
    | refine ws_par ?_
    | refine ws_asgT ?_
    | refine we_tup ?_
    | refine we_lst ?_
    | refine we_ix ?_
    | refine we_not ?_
    | refine we_and ?_
    | refine we_or ?_
    | refine we_ite ?_
    | refine we_chn ?_
    | refine we_comp ?_
    | refine wi_rng ?_
    | refine wi_sq ?_
    | refine wi_enm ?_
    | refine wn1 ⟨by omega, by omega⟩ ?_
    | refine wn2 ⟨by omega, by omega⟩ ⟨by omega, by omega⟩ ?_
    | refine wbd_nil ?_
    | refine wbd_one ?_
    | refine wb_len ?_
    | refine wb_lenT ?_
    | refine wb_min ?_
    | refine wb_max ?_
    | refine we_neg ?_
    | refine we_slc ?_
    | refine we_rev ?_
    | refine we_lsq ?_
    | refine we_tsq ?_
    | refine we_lrg ?_
    | refine we_trg ?_
    | refine ws_for ?_
    | refine ws_brk ?_
    | refine ws_cnt ?_
    | refine ws_retN ?_
    | refine wx_any (by first | assumption | rfl) ?_
    | refine ⟨_, rfl, ?_⟩
    | refine wfil (by rfl) (fun ht => ?_) (fun ht => ?_)
    | exact ⟨rfl, rfl⟩
  · obtain ⟨s6, s7, s8, s9, h6, h7, h8, h9, rfl, hd⟩ := hi
    obtain ⟨he, rfl⟩ := zip_at el
    generalize hdl : don.length = e at he hd ⊢
    have wn : -(2 ^ 62) ≤ (e : Int) ∧ (e : Int) < 2 ^ 62 := by omega
    have w3 : ∀ {K : List D → Prop}, K (rangeDn (e : Int) (-1)) → Wn [.int (e : Int), .int (-1), .int (-1)] K := fun k => wn3 wn (by omega) k
    by_cases c : -hs[e] > st.2
    · have fd : Found st.1 st.2 hs (.tup [.int (e : Nat), .int (e : Nat)]) := .inr ⟨e, e, rfl, Nat.le_refl _, he, .inl ⟨rfl, c⟩⟩
      repeat first
        | (refine wz_bind2 (by rfl) (by assumption) (by rfl) (by assumption) ?_; dsimp only [List.set])
        | exact ⟨_, fd, rfl, rfl⟩
        | refine ws_seq ?_
        | refine ws_asg ?_
        | refine we_bin ?_
        | refine we_cmp ?_
        | refine we_call ?_
        | refine we_blt ?_
        | refine we_lit ?_
        | (refine we_glb (by rfl) ?_)
        | (refine we_var (by rfl) ?_; try dsimp only [List.set, List.map, Mir.lend, List.getElem?_cons_zero, List.getElem?_cons_succ, List.cons_append, List.nil_append, List.foldl, Mir.lockAll, Mir.lock1, Mir.unlockAll, Mir.unlock1, Mir.restG, Mir.walked, Option.getD, Mir.look, Mir.Slot.d, Mir.XF])
        | (refine we_slot (by rfl) ?_; try dsimp only [List.set, List.map, Mir.lend, List.getElem?_cons_zero, List.getElem?_cons_succ, List.cons_append, List.nil_append, List.foldl, Mir.lockAll, Mir.lock1, Mir.unlockAll, Mir.unlock1, Mir.restG, Mir.walked, Option.getD, Mir.look, Mir.Slot.d, Mir.XF])
        | refine wes_cons ?_
        | refine wes_nil ?_
        | refine wvs_cons ?_
        | refine wvs_nil ?_
        | refine wv_val ?_
        | refine wv_tmp ?_
        | (refine wv_slot (by rfl) ?_; try dsimp only [List.set, List.map, Mir.lend, List.getElem?_cons_zero, List.getElem?_cons_succ, List.cons_append, List.nil_append, List.foldl, Mir.lockAll, Mir.lock1, Mir.unlockAll, Mir.unlock1, Mir.restG, Mir.walked, Option.getD, Mir.look, Mir.Slot.d, Mir.XF])
        | (refine wc (by rfl) ?_; try dsimp only [List.set, List.map, Mir.lend, List.getElem?_cons_zero, List.getElem?_cons_succ, List.cons_append, List.nil_append, List.foldl, Mir.lockAll, Mir.lock1, Mir.unlockAll, Mir.unlock1, Mir.restG, Mir.walked, Option.getD, Mir.look, Mir.Slot.d, Mir.XF])
        | (refine wz (by rfl) ?_; try dsimp only [List.set, List.map, Mir.lend, List.getElem?_cons_zero, List.getElem?_cons_succ, List.cons_append, List.nil_append, List.foldl, Mir.lockAll, Mir.lock1, Mir.unlockAll, Mir.unlock1, Mir.restG, Mir.walked, Option.getD, Mir.look, Mir.Slot.d, Mir.XF])
        | (refine wz_setv (by rfl) (by assumption) ?_; try dsimp only [List.set, List.map, Mir.lend, List.getElem?_cons_zero, List.getElem?_cons_succ, List.cons_append, List.nil_append, List.foldl, Mir.lockAll, Mir.lock1, Mir.unlockAll, Mir.unlock1, Mir.restG, Mir.walked, Option.getD, Mir.look, Mir.Slot.d, Mir.XF])
        | (refine wz_setw (by rfl) (by assumption) ?_; try dsimp only [List.set, List.map, Mir.lend, List.getElem?_cons_zero, List.getElem?_cons_succ, List.cons_append, List.nil_append, List.foldl, Mir.lockAll, Mir.lock1, Mir.unlockAll, Mir.unlock1, Mir.restG, Mir.walked, Option.getD, Mir.look, Mir.Slot.d, Mir.XF])
        | refine wo_f ?_
        | refine wo_t ?_
        | refine wline (by first | omega | exact Nat.le_of_ble_eq_true rfl) ?_
        | refine w2_add ?_
        | refine w2_sub ?_
        | refine w2_mul (by first | assumption | exact big_of ⟨by omega, by omega⟩ ⟨by omega, by omega⟩) ?_
        | refine w2_fdiv (by first | assumption | exact div_of (by omega) (by omega)) ?_
        | refine w2_mod (by omega) ?_
        | refine w2_lists (by first | omega | exact Nat.le_of_ble_eq_true rfl | (simp only [List.length_cons, List.length_nil]; omega)) ?_
        | refine w2_tups (by first | omega | (simp only [List.length_cons, List.length_nil, List.length_map, List.length_replicate]; omega)) ?_
        | refine wk_lt ?_
        | refine wk_le ?_
        | refine wk_gt ?_
        | refine wk_ge ?_
        | refine wk_eqI ?_
        | refine wk_neI ?_
        | refine wk_any (by first | assumption | rfl) ?_
        | refine wt_bool ?_
        | refine wt_any (by first | assumption | rfl) ?_
        | refine wand_t (by first | rfl | assumption | exact decide_eq_true (by omega) | exact nd_t (by omega)) ?_
        | refine wand_f (by first | rfl | assumption | exact decide_eq_false (by omega) | exact nd_f (by omega)) ?_
        | refine ws_ife ?_
        | (refine ws_ret ?_)
        | refine wz_ret ?_
        | refine wz_retT ?_
        | refine ws_skip ?_
        | refine ws_exp ?_
        | refine ws_par ?_
        | refine ws_asgT ?_
        | refine we_tup ?_
        | refine we_lst ?_
        | refine we_ix ?_
        | refine we_not ?_
        | refine we_and ?_
        | refine we_or ?_
        | refine we_ite ?_
        | refine we_chn ?_
        | refine we_comp ?_
        | refine wi_rng ?_
        | refine wi_sq ?_
        | refine wi_enm ?_
        | refine wn1 ⟨by omega, by omega⟩ ?_
        | refine wn2 ⟨by omega, by omega⟩ ⟨by omega, by omega⟩ ?_
        | refine wbd_nil ?_
        | refine wbd_one ?_
        | refine wb_len ?_
        | refine wb_lenT ?_
        | refine wb_min ?_
        | refine wb_max ?_
        | refine we_neg ?_
        | refine we_slc ?_
        | refine we_rev ?_
        | refine we_lsq ?_
        | refine we_tsq ?_
        | refine we_lrg ?_
        | refine we_trg ?_
        | refine ws_for ?_
        | refine ws_brk ?_
        | refine ws_cnt ?_
        | refine ws_retN ?_
        | refine wx_any (by first | assumption | rfl) ?_
        | refine ⟨_, rfl, ?_⟩
        | refine wfil (by rfl) (fun ht => ?_) (fun ht => ?_)
        | exact ⟨rfl, rfl⟩
    · have fin : (∀ s, s ≤ e → T st.2 hs s e ≤ st.1) → ∀ s8' s9', Sv s8' → Sv s9' → ∃ s6 s7 s8 s9, Sv s6 ∧ Sv s7 ∧ Sv s8 ∧ Sv s9 ∧ [Slot.sh (storeD st), .sh (.int st.1), .li (hs.map .int) true .lock, .sh (.int st.1), .sh (.int st.2), .li ((hs.map (tk st.2)).map .int) false .own, .sh (.int (e : Nat)), .sh (.int hs[e]), s8', s9'] = [Slot.sh (storeD st), .sh (.int st.1), .li (hs.map .int) true .lock, .sh (.int st.1), .sh (.int st.2), .li ((hs.map (tk st.2)).map .int) false .own, s6, s7, s8, s9] ∧ ∀ e' (he' : e' < hs.length), e' < (don ++ [(hs[e], e)]).length → -hs[e'] ≤ st.2 ∧ ∀ s, s ≤ e' → T st.2 hs s e' ≤ st.1 := fun q s8' s9' h8' h9' => by
        refine ⟨_, _, _, _, Sv.v, Sv.v, h8', h9', rfl, fun e' he' z => ?_⟩
        rw [List.length_append, List.length_singleton, hdl] at z
        by_cases y : e' = e
        · subst y
          exact ⟨by omega, q⟩
        · exact hd e' he' (by omega)
      have fx : ∀ s, s ≤ e → T st.2 hs s e > st.1 → Found st.1 st.2 hs (.tup [.int (s : Nat), .int (e : Nat)]) := fun s a b => .inr ⟨s, e, rfl, a, he, .inr b⟩
      repeat first
        | (refine wz_bind2 (by rfl) (by assumption) (by rfl) (by assumption) ?_; dsimp only [List.set])
        | refine w3 ?_
        | refine inner he _ _ _ _ _ h9 (fun q s8' s9' h8' h9' => ?_) (fun s a b s8' s9' h8' h9' => ?_)
        | exact fin q _ _ h8' h9'
        | exact ⟨_, fx s a b, rfl, rfl⟩
        | refine ws_seq ?_
        | refine ws_asg ?_
        | refine we_bin ?_
        | refine we_cmp ?_
        | refine we_call ?_
        | refine we_blt ?_
        | refine we_lit ?_
        | (refine we_glb (by rfl) ?_)
        | (refine we_var (by rfl) ?_; try dsimp only [List.set, List.map, Mir.lend, List.getElem?_cons_zero, List.getElem?_cons_succ, List.cons_append, List.nil_append, List.foldl, Mir.lockAll, Mir.lock1, Mir.unlockAll, Mir.unlock1, Mir.restG, Mir.walked, Option.getD, Mir.look, Mir.Slot.d, Mir.XF])
        | (refine we_slot (by rfl) ?_; try dsimp only [List.set, List.map, Mir.lend, List.getElem?_cons_zero, List.getElem?_cons_succ, List.cons_append, List.nil_append, List.foldl, Mir.lockAll, Mir.lock1, Mir.unlockAll, Mir.unlock1, Mir.restG, Mir.walked, Option.getD, Mir.look, Mir.Slot.d, Mir.XF])
        | refine wes_cons ?_
        | refine wes_nil ?_
        | refine wvs_cons ?_
        | refine wvs_nil ?_
        | refine wv_val ?_
        | refine wv_tmp ?_
        | (refine wv_slot (by rfl) ?_; try dsimp only [List.set, List.map, Mir.lend, List.getElem?_cons_zero, List.getElem?_cons_succ, List.cons_append, List.nil_append, List.foldl, Mir.lockAll, Mir.lock1, Mir.unlockAll, Mir.unlock1, Mir.restG, Mir.walked, Option.getD, Mir.look, Mir.Slot.d, Mir.XF])
        | (refine wc (by rfl) ?_; try dsimp only [List.set, List.map, Mir.lend, List.getElem?_cons_zero, List.getElem?_cons_succ, List.cons_append, List.nil_append, List.foldl, Mir.lockAll, Mir.lock1, Mir.unlockAll, Mir.unlock1, Mir.restG, Mir.walked, Option.getD, Mir.look, Mir.Slot.d, Mir.XF])
        | (refine wz (by rfl) ?_; try dsimp only [List.set, List.map, Mir.lend, List.getElem?_cons_zero, List.getElem?_cons_succ, List.cons_append, List.nil_append, List.foldl, Mir.lockAll, Mir.lock1, Mir.unlockAll, Mir.unlock1, Mir.restG, Mir.walked, Option.getD, Mir.look, Mir.Slot.d, Mir.XF])
        | (refine wz_setv (by rfl) (by assumption) ?_; try dsimp only [List.set, List.map, Mir.lend, List.getElem?_cons_zero, List.getElem?_cons_succ, List.cons_append, List.nil_append, List.foldl, Mir.lockAll, Mir.lock1, Mir.unlockAll, Mir.unlock1, Mir.restG, Mir.walked, Option.getD, Mir.look, Mir.Slot.d, Mir.XF])
        | (refine wz_setw (by rfl) (by assumption) ?_; try dsimp only [List.set, List.map, Mir.lend, List.getElem?_cons_zero, List.getElem?_cons_succ, List.cons_append, List.nil_append, List.foldl, Mir.lockAll, Mir.lock1, Mir.unlockAll, Mir.unlock1, Mir.restG, Mir.walked, Option.getD, Mir.look, Mir.Slot.d, Mir.XF])
        | refine wo_f ?_
        | refine wo_t ?_
        | refine wline (by first | omega | exact Nat.le_of_ble_eq_true rfl) ?_
        | refine w2_add ?_
        | refine w2_sub ?_
        | refine w2_mul (by first | assumption | exact big_of ⟨by omega, by omega⟩ ⟨by omega, by omega⟩) ?_
        | refine w2_fdiv (by first | assumption | exact div_of (by omega) (by omega)) ?_
        | refine w2_mod (by omega) ?_
        | refine w2_lists (by first | omega | exact Nat.le_of_ble_eq_true rfl | (simp only [List.length_cons, List.length_nil]; omega)) ?_
        | refine w2_tups (by first | omega | (simp only [List.length_cons, List.length_nil, List.length_map, List.length_replicate]; omega)) ?_
        | refine wk_lt ?_
        | refine wk_le ?_
        | refine wk_gt ?_
        | refine wk_ge ?_
        | refine wk_eqI ?_
        | refine wk_neI ?_
        | refine wk_any (by first | assumption | rfl) ?_
        | refine wt_bool ?_
        | refine wt_any (by first | assumption | rfl) ?_
        | refine wand_t (by first | rfl | assumption | exact decide_eq_true (by omega) | exact nd_t (by omega)) ?_
        | refine wand_f (by first | rfl | assumption | exact decide_eq_false (by omega) | exact nd_f (by omega)) ?_
        | refine ws_ife ?_
        | (refine ws_ret ?_)
        | refine wz_ret ?_
        | refine wz_retT ?_
        | refine ws_skip ?_
        | refine ws_exp ?_
        | refine ws_par ?_
        | refine ws_asgT ?_
        | refine we_tup ?_
        | refine we_lst ?_
        | refine we_ix ?_
        | refine we_not ?_
        | refine we_and ?_
        | refine we_or ?_
        | refine we_ite ?_
        | refine we_chn ?_
        | refine we_comp ?_
        | refine wi_rng ?_
        | refine wi_sq ?_
        | refine wi_enm ?_
        | refine wn1 ⟨by omega, by omega⟩ ?_
        | refine wn2 ⟨by omega, by omega⟩ ⟨by omega, by omega⟩ ?_
        | refine wbd_nil ?_
        | refine wbd_one ?_
        | refine wb_len ?_
        | refine wb_lenT ?_
        | refine wb_min ?_
        | refine wb_max ?_
        | refine we_neg ?_
        | refine we_slc ?_
        | refine we_rev ?_
        | refine we_lsq ?_
        | refine we_tsq ?_
        | refine we_lrg ?_
        | refine we_trg ?_
        | refine ws_for ?_
        | refine ws_brk ?_
        | refine ws_cnt ?_
        | refine ws_retN ?_
        | refine wx_any (by first | assumption | rfl) ?_
        | refine ⟨_, rfl, ?_⟩
        | refine wfil (by rfl) (fun ht => ?_) (fun ht => ?_)
        | exact ⟨rfl, rfl⟩
  · obtain ⟨s6, s7, s8, s9, h6, h7, h8, h9, rfl, hd⟩ := hi
    rw [List.length_zipIdx] at hd
    have nd : NoDark st.1 st.2 hs := ⟨fun h hh => by
      obtain ⟨e, he, rfl⟩ := List.mem_iff_getElem.mp hh
      exact (hd e he he).1, fun s e a b => (hd e b b).2 s a⟩
    repeat first
      | exact ⟨_, .inl ⟨rfl, nd⟩, rfl, rfl⟩
      | refine ws_seq ?_
      | refine ws_asg ?_
      | refine we_bin ?_
      | refine we_cmp ?_
      | refine we_call ?_
      | refine we_blt ?_
      | refine we_lit ?_
      | (refine we_glb (by rfl) ?_)
      | (refine we_var (by rfl) ?_; try dsimp only [List.set, List.map, Mir.lend, List.getElem?_cons_zero, List.getElem?_cons_succ, List.cons_append, List.nil_append, List.foldl, Mir.lockAll, Mir.lock1, Mir.unlockAll, Mir.unlock1, Mir.restG, Mir.walked, Option.getD, Mir.look, Mir.Slot.d, Mir.XF])
      | (refine we_slot (by rfl) ?_; try dsimp only [List.set, List.map, Mir.lend, List.getElem?_cons_zero, List.getElem?_cons_succ, List.cons_append, List.nil_append, List.foldl, Mir.lockAll, Mir.lock1, Mir.unlockAll, Mir.unlock1, Mir.restG, Mir.walked, Option.getD, Mir.look, Mir.Slot.d, Mir.XF])
      | refine wes_cons ?_
      | refine wes_nil ?_
      | refine wvs_cons ?_
      | refine wvs_nil ?_
      | refine wv_val ?_
      | refine wv_tmp ?_
      | (refine wv_slot (by rfl) ?_; try dsimp only [List.set, List.map, Mir.lend, List.getElem?_cons_zero, List.getElem?_cons_succ, List.cons_append, List.nil_append, List.foldl, Mir.lockAll, Mir.lock1, Mir.unlockAll, Mir.unlock1, Mir.restG, Mir.walked, Option.getD, Mir.look, Mir.Slot.d, Mir.XF])
      | (refine wc (by rfl) ?_; try dsimp only [List.set, List.map, Mir.lend, List.getElem?_cons_zero, List.getElem?_cons_succ, List.cons_append, List.nil_append, List.foldl, Mir.lockAll, Mir.lock1, Mir.unlockAll, Mir.unlock1, Mir.restG, Mir.walked, Option.getD, Mir.look, Mir.Slot.d, Mir.XF])
      | (refine wz (by rfl) ?_; try dsimp only [List.set, List.map, Mir.lend, List.getElem?_cons_zero, List.getElem?_cons_succ, List.cons_append, List.nil_append, List.foldl, Mir.lockAll, Mir.lock1, Mir.unlockAll, Mir.unlock1, Mir.restG, Mir.walked, Option.getD, Mir.look, Mir.Slot.d, Mir.XF])
      | (refine wz_setv (by rfl) (by assumption) ?_; try dsimp only [List.set, List.map, Mir.lend, List.getElem?_cons_zero, List.getElem?_cons_succ, List.cons_append, List.nil_append, List.foldl, Mir.lockAll, Mir.lock1, Mir.unlockAll, Mir.unlock1, Mir.restG, Mir.walked, Option.getD, Mir.look, Mir.Slot.d, Mir.XF])
      | (refine wz_setw (by rfl) (by assumption) ?_; try dsimp only [List.set, List.map, Mir.lend, List.getElem?_cons_zero, List.getElem?_cons_succ, List.cons_append, List.nil_append, List.foldl, Mir.lockAll, Mir.lock1, Mir.unlockAll, Mir.unlock1, Mir.restG, Mir.walked, Option.getD, Mir.look, Mir.Slot.d, Mir.XF])
      | refine wo_f ?_
      | refine wo_t ?_
      | refine wline (by first | omega | exact Nat.le_of_ble_eq_true rfl) ?_
      | refine w2_add ?_
      | refine w2_sub ?_
      | refine w2_mul (by first | assumption | exact big_of ⟨by omega, by omega⟩ ⟨by omega, by omega⟩) ?_
      | refine w2_fdiv (by first | assumption | exact div_of (by omega) (by omega)) ?_
      | refine w2_mod (by omega) ?_
      | refine w2_lists (by first | omega | exact Nat.le_of_ble_eq_true rfl | (simp only [List.length_cons, List.length_nil]; omega)) ?_
      | refine w2_tups (by first | omega | (simp only [List.length_cons, List.length_nil, List.length_map, List.length_replicate]; omega)) ?_
      | refine wk_lt ?_
      | refine wk_le ?_
      | refine wk_gt ?_
      | refine wk_ge ?_
      | refine wk_eqI ?_
      | refine wk_neI ?_
      | refine wk_any (by first | assumption | rfl) ?_
      | refine wt_bool ?_
      | refine wt_any (by first | assumption | rfl) ?_
      | refine wand_t (by first | rfl | assumption | exact decide_eq_true (by omega) | exact nd_t (by omega)) ?_
      | refine wand_f (by first | rfl | assumption | exact decide_eq_false (by omega) | exact nd_f (by omega)) ?_
      | refine ws_ife ?_
      | (refine ws_ret ?_)
      | refine wz_ret ?_
      | refine wz_retT ?_
      | refine ws_skip ?_
      | refine ws_exp ?_
      | refine ws_par ?_
      | refine ws_asgT ?_
      | refine we_tup ?_
      | refine we_lst ?_
      | refine we_ix ?_
      | refine we_not ?_
      | refine we_and ?_
      | refine we_or ?_
      | refine we_ite ?_
      | refine we_chn ?_
      | refine we_comp ?_
      | refine wi_rng ?_
      | refine wi_sq ?_
      | refine wi_enm ?_
      | refine wn1 ⟨by omega, by omega⟩ ?_
      | refine wn2 ⟨by omega, by omega⟩ ⟨by omega, by omega⟩ ?_
      | refine wbd_nil ?_
      | refine wbd_one ?_
      | refine wb_len ?_
      | refine wb_lenT ?_
      | refine wb_min ?_
      | refine wb_max ?_
      | refine we_neg ?_
      | refine we_slc ?_
      | refine we_rev ?_
      | refine we_lsq ?_
      | refine we_tsq ?_
      | refine we_lrg ?_
      | refine we_trg ?_
      | refine ws_for ?_
      | refine ws_brk ?_
      | refine ws_cnt ?_
      | refine ws_retN ?_
      | refine wx_any (by first | assumption | rfl) ?_
      | refine ⟨_, rfl, ?_⟩
      | refine wfil (by rfl) (fun ht => ?_) (fun ht => ?_)
      | exact ⟨rfl, rfl⟩
end Law

set_option Elab.async false
set_option autoImplicit false
set_option linter.all false
set_option maxRecDepth 100000
set_option maxHeartbeats 4000000
namespace Law
open PySem Mir
def HsOk (hs : List Int) : Prop := hs.length ≤ 200 ∧ ∀ h ∈ hs, -1000000 ≤ h ∧ h ≤ 1000000
theorem are_hours {k : Nat} {hs : List Int} (hk : 2 ≤ k) (h : HsOk hs) : callN Tb k 33 [.sh (hoursD hs)] = .ok (.bool true, false, [.emp]) := by
  obtain ⟨h1, h2⟩ := h
  obtain ⟨n, rfl⟩ : ∃ n, k = n + 1 := ⟨k - 1, by omega⟩
  refine wd (fn := fn33) rfl rfl fun C hC => ?_
  dsimp only [fn33, tm33, Nat.reduceSub, List.replicate, List.cons_append, List.nil_append]
  have e1 := tuple_of (k := n) (hs.map .int) 0 200 (by omega) (by omega) (by rw [List.length_map]; omega)
  have e2 : ∀ p ∈ hs, callN Tb n 27 [.sh (.int p), .sh (.int (-1000000)), .sh (.int 1000000)] = .ok (.bool true, false, [.emp, .emp, .emp]) := fun p hp => whole p (-1000000) 1000000 (by omega) (h2 p hp).1 (h2 p hp).2
  rw [← hC] at e1 e2
  repeat first
    | refine wl_map (l := hs) (h := .int) (fun _ => .bool true) (by omega) (fun i hi => ?_) ?_
    | refine wb_all (bools_of hs fun _ => true) ?_
    | exact ⟨by rw [all_true], rfl⟩
    | refine ws_seq ?_
    | refine ws_asg ?_
    | refine we_bin ?_
    | refine we_cmp ?_
    | refine we_call ?_
    | refine we_blt ?_
    | refine we_lit ?_
    | (refine we_glb (by rfl) ?_)
    | (refine we_var (by rfl) ?_; try dsimp only [List.set, List.map, Mir.lend, List.getElem?_cons_zero, List.getElem?_cons_succ, List.cons_append, List.nil_append, List.foldl, Mir.lockAll, Mir.lock1, Mir.unlockAll, Mir.unlock1, Mir.restG, Mir.walked, Option.getD, Mir.look, Mir.Slot.d, Mir.XF])
    | (refine we_slot (by rfl) ?_; try dsimp only [List.set, List.map, Mir.lend, List.getElem?_cons_zero, List.getElem?_cons_succ, List.cons_append, List.nil_append, List.foldl, Mir.lockAll, Mir.lock1, Mir.unlockAll, Mir.unlock1, Mir.restG, Mir.walked, Option.getD, Mir.look, Mir.Slot.d, Mir.XF])
    | refine wes_cons ?_
    | refine wes_nil ?_
    | refine wvs_cons ?_
    | refine wvs_nil ?_
    | refine wv_val ?_
    | refine wv_tmp ?_
    | (refine wv_slot (by rfl) ?_; try dsimp only [List.set, List.map, Mir.lend, List.getElem?_cons_zero, List.getElem?_cons_succ, List.cons_append, List.nil_append, List.foldl, Mir.lockAll, Mir.lock1, Mir.unlockAll, Mir.unlock1, Mir.restG, Mir.walked, Option.getD, Mir.look, Mir.Slot.d, Mir.XF])
    | (refine wc (by rfl) ?_; try dsimp only [List.set, List.map, Mir.lend, List.getElem?_cons_zero, List.getElem?_cons_succ, List.cons_append, List.nil_append, List.foldl, Mir.lockAll, Mir.lock1, Mir.unlockAll, Mir.unlock1, Mir.restG, Mir.walked, Option.getD, Mir.look, Mir.Slot.d, Mir.XF])
    | (refine wr e1 ?_)
    | (refine wr (e2 _ (by assumption)) ?_)
    | (refine wz (by rfl) ?_; try dsimp only [List.set, List.map, Mir.lend, List.getElem?_cons_zero, List.getElem?_cons_succ, List.cons_append, List.nil_append, List.foldl, Mir.lockAll, Mir.lock1, Mir.unlockAll, Mir.unlock1, Mir.restG, Mir.walked, Option.getD, Mir.look, Mir.Slot.d, Mir.XF])
    | (refine wz_setv (by rfl) (by assumption) ?_; try dsimp only [List.set, List.map, Mir.lend, List.getElem?_cons_zero, List.getElem?_cons_succ, List.cons_append, List.nil_append, List.foldl, Mir.lockAll, Mir.lock1, Mir.unlockAll, Mir.unlock1, Mir.restG, Mir.walked, Option.getD, Mir.look, Mir.Slot.d, Mir.XF])
    | (refine wz_setw (by rfl) (by assumption) ?_; try dsimp only [List.set, List.map, Mir.lend, List.getElem?_cons_zero, List.getElem?_cons_succ, List.cons_append, List.nil_append, List.foldl, Mir.lockAll, Mir.lock1, Mir.unlockAll, Mir.unlock1, Mir.restG, Mir.walked, Option.getD, Mir.look, Mir.Slot.d, Mir.XF])
    | refine wo_f ?_
    | refine wo_t ?_
    | refine wline (by first | omega | exact Nat.le_of_ble_eq_true rfl) ?_
    | refine w2_add ?_
    | refine w2_sub ?_
    | refine w2_mul (by first | assumption | exact big_of ⟨by omega, by omega⟩ ⟨by omega, by omega⟩) ?_
    | refine w2_fdiv (by first | assumption | exact div_of (by omega) (by omega)) ?_
    | refine w2_mod (by omega) ?_
    | refine w2_lists (by first | omega | exact Nat.le_of_ble_eq_true rfl | (simp only [List.length_cons, List.length_nil]; omega)) ?_
    | refine w2_tups (by first | omega | (simp only [List.length_cons, List.length_nil, List.length_map, List.length_replicate]; omega)) ?_
    | refine wk_lt ?_
    | refine wk_le ?_
    | refine wk_gt ?_
    | refine wk_ge ?_
    | refine wk_eqI ?_
    | refine wk_neI ?_
    | refine wk_any (by first | assumption | rfl) ?_
    | refine wt_bool ?_
    | refine wt_any (by first | assumption | rfl) ?_
    | refine wand_t (by first | rfl | assumption | exact decide_eq_true (by omega) | exact nd_t (by omega)) ?_
    | refine wand_f (by first | rfl | assumption | exact decide_eq_false (by omega) | exact nd_f (by omega)) ?_
    | refine ws_ife ?_
    | (refine ws_ret ?_)
    | refine wz_ret ?_
    | refine wz_retT ?_
    | refine ws_skip ?_
    | refine ws_exp ?_
    | refine ws_par ?_
    | refine ws_asgT ?_
    | refine we_tup ?_
    | refine we_lst ?_
    | refine we_ix ?_
    | refine we_not ?_
    | refine we_and ?_
    | refine we_or ?_
    | refine we_ite ?_
    | refine we_chn ?_
    | refine we_comp ?_
    | refine wi_rng ?_
    | refine wi_sq ?_
    | refine wi_enm ?_
    | refine wn1 ⟨by omega, by omega⟩ ?_
    | refine wn2 ⟨by omega, by omega⟩ ⟨by omega, by omega⟩ ?_
    | refine wbd_nil ?_
    | refine wbd_one ?_
    | refine wb_len ?_
    | refine wb_lenT ?_
    | refine wb_min ?_
    | refine wb_max ?_
    | refine we_neg ?_
    | refine we_slc ?_
    | refine we_rev ?_
    | refine we_lsq ?_
    | refine we_tsq ?_
    | refine we_lrg ?_
    | refine we_trg ?_
    | refine ws_for ?_
    | refine ws_brk ?_
    | refine ws_cnt ?_
    | refine ws_retN ?_
    | refine wx_any (by first | assumption | rfl) ?_
    | refine ⟨_, rfl, ?_⟩
    | refine wfil (by rfl) (fun ht => ?_) (fun ht => ?_)
    | exact ⟨rfl, rfl⟩
theorem need_hours {k : Nat} {hs : List Int} (hk : 3 ≤ k) (h : HsOk hs) : callN Tb k 32 [.sh (hoursD hs)] = .ok (.none, false, [.emp]) := by
  obtain ⟨n, rfl⟩ : ∃ n, k = n + 1 := ⟨k - 1, by omega⟩
  refine wd (fn := fn32) rfl rfl fun C hC => ?_
  dsimp only [fn32, tm32, Nat.reduceSub, List.replicate, List.cons_append, List.nil_append]
  have e1 := are_hours (k := n) (by omega) h
  rw [← hC] at e1
  repeat first
    | exact ⟨rfl, rfl, rfl⟩
    | refine ws_seq ?_
    | refine ws_asg ?_
    | refine we_bin ?_
    | refine we_cmp ?_
    | refine we_call ?_
    | refine we_blt ?_
    | refine we_lit ?_
    | (refine we_glb (by rfl) ?_)
    | (refine we_var (by rfl) ?_; try dsimp only [List.set, List.map, Mir.lend, List.getElem?_cons_zero, List.getElem?_cons_succ, List.cons_append, List.nil_append, List.foldl, Mir.lockAll, Mir.lock1, Mir.unlockAll, Mir.unlock1, Mir.restG, Mir.walked, Option.getD, Mir.look, Mir.Slot.d, Mir.XF])
    | (refine we_slot (by rfl) ?_; try dsimp only [List.set, List.map, Mir.lend, List.getElem?_cons_zero, List.getElem?_cons_succ, List.cons_append, List.nil_append, List.foldl, Mir.lockAll, Mir.lock1, Mir.unlockAll, Mir.unlock1, Mir.restG, Mir.walked, Option.getD, Mir.look, Mir.Slot.d, Mir.XF])
    | refine wes_cons ?_
    | refine wes_nil ?_
    | refine wvs_cons ?_
    | refine wvs_nil ?_
    | refine wv_val ?_
    | refine wv_tmp ?_
    | (refine wv_slot (by rfl) ?_; try dsimp only [List.set, List.map, Mir.lend, List.getElem?_cons_zero, List.getElem?_cons_succ, List.cons_append, List.nil_append, List.foldl, Mir.lockAll, Mir.lock1, Mir.unlockAll, Mir.unlock1, Mir.restG, Mir.walked, Option.getD, Mir.look, Mir.Slot.d, Mir.XF])
    | (refine wc (by rfl) ?_; try dsimp only [List.set, List.map, Mir.lend, List.getElem?_cons_zero, List.getElem?_cons_succ, List.cons_append, List.nil_append, List.foldl, Mir.lockAll, Mir.lock1, Mir.unlockAll, Mir.unlock1, Mir.restG, Mir.walked, Option.getD, Mir.look, Mir.Slot.d, Mir.XF])
    | (refine wr e1 ?_)
    | (refine wz (by rfl) ?_; try dsimp only [List.set, List.map, Mir.lend, List.getElem?_cons_zero, List.getElem?_cons_succ, List.cons_append, List.nil_append, List.foldl, Mir.lockAll, Mir.lock1, Mir.unlockAll, Mir.unlock1, Mir.restG, Mir.walked, Option.getD, Mir.look, Mir.Slot.d, Mir.XF])
    | (refine wz_setv (by rfl) (by assumption) ?_; try dsimp only [List.set, List.map, Mir.lend, List.getElem?_cons_zero, List.getElem?_cons_succ, List.cons_append, List.nil_append, List.foldl, Mir.lockAll, Mir.lock1, Mir.unlockAll, Mir.unlock1, Mir.restG, Mir.walked, Option.getD, Mir.look, Mir.Slot.d, Mir.XF])
    | (refine wz_setw (by rfl) (by assumption) ?_; try dsimp only [List.set, List.map, Mir.lend, List.getElem?_cons_zero, List.getElem?_cons_succ, List.cons_append, List.nil_append, List.foldl, Mir.lockAll, Mir.lock1, Mir.unlockAll, Mir.unlock1, Mir.restG, Mir.walked, Option.getD, Mir.look, Mir.Slot.d, Mir.XF])
    | refine wo_f ?_
    | refine wo_t ?_
    | refine wline (by first | omega | exact Nat.le_of_ble_eq_true rfl) ?_
    | refine w2_add ?_
    | refine w2_sub ?_
    | refine w2_mul (by first | assumption | exact big_of ⟨by omega, by omega⟩ ⟨by omega, by omega⟩) ?_
    | refine w2_fdiv (by first | assumption | exact div_of (by omega) (by omega)) ?_
    | refine w2_mod (by omega) ?_
    | refine w2_lists (by first | omega | exact Nat.le_of_ble_eq_true rfl | (simp only [List.length_cons, List.length_nil]; omega)) ?_
    | refine w2_tups (by first | omega | (simp only [List.length_cons, List.length_nil, List.length_map, List.length_replicate]; omega)) ?_
    | refine wk_lt ?_
    | refine wk_le ?_
    | refine wk_gt ?_
    | refine wk_ge ?_
    | refine wk_eqI ?_
    | refine wk_neI ?_
    | refine wk_any (by first | assumption | rfl) ?_
    | refine wt_bool ?_
    | refine wt_any (by first | assumption | rfl) ?_
    | refine wand_t (by first | rfl | assumption | exact decide_eq_true (by omega) | exact nd_t (by omega)) ?_
    | refine wand_f (by first | rfl | assumption | exact decide_eq_false (by omega) | exact nd_f (by omega)) ?_
    | refine ws_ife ?_
    | (refine ws_ret ?_)
    | refine wz_ret ?_
    | refine wz_retT ?_
    | refine ws_skip ?_
    | refine ws_exp ?_
    | refine ws_par ?_
    | refine ws_asgT ?_
    | refine we_tup ?_
    | refine we_lst ?_
    | refine we_ix ?_
    | refine we_not ?_
    | refine we_and ?_
    | refine we_or ?_
    | refine we_ite ?_
    | refine we_chn ?_
    | refine we_comp ?_
    | refine wi_rng ?_
    | refine wi_sq ?_
    | refine wi_enm ?_
    | refine wn1 ⟨by omega, by omega⟩ ?_
    | refine wn2 ⟨by omega, by omega⟩ ⟨by omega, by omega⟩ ?_
    | refine wbd_nil ?_
    | refine wbd_one ?_
    | refine wb_len ?_
    | refine wb_lenT ?_
    | refine wb_min ?_
    | refine wb_max ?_
    | refine we_neg ?_
    | refine we_slc ?_
    | refine we_rev ?_
    | refine we_lsq ?_
    | refine we_tsq ?_
    | refine we_lrg ?_
    | refine we_trg ?_
    | refine ws_for ?_
    | refine ws_brk ?_
    | refine ws_cnt ?_
    | refine ws_retN ?_
    | refine wx_any (by first | assumption | rfl) ?_
    | refine ⟨_, rfl, ?_⟩
    | refine wfil (by rfl) (fun ht => ?_) (fun ht => ?_)
    | exact ⟨rfl, rfl⟩
theorem need_all {k : Nat} {st : Int × Int} {hs : List Int} (hk : 4 ≤ k) (hs' : StOk st) (h : HsOk hs) : callN Tb k 26 [.sh (storeD st), .sh (.int st.1), .sh (hoursD hs)] = .ok (.none, false, [.emp, .emp, .emp]) := by
  obtain ⟨n, rfl⟩ : ∃ n, k = n + 1 := ⟨k - 1, by omega⟩
  refine wd (fn := fn26) rfl rfl fun C hC => ?_
  dsimp only [fn26, tm26, Nat.reduceSub, List.replicate, List.cons_append, List.nil_append]
  have e1 := need_one (k := n) (by omega) hs'
  have e2 := need_whole (k := n) st.1 0 st.1 (by omega) (by have := hs'.1; omega) (Int.le_refl _)
  have e3 := need_hours (k := n) (by omega) h
  rw [← hC] at e1 e2 e3
  repeat first
    | exact ⟨rfl, rfl, rfl⟩
    | refine ws_seq ?_
    | refine ws_asg ?_
    | refine we_bin ?_
    | refine we_cmp ?_
    | refine we_call ?_
    | refine we_blt ?_
    | refine we_lit ?_
    | (refine we_glb (by rfl) ?_)
    | (refine we_var (by rfl) ?_; try dsimp only [List.set, List.map, Mir.lend, List.getElem?_cons_zero, List.getElem?_cons_succ, List.cons_append, List.nil_append, List.foldl, Mir.lockAll, Mir.lock1, Mir.unlockAll, Mir.unlock1, Mir.restG, Mir.walked, Option.getD, Mir.look, Mir.Slot.d, Mir.XF])
    | (refine we_slot (by rfl) ?_; try dsimp only [List.set, List.map, Mir.lend, List.getElem?_cons_zero, List.getElem?_cons_succ, List.cons_append, List.nil_append, List.foldl, Mir.lockAll, Mir.lock1, Mir.unlockAll, Mir.unlock1, Mir.restG, Mir.walked, Option.getD, Mir.look, Mir.Slot.d, Mir.XF])
    | refine wes_cons ?_
    | refine wes_nil ?_
    | refine wvs_cons ?_
    | refine wvs_nil ?_
    | refine wv_val ?_
    | refine wv_tmp ?_
    | (refine wv_slot (by rfl) ?_; try dsimp only [List.set, List.map, Mir.lend, List.getElem?_cons_zero, List.getElem?_cons_succ, List.cons_append, List.nil_append, List.foldl, Mir.lockAll, Mir.lock1, Mir.unlockAll, Mir.unlock1, Mir.restG, Mir.walked, Option.getD, Mir.look, Mir.Slot.d, Mir.XF])
    | (refine wc (by rfl) ?_; try dsimp only [List.set, List.map, Mir.lend, List.getElem?_cons_zero, List.getElem?_cons_succ, List.cons_append, List.nil_append, List.foldl, Mir.lockAll, Mir.lock1, Mir.unlockAll, Mir.unlock1, Mir.restG, Mir.walked, Option.getD, Mir.look, Mir.Slot.d, Mir.XF])
    | (refine wr e1 ?_)
    | (refine wr e2 ?_)
    | (refine wr e3 ?_)
    | (refine wz (by rfl) ?_; try dsimp only [List.set, List.map, Mir.lend, List.getElem?_cons_zero, List.getElem?_cons_succ, List.cons_append, List.nil_append, List.foldl, Mir.lockAll, Mir.lock1, Mir.unlockAll, Mir.unlock1, Mir.restG, Mir.walked, Option.getD, Mir.look, Mir.Slot.d, Mir.XF])
    | (refine wz_setv (by rfl) (by assumption) ?_; try dsimp only [List.set, List.map, Mir.lend, List.getElem?_cons_zero, List.getElem?_cons_succ, List.cons_append, List.nil_append, List.foldl, Mir.lockAll, Mir.lock1, Mir.unlockAll, Mir.unlock1, Mir.restG, Mir.walked, Option.getD, Mir.look, Mir.Slot.d, Mir.XF])
    | (refine wz_setw (by rfl) (by assumption) ?_; try dsimp only [List.set, List.map, Mir.lend, List.getElem?_cons_zero, List.getElem?_cons_succ, List.cons_append, List.nil_append, List.foldl, Mir.lockAll, Mir.lock1, Mir.unlockAll, Mir.unlock1, Mir.restG, Mir.walked, Option.getD, Mir.look, Mir.Slot.d, Mir.XF])
    | refine wo_f ?_
    | refine wo_t ?_
    | refine wline (by first | omega | exact Nat.le_of_ble_eq_true rfl) ?_
    | refine w2_add ?_
    | refine w2_sub ?_
    | refine w2_mul (by first | assumption | exact big_of ⟨by omega, by omega⟩ ⟨by omega, by omega⟩) ?_
    | refine w2_fdiv (by first | assumption | exact div_of (by omega) (by omega)) ?_
    | refine w2_mod (by omega) ?_
    | refine w2_lists (by first | omega | exact Nat.le_of_ble_eq_true rfl | (simp only [List.length_cons, List.length_nil]; omega)) ?_
    | refine w2_tups (by first | omega | (simp only [List.length_cons, List.length_nil, List.length_map, List.length_replicate]; omega)) ?_
    | refine wk_lt ?_
    | refine wk_le ?_
    | refine wk_gt ?_
    | refine wk_ge ?_
    | refine wk_eqI ?_
    | refine wk_neI ?_
    | refine wk_any (by first | assumption | rfl) ?_
    | refine wt_bool ?_
    | refine wt_any (by first | assumption | rfl) ?_
    | refine wand_t (by first | rfl | assumption | exact decide_eq_true (by omega) | exact nd_t (by omega)) ?_
    | refine wand_f (by first | rfl | assumption | exact decide_eq_false (by omega) | exact nd_f (by omega)) ?_
    | refine ws_ife ?_
    | (refine ws_ret ?_)
    | refine wz_ret ?_
    | refine wz_retT ?_
    | refine ws_skip ?_
    | refine ws_exp ?_
    | refine ws_par ?_
    | refine ws_asgT ?_
    | refine we_tup ?_
    | refine we_lst ?_
    | refine we_ix ?_
    | refine we_not ?_
    | refine we_and ?_
    | refine we_or ?_
    | refine we_ite ?_
    | refine we_chn ?_
    | refine we_comp ?_
    | refine wi_rng ?_
    | refine wi_sq ?_
    | refine wi_enm ?_
    | refine wn1 ⟨by omega, by omega⟩ ?_
    | refine wn2 ⟨by omega, by omega⟩ ⟨by omega, by omega⟩ ?_
    | refine wbd_nil ?_
    | refine wbd_one ?_
    | refine wb_len ?_
    | refine wb_lenT ?_
    | refine wb_min ?_
    | refine wb_max ?_
    | refine we_neg ?_
    | refine we_slc ?_
    | refine we_rev ?_
    | refine we_lsq ?_
    | refine we_tsq ?_
    | refine we_lrg ?_
    | refine we_trg ?_
    | refine ws_for ?_
    | refine ws_brk ?_
    | refine ws_cnt ?_
    | refine ws_retN ?_
    | refine wx_any (by first | assumption | rfl) ?_
    | refine ⟨_, rfl, ?_⟩
    | refine wfil (by rfl) (fun ht => ?_) (fun ht => ?_)
    | exact ⟨rfl, rfl⟩
theorem cut_mid {hs : List Int} {s e : Nat} (h1 : s ≤ e) (h2 : e < hs.length) : slD1 (.tup (hs.map D.int)) (some (s : Int)) (some ((e : Int) + 1)) = .ok (.val (hoursD ((hs.drop s).take (e + 1 - s)))) := by
  show R.ok (Opd.val (.tup (cut (hs.map D.int) (some (s : Int)) (some ((e : Int) + 1))))) = _
  unfold cut
  have a : HT.sIx (hs.map D.int).length 0 (some (s : Int)) = s := by
    rw [HT.sIx_nat, List.length_map]
    omega
  have b : HT.sIx (hs.map D.int).length (hs.map D.int).length (some ((e : Int) + 1)) = e + 1 := by
    have z : ((e : Int) + 1) = ((e + 1 : Nat) : Int) := by omega
    rw [z, HT.sIx_nat, List.length_map]
    omega
  rw [a, b, ← List.map_drop, ← List.map_take]
  all_goals rfl
theorem is_dark_in {k : Nat} {st : Int × Int} {hs : List Int} {s e : Nat} (hk : 2 ≤ k) (hl : hs.length ≤ 200) (h1 : s ≤ e) (h2 : e < hs.length) (h : (s = e ∧ -hs[e] > st.2) ∨ T st.2 hs s e > st.1) : callN Tb k 25 [.sh (storeD st), .sh (.int st.1), .sh (hoursD hs), .sh (.tup [.int s, .int e])] = .ok (.bool true, false, [.emp, .emp, .emp, .emp]) := by
  have hcut := cut_mid h1 h2
  have len : bapp .len [.tup (hs.map D.int)] = .ok (.val (.int (hs.length : Int))) := by
    show R.ok (Opd.val (.int ((hs.map D.int).length : Int))) = _
    rw [List.length_map]
  have ix : ixD (.tup (hs.map D.int)) (.int (s : Int)) = .ok (.int (hs[s]'(by omega))) := by
    refine ix_at (xs := hs.map D.int) (by omega) ?_
    rw [Int.toNat_natCast, List.getElem?_map, List.getElem?_eq_getElem (by omega)]
    all_goals rfl
  obtain ⟨n, rfl⟩ : ∃ n, k = n + 1 := ⟨k - 1, by omega⟩
  refine wd (fn := fn25) rfl rfl fun C hC => ?_
  dsimp only [fn25, tm25, Nat.reduceSub, List.replicate, List.cons_append, List.nil_append]
  have e1 := tuple_of (k := n) [.int (s : Nat), .int (e : Nat)] 2 2 (by omega) (Int.le_refl 2) (Int.le_refl 2)
  have e2 := whole (k := n) (e : Nat) 0 ((hs.length : Int) - 1) (by omega) (by omega) (by omega)
  have e3 := whole (k := n) (s : Nat) 0 (e : Nat) (by omega) (by omega) (by omega)
  have e4 := lost_T (k := n) (S := st.2) (hs := (hs.drop s).take (e + 1 - s)) (by omega) (by rw [List.length_take, List.length_drop]; omega)
  rw [← hC] at e1 e2 e3 e4
  have sm : bapp .sum [.list ((((hs.drop s).take (e + 1 - s)).map (tk st.2)).map .int)] = .ok (.val (.int (T st.2 hs s e))) := by
    show (match intsOf ((((hs.drop s).take (e + 1 - s)).map (tk st.2)).map .int) with | some ns => R.ok (Opd.val (.int ns.sum)) | none => .no) = _
    rw [ints_map]
    all_goals rfl
  by_cases c : T st.2 hs s e > st.1
  · repeat first
      | refine wz hcut ?_
      | refine wb_any len ?_
      | refine wb_any sm ?_
      | refine ws_seq ?_
      | refine ws_asg ?_
      | refine we_bin ?_
      | refine we_cmp ?_
      | refine we_call ?_
      | refine we_blt ?_
      | refine we_lit ?_
      | (refine we_glb (by rfl) ?_)
      | (refine we_var (by rfl) ?_; try dsimp only [List.set, List.map, Mir.lend, List.getElem?_cons_zero, List.getElem?_cons_succ, List.cons_append, List.nil_append, List.foldl, Mir.lockAll, Mir.lock1, Mir.unlockAll, Mir.unlock1, Mir.restG, Mir.walked, Option.getD, Mir.look, Mir.Slot.d, Mir.XF])
      | (refine we_slot (by rfl) ?_; try dsimp only [List.set, List.map, Mir.lend, List.getElem?_cons_zero, List.getElem?_cons_succ, List.cons_append, List.nil_append, List.foldl, Mir.lockAll, Mir.lock1, Mir.unlockAll, Mir.unlock1, Mir.restG, Mir.walked, Option.getD, Mir.look, Mir.Slot.d, Mir.XF])
      | refine wes_cons ?_
      | refine wes_nil ?_
      | refine wvs_cons ?_
      | refine wvs_nil ?_
      | refine wv_val ?_
      | refine wv_tmp ?_
      | (refine wv_slot (by rfl) ?_; try dsimp only [List.set, List.map, Mir.lend, List.getElem?_cons_zero, List.getElem?_cons_succ, List.cons_append, List.nil_append, List.foldl, Mir.lockAll, Mir.lock1, Mir.unlockAll, Mir.unlock1, Mir.restG, Mir.walked, Option.getD, Mir.look, Mir.Slot.d, Mir.XF])
      | (refine wc (by rfl) ?_; try dsimp only [List.set, List.map, Mir.lend, List.getElem?_cons_zero, List.getElem?_cons_succ, List.cons_append, List.nil_append, List.foldl, Mir.lockAll, Mir.lock1, Mir.unlockAll, Mir.unlock1, Mir.restG, Mir.walked, Option.getD, Mir.look, Mir.Slot.d, Mir.XF])
      | (refine wr e1 ?_)
      | (refine wr e2 ?_)
      | (refine wr e3 ?_)
      | (refine wr e4 ?_)
      | (refine wz (by rfl) ?_; try dsimp only [List.set, List.map, Mir.lend, List.getElem?_cons_zero, List.getElem?_cons_succ, List.cons_append, List.nil_append, List.foldl, Mir.lockAll, Mir.lock1, Mir.unlockAll, Mir.unlock1, Mir.restG, Mir.walked, Option.getD, Mir.look, Mir.Slot.d, Mir.XF])
      | (refine wz_setv (by rfl) (by assumption) ?_; try dsimp only [List.set, List.map, Mir.lend, List.getElem?_cons_zero, List.getElem?_cons_succ, List.cons_append, List.nil_append, List.foldl, Mir.lockAll, Mir.lock1, Mir.unlockAll, Mir.unlock1, Mir.restG, Mir.walked, Option.getD, Mir.look, Mir.Slot.d, Mir.XF])
      | (refine wz_setw (by rfl) (by assumption) ?_; try dsimp only [List.set, List.map, Mir.lend, List.getElem?_cons_zero, List.getElem?_cons_succ, List.cons_append, List.nil_append, List.foldl, Mir.lockAll, Mir.lock1, Mir.unlockAll, Mir.unlock1, Mir.restG, Mir.walked, Option.getD, Mir.look, Mir.Slot.d, Mir.XF])
      | refine wo_f ?_
      | refine wo_t ?_
      | refine wline (by first | omega | exact Nat.le_of_ble_eq_true rfl) ?_
      | refine w2_add ?_
      | refine w2_sub ?_
      | refine w2_mul (by first | assumption | exact big_of ⟨by omega, by omega⟩ ⟨by omega, by omega⟩) ?_
      | refine w2_fdiv (by first | assumption | exact div_of (by omega) (by omega)) ?_
      | refine w2_mod (by omega) ?_
      | refine w2_lists (by first | omega | exact Nat.le_of_ble_eq_true rfl | (simp only [List.length_cons, List.length_nil]; omega)) ?_
      | refine w2_tups (by first | omega | (simp only [List.length_cons, List.length_nil, List.length_map, List.length_replicate]; omega)) ?_
      | refine wk_lt ?_
      | refine wk_le ?_
      | refine wk_gt ?_
      | refine wk_ge ?_
      | refine wk_eqI ?_
      | refine wk_neI ?_
      | refine wk_any (by first | assumption | rfl) ?_
      | refine wt_bool ?_
      | refine wt_any (by first | assumption | rfl) ?_
      | refine wand_t (by first | rfl | assumption | exact decide_eq_true (by omega) | exact nd_t (by omega)) ?_
      | refine wand_f (by first | rfl | assumption | exact decide_eq_false (by omega) | exact nd_f (by omega)) ?_
      | refine ws_ife ?_
      | (refine ws_ret ?_)
      | refine wz_ret ?_
      | refine wz_retT ?_
      | refine ws_skip ?_
      | refine ws_exp ?_
      | refine ws_par ?_
      | refine ws_asgT ?_
      | refine we_tup ?_
      | refine we_lst ?_
      | refine we_ix ?_
      | refine we_not ?_
      | refine we_and ?_
      | refine we_or ?_
      | refine we_ite ?_
      | refine we_chn ?_
      | refine we_comp ?_
      | refine wi_rng ?_
      | refine wi_sq ?_
      | refine wi_enm ?_
      | refine wn1 ⟨by omega, by omega⟩ ?_
      | refine wn2 ⟨by omega, by omega⟩ ⟨by omega, by omega⟩ ?_
      | refine wbd_nil ?_
      | refine wbd_one ?_
      | refine wb_len ?_
      | refine wb_lenT ?_
      | refine wb_min ?_
      | refine wb_max ?_
      | refine we_neg ?_
      | refine we_slc ?_
      | refine we_rev ?_
      | refine we_lsq ?_
      | refine we_tsq ?_
      | refine we_lrg ?_
      | refine we_trg ?_
      | refine ws_for ?_
      | refine ws_brk ?_
      | refine ws_cnt ?_
      | refine ws_retN ?_
      | refine wx_any (by first | assumption | rfl) ?_
      | refine ⟨_, rfl, ?_⟩
      | refine wfil (by rfl) (fun ht => ?_) (fun ht => ?_)
      | exact ⟨rfl, rfl⟩
  · obtain ⟨rfl, h⟩ := h.resolve_right c
    by_cases z : (s : Int) = 0
    · repeat first
        | refine wz hcut ?_
        | refine wb_any len ?_
        | refine wb_any sm ?_
        | refine wx_any ix ?_
        | exact ⟨by rw [decide_eq_true h], rfl⟩
        | refine ws_seq ?_
        | refine ws_asg ?_
        | refine we_bin ?_
        | refine we_cmp ?_
        | refine we_call ?_
        | refine we_blt ?_
        | refine we_lit ?_
        | (refine we_glb (by rfl) ?_)
        | (refine we_var (by rfl) ?_; try dsimp only [List.set, List.map, Mir.lend, List.getElem?_cons_zero, List.getElem?_cons_succ, List.cons_append, List.nil_append, List.foldl, Mir.lockAll, Mir.lock1, Mir.unlockAll, Mir.unlock1, Mir.restG, Mir.walked, Option.getD, Mir.look, Mir.Slot.d, Mir.XF])
        | (refine we_slot (by rfl) ?_; try dsimp only [List.set, List.map, Mir.lend, List.getElem?_cons_zero, List.getElem?_cons_succ, List.cons_append, List.nil_append, List.foldl, Mir.lockAll, Mir.lock1, Mir.unlockAll, Mir.unlock1, Mir.restG, Mir.walked, Option.getD, Mir.look, Mir.Slot.d, Mir.XF])
        | refine wes_cons ?_
        | refine wes_nil ?_
        | refine wvs_cons ?_
        | refine wvs_nil ?_
        | refine wv_val ?_
        | refine wv_tmp ?_
        | (refine wv_slot (by rfl) ?_; try dsimp only [List.set, List.map, Mir.lend, List.getElem?_cons_zero, List.getElem?_cons_succ, List.cons_append, List.nil_append, List.foldl, Mir.lockAll, Mir.lock1, Mir.unlockAll, Mir.unlock1, Mir.restG, Mir.walked, Option.getD, Mir.look, Mir.Slot.d, Mir.XF])
        | (refine wc (by rfl) ?_; try dsimp only [List.set, List.map, Mir.lend, List.getElem?_cons_zero, List.getElem?_cons_succ, List.cons_append, List.nil_append, List.foldl, Mir.lockAll, Mir.lock1, Mir.unlockAll, Mir.unlock1, Mir.restG, Mir.walked, Option.getD, Mir.look, Mir.Slot.d, Mir.XF])
        | (refine wr e1 ?_)
        | (refine wr e2 ?_)
        | (refine wr e3 ?_)
        | (refine wr e4 ?_)
        | (refine wz (by rfl) ?_; try dsimp only [List.set, List.map, Mir.lend, List.getElem?_cons_zero, List.getElem?_cons_succ, List.cons_append, List.nil_append, List.foldl, Mir.lockAll, Mir.lock1, Mir.unlockAll, Mir.unlock1, Mir.restG, Mir.walked, Option.getD, Mir.look, Mir.Slot.d, Mir.XF])
        | (refine wz_setv (by rfl) (by assumption) ?_; try dsimp only [List.set, List.map, Mir.lend, List.getElem?_cons_zero, List.getElem?_cons_succ, List.cons_append, List.nil_append, List.foldl, Mir.lockAll, Mir.lock1, Mir.unlockAll, Mir.unlock1, Mir.restG, Mir.walked, Option.getD, Mir.look, Mir.Slot.d, Mir.XF])
        | (refine wz_setw (by rfl) (by assumption) ?_; try dsimp only [List.set, List.map, Mir.lend, List.getElem?_cons_zero, List.getElem?_cons_succ, List.cons_append, List.nil_append, List.foldl, Mir.lockAll, Mir.lock1, Mir.unlockAll, Mir.unlock1, Mir.restG, Mir.walked, Option.getD, Mir.look, Mir.Slot.d, Mir.XF])
        | refine wo_f ?_
        | refine wo_t ?_
        | refine wline (by first | omega | exact Nat.le_of_ble_eq_true rfl) ?_
        | refine w2_add ?_
        | refine w2_sub ?_
        | refine w2_mul (by first | assumption | exact big_of ⟨by omega, by omega⟩ ⟨by omega, by omega⟩) ?_
        | refine w2_fdiv (by first | assumption | exact div_of (by omega) (by omega)) ?_
        | refine w2_mod (by omega) ?_
        | refine w2_lists (by first | omega | exact Nat.le_of_ble_eq_true rfl | (simp only [List.length_cons, List.length_nil]; omega)) ?_
        | refine w2_tups (by first | omega | (simp only [List.length_cons, List.length_nil, List.length_map, List.length_replicate]; omega)) ?_
        | refine wk_lt ?_
        | refine wk_le ?_
        | refine wk_gt ?_
        | refine wk_ge ?_
        | refine wk_eqI ?_
        | refine wk_neI ?_
        | refine wk_any (by first | assumption | rfl) ?_
        | refine wt_bool ?_
        | refine wt_any (by first | assumption | rfl) ?_
        | refine wand_t (by first | rfl | assumption | exact decide_eq_true (by omega) | exact nd_t (by omega)) ?_
        | refine wand_f (by first | rfl | assumption | exact decide_eq_false (by omega) | exact nd_f (by omega)) ?_
        | refine ws_ife ?_
        | (refine ws_ret ?_)
        | refine wz_ret ?_
        | refine wz_retT ?_
        | refine ws_skip ?_
        | refine ws_exp ?_
        | refine ws_par ?_
        | refine ws_asgT ?_
        | refine we_tup ?_
        | refine we_lst ?_
        | refine we_ix ?_
        | refine we_not ?_
        | refine we_and ?_
        | refine we_or ?_
        | refine we_ite ?_
        | refine we_chn ?_
        | refine we_comp ?_
        | refine wi_rng ?_
        | refine wi_sq ?_
        | refine wi_enm ?_
        | refine wn1 ⟨by omega, by omega⟩ ?_
        | refine wn2 ⟨by omega, by omega⟩ ⟨by omega, by omega⟩ ?_
        | refine wbd_nil ?_
        | refine wbd_one ?_
        | refine wb_len ?_
        | refine wb_lenT ?_
        | refine wb_min ?_
        | refine wb_max ?_
        | refine we_neg ?_
        | refine we_slc ?_
        | refine we_rev ?_
        | refine we_lsq ?_
        | refine we_tsq ?_
        | refine we_lrg ?_
        | refine we_trg ?_
        | refine ws_for ?_
        | refine ws_brk ?_
        | refine ws_cnt ?_
        | refine ws_retN ?_
        | refine wx_any (by first | assumption | rfl) ?_
        | refine ⟨_, rfl, ?_⟩
        | refine wfil (by rfl) (fun ht => ?_) (fun ht => ?_)
        | exact ⟨rfl, rfl⟩
    · repeat first
        | refine wz hcut ?_
        | refine wb_any len ?_
        | refine wb_any sm ?_
        | refine wx_any ix ?_
        | exact ⟨by rw [decide_eq_true h], rfl⟩
        | refine ws_seq ?_
        | refine ws_asg ?_
        | refine we_bin ?_
        | refine we_cmp ?_
        | refine we_call ?_
        | refine we_blt ?_
        | refine we_lit ?_
        | (refine we_glb (by rfl) ?_)
        | (refine we_var (by rfl) ?_; try dsimp only [List.set, List.map, Mir.lend, List.getElem?_cons_zero, List.getElem?_cons_succ, List.cons_append, List.nil_append, List.foldl, Mir.lockAll, Mir.lock1, Mir.unlockAll, Mir.unlock1, Mir.restG, Mir.walked, Option.getD, Mir.look, Mir.Slot.d, Mir.XF])
        | (refine we_slot (by rfl) ?_; try dsimp only [List.set, List.map, Mir.lend, List.getElem?_cons_zero, List.getElem?_cons_succ, List.cons_append, List.nil_append, List.foldl, Mir.lockAll, Mir.lock1, Mir.unlockAll, Mir.unlock1, Mir.restG, Mir.walked, Option.getD, Mir.look, Mir.Slot.d, Mir.XF])
        | refine wes_cons ?_
        | refine wes_nil ?_
        | refine wvs_cons ?_
        | refine wvs_nil ?_
        | refine wv_val ?_
        | refine wv_tmp ?_
        | (refine wv_slot (by rfl) ?_; try dsimp only [List.set, List.map, Mir.lend, List.getElem?_cons_zero, List.getElem?_cons_succ, List.cons_append, List.nil_append, List.foldl, Mir.lockAll, Mir.lock1, Mir.unlockAll, Mir.unlock1, Mir.restG, Mir.walked, Option.getD, Mir.look, Mir.Slot.d, Mir.XF])
        | (refine wc (by rfl) ?_; try dsimp only [List.set, List.map, Mir.lend, List.getElem?_cons_zero, List.getElem?_cons_succ, List.cons_append, List.nil_append, List.foldl, Mir.lockAll, Mir.lock1, Mir.unlockAll, Mir.unlock1, Mir.restG, Mir.walked, Option.getD, Mir.look, Mir.Slot.d, Mir.XF])
        | (refine wr e1 ?_)
        | (refine wr e2 ?_)
        | (refine wr e3 ?_)
        | (refine wr e4 ?_)
        | (refine wz (by rfl) ?_; try dsimp only [List.set, List.map, Mir.lend, List.getElem?_cons_zero, List.getElem?_cons_succ, List.cons_append, List.nil_append, List.foldl, Mir.lockAll, Mir.lock1, Mir.unlockAll, Mir.unlock1, Mir.restG, Mir.walked, Option.getD, Mir.look, Mir.Slot.d, Mir.XF])
        | (refine wz_setv (by rfl) (by assumption) ?_; try dsimp only [List.set, List.map, Mir.lend, List.getElem?_cons_zero, List.getElem?_cons_succ, List.cons_append, List.nil_append, List.foldl, Mir.lockAll, Mir.lock1, Mir.unlockAll, Mir.unlock1, Mir.restG, Mir.walked, Option.getD, Mir.look, Mir.Slot.d, Mir.XF])
        | (refine wz_setw (by rfl) (by assumption) ?_; try dsimp only [List.set, List.map, Mir.lend, List.getElem?_cons_zero, List.getElem?_cons_succ, List.cons_append, List.nil_append, List.foldl, Mir.lockAll, Mir.lock1, Mir.unlockAll, Mir.unlock1, Mir.restG, Mir.walked, Option.getD, Mir.look, Mir.Slot.d, Mir.XF])
        | refine wo_f ?_
        | refine wo_t ?_
        | refine wline (by first | omega | exact Nat.le_of_ble_eq_true rfl) ?_
        | refine w2_add ?_
        | refine w2_sub ?_
        | refine w2_mul (by first | assumption | exact big_of ⟨by omega, by omega⟩ ⟨by omega, by omega⟩) ?_
        | refine w2_fdiv (by first | assumption | exact div_of (by omega) (by omega)) ?_
        | refine w2_mod (by omega) ?_
        | refine w2_lists (by first | omega | exact Nat.le_of_ble_eq_true rfl | (simp only [List.length_cons, List.length_nil]; omega)) ?_
        | refine w2_tups (by first | omega | (simp only [List.length_cons, List.length_nil, List.length_map, List.length_replicate]; omega)) ?_
        | refine wk_lt ?_
        | refine wk_le ?_
        | refine wk_gt ?_
        | refine wk_ge ?_
        | refine wk_eqI ?_
        | refine wk_neI ?_
        | refine wk_any (by first | assumption | rfl) ?_
        | refine wt_bool ?_
        | refine wt_any (by first | assumption | rfl) ?_
        | refine wand_t (by first | rfl | assumption | exact decide_eq_true (by omega) | exact nd_t (by omega)) ?_
        | refine wand_f (by first | rfl | assumption | exact decide_eq_false (by omega) | exact nd_f (by omega)) ?_
        | refine ws_ife ?_
        | (refine ws_ret ?_)
        | refine wz_ret ?_
        | refine wz_retT ?_
        | refine ws_skip ?_
        | refine ws_exp ?_
        | refine ws_par ?_
        | refine ws_asgT ?_
        | refine we_tup ?_
        | refine we_lst ?_
        | refine we_ix ?_
        | refine we_not ?_
        | refine we_and ?_
        | refine we_or ?_
        | refine we_ite ?_
        | refine we_chn ?_
        | refine we_comp ?_
        | refine wi_rng ?_
        | refine wi_sq ?_
        | refine wi_enm ?_
        | refine wn1 ⟨by omega, by omega⟩ ?_
        | refine wn2 ⟨by omega, by omega⟩ ⟨by omega, by omega⟩ ?_
        | refine wbd_nil ?_
        | refine wbd_one ?_
        | refine wb_len ?_
        | refine wb_lenT ?_
        | refine wb_min ?_
        | refine wb_max ?_
        | refine we_neg ?_
        | refine we_slc ?_
        | refine we_rev ?_
        | refine we_lsq ?_
        | refine we_tsq ?_
        | refine we_lrg ?_
        | refine we_trg ?_
        | refine ws_for ?_
        | refine ws_brk ?_
        | refine ws_cnt ?_
        | refine ws_retN ?_
        | refine wx_any (by first | assumption | rfl) ?_
        | refine ⟨_, rfl, ?_⟩
        | refine wfil (by rfl) (fun ht => ?_) (fun ht => ?_)
        | exact ⟨rfl, rfl⟩
theorem is_dark_stretch {k : Nat} {st : Int × Int} {hs : List Int} {s e : Nat} (hk : 5 ≤ k) (hs' : StOk st) (hl : HsOk hs) (h1 : s ≤ e) (h2 : e < hs.length) (h : (s = e ∧ -hs[e] > st.2) ∨ T st.2 hs s e > st.1) : callN Tb k 17 [.sh (storeD st), .sh (.int st.1), .sh (hoursD hs), .sh (.tup [.int s, .int e])] = .ok (.bool true, false, [.emp, .emp, .emp, .emp]) := by
  obtain ⟨n, rfl⟩ : ∃ n, k = n + 1 := ⟨k - 1, by omega⟩
  refine wd (fn := fn17) rfl rfl fun C hC => ?_
  dsimp only [fn17, tm17, Nat.reduceSub, List.replicate, List.cons_append, List.nil_append]
  have e1 := need_all (k := n) (by omega) hs' hl
  have e2 := is_dark_in (k := n) (by omega) hl.1 h1 h2 h
  rw [← hC] at e1 e2
  repeat first
    | refine ws_seq ?_
    | refine ws_asg ?_
    | refine we_bin ?_
    | refine we_cmp ?_
    | refine we_call ?_
    | refine we_blt ?_
    | refine we_lit ?_
    | (refine we_glb (by rfl) ?_)
    | (refine we_var (by rfl) ?_; try dsimp only [List.set, List.map, Mir.lend, List.getElem?_cons_zero, List.getElem?_cons_succ, List.cons_append, List.nil_append, List.foldl, Mir.lockAll, Mir.lock1, Mir.unlockAll, Mir.unlock1, Mir.restG, Mir.walked, Option.getD, Mir.look, Mir.Slot.d, Mir.XF])
    | (refine we_slot (by rfl) ?_; try dsimp only [List.set, List.map, Mir.lend, List.getElem?_cons_zero, List.getElem?_cons_succ, List.cons_append, List.nil_append, List.foldl, Mir.lockAll, Mir.lock1, Mir.unlockAll, Mir.unlock1, Mir.restG, Mir.walked, Option.getD, Mir.look, Mir.Slot.d, Mir.XF])
    | refine wes_cons ?_
    | refine wes_nil ?_
    | refine wvs_cons ?_
    | refine wvs_nil ?_
    | refine wv_val ?_
    | refine wv_tmp ?_
    | (refine wv_slot (by rfl) ?_; try dsimp only [List.set, List.map, Mir.lend, List.getElem?_cons_zero, List.getElem?_cons_succ, List.cons_append, List.nil_append, List.foldl, Mir.lockAll, Mir.lock1, Mir.unlockAll, Mir.unlock1, Mir.restG, Mir.walked, Option.getD, Mir.look, Mir.Slot.d, Mir.XF])
    | (refine wc (by rfl) ?_; try dsimp only [List.set, List.map, Mir.lend, List.getElem?_cons_zero, List.getElem?_cons_succ, List.cons_append, List.nil_append, List.foldl, Mir.lockAll, Mir.lock1, Mir.unlockAll, Mir.unlock1, Mir.restG, Mir.walked, Option.getD, Mir.look, Mir.Slot.d, Mir.XF])
    | (refine wr e1 ?_)
    | (refine wr e2 ?_)
    | (refine wz (by rfl) ?_; try dsimp only [List.set, List.map, Mir.lend, List.getElem?_cons_zero, List.getElem?_cons_succ, List.cons_append, List.nil_append, List.foldl, Mir.lockAll, Mir.lock1, Mir.unlockAll, Mir.unlock1, Mir.restG, Mir.walked, Option.getD, Mir.look, Mir.Slot.d, Mir.XF])
    | (refine wz_setv (by rfl) (by assumption) ?_; try dsimp only [List.set, List.map, Mir.lend, List.getElem?_cons_zero, List.getElem?_cons_succ, List.cons_append, List.nil_append, List.foldl, Mir.lockAll, Mir.lock1, Mir.unlockAll, Mir.unlock1, Mir.restG, Mir.walked, Option.getD, Mir.look, Mir.Slot.d, Mir.XF])
    | (refine wz_setw (by rfl) (by assumption) ?_; try dsimp only [List.set, List.map, Mir.lend, List.getElem?_cons_zero, List.getElem?_cons_succ, List.cons_append, List.nil_append, List.foldl, Mir.lockAll, Mir.lock1, Mir.unlockAll, Mir.unlock1, Mir.restG, Mir.walked, Option.getD, Mir.look, Mir.Slot.d, Mir.XF])
    | refine wo_f ?_
    | refine wo_t ?_
    | refine wline (by first | omega | exact Nat.le_of_ble_eq_true rfl) ?_
    | refine w2_add ?_
    | refine w2_sub ?_
    | refine w2_mul (by first | assumption | exact big_of ⟨by omega, by omega⟩ ⟨by omega, by omega⟩) ?_
    | refine w2_fdiv (by first | assumption | exact div_of (by omega) (by omega)) ?_
    | refine w2_mod (by omega) ?_
    | refine w2_lists (by first | omega | exact Nat.le_of_ble_eq_true rfl | (simp only [List.length_cons, List.length_nil]; omega)) ?_
    | refine w2_tups (by first | omega | (simp only [List.length_cons, List.length_nil, List.length_map, List.length_replicate]; omega)) ?_
    | refine wk_lt ?_
    | refine wk_le ?_
    | refine wk_gt ?_
    | refine wk_ge ?_
    | refine wk_eqI ?_
    | refine wk_neI ?_
    | refine wk_any (by first | assumption | rfl) ?_
    | refine wt_bool ?_
    | refine wt_any (by first | assumption | rfl) ?_
    | refine wand_t (by first | rfl | assumption | exact decide_eq_true (by omega) | exact nd_t (by omega)) ?_
    | refine wand_f (by first | rfl | assumption | exact decide_eq_false (by omega) | exact nd_f (by omega)) ?_
    | refine ws_ife ?_
    | (refine ws_ret ?_)
    | refine wz_ret ?_
    | refine wz_retT ?_
    | refine ws_skip ?_
    | refine ws_exp ?_
    | refine ws_par ?_
    | refine ws_asgT ?_
    | refine we_tup ?_
    | refine we_lst ?_
    | refine we_ix ?_
    | refine we_not ?_
    | refine we_and ?_
    | refine we_or ?_
    | refine we_ite ?_
    | refine we_chn ?_
    | refine we_comp ?_
    | refine wi_rng ?_
    | refine wi_sq ?_
    | refine wi_enm ?_
    | refine wn1 ⟨by omega, by omega⟩ ?_
    | refine wn2 ⟨by omega, by omega⟩ ⟨by omega, by omega⟩ ?_
    | refine wbd_nil ?_
    | refine wbd_one ?_
    | refine wb_len ?_
    | refine wb_lenT ?_
    | refine wb_min ?_
    | refine wb_max ?_
    | refine we_neg ?_
    | refine we_slc ?_
    | refine we_rev ?_
    | refine we_lsq ?_
    | refine we_tsq ?_
    | refine we_lrg ?_
    | refine we_trg ?_
    | refine ws_for ?_
    | refine ws_brk ?_
    | refine ws_cnt ?_
    | refine ws_retN ?_
    | refine wx_any (by first | assumption | rfl) ?_
    | refine ⟨_, rfl, ?_⟩
    | refine wfil (by rfl) (fun ht => ?_) (fun ht => ?_)
    | exact ⟨rfl, rfl⟩
theorem draw_stretch {k : Nat} {st : Int × Int} {ls : List Int} {d : Int} (hk : 5 ≤ k) (hs : StOk st) (hl : LdOk ls) (h0 : 0 ≤ d) (h1 : d ≤ 1000000) : ∃ x, Found st.1 st.2 (hrs ls d) x ∧ callN Tb k 11 [.sh (storeD st), .sh (loadsD ls), .sh (.int d)] = .ok (x, false, [.emp, .emp, .emp]) := by
  have h200 : (hrs ls d).length ≤ 200 := by rw [hrs_len]; exact hl.1
  obtain ⟨x, f, e4⟩ := stretch_in (k := k - 1) (st := st) (by omega) h200
  refine ⟨x, f, ?_⟩
  obtain ⟨n, rfl⟩ : ∃ n, k = n + 1 := ⟨k - 1, by omega⟩
  refine wd (fn := fn11) rfl rfl fun C hC => ?_
  dsimp only [fn11, tm11, Nat.reduceSub, List.replicate, List.cons_append, List.nil_append]
  have e1 := need_question (k := n) (by omega) hs hl
  have e2 := need_whole (k := n) d 0 1000000 (by omega) h0 h1
  have e3 := hours_for (k := n) (d := d) (by omega) hl
  have en : n + 1 - 1 = n := by omega
  rw [en] at e4
  rw [← hC] at e1 e2 e3 e4
  repeat first
    | refine ws_seq ?_
    | refine ws_asg ?_
    | refine we_bin ?_
    | refine we_cmp ?_
    | refine we_call ?_
    | refine we_blt ?_
    | refine we_lit ?_
    | (refine we_glb (by rfl) ?_)
    | (refine we_var (by rfl) ?_; try dsimp only [List.set, List.map, Mir.lend, List.getElem?_cons_zero, List.getElem?_cons_succ, List.cons_append, List.nil_append, List.foldl, Mir.lockAll, Mir.lock1, Mir.unlockAll, Mir.unlock1, Mir.restG, Mir.walked, Option.getD, Mir.look, Mir.Slot.d, Mir.XF])
    | (refine we_slot (by rfl) ?_; try dsimp only [List.set, List.map, Mir.lend, List.getElem?_cons_zero, List.getElem?_cons_succ, List.cons_append, List.nil_append, List.foldl, Mir.lockAll, Mir.lock1, Mir.unlockAll, Mir.unlock1, Mir.restG, Mir.walked, Option.getD, Mir.look, Mir.Slot.d, Mir.XF])
    | refine wes_cons ?_
    | refine wes_nil ?_
    | refine wvs_cons ?_
    | refine wvs_nil ?_
    | refine wv_val ?_
    | refine wv_tmp ?_
    | (refine wv_slot (by rfl) ?_; try dsimp only [List.set, List.map, Mir.lend, List.getElem?_cons_zero, List.getElem?_cons_succ, List.cons_append, List.nil_append, List.foldl, Mir.lockAll, Mir.lock1, Mir.unlockAll, Mir.unlock1, Mir.restG, Mir.walked, Option.getD, Mir.look, Mir.Slot.d, Mir.XF])
    | (refine wc (by rfl) ?_; try dsimp only [List.set, List.map, Mir.lend, List.getElem?_cons_zero, List.getElem?_cons_succ, List.cons_append, List.nil_append, List.foldl, Mir.lockAll, Mir.lock1, Mir.unlockAll, Mir.unlock1, Mir.restG, Mir.walked, Option.getD, Mir.look, Mir.Slot.d, Mir.XF])
    | (refine wr e1 ?_)
    | (refine wr e2 ?_)
    | (refine wr e3 ?_)
    | (refine wr e4 ?_)
    | (refine wz (by rfl) ?_; try dsimp only [List.set, List.map, Mir.lend, List.getElem?_cons_zero, List.getElem?_cons_succ, List.cons_append, List.nil_append, List.foldl, Mir.lockAll, Mir.lock1, Mir.unlockAll, Mir.unlock1, Mir.restG, Mir.walked, Option.getD, Mir.look, Mir.Slot.d, Mir.XF])
    | (refine wz_setv (by rfl) (by assumption) ?_; try dsimp only [List.set, List.map, Mir.lend, List.getElem?_cons_zero, List.getElem?_cons_succ, List.cons_append, List.nil_append, List.foldl, Mir.lockAll, Mir.lock1, Mir.unlockAll, Mir.unlock1, Mir.restG, Mir.walked, Option.getD, Mir.look, Mir.Slot.d, Mir.XF])
    | (refine wz_setw (by rfl) (by assumption) ?_; try dsimp only [List.set, List.map, Mir.lend, List.getElem?_cons_zero, List.getElem?_cons_succ, List.cons_append, List.nil_append, List.foldl, Mir.lockAll, Mir.lock1, Mir.unlockAll, Mir.unlock1, Mir.restG, Mir.walked, Option.getD, Mir.look, Mir.Slot.d, Mir.XF])
    | refine wo_f ?_
    | refine wo_t ?_
    | refine wline (by first | omega | exact Nat.le_of_ble_eq_true rfl) ?_
    | refine w2_add ?_
    | refine w2_sub ?_
    | refine w2_mul (by first | assumption | exact big_of ⟨by omega, by omega⟩ ⟨by omega, by omega⟩) ?_
    | refine w2_fdiv (by first | assumption | exact div_of (by omega) (by omega)) ?_
    | refine w2_mod (by omega) ?_
    | refine w2_lists (by first | omega | exact Nat.le_of_ble_eq_true rfl | (simp only [List.length_cons, List.length_nil]; omega)) ?_
    | refine w2_tups (by first | omega | (simp only [List.length_cons, List.length_nil, List.length_map, List.length_replicate]; omega)) ?_
    | refine wk_lt ?_
    | refine wk_le ?_
    | refine wk_gt ?_
    | refine wk_ge ?_
    | refine wk_eqI ?_
    | refine wk_neI ?_
    | refine wk_any (by first | assumption | rfl) ?_
    | refine wt_bool ?_
    | refine wt_any (by first | assumption | rfl) ?_
    | refine wand_t (by first | rfl | assumption | exact decide_eq_true (by omega) | exact nd_t (by omega)) ?_
    | refine wand_f (by first | rfl | assumption | exact decide_eq_false (by omega) | exact nd_f (by omega)) ?_
    | refine ws_ife ?_
    | (refine ws_ret ?_)
    | refine wz_ret ?_
    | refine wz_retT ?_
    | refine ws_skip ?_
    | refine ws_exp ?_
    | refine ws_par ?_
    | refine ws_asgT ?_
    | refine we_tup ?_
    | refine we_lst ?_
    | refine we_ix ?_
    | refine we_not ?_
    | refine we_and ?_
    | refine we_or ?_
    | refine we_ite ?_
    | refine we_chn ?_
    | refine we_comp ?_
    | refine wi_rng ?_
    | refine wi_sq ?_
    | refine wi_enm ?_
    | refine wn1 ⟨by omega, by omega⟩ ?_
    | refine wn2 ⟨by omega, by omega⟩ ⟨by omega, by omega⟩ ?_
    | refine wbd_nil ?_
    | refine wbd_one ?_
    | refine wb_len ?_
    | refine wb_lenT ?_
    | refine wb_min ?_
    | refine wb_max ?_
    | refine we_neg ?_
    | refine we_slc ?_
    | refine we_rev ?_
    | refine we_lsq ?_
    | refine we_tsq ?_
    | refine we_lrg ?_
    | refine we_trg ?_
    | refine ws_for ?_
    | refine ws_brk ?_
    | refine ws_cnt ?_
    | refine ws_retN ?_
    | refine wx_any (by first | assumption | rfl) ?_
    | refine ⟨_, rfl, ?_⟩
    | refine wfil (by rfl) (fun ht => ?_) (fun ht => ?_)
    | exact ⟨rfl, rfl⟩
theorem hrs_ok {ls : List Int} {d : Int} (hl : LdOk ls) (h0 : 0 ≤ d) (h1 : d ≤ 1000000) : HsOk (hrs ls d) := ⟨by rw [hrs_len]; exact hl.1, fun h hh => by
  obtain ⟨l, m, rfl⟩ := List.mem_map.mp hh
  have := hl.2 l m
  omega⟩
theorem found_none {st : Int × Int} (hs : StOk st) {ls : List Int} {d : Int} {x : D} (f : Found st.1 st.2 (hrs ls d) x) : x.isNone = en st ls d := by
  have kd := keeps_dark (R := st.1) (S := st.2) (by have := hs.2.2.1; omega) (by have := hs.1; omega) (hrs ls d)
  rcases f with ⟨rfl, nd⟩ | ⟨s, e, rfl, h1, h2, h⟩
  · exact (kd.mpr nd).symm
  · show false = _
    cases z : en st ls d with
    | false => rfl
    | true =>
      have nd := kd.mp z
      rcases h with ⟨_, h⟩ | h
      · have := nd.1 _ (List.getElem_mem h2); omega
      · have := nd.2 s e h1 h2; omega
theorem draw_right {k : Nat} {st : Int × Int} {ls : List Int} {d : Int} {b : Bool} (hk : 6 ≤ k) (hs : StOk st) (hl : LdOk ls) (h0 : 0 ≤ d) (h1 : d ≤ 1000000) (hb : b = en st ls d) : callN Tb k 9 [.sh (storeD st), .sh (loadsD ls), .sh (.int d), .sh (.bool b)] = .ok (.bool true, false, [.emp, .emp, .emp, .emp]) := by
  obtain ⟨x, f, e1⟩ := draw_stretch (k := k - 1) (by omega) hs hl h0 h1
  have fn := found_none hs f
  subst hb
  obtain ⟨n, rfl⟩ : ∃ n, k = n + 1 := ⟨k - 1, by omega⟩
  refine wd (fn := fn9) rfl rfl fun C hC => ?_
  dsimp only [fn9, tm9, Nat.reduceSub, List.replicate, List.cons_append, List.nil_append]
  have en' : n + 1 - 1 = n := by omega
  rw [en'] at e1
  have e2 := is_enough (k := n) (by omega) hs hl h0 h1
  have e3 := like_li (k := n) (j := 0) (xs := [.bool (en st ls d), .bool (en st ls d)]) (by
    intro z hz
    simp only [List.mem_cons, List.not_mem_nil, or_false] at hz
    rcases hz with rfl | rfl <;> trivial) (by omega)
  rw [← hC] at e1 e2 e3
  have k1 : c2 .isN x .none = .ok (en st ls d) := by
    show R.ok x.isNone = _
    rw [fn]
  have len : ls.length ≤ 200 := hl.1
  have em : ls.map (fun l => D.int (d - l)) = (hrs ls d).map .int := by unfold hrs; rw [List.map_map]; rfl
  rcases f with ⟨rfl, nd⟩ | ⟨s, e, rfl, g1, g2, g⟩
  · have z : en st ls d = true := fn.symm
    repeat first
      | refine wk_any k1 ?_
      | exact ⟨by rw [z], rfl⟩
      | refine ws_seq ?_
      | refine ws_asg ?_
      | refine we_bin ?_
      | refine we_cmp ?_
      | refine we_call ?_
      | refine we_blt ?_
      | refine we_lit ?_
      | (refine we_glb (by rfl) ?_)
      | (refine we_var (by rfl) ?_; try dsimp only [List.set, List.map, Mir.lend, List.getElem?_cons_zero, List.getElem?_cons_succ, List.cons_append, List.nil_append, List.foldl, Mir.lockAll, Mir.lock1, Mir.unlockAll, Mir.unlock1, Mir.restG, Mir.walked, Option.getD, Mir.look, Mir.Slot.d, Mir.XF])
      | (refine we_slot (by rfl) ?_; try dsimp only [List.set, List.map, Mir.lend, List.getElem?_cons_zero, List.getElem?_cons_succ, List.cons_append, List.nil_append, List.foldl, Mir.lockAll, Mir.lock1, Mir.unlockAll, Mir.unlock1, Mir.restG, Mir.walked, Option.getD, Mir.look, Mir.Slot.d, Mir.XF])
      | refine wes_cons ?_
      | refine wes_nil ?_
      | refine wvs_cons ?_
      | refine wvs_nil ?_
      | refine wv_val ?_
      | refine wv_tmp ?_
      | (refine wv_slot (by rfl) ?_; try dsimp only [List.set, List.map, Mir.lend, List.getElem?_cons_zero, List.getElem?_cons_succ, List.cons_append, List.nil_append, List.foldl, Mir.lockAll, Mir.lock1, Mir.unlockAll, Mir.unlock1, Mir.restG, Mir.walked, Option.getD, Mir.look, Mir.Slot.d, Mir.XF])
      | (refine wc (by rfl) ?_; try dsimp only [List.set, List.map, Mir.lend, List.getElem?_cons_zero, List.getElem?_cons_succ, List.cons_append, List.nil_append, List.foldl, Mir.lockAll, Mir.lock1, Mir.unlockAll, Mir.unlock1, Mir.restG, Mir.walked, Option.getD, Mir.look, Mir.Slot.d, Mir.XF])
      | (refine wr e1 ?_)
      | (refine wr e2 ?_)
      | (refine wr e3 ?_)
      | (refine wz (by rfl) ?_; try dsimp only [List.set, List.map, Mir.lend, List.getElem?_cons_zero, List.getElem?_cons_succ, List.cons_append, List.nil_append, List.foldl, Mir.lockAll, Mir.lock1, Mir.unlockAll, Mir.unlock1, Mir.restG, Mir.walked, Option.getD, Mir.look, Mir.Slot.d, Mir.XF])
      | (refine wz_setv (by rfl) (by assumption) ?_; try dsimp only [List.set, List.map, Mir.lend, List.getElem?_cons_zero, List.getElem?_cons_succ, List.cons_append, List.nil_append, List.foldl, Mir.lockAll, Mir.lock1, Mir.unlockAll, Mir.unlock1, Mir.restG, Mir.walked, Option.getD, Mir.look, Mir.Slot.d, Mir.XF])
      | (refine wz_setw (by rfl) (by assumption) ?_; try dsimp only [List.set, List.map, Mir.lend, List.getElem?_cons_zero, List.getElem?_cons_succ, List.cons_append, List.nil_append, List.foldl, Mir.lockAll, Mir.lock1, Mir.unlockAll, Mir.unlock1, Mir.restG, Mir.walked, Option.getD, Mir.look, Mir.Slot.d, Mir.XF])
      | refine wo_f ?_
      | refine wo_t ?_
      | refine wline (by first | omega | exact Nat.le_of_ble_eq_true rfl) ?_
      | refine w2_add ?_
      | refine w2_sub ?_
      | refine w2_mul (by first | assumption | exact big_of ⟨by omega, by omega⟩ ⟨by omega, by omega⟩) ?_
      | refine w2_fdiv (by first | assumption | exact div_of (by omega) (by omega)) ?_
      | refine w2_mod (by omega) ?_
      | refine w2_lists (by first | omega | exact Nat.le_of_ble_eq_true rfl | (simp only [List.length_cons, List.length_nil]; omega)) ?_
      | refine w2_tups (by first | omega | (simp only [List.length_cons, List.length_nil, List.length_map, List.length_replicate]; omega)) ?_
      | refine wk_lt ?_
      | refine wk_le ?_
      | refine wk_gt ?_
      | refine wk_ge ?_
      | refine wk_eqI ?_
      | refine wk_neI ?_
      | refine wk_any (by first | assumption | rfl) ?_
      | refine wt_bool ?_
      | refine wt_any (by first | assumption | rfl) ?_
      | refine wand_t (by first | rfl | assumption | exact decide_eq_true (by omega) | exact nd_t (by omega)) ?_
      | refine wand_f (by first | rfl | assumption | exact decide_eq_false (by omega) | exact nd_f (by omega)) ?_
      | refine ws_ife ?_
      | (refine ws_ret ?_)
      | refine wz_ret ?_
      | refine wz_retT ?_
      | refine ws_skip ?_
      | refine ws_exp ?_
      | refine ws_par ?_
      | refine ws_asgT ?_
      | refine we_tup ?_
      | refine we_lst ?_
      | refine we_ix ?_
      | refine we_not ?_
      | refine we_and ?_
      | refine we_or ?_
      | refine we_ite ?_
      | refine we_chn ?_
      | refine we_comp ?_
      | refine wi_rng ?_
      | refine wi_sq ?_
      | refine wi_enm ?_
      | refine wn1 ⟨by omega, by omega⟩ ?_
      | refine wn2 ⟨by omega, by omega⟩ ⟨by omega, by omega⟩ ?_
      | refine wbd_nil ?_
      | refine wbd_one ?_
      | refine wb_len ?_
      | refine wb_lenT ?_
      | refine wb_min ?_
      | refine wb_max ?_
      | refine we_neg ?_
      | refine we_slc ?_
      | refine we_rev ?_
      | refine we_lsq ?_
      | refine we_tsq ?_
      | refine we_lrg ?_
      | refine we_trg ?_
      | refine ws_for ?_
      | refine ws_brk ?_
      | refine ws_cnt ?_
      | refine ws_retN ?_
      | refine wx_any (by first | assumption | rfl) ?_
      | refine ⟨_, rfl, ?_⟩
      | refine wfil (by rfl) (fun ht => ?_) (fun ht => ?_)
      | exact ⟨rfl, rfl⟩
  · have z : en st ls d = false := fn.symm
    have e4 := is_dark_stretch (k := n) (by omega) hs (hrs_ok hl h0 h1) g1 g2 g
    unfold hoursD at e4
    rw [← em, ← hC] at e4
    repeat first
      | refine wk_any k1 ?_
      | refine wl_map (l := ls) (h := .int) (fun l => .int (d - l)) (by omega) (fun i hi => ?_) ?_
      | refine ws_seq ?_
      | refine ws_asg ?_
      | refine we_bin ?_
      | refine we_cmp ?_
      | refine we_call ?_
      | refine we_blt ?_
      | refine we_lit ?_
      | (refine we_glb (by rfl) ?_)
      | (refine we_var (by rfl) ?_; try dsimp only [List.set, List.map, Mir.lend, List.getElem?_cons_zero, List.getElem?_cons_succ, List.cons_append, List.nil_append, List.foldl, Mir.lockAll, Mir.lock1, Mir.unlockAll, Mir.unlock1, Mir.restG, Mir.walked, Option.getD, Mir.look, Mir.Slot.d, Mir.XF])
      | (refine we_slot (by rfl) ?_; try dsimp only [List.set, List.map, Mir.lend, List.getElem?_cons_zero, List.getElem?_cons_succ, List.cons_append, List.nil_append, List.foldl, Mir.lockAll, Mir.lock1, Mir.unlockAll, Mir.unlock1, Mir.restG, Mir.walked, Option.getD, Mir.look, Mir.Slot.d, Mir.XF])
      | refine wes_cons ?_
      | refine wes_nil ?_
      | refine wvs_cons ?_
      | refine wvs_nil ?_
      | refine wv_val ?_
      | refine wv_tmp ?_
      | (refine wv_slot (by rfl) ?_; try dsimp only [List.set, List.map, Mir.lend, List.getElem?_cons_zero, List.getElem?_cons_succ, List.cons_append, List.nil_append, List.foldl, Mir.lockAll, Mir.lock1, Mir.unlockAll, Mir.unlock1, Mir.restG, Mir.walked, Option.getD, Mir.look, Mir.Slot.d, Mir.XF])
      | (refine wc (by rfl) ?_; try dsimp only [List.set, List.map, Mir.lend, List.getElem?_cons_zero, List.getElem?_cons_succ, List.cons_append, List.nil_append, List.foldl, Mir.lockAll, Mir.lock1, Mir.unlockAll, Mir.unlock1, Mir.restG, Mir.walked, Option.getD, Mir.look, Mir.Slot.d, Mir.XF])
      | (refine wr e1 ?_)
      | (refine wr e2 ?_)
      | (refine wr e3 ?_)
      | (refine wr e4 ?_)
      | (refine wz (by rfl) ?_; try dsimp only [List.set, List.map, Mir.lend, List.getElem?_cons_zero, List.getElem?_cons_succ, List.cons_append, List.nil_append, List.foldl, Mir.lockAll, Mir.lock1, Mir.unlockAll, Mir.unlock1, Mir.restG, Mir.walked, Option.getD, Mir.look, Mir.Slot.d, Mir.XF])
      | (refine wz_setv (by rfl) (by assumption) ?_; try dsimp only [List.set, List.map, Mir.lend, List.getElem?_cons_zero, List.getElem?_cons_succ, List.cons_append, List.nil_append, List.foldl, Mir.lockAll, Mir.lock1, Mir.unlockAll, Mir.unlock1, Mir.restG, Mir.walked, Option.getD, Mir.look, Mir.Slot.d, Mir.XF])
      | (refine wz_setw (by rfl) (by assumption) ?_; try dsimp only [List.set, List.map, Mir.lend, List.getElem?_cons_zero, List.getElem?_cons_succ, List.cons_append, List.nil_append, List.foldl, Mir.lockAll, Mir.lock1, Mir.unlockAll, Mir.unlock1, Mir.restG, Mir.walked, Option.getD, Mir.look, Mir.Slot.d, Mir.XF])
      | refine wo_f ?_
      | refine wo_t ?_
      | refine wline (by first | omega | exact Nat.le_of_ble_eq_true rfl) ?_
      | refine w2_add ?_
      | refine w2_sub ?_
      | refine w2_mul (by first | assumption | exact big_of ⟨by omega, by omega⟩ ⟨by omega, by omega⟩) ?_
      | refine w2_fdiv (by first | assumption | exact div_of (by omega) (by omega)) ?_
      | refine w2_mod (by omega) ?_
      | refine w2_lists (by first | omega | exact Nat.le_of_ble_eq_true rfl | (simp only [List.length_cons, List.length_nil]; omega)) ?_
      | refine w2_tups (by first | omega | (simp only [List.length_cons, List.length_nil, List.length_map, List.length_replicate]; omega)) ?_
      | refine wk_lt ?_
      | refine wk_le ?_
      | refine wk_gt ?_
      | refine wk_ge ?_
      | refine wk_eqI ?_
      | refine wk_neI ?_
      | refine wk_any (by first | assumption | rfl) ?_
      | refine wt_bool ?_
      | refine wt_any (by first | assumption | rfl) ?_
      | refine wand_t (by first | rfl | assumption | exact decide_eq_true (by omega) | exact nd_t (by omega)) ?_
      | refine wand_f (by first | rfl | assumption | exact decide_eq_false (by omega) | exact nd_f (by omega)) ?_
      | refine ws_ife ?_
      | (refine ws_ret ?_)
      | refine wz_ret ?_
      | refine wz_retT ?_
      | refine ws_skip ?_
      | refine ws_exp ?_
      | refine ws_par ?_
      | refine ws_asgT ?_
      | refine we_tup ?_
      | refine we_lst ?_
      | refine we_ix ?_
      | refine we_not ?_
      | refine we_and ?_
      | refine we_or ?_
      | refine we_ite ?_
      | refine we_chn ?_
      | refine we_comp ?_
      | refine wi_rng ?_
      | refine wi_sq ?_
      | refine wi_enm ?_
      | refine wn1 ⟨by omega, by omega⟩ ?_
      | refine wn2 ⟨by omega, by omega⟩ ⟨by omega, by omega⟩ ?_
      | refine wbd_nil ?_
      | refine wbd_one ?_
      | refine wb_len ?_
      | refine wb_lenT ?_
      | refine wb_min ?_
      | refine wb_max ?_
      | refine we_neg ?_
      | refine we_slc ?_
      | refine we_rev ?_
      | refine we_lsq ?_
      | refine we_tsq ?_
      | refine we_lrg ?_
      | refine we_trg ?_
      | refine ws_for ?_
      | refine ws_brk ?_
      | refine ws_cnt ?_
      | refine ws_retN ?_
      | refine wx_any (by first | assumption | rfl) ?_
      | refine ⟨_, rfl, ?_⟩
      | refine wfil (by rfl) (fun ht => ?_) (fun ht => ?_)
      | exact ⟨rfl, rfl⟩
theorem law_enough_loop {C : CallT} {st : Int × Int} {A : Slot} {d : Int} (X : Fl → G → Prop) (N : G → Prop) : ∀ (ls : List Int) (lv : Int) (s : Slot), Sv s →
    (keeps st.1 st.2 lv (hrs ls d) = true → ∀ lv' s', Sv s' → N [.sh (storeD st), A, .sh (.int d), .sh (.int lv'), s']) →
    (keeps st.1 st.2 lv (hrs ls d) = false → ∀ lv' s', Sv s' → X (.rt (.bool false) false) [.sh (storeD st), A, .sh (.int d), .sh (.int lv'), s']) →
    Wf ⟨C, Tb.con⟩ (.nm 4) (.seq (.ife (.cmp .gt (.bin .sub (.var 4) (.var 2)) (.blt .min (.cons (.ix (.var 0) (.lit (.int 1))) (.cons (.var 3) .nil)))) (.seq (.ret (.lit (.bool false))) .skip) .skip) (.seq (.asg (.nm 3) (.blt .min (.cons (.ix (.var 0) (.lit (.int 0))) (.cons (.bin .add (.var 3) (.blt .min (.cons (.bin .sub (.var 2) (.var 4)) (.cons (.ix (.var 0) (.lit (.int 1))) .nil)))) .nil)))) .skip)) (ls.map .int) [.sh (storeD st), A, .sh (.int d), .sh (.int lv), s] N X := by
  intro ls
  induction ls with
  | nil => intro lv s hs hN hX; exact wf_nil (hN rfl lv s hs)
  | cons l ls ih =>
    intro lv s hsv hN hX
    have step : keeps st.1 st.2 lv (hrs (l :: ls) d) = if -(d - l) > st.2 ∨ -(d - l) > lv then false else keeps st.1 st.2 (mi st.1 (lv + mi (d - l) st.2)) (hrs ls d) := rfl
    have m := mi_is st.2 lv
    refine wf_cons ?_
    by_cases c : mi st.2 lv < l - d
    · rw [step, if_pos (by omega)] at hX
      have c' : (if lv < st.2 then lv else st.2) < l - d := c
      rcases hsv with rfl | ⟨v, rfl⟩
      · repeat first
          | exact hX rfl _ _ Sv.v
          | refine ws_seq ?_
          | refine ws_asg ?_
          | refine we_bin ?_
          | refine we_cmp ?_
          | refine we_call ?_
          | refine we_blt ?_
          | refine we_lit ?_
          | (refine we_glb (by rfl) ?_)
          | (refine we_var (by rfl) ?_; try dsimp only [List.set, List.map, Mir.lend, List.getElem?_cons_zero, List.getElem?_cons_succ, List.cons_append, List.nil_append, List.foldl, Mir.lockAll, Mir.lock1, Mir.unlockAll, Mir.unlock1, Mir.restG, Mir.walked, Option.getD, Mir.look, Mir.Slot.d, Mir.XF])
          | (refine we_slot (by rfl) ?_; try dsimp only [List.set, List.map, Mir.lend, List.getElem?_cons_zero, List.getElem?_cons_succ, List.cons_append, List.nil_append, List.foldl, Mir.lockAll, Mir.lock1, Mir.unlockAll, Mir.unlock1, Mir.restG, Mir.walked, Option.getD, Mir.look, Mir.Slot.d, Mir.XF])
          | refine wes_cons ?_
          | refine wes_nil ?_
          | refine wvs_cons ?_
          | refine wvs_nil ?_
          | refine wv_val ?_
          | refine wv_tmp ?_
          | (refine wv_slot (by rfl) ?_; try dsimp only [List.set, List.map, Mir.lend, List.getElem?_cons_zero, List.getElem?_cons_succ, List.cons_append, List.nil_append, List.foldl, Mir.lockAll, Mir.lock1, Mir.unlockAll, Mir.unlock1, Mir.restG, Mir.walked, Option.getD, Mir.look, Mir.Slot.d, Mir.XF])
          | (refine wc (by rfl) ?_; try dsimp only [List.set, List.map, Mir.lend, List.getElem?_cons_zero, List.getElem?_cons_succ, List.cons_append, List.nil_append, List.foldl, Mir.lockAll, Mir.lock1, Mir.unlockAll, Mir.unlock1, Mir.restG, Mir.walked, Option.getD, Mir.look, Mir.Slot.d, Mir.XF])
          | (refine wz (by rfl) ?_; try dsimp only [List.set, List.map, Mir.lend, List.getElem?_cons_zero, List.getElem?_cons_succ, List.cons_append, List.nil_append, List.foldl, Mir.lockAll, Mir.lock1, Mir.unlockAll, Mir.unlock1, Mir.restG, Mir.walked, Option.getD, Mir.look, Mir.Slot.d, Mir.XF])
          | (refine wz_setv (by rfl) (by assumption) ?_; try dsimp only [List.set, List.map, Mir.lend, List.getElem?_cons_zero, List.getElem?_cons_succ, List.cons_append, List.nil_append, List.foldl, Mir.lockAll, Mir.lock1, Mir.unlockAll, Mir.unlock1, Mir.restG, Mir.walked, Option.getD, Mir.look, Mir.Slot.d, Mir.XF])
          | (refine wz_setw (by rfl) (by assumption) ?_; try dsimp only [List.set, List.map, Mir.lend, List.getElem?_cons_zero, List.getElem?_cons_succ, List.cons_append, List.nil_append, List.foldl, Mir.lockAll, Mir.lock1, Mir.unlockAll, Mir.unlock1, Mir.restG, Mir.walked, Option.getD, Mir.look, Mir.Slot.d, Mir.XF])
          | refine wo_f ?_
          | refine wo_t ?_
          | refine wline (by first | omega | exact Nat.le_of_ble_eq_true rfl) ?_
          | refine w2_add ?_
          | refine w2_sub ?_
          | refine w2_mul (by first | assumption | exact big_of ⟨by omega, by omega⟩ ⟨by omega, by omega⟩) ?_
          | refine w2_fdiv (by first | assumption | exact div_of (by omega) (by omega)) ?_
          | refine w2_mod (by omega) ?_
          | refine w2_lists (by first | omega | exact Nat.le_of_ble_eq_true rfl | (simp only [List.length_cons, List.length_nil]; omega)) ?_
          | refine w2_tups (by first | omega | (simp only [List.length_cons, List.length_nil, List.length_map, List.length_replicate]; omega)) ?_
          | refine wk_lt ?_
          | refine wk_le ?_
          | refine wk_gt ?_
          | refine wk_ge ?_
          | refine wk_eqI ?_
          | refine wk_neI ?_
          | refine wk_any (by first | assumption | rfl) ?_
          | refine wt_bool ?_
          | refine wt_any (by first | assumption | rfl) ?_
          | refine wand_t (by first | rfl | assumption | exact decide_eq_true (by omega) | exact nd_t (by omega)) ?_
          | refine wand_f (by first | rfl | assumption | exact decide_eq_false (by omega) | exact nd_f (by omega)) ?_
          | refine ws_ife ?_
          | (refine ws_ret ?_)
          | refine wz_ret ?_
          | refine wz_retT ?_
          | refine ws_skip ?_
          | refine ws_exp ?_
          | refine ws_par ?_
          | refine ws_asgT ?_
          | refine we_tup ?_
          | refine we_lst ?_
          | refine we_ix ?_
          | refine we_not ?_
          | refine we_and ?_
          | refine we_or ?_
          | refine we_ite ?_
          | refine we_chn ?_
          | refine we_comp ?_
          | refine wi_rng ?_
          | refine wi_sq ?_
          | refine wi_enm ?_
          | refine wn1 ⟨by omega, by omega⟩ ?_
          | refine wn2 ⟨by omega, by omega⟩ ⟨by omega, by omega⟩ ?_
          | refine wbd_nil ?_
          | refine wbd_one ?_
          | refine wb_len ?_
          | refine wb_lenT ?_
          | refine wb_min ?_
          | refine wb_max ?_
          | refine we_neg ?_
          | refine we_slc ?_
          | refine we_rev ?_
          | refine we_lsq ?_
          | refine we_tsq ?_
          | refine we_lrg ?_
          | refine we_trg ?_
          | refine ws_for ?_
          | refine ws_brk ?_
          | refine ws_cnt ?_
          | refine ws_retN ?_
          | refine wx_any (by first | assumption | rfl) ?_
          | refine ⟨_, rfl, ?_⟩
          | refine wfil (by rfl) (fun ht => ?_) (fun ht => ?_)
          | exact ⟨rfl, rfl⟩
      · repeat first
          | exact hX rfl _ _ Sv.v
          | refine ws_seq ?_
          | refine ws_asg ?_
          | refine we_bin ?_
          | refine we_cmp ?_
          | refine we_call ?_
          | refine we_blt ?_
          | refine we_lit ?_
          | (refine we_glb (by rfl) ?_)
          | (refine we_var (by rfl) ?_; try dsimp only [List.set, List.map, Mir.lend, List.getElem?_cons_zero, List.getElem?_cons_succ, List.cons_append, List.nil_append, List.foldl, Mir.lockAll, Mir.lock1, Mir.unlockAll, Mir.unlock1, Mir.restG, Mir.walked, Option.getD, Mir.look, Mir.Slot.d, Mir.XF])
          | (refine we_slot (by rfl) ?_; try dsimp only [List.set, List.map, Mir.lend, List.getElem?_cons_zero, List.getElem?_cons_succ, List.cons_append, List.nil_append, List.foldl, Mir.lockAll, Mir.lock1, Mir.unlockAll, Mir.unlock1, Mir.restG, Mir.walked, Option.getD, Mir.look, Mir.Slot.d, Mir.XF])
          | refine wes_cons ?_
          | refine wes_nil ?_
          | refine wvs_cons ?_
          | refine wvs_nil ?_
          | refine wv_val ?_
          | refine wv_tmp ?_
          | (refine wv_slot (by rfl) ?_; try dsimp only [List.set, List.map, Mir.lend, List.getElem?_cons_zero, List.getElem?_cons_succ, List.cons_append, List.nil_append, List.foldl, Mir.lockAll, Mir.lock1, Mir.unlockAll, Mir.unlock1, Mir.restG, Mir.walked, Option.getD, Mir.look, Mir.Slot.d, Mir.XF])
          | (refine wc (by rfl) ?_; try dsimp only [List.set, List.map, Mir.lend, List.getElem?_cons_zero, List.getElem?_cons_succ, List.cons_append, List.nil_append, List.foldl, Mir.lockAll, Mir.lock1, Mir.unlockAll, Mir.unlock1, Mir.restG, Mir.walked, Option.getD, Mir.look, Mir.Slot.d, Mir.XF])
          | (refine wz (by rfl) ?_; try dsimp only [List.set, List.map, Mir.lend, List.getElem?_cons_zero, List.getElem?_cons_succ, List.cons_append, List.nil_append, List.foldl, Mir.lockAll, Mir.lock1, Mir.unlockAll, Mir.unlock1, Mir.restG, Mir.walked, Option.getD, Mir.look, Mir.Slot.d, Mir.XF])
          | (refine wz_setv (by rfl) (by assumption) ?_; try dsimp only [List.set, List.map, Mir.lend, List.getElem?_cons_zero, List.getElem?_cons_succ, List.cons_append, List.nil_append, List.foldl, Mir.lockAll, Mir.lock1, Mir.unlockAll, Mir.unlock1, Mir.restG, Mir.walked, Option.getD, Mir.look, Mir.Slot.d, Mir.XF])
          | (refine wz_setw (by rfl) (by assumption) ?_; try dsimp only [List.set, List.map, Mir.lend, List.getElem?_cons_zero, List.getElem?_cons_succ, List.cons_append, List.nil_append, List.foldl, Mir.lockAll, Mir.lock1, Mir.unlockAll, Mir.unlock1, Mir.restG, Mir.walked, Option.getD, Mir.look, Mir.Slot.d, Mir.XF])
          | refine wo_f ?_
          | refine wo_t ?_
          | refine wline (by first | omega | exact Nat.le_of_ble_eq_true rfl) ?_
          | refine w2_add ?_
          | refine w2_sub ?_
          | refine w2_mul (by first | assumption | exact big_of ⟨by omega, by omega⟩ ⟨by omega, by omega⟩) ?_
          | refine w2_fdiv (by first | assumption | exact div_of (by omega) (by omega)) ?_
          | refine w2_mod (by omega) ?_
          | refine w2_lists (by first | omega | exact Nat.le_of_ble_eq_true rfl | (simp only [List.length_cons, List.length_nil]; omega)) ?_
          | refine w2_tups (by first | omega | (simp only [List.length_cons, List.length_nil, List.length_map, List.length_replicate]; omega)) ?_
          | refine wk_lt ?_
          | refine wk_le ?_
          | refine wk_gt ?_
          | refine wk_ge ?_
          | refine wk_eqI ?_
          | refine wk_neI ?_
          | refine wk_any (by first | assumption | rfl) ?_
          | refine wt_bool ?_
          | refine wt_any (by first | assumption | rfl) ?_
          | refine wand_t (by first | rfl | assumption | exact decide_eq_true (by omega) | exact nd_t (by omega)) ?_
          | refine wand_f (by first | rfl | assumption | exact decide_eq_false (by omega) | exact nd_f (by omega)) ?_
          | refine ws_ife ?_
          | (refine ws_ret ?_)
          | refine wz_ret ?_
          | refine wz_retT ?_
          | refine ws_skip ?_
          | refine ws_exp ?_
          | refine ws_par ?_
          | refine ws_asgT ?_
          | refine we_tup ?_
          | refine we_lst ?_
          | refine we_ix ?_
          | refine we_not ?_
          | refine we_and ?_
          | refine we_or ?_
          | refine we_ite ?_
          | refine we_chn ?_
          | refine we_comp ?_
          | refine wi_rng ?_
          | refine wi_sq ?_
          | refine wi_enm ?_
          | refine wn1 ⟨by omega, by omega⟩ ?_
          | refine wn2 ⟨by omega, by omega⟩ ⟨by omega, by omega⟩ ?_
          | refine wbd_nil ?_
          | refine wbd_one ?_
          | refine wb_len ?_
          | refine wb_lenT ?_
          | refine wb_min ?_
          | refine wb_max ?_
          | refine we_neg ?_
          | refine we_slc ?_
          | refine we_rev ?_
          | refine we_lsq ?_
          | refine we_tsq ?_
          | refine we_lrg ?_
          | refine we_trg ?_
          | refine ws_for ?_
          | refine ws_brk ?_
          | refine ws_cnt ?_
          | refine ws_retN ?_
          | refine wx_any (by first | assumption | rfl) ?_
          | refine ⟨_, rfl, ?_⟩
          | refine wfil (by rfl) (fun ht => ?_) (fun ht => ?_)
          | exact ⟨rfl, rfl⟩
    · rw [step, if_neg (by omega)] at hN hX
      have c' : ¬ (if lv < st.2 then lv else st.2) < l - d := c
      have next := fun s' hs' => ih (mi st.1 (lv + mi (d - l) st.2)) s' hs' hN hX
      rcases hsv with rfl | ⟨v, rfl⟩
      · repeat first
          | exact next _ Sv.v
          | refine ws_seq ?_
          | refine ws_asg ?_
          | refine we_bin ?_
          | refine we_cmp ?_
          | refine we_call ?_
          | refine we_blt ?_
          | refine we_lit ?_
          | (refine we_glb (by rfl) ?_)
          | (refine we_var (by rfl) ?_; try dsimp only [List.set, List.map, Mir.lend, List.getElem?_cons_zero, List.getElem?_cons_succ, List.cons_append, List.nil_append, List.foldl, Mir.lockAll, Mir.lock1, Mir.unlockAll, Mir.unlock1, Mir.restG, Mir.walked, Option.getD, Mir.look, Mir.Slot.d, Mir.XF])
          | (refine we_slot (by rfl) ?_; try dsimp only [List.set, List.map, Mir.lend, List.getElem?_cons_zero, List.getElem?_cons_succ, List.cons_append, List.nil_append, List.foldl, Mir.lockAll, Mir.lock1, Mir.unlockAll, Mir.unlock1, Mir.restG, Mir.walked, Option.getD, Mir.look, Mir.Slot.d, Mir.XF])
          | refine wes_cons ?_
          | refine wes_nil ?_
          | refine wvs_cons ?_
          | refine wvs_nil ?_
          | refine wv_val ?_
          | refine wv_tmp ?_
          | (refine wv_slot (by rfl) ?_; try dsimp only [List.set, List.map, Mir.lend, List.getElem?_cons_zero, List.getElem?_cons_succ, List.cons_append, List.nil_append, List.foldl, Mir.lockAll, Mir.lock1, Mir.unlockAll, Mir.unlock1, Mir.restG, Mir.walked, Option.getD, Mir.look, Mir.Slot.d, Mir.XF])
          | (refine wc (by rfl) ?_; try dsimp only [List.set, List.map, Mir.lend, List.getElem?_cons_zero, List.getElem?_cons_succ, List.cons_append, List.nil_append, List.foldl, Mir.lockAll, Mir.lock1, Mir.unlockAll, Mir.unlock1, Mir.restG, Mir.walked, Option.getD, Mir.look, Mir.Slot.d, Mir.XF])
          | (refine wz (by rfl) ?_; try dsimp only [List.set, List.map, Mir.lend, List.getElem?_cons_zero, List.getElem?_cons_succ, List.cons_append, List.nil_append, List.foldl, Mir.lockAll, Mir.lock1, Mir.unlockAll, Mir.unlock1, Mir.restG, Mir.walked, Option.getD, Mir.look, Mir.Slot.d, Mir.XF])
          | (refine wz_setv (by rfl) (by assumption) ?_; try dsimp only [List.set, List.map, Mir.lend, List.getElem?_cons_zero, List.getElem?_cons_succ, List.cons_append, List.nil_append, List.foldl, Mir.lockAll, Mir.lock1, Mir.unlockAll, Mir.unlock1, Mir.restG, Mir.walked, Option.getD, Mir.look, Mir.Slot.d, Mir.XF])
          | (refine wz_setw (by rfl) (by assumption) ?_; try dsimp only [List.set, List.map, Mir.lend, List.getElem?_cons_zero, List.getElem?_cons_succ, List.cons_append, List.nil_append, List.foldl, Mir.lockAll, Mir.lock1, Mir.unlockAll, Mir.unlock1, Mir.restG, Mir.walked, Option.getD, Mir.look, Mir.Slot.d, Mir.XF])
          | refine wo_f ?_
          | refine wo_t ?_
          | refine wline (by first | omega | exact Nat.le_of_ble_eq_true rfl) ?_
          | refine w2_add ?_
          | refine w2_sub ?_
          | refine w2_mul (by first | assumption | exact big_of ⟨by omega, by omega⟩ ⟨by omega, by omega⟩) ?_
          | refine w2_fdiv (by first | assumption | exact div_of (by omega) (by omega)) ?_
          | refine w2_mod (by omega) ?_
          | refine w2_lists (by first | omega | exact Nat.le_of_ble_eq_true rfl | (simp only [List.length_cons, List.length_nil]; omega)) ?_
          | refine w2_tups (by first | omega | (simp only [List.length_cons, List.length_nil, List.length_map, List.length_replicate]; omega)) ?_
          | refine wk_lt ?_
          | refine wk_le ?_
          | refine wk_gt ?_
          | refine wk_ge ?_
          | refine wk_eqI ?_
          | refine wk_neI ?_
          | refine wk_any (by first | assumption | rfl) ?_
          | refine wt_bool ?_
          | refine wt_any (by first | assumption | rfl) ?_
          | refine wand_t (by first | rfl | assumption | exact decide_eq_true (by omega) | exact nd_t (by omega)) ?_
          | refine wand_f (by first | rfl | assumption | exact decide_eq_false (by omega) | exact nd_f (by omega)) ?_
          | refine ws_ife ?_
          | (refine ws_ret ?_)
          | refine wz_ret ?_
          | refine wz_retT ?_
          | refine ws_skip ?_
          | refine ws_exp ?_
          | refine ws_par ?_
          | refine ws_asgT ?_
          | refine we_tup ?_
          | refine we_lst ?_
          | refine we_ix ?_
          | refine we_not ?_
          | refine we_and ?_
          | refine we_or ?_
          | refine we_ite ?_
          | refine we_chn ?_
          | refine we_comp ?_
          | refine wi_rng ?_
          | refine wi_sq ?_
          | refine wi_enm ?_
          | refine wn1 ⟨by omega, by omega⟩ ?_
          | refine wn2 ⟨by omega, by omega⟩ ⟨by omega, by omega⟩ ?_
          | refine wbd_nil ?_
          | refine wbd_one ?_
          | refine wb_len ?_
          | refine wb_lenT ?_
          | refine wb_min ?_
          | refine wb_max ?_
          | refine we_neg ?_
          | refine we_slc ?_
          | refine we_rev ?_
          | refine we_lsq ?_
          | refine we_tsq ?_
          | refine we_lrg ?_
          | refine we_trg ?_
          | refine ws_for ?_
          | refine ws_brk ?_
          | refine ws_cnt ?_
          | refine ws_retN ?_
          | refine wx_any (by first | assumption | rfl) ?_
          | refine ⟨_, rfl, ?_⟩
          | refine wfil (by rfl) (fun ht => ?_) (fun ht => ?_)
          | exact ⟨rfl, rfl⟩
      · repeat first
          | exact next _ Sv.v
          | refine ws_seq ?_
          | refine ws_asg ?_
          | refine we_bin ?_
          | refine we_cmp ?_
          | refine we_call ?_
          | refine we_blt ?_
          | refine we_lit ?_
          | (refine we_glb (by rfl) ?_)
          | (refine we_var (by rfl) ?_; try dsimp only [List.set, List.map, Mir.lend, List.getElem?_cons_zero, List.getElem?_cons_succ, List.cons_append, List.nil_append, List.foldl, Mir.lockAll, Mir.lock1, Mir.unlockAll, Mir.unlock1, Mir.restG, Mir.walked, Option.getD, Mir.look, Mir.Slot.d, Mir.XF])
          | (refine we_slot (by rfl) ?_; try dsimp only [List.set, List.map, Mir.lend, List.getElem?_cons_zero, List.getElem?_cons_succ, List.cons_append, List.nil_append, List.foldl, Mir.lockAll, Mir.lock1, Mir.unlockAll, Mir.unlock1, Mir.restG, Mir.walked, Option.getD, Mir.look, Mir.Slot.d, Mir.XF])
          | refine wes_cons ?_
          | refine wes_nil ?_
          | refine wvs_cons ?_
          | refine wvs_nil ?_
          | refine wv_val ?_
          | refine wv_tmp ?_
          | (refine wv_slot (by rfl) ?_; try dsimp only [List.set, List.map, Mir.lend, List.getElem?_cons_zero, List.getElem?_cons_succ, List.cons_append, List.nil_append, List.foldl, Mir.lockAll, Mir.lock1, Mir.unlockAll, Mir.unlock1, Mir.restG, Mir.walked, Option.getD, Mir.look, Mir.Slot.d, Mir.XF])
          | (refine wc (by rfl) ?_; try dsimp only [List.set, List.map, Mir.lend, List.getElem?_cons_zero, List.getElem?_cons_succ, List.cons_append, List.nil_append, List.foldl, Mir.lockAll, Mir.lock1, Mir.unlockAll, Mir.unlock1, Mir.restG, Mir.walked, Option.getD, Mir.look, Mir.Slot.d, Mir.XF])
          | (refine wz (by rfl) ?_; try dsimp only [List.set, List.map, Mir.lend, List.getElem?_cons_zero, List.getElem?_cons_succ, List.cons_append, List.nil_append, List.foldl, Mir.lockAll, Mir.lock1, Mir.unlockAll, Mir.unlock1, Mir.restG, Mir.walked, Option.getD, Mir.look, Mir.Slot.d, Mir.XF])
          | (refine wz_setv (by rfl) (by assumption) ?_; try dsimp only [List.set, List.map, Mir.lend, List.getElem?_cons_zero, List.getElem?_cons_succ, List.cons_append, List.nil_append, List.foldl, Mir.lockAll, Mir.lock1, Mir.unlockAll, Mir.unlock1, Mir.restG, Mir.walked, Option.getD, Mir.look, Mir.Slot.d, Mir.XF])
          | (refine wz_setw (by rfl) (by assumption) ?_; try dsimp only [List.set, List.map, Mir.lend, List.getElem?_cons_zero, List.getElem?_cons_succ, List.cons_append, List.nil_append, List.foldl, Mir.lockAll, Mir.lock1, Mir.unlockAll, Mir.unlock1, Mir.restG, Mir.walked, Option.getD, Mir.look, Mir.Slot.d, Mir.XF])
          | refine wo_f ?_
          | refine wo_t ?_
          | refine wline (by first | omega | exact Nat.le_of_ble_eq_true rfl) ?_
          | refine w2_add ?_
          | refine w2_sub ?_
          | refine w2_mul (by first | assumption | exact big_of ⟨by omega, by omega⟩ ⟨by omega, by omega⟩) ?_
          | refine w2_fdiv (by first | assumption | exact div_of (by omega) (by omega)) ?_
          | refine w2_mod (by omega) ?_
          | refine w2_lists (by first | omega | exact Nat.le_of_ble_eq_true rfl | (simp only [List.length_cons, List.length_nil]; omega)) ?_
          | refine w2_tups (by first | omega | (simp only [List.length_cons, List.length_nil, List.length_map, List.length_replicate]; omega)) ?_
          | refine wk_lt ?_
          | refine wk_le ?_
          | refine wk_gt ?_
          | refine wk_ge ?_
          | refine wk_eqI ?_
          | refine wk_neI ?_
          | refine wk_any (by first | assumption | rfl) ?_
          | refine wt_bool ?_
          | refine wt_any (by first | assumption | rfl) ?_
          | refine wand_t (by first | rfl | assumption | exact decide_eq_true (by omega) | exact nd_t (by omega)) ?_
          | refine wand_f (by first | rfl | assumption | exact decide_eq_false (by omega) | exact nd_f (by omega)) ?_
          | refine ws_ife ?_
          | (refine ws_ret ?_)
          | refine wz_ret ?_
          | refine wz_retT ?_
          | refine ws_skip ?_
          | refine ws_exp ?_
          | refine ws_par ?_
          | refine ws_asgT ?_
          | refine we_tup ?_
          | refine we_lst ?_
          | refine we_ix ?_
          | refine we_not ?_
          | refine we_and ?_
          | refine we_or ?_
          | refine we_ite ?_
          | refine we_chn ?_
          | refine we_comp ?_
          | refine wi_rng ?_
          | refine wi_sq ?_
          | refine wi_enm ?_
          | refine wn1 ⟨by omega, by omega⟩ ?_
          | refine wn2 ⟨by omega, by omega⟩ ⟨by omega, by omega⟩ ?_
          | refine wbd_nil ?_
          | refine wbd_one ?_
          | refine wb_len ?_
          | refine wb_lenT ?_
          | refine wb_min ?_
          | refine wb_max ?_
          | refine we_neg ?_
          | refine we_slc ?_
          | refine we_rev ?_
          | refine we_lsq ?_
          | refine we_tsq ?_
          | refine we_lrg ?_
          | refine we_trg ?_
          | refine ws_for ?_
          | refine ws_brk ?_
          | refine ws_cnt ?_
          | refine ws_retN ?_
          | refine wx_any (by first | assumption | rfl) ?_
          | refine ⟨_, rfl, ?_⟩
          | refine wfil (by rfl) (fun ht => ?_) (fun ht => ?_)
          | exact ⟨rfl, rfl⟩
theorem law_enough {k : Nat} {st : Int × Int} {ls : List Int} {d : Int} (hk : 1 ≤ k) : callN Tb k 7 [.sh (storeD st), .sh (loadsD ls), .sh (.int d)] = .ok (.bool (en st ls d), false, [.emp, .emp, .emp]) := by
  cases c : en st ls d with
  | true =>
    obtain ⟨n, rfl⟩ : ∃ n, k = n + 1 := ⟨k - 1, by omega⟩
    refine wd (fn := fn7) rfl rfl fun C hC => ?_
    dsimp only [fn7, tm7, Nat.reduceSub, List.replicate, List.cons_append, List.nil_append]
    repeat first
      | refine law_enough_loop (st := st) _ _ ls _ _ Sv.e (fun _ lv' s' hs' => ?_) (fun z => absurd (z.symm.trans c) Bool.false_ne_true)
      | refine ws_seq ?_
      | refine ws_asg ?_
      | refine we_bin ?_
      | refine we_cmp ?_
      | refine we_call ?_
      | refine we_blt ?_
      | refine we_lit ?_
      | (refine we_glb (by rfl) ?_)
      | (refine we_var (by rfl) ?_; try dsimp only [List.set, List.map, Mir.lend, List.getElem?_cons_zero, List.getElem?_cons_succ, List.cons_append, List.nil_append, List.foldl, Mir.lockAll, Mir.lock1, Mir.unlockAll, Mir.unlock1, Mir.restG, Mir.walked, Option.getD, Mir.look, Mir.Slot.d, Mir.XF])
      | (refine we_slot (by rfl) ?_; try dsimp only [List.set, List.map, Mir.lend, List.getElem?_cons_zero, List.getElem?_cons_succ, List.cons_append, List.nil_append, List.foldl, Mir.lockAll, Mir.lock1, Mir.unlockAll, Mir.unlock1, Mir.restG, Mir.walked, Option.getD, Mir.look, Mir.Slot.d, Mir.XF])
      | refine wes_cons ?_
      | refine wes_nil ?_
      | refine wvs_cons ?_
      | refine wvs_nil ?_
      | refine wv_val ?_
      | refine wv_tmp ?_
      | (refine wv_slot (by rfl) ?_; try dsimp only [List.set, List.map, Mir.lend, List.getElem?_cons_zero, List.getElem?_cons_succ, List.cons_append, List.nil_append, List.foldl, Mir.lockAll, Mir.lock1, Mir.unlockAll, Mir.unlock1, Mir.restG, Mir.walked, Option.getD, Mir.look, Mir.Slot.d, Mir.XF])
      | (refine wc (by rfl) ?_; try dsimp only [List.set, List.map, Mir.lend, List.getElem?_cons_zero, List.getElem?_cons_succ, List.cons_append, List.nil_append, List.foldl, Mir.lockAll, Mir.lock1, Mir.unlockAll, Mir.unlock1, Mir.restG, Mir.walked, Option.getD, Mir.look, Mir.Slot.d, Mir.XF])
      | (refine wz (by rfl) ?_; try dsimp only [List.set, List.map, Mir.lend, List.getElem?_cons_zero, List.getElem?_cons_succ, List.cons_append, List.nil_append, List.foldl, Mir.lockAll, Mir.lock1, Mir.unlockAll, Mir.unlock1, Mir.restG, Mir.walked, Option.getD, Mir.look, Mir.Slot.d, Mir.XF])
      | (refine wz_setv (by rfl) (by assumption) ?_; try dsimp only [List.set, List.map, Mir.lend, List.getElem?_cons_zero, List.getElem?_cons_succ, List.cons_append, List.nil_append, List.foldl, Mir.lockAll, Mir.lock1, Mir.unlockAll, Mir.unlock1, Mir.restG, Mir.walked, Option.getD, Mir.look, Mir.Slot.d, Mir.XF])
      | (refine wz_setw (by rfl) (by assumption) ?_; try dsimp only [List.set, List.map, Mir.lend, List.getElem?_cons_zero, List.getElem?_cons_succ, List.cons_append, List.nil_append, List.foldl, Mir.lockAll, Mir.lock1, Mir.unlockAll, Mir.unlock1, Mir.restG, Mir.walked, Option.getD, Mir.look, Mir.Slot.d, Mir.XF])
      | refine wo_f ?_
      | refine wo_t ?_
      | refine wline (by first | omega | exact Nat.le_of_ble_eq_true rfl) ?_
      | refine w2_add ?_
      | refine w2_sub ?_
      | refine w2_mul (by first | assumption | exact big_of ⟨by omega, by omega⟩ ⟨by omega, by omega⟩) ?_
      | refine w2_fdiv (by first | assumption | exact div_of (by omega) (by omega)) ?_
      | refine w2_mod (by omega) ?_
      | refine w2_lists (by first | omega | exact Nat.le_of_ble_eq_true rfl | (simp only [List.length_cons, List.length_nil]; omega)) ?_
      | refine w2_tups (by first | omega | (simp only [List.length_cons, List.length_nil, List.length_map, List.length_replicate]; omega)) ?_
      | refine wk_lt ?_
      | refine wk_le ?_
      | refine wk_gt ?_
      | refine wk_ge ?_
      | refine wk_eqI ?_
      | refine wk_neI ?_
      | refine wk_any (by first | assumption | rfl) ?_
      | refine wt_bool ?_
      | refine wt_any (by first | assumption | rfl) ?_
      | refine wand_t (by first | rfl | assumption | exact decide_eq_true (by omega) | exact nd_t (by omega)) ?_
      | refine wand_f (by first | rfl | assumption | exact decide_eq_false (by omega) | exact nd_f (by omega)) ?_
      | refine ws_ife ?_
      | (refine ws_ret ?_)
      | refine wz_ret ?_
      | refine wz_retT ?_
      | refine ws_skip ?_
      | refine ws_exp ?_
      | refine ws_par ?_
      | refine ws_asgT ?_
      | refine we_tup ?_
      | refine we_lst ?_
      | refine we_ix ?_
      | refine we_not ?_
      | refine we_and ?_
      | refine we_or ?_
      | refine we_ite ?_
      | refine we_chn ?_
      | refine we_comp ?_
      | refine wi_rng ?_
      | refine wi_sq ?_
      | refine wi_enm ?_
      | refine wn1 ⟨by omega, by omega⟩ ?_
      | refine wn2 ⟨by omega, by omega⟩ ⟨by omega, by omega⟩ ?_
      | refine wbd_nil ?_
      | refine wbd_one ?_
      | refine wb_len ?_
      | refine wb_lenT ?_
      | refine wb_min ?_
      | refine wb_max ?_
      | refine we_neg ?_
      | refine we_slc ?_
      | refine we_rev ?_
      | refine we_lsq ?_
      | refine we_tsq ?_
      | refine we_lrg ?_
      | refine we_trg ?_
      | refine ws_for ?_
      | refine ws_brk ?_
      | refine ws_cnt ?_
      | refine ws_retN ?_
      | refine wx_any (by first | assumption | rfl) ?_
      | refine ⟨_, rfl, ?_⟩
      | refine wfil (by rfl) (fun ht => ?_) (fun ht => ?_)
      | exact ⟨rfl, rfl⟩
  | false =>
    obtain ⟨n, rfl⟩ : ∃ n, k = n + 1 := ⟨k - 1, by omega⟩
    refine wd (fn := fn7) rfl rfl fun C hC => ?_
    dsimp only [fn7, tm7, Nat.reduceSub, List.replicate, List.cons_append, List.nil_append]
    repeat first
      | refine law_enough_loop (st := st) _ _ ls _ _ Sv.e (fun z => absurd (c.symm.trans z) Bool.false_ne_true) (fun _ lv' s' hs' => ?_)
      | refine ws_seq ?_
      | refine ws_asg ?_
      | refine we_bin ?_
      | refine we_cmp ?_
      | refine we_call ?_
      | refine we_blt ?_
      | refine we_lit ?_
      | (refine we_glb (by rfl) ?_)
      | (refine we_var (by rfl) ?_; try dsimp only [List.set, List.map, Mir.lend, List.getElem?_cons_zero, List.getElem?_cons_succ, List.cons_append, List.nil_append, List.foldl, Mir.lockAll, Mir.lock1, Mir.unlockAll, Mir.unlock1, Mir.restG, Mir.walked, Option.getD, Mir.look, Mir.Slot.d, Mir.XF])
      | (refine we_slot (by rfl) ?_; try dsimp only [List.set, List.map, Mir.lend, List.getElem?_cons_zero, List.getElem?_cons_succ, List.cons_append, List.nil_append, List.foldl, Mir.lockAll, Mir.lock1, Mir.unlockAll, Mir.unlock1, Mir.restG, Mir.walked, Option.getD, Mir.look, Mir.Slot.d, Mir.XF])
      | refine wes_cons ?_
      | refine wes_nil ?_
      | refine wvs_cons ?_
      | refine wvs_nil ?_
      | refine wv_val ?_
      | refine wv_tmp ?_
      | (refine wv_slot (by rfl) ?_; try dsimp only [List.set, List.map, Mir.lend, List.getElem?_cons_zero, List.getElem?_cons_succ, List.cons_append, List.nil_append, List.foldl, Mir.lockAll, Mir.lock1, Mir.unlockAll, Mir.unlock1, Mir.restG, Mir.walked, Option.getD, Mir.look, Mir.Slot.d, Mir.XF])
      | (refine wc (by rfl) ?_; try dsimp only [List.set, List.map, Mir.lend, List.getElem?_cons_zero, List.getElem?_cons_succ, List.cons_append, List.nil_append, List.foldl, Mir.lockAll, Mir.lock1, Mir.unlockAll, Mir.unlock1, Mir.restG, Mir.walked, Option.getD, Mir.look, Mir.Slot.d, Mir.XF])
      | (refine wz (by rfl) ?_; try dsimp only [List.set, List.map, Mir.lend, List.getElem?_cons_zero, List.getElem?_cons_succ, List.cons_append, List.nil_append, List.foldl, Mir.lockAll, Mir.lock1, Mir.unlockAll, Mir.unlock1, Mir.restG, Mir.walked, Option.getD, Mir.look, Mir.Slot.d, Mir.XF])
      | (refine wz_setv (by rfl) (by assumption) ?_; try dsimp only [List.set, List.map, Mir.lend, List.getElem?_cons_zero, List.getElem?_cons_succ, List.cons_append, List.nil_append, List.foldl, Mir.lockAll, Mir.lock1, Mir.unlockAll, Mir.unlock1, Mir.restG, Mir.walked, Option.getD, Mir.look, Mir.Slot.d, Mir.XF])
      | (refine wz_setw (by rfl) (by assumption) ?_; try dsimp only [List.set, List.map, Mir.lend, List.getElem?_cons_zero, List.getElem?_cons_succ, List.cons_append, List.nil_append, List.foldl, Mir.lockAll, Mir.lock1, Mir.unlockAll, Mir.unlock1, Mir.restG, Mir.walked, Option.getD, Mir.look, Mir.Slot.d, Mir.XF])
      | refine wo_f ?_
      | refine wo_t ?_
      | refine wline (by first | omega | exact Nat.le_of_ble_eq_true rfl) ?_
      | refine w2_add ?_
      | refine w2_sub ?_
      | refine w2_mul (by first | assumption | exact big_of ⟨by omega, by omega⟩ ⟨by omega, by omega⟩) ?_
      | refine w2_fdiv (by first | assumption | exact div_of (by omega) (by omega)) ?_
      | refine w2_mod (by omega) ?_
      | refine w2_lists (by first | omega | exact Nat.le_of_ble_eq_true rfl | (simp only [List.length_cons, List.length_nil]; omega)) ?_
      | refine w2_tups (by first | omega | (simp only [List.length_cons, List.length_nil, List.length_map, List.length_replicate]; omega)) ?_
      | refine wk_lt ?_
      | refine wk_le ?_
      | refine wk_gt ?_
      | refine wk_ge ?_
      | refine wk_eqI ?_
      | refine wk_neI ?_
      | refine wk_any (by first | assumption | rfl) ?_
      | refine wt_bool ?_
      | refine wt_any (by first | assumption | rfl) ?_
      | refine wand_t (by first | rfl | assumption | exact decide_eq_true (by omega) | exact nd_t (by omega)) ?_
      | refine wand_f (by first | rfl | assumption | exact decide_eq_false (by omega) | exact nd_f (by omega)) ?_
      | refine ws_ife ?_
      | (refine ws_ret ?_)
      | refine wz_ret ?_
      | refine wz_retT ?_
      | refine ws_skip ?_
      | refine ws_exp ?_
      | refine ws_par ?_
      | refine ws_asgT ?_
      | refine we_tup ?_
      | refine we_lst ?_
      | refine we_ix ?_
      | refine we_not ?_
      | refine we_and ?_
      | refine we_or ?_
      | refine we_ite ?_
      | refine we_chn ?_
      | refine we_comp ?_
      | refine wi_rng ?_
      | refine wi_sq ?_
      | refine wi_enm ?_
      | refine wn1 ⟨by omega, by omega⟩ ?_
      | refine wn2 ⟨by omega, by omega⟩ ⟨by omega, by omega⟩ ?_
      | refine wbd_nil ?_
      | refine wbd_one ?_
      | refine wb_len ?_
      | refine wb_lenT ?_
      | refine wb_min ?_
      | refine wb_max ?_
      | refine we_neg ?_
      | refine we_slc ?_
      | refine we_rev ?_
      | refine we_lsq ?_
      | refine we_tsq ?_
      | refine we_lrg ?_
      | refine we_trg ?_
      | refine ws_for ?_
      | refine ws_brk ?_
      | refine ws_cnt ?_
      | refine ws_retN ?_
      | refine wx_any (by first | assumption | rfl) ?_
      | refine ⟨_, rfl, ?_⟩
      | refine wfil (by rfl) (fun ht => ?_) (fun ht => ?_)
      | exact ⟨rfl, rfl⟩
end Law

set_option Elab.async false
set_option autoImplicit false
set_option linter.all false
set_option maxRecDepth 100000
set_option maxHeartbeats 4000000
namespace Law
open PySem Mir
def cdv (n m : Int) : Int := (n + m - 1).fdiv m
theorem cdv_le {n m q : Int} (hm : 1 ≤ m) : cdv n m ≤ q ↔ n ≤ q * m := by
  unfold cdv
  rw [Int.fdiv_eq_ediv_of_nonneg _ (by omega)]
  have a : (n + m - 1) / m ≤ q ↔ (n + m - 1) / m < q + 1 := by omega
  rw [a, Int.ediv_lt_iff_lt_mul (by omega), Int.add_mul]
  omega
theorem cdv_neg {n m : Int} (hm : 1 ≤ m) : -((-n).fdiv m) = cdv n m := by
  have key : ∀ q, -((-n).fdiv m) ≤ q ↔ cdv n m ≤ q := fun q => by
    rw [cdv_le hm, Int.fdiv_eq_ediv_of_nonneg _ (by omega)]
    have a : -((-n) / m) ≤ q ↔ -q ≤ (-n) / m := by omega
    rw [a, Int.le_ediv_iff_mul_le (by omega), Int.neg_mul]
    omega
  have h1 := (key (cdv n m)).mpr (Int.le_refl _)
  have h2 := (key (-((-n).fdiv m))).mp (Int.le_refl _)
  omega
theorem top_le {ls : List Int} (hl : LdOk ls) : 0 ≤ mxI (0 :: ls) ∧ mxI (0 :: ls) ≤ 1000000 ∧ ∀ l ∈ ls, l ≤ mxI (0 :: ls) := by
  have m := mx_is (xs := 0 :: ls) (by simp)
  refine ⟨m.2.2 0 List.mem_cons_self, (mx_le (by simp)).mpr fun x hx => ?_, fun l h => m.2.2 l (List.mem_cons_of_mem _ h)⟩
  rcases List.mem_cons.mp hx with rfl | hx
  · decide
  · exact (hl.2 x hx).2
theorem draw_top {st : Int × Int} {ls : List Int} {d : Int} (hs : StOk st) (hl : LdOk ls) (hd : IsDraw st ls d) : d ≤ mxI (0 :: ls) := by
  obtain ⟨d', h, hd'⟩ := draw_is hs (top_le hl).1 (top_le hl).2.2
  rw [draw_uniq hd hd']
  exact h
theorem least_draw {k : Nat} {st : Int × Int} {ls : List Int} {d : Int} (hk : 5 ≤ k) (hs : StOk st) (hl : LdOk ls) (hd : IsDraw st ls d) : callN Tb k 6 [.sh (storeD st), .sh (loadsD ls)] = .ok (.int d, false, [.emp, .emp]) := by
  have tp := top_le hl
  have dt := draw_top hs hl hd
  have m1 : bapp .max [.list ([.int 0] ++ ls.map .int)] = .ok (.val (.int (mxI (0 :: ls)))) := bmax (by
    show (intsOf (ls.map D.int)).map (0 :: ·) = _
    rw [ints_map]
    rfl) (by simp)
  have len : (ls.map D.int).length ≤ 200 := by rw [List.length_map]; exact hl.1
  obtain ⟨n, rfl⟩ : ∃ n, k = n + 1 := ⟨k - 1, by omega⟩
  refine wd (fn := fn6) rfl rfl fun C hC => ?_
  dsimp only [fn6, tm6, Nat.reduceSub, List.replicate, List.cons_append, List.nil_append]
  have e1 := need_question (k := n) (by omega) hs hl
  have e2 : ∀ m : Int, 0 ≤ m → callN Tb n 15 [.sh (storeD st), .sh (loadsD ls), .sh (.int m)] = .ok (.bool (decide (d ≤ m)), false, [.emp, .emp, .emp]) := fun m hm => by
    have z := is_enough_in (k := n) (st := st) (d := m) (by omega) hl
    rw [draw_en hd hm] at z
    exact z
  rw [← hC] at e1 e2
  have d0 := hd.1
  repeat first
    | refine w2_lists (by simp only [List.length_cons, List.length_nil]; omega) ?_
    | refine wb_any m1 ?_
    | refine ws_whl (fun k Γ => ∃ lo hi s, Sv s ∧ Γ = [Slot.sh (storeD st), .sh (loadsD ls), .sh (.int lo), .sh (.int hi), s] ∧ 0 ≤ lo ∧ lo ≤ d ∧ d ≤ hi ∧ hi ≤ 1000000 ∧ hi - lo < 2 ^ k) (k := 20) (by decide) ⟨_, _, _, Sv.e, rfl, by omega, by omega, by omega, by omega, by omega⟩ (fun k Γ hi => ?_)
    | refine ws_seq ?_
    | refine ws_asg ?_
    | refine we_bin ?_
    | refine we_cmp ?_
    | refine we_call ?_
    | refine we_blt ?_
    | refine we_lit ?_
    | (refine we_glb (by rfl) ?_)
    | (refine we_var (by rfl) ?_; try dsimp only [List.set, List.map, Mir.lend, List.getElem?_cons_zero, List.getElem?_cons_succ, List.cons_append, List.nil_append, List.foldl, Mir.lockAll, Mir.lock1, Mir.unlockAll, Mir.unlock1, Mir.restG, Mir.walked, Option.getD, Mir.look, Mir.Slot.d, Mir.XF])
    | (refine we_slot (by rfl) ?_; try dsimp only [List.set, List.map, Mir.lend, List.getElem?_cons_zero, List.getElem?_cons_succ, List.cons_append, List.nil_append, List.foldl, Mir.lockAll, Mir.lock1, Mir.unlockAll, Mir.unlock1, Mir.restG, Mir.walked, Option.getD, Mir.look, Mir.Slot.d, Mir.XF])
    | refine wes_cons ?_
    | refine wes_nil ?_
    | refine wvs_cons ?_
    | refine wvs_nil ?_
    | refine wv_val ?_
    | refine wv_tmp ?_
    | (refine wv_slot (by rfl) ?_; try dsimp only [List.set, List.map, Mir.lend, List.getElem?_cons_zero, List.getElem?_cons_succ, List.cons_append, List.nil_append, List.foldl, Mir.lockAll, Mir.lock1, Mir.unlockAll, Mir.unlock1, Mir.restG, Mir.walked, Option.getD, Mir.look, Mir.Slot.d, Mir.XF])
    | (refine wc (by rfl) ?_; try dsimp only [List.set, List.map, Mir.lend, List.getElem?_cons_zero, List.getElem?_cons_succ, List.cons_append, List.nil_append, List.foldl, Mir.lockAll, Mir.lock1, Mir.unlockAll, Mir.unlock1, Mir.restG, Mir.walked, Option.getD, Mir.look, Mir.Slot.d, Mir.XF])
    | (refine wr e1 ?_)
    | (refine wz (by rfl) ?_; try dsimp only [List.set, List.map, Mir.lend, List.getElem?_cons_zero, List.getElem?_cons_succ, List.cons_append, List.nil_append, List.foldl, Mir.lockAll, Mir.lock1, Mir.unlockAll, Mir.unlock1, Mir.restG, Mir.walked, Option.getD, Mir.look, Mir.Slot.d, Mir.XF])
    | (refine wz_setv (by rfl) (by assumption) ?_; try dsimp only [List.set, List.map, Mir.lend, List.getElem?_cons_zero, List.getElem?_cons_succ, List.cons_append, List.nil_append, List.foldl, Mir.lockAll, Mir.lock1, Mir.unlockAll, Mir.unlock1, Mir.restG, Mir.walked, Option.getD, Mir.look, Mir.Slot.d, Mir.XF])
    | (refine wz_setw (by rfl) (by assumption) ?_; try dsimp only [List.set, List.map, Mir.lend, List.getElem?_cons_zero, List.getElem?_cons_succ, List.cons_append, List.nil_append, List.foldl, Mir.lockAll, Mir.lock1, Mir.unlockAll, Mir.unlock1, Mir.restG, Mir.walked, Option.getD, Mir.look, Mir.Slot.d, Mir.XF])
    | refine wo_f ?_
    | refine wo_t ?_
    | refine wline (by first | omega | exact Nat.le_of_ble_eq_true rfl) ?_
    | refine w2_add ?_
    | refine w2_sub ?_
    | refine w2_mul (by first | assumption | exact big_of ⟨by omega, by omega⟩ ⟨by omega, by omega⟩) ?_
    | refine w2_fdiv (by first | assumption | exact div_of (by omega) (by omega)) ?_
    | refine w2_mod (by omega) ?_
    | refine w2_lists (by first | omega | exact Nat.le_of_ble_eq_true rfl | (simp only [List.length_cons, List.length_nil]; omega)) ?_
    | refine w2_tups (by first | omega | (simp only [List.length_cons, List.length_nil, List.length_map, List.length_replicate]; omega)) ?_
    | refine wk_lt ?_
    | refine wk_le ?_
    | refine wk_gt ?_
    | refine wk_ge ?_
    | refine wk_eqI ?_
    | refine wk_neI ?_
    | refine wk_any (by first | assumption | rfl) ?_
    | refine wt_bool ?_
    | refine wt_any (by first | assumption | rfl) ?_
    | refine wand_t (by first | rfl | assumption | exact decide_eq_true (by omega) | exact nd_t (by omega)) ?_
    | refine wand_f (by first | rfl | assumption | exact decide_eq_false (by omega) | exact nd_f (by omega)) ?_
    | refine ws_ife ?_
    | (refine ws_ret ?_)
    | refine wz_ret ?_
    | refine wz_retT ?_
    | refine ws_skip ?_
    | refine ws_exp ?_
    | refine ws_par ?_
    | refine ws_asgT ?_
    | refine we_tup ?_
    | refine we_lst ?_
    | refine we_ix ?_
    | refine we_not ?_
    | refine we_and ?_
    | refine we_or ?_
    | refine we_ite ?_
    | refine we_chn ?_
    | refine we_comp ?_
    | refine wi_rng ?_
    | refine wi_sq ?_
    | refine wi_enm ?_
    | refine wn1 ⟨by omega, by omega⟩ ?_
    | refine wn2 ⟨by omega, by omega⟩ ⟨by omega, by omega⟩ ?_
    | refine wbd_nil ?_
    | refine wbd_one ?_
    | refine wb_len ?_
    | refine wb_lenT ?_
    | refine wb_min ?_
    | refine wb_max ?_
    | refine we_neg ?_
    | refine we_slc ?_
    | refine we_rev ?_
    | refine we_lsq ?_
    | refine we_tsq ?_
    | refine we_lrg ?_
    | refine we_trg ?_
    | refine ws_for ?_
    | refine ws_brk ?_
    | refine ws_cnt ?_
    | refine ws_retN ?_
    | refine wx_any (by first | assumption | rfl) ?_
    | refine ⟨_, rfl, ?_⟩
    | refine wfil (by rfl) (fun ht => ?_) (fun ht => ?_)
    | exact ⟨rfl, rfl⟩
  obtain ⟨lo, hi, s, h4, rfl, a0, a1, a2, a3, a4⟩ := hi
  by_cases c : lo < hi
  · have em : (lo + hi).fdiv 2 = (lo + hi) / 2 := Int.fdiv_eq_ediv_of_nonneg _ (by omega)
    have m2 : 2 * (lo + hi).fdiv 2 ≤ lo + hi ∧ lo + hi < 2 * (lo + hi).fdiv 2 + 2 := by rw [em]; omega
    obtain ⟨k, rfl⟩ : ∃ j, k = j + 1 := by
      cases k with
      | zero => have a4 : hi - lo < 1 := a4; omega
      | succ k => exact ⟨k, rfl⟩
    have a5 : hi - lo < 2 * 2 ^ k := by rw [Int.pow_succ] at a4; omega
    have e3 := e2 ((lo + hi).fdiv 2) (by omega)
    by_cases b : d ≤ (lo + hi).fdiv 2
    · have fin : ∃ j, k + 1 = j + 1 ∧ ∃ lo' hi' s, Sv s ∧ [Slot.sh (storeD st), .sh (loadsD ls), .sh (.int lo), .sh (.int ((lo + hi).fdiv 2)), .sh (.int ((lo + hi).fdiv 2))] = [Slot.sh (storeD st), .sh (loadsD ls), .sh (.int lo'), .sh (.int hi'), s] ∧ 0 ≤ lo' ∧ lo' ≤ d ∧ d ≤ hi' ∧ hi' ≤ 1000000 ∧ hi' - lo' < 2 ^ j := ⟨k, rfl, _, _, _, Sv.v, rfl, a0, a1, b, by omega, by omega⟩
      repeat first
        | exact fin
        | refine ws_seq ?_
        | refine ws_asg ?_
        | refine we_bin ?_
        | refine we_cmp ?_
        | refine we_call ?_
        | refine we_blt ?_
        | refine we_lit ?_
        | (refine we_glb (by rfl) ?_)
        | (refine we_var (by rfl) ?_; try dsimp only [List.set, List.map, Mir.lend, List.getElem?_cons_zero, List.getElem?_cons_succ, List.cons_append, List.nil_append, List.foldl, Mir.lockAll, Mir.lock1, Mir.unlockAll, Mir.unlock1, Mir.restG, Mir.walked, Option.getD, Mir.look, Mir.Slot.d, Mir.XF])
        | (refine we_slot (by rfl) ?_; try dsimp only [List.set, List.map, Mir.lend, List.getElem?_cons_zero, List.getElem?_cons_succ, List.cons_append, List.nil_append, List.foldl, Mir.lockAll, Mir.lock1, Mir.unlockAll, Mir.unlock1, Mir.restG, Mir.walked, Option.getD, Mir.look, Mir.Slot.d, Mir.XF])
        | refine wes_cons ?_
        | refine wes_nil ?_
        | refine wvs_cons ?_
        | refine wvs_nil ?_
        | refine wv_val ?_
        | refine wv_tmp ?_
        | (refine wv_slot (by rfl) ?_; try dsimp only [List.set, List.map, Mir.lend, List.getElem?_cons_zero, List.getElem?_cons_succ, List.cons_append, List.nil_append, List.foldl, Mir.lockAll, Mir.lock1, Mir.unlockAll, Mir.unlock1, Mir.restG, Mir.walked, Option.getD, Mir.look, Mir.Slot.d, Mir.XF])
        | (refine wc (by rfl) ?_; try dsimp only [List.set, List.map, Mir.lend, List.getElem?_cons_zero, List.getElem?_cons_succ, List.cons_append, List.nil_append, List.foldl, Mir.lockAll, Mir.lock1, Mir.unlockAll, Mir.unlock1, Mir.restG, Mir.walked, Option.getD, Mir.look, Mir.Slot.d, Mir.XF])
        | (refine wr e3 ?_)
        | (refine wz (by rfl) ?_; try dsimp only [List.set, List.map, Mir.lend, List.getElem?_cons_zero, List.getElem?_cons_succ, List.cons_append, List.nil_append, List.foldl, Mir.lockAll, Mir.lock1, Mir.unlockAll, Mir.unlock1, Mir.restG, Mir.walked, Option.getD, Mir.look, Mir.Slot.d, Mir.XF])
        | (refine wz_setv (by rfl) (by assumption) ?_; try dsimp only [List.set, List.map, Mir.lend, List.getElem?_cons_zero, List.getElem?_cons_succ, List.cons_append, List.nil_append, List.foldl, Mir.lockAll, Mir.lock1, Mir.unlockAll, Mir.unlock1, Mir.restG, Mir.walked, Option.getD, Mir.look, Mir.Slot.d, Mir.XF])
        | (refine wz_setw (by rfl) (by assumption) ?_; try dsimp only [List.set, List.map, Mir.lend, List.getElem?_cons_zero, List.getElem?_cons_succ, List.cons_append, List.nil_append, List.foldl, Mir.lockAll, Mir.lock1, Mir.unlockAll, Mir.unlock1, Mir.restG, Mir.walked, Option.getD, Mir.look, Mir.Slot.d, Mir.XF])
        | refine wo_f ?_
        | refine wo_t ?_
        | refine wline (by first | omega | exact Nat.le_of_ble_eq_true rfl) ?_
        | refine w2_add ?_
        | refine w2_sub ?_
        | refine w2_mul (by first | assumption | exact big_of ⟨by omega, by omega⟩ ⟨by omega, by omega⟩) ?_
        | refine w2_fdiv (by first | assumption | exact div_of (by omega) (by omega)) ?_
        | refine w2_mod (by omega) ?_
        | refine w2_lists (by first | omega | exact Nat.le_of_ble_eq_true rfl | (simp only [List.length_cons, List.length_nil]; omega)) ?_
        | refine w2_tups (by first | omega | (simp only [List.length_cons, List.length_nil, List.length_map, List.length_replicate]; omega)) ?_
        | refine wk_lt ?_
        | refine wk_le ?_
        | refine wk_gt ?_
        | refine wk_ge ?_
        | refine wk_eqI ?_
        | refine wk_neI ?_
        | refine wk_any (by first | assumption | rfl) ?_
        | refine wt_bool ?_
        | refine wt_any (by first | assumption | rfl) ?_
        | refine wand_t (by first | rfl | assumption | exact decide_eq_true (by omega) | exact nd_t (by omega)) ?_
        | refine wand_f (by first | rfl | assumption | exact decide_eq_false (by omega) | exact nd_f (by omega)) ?_
        | refine ws_ife ?_
        | (refine ws_ret ?_)
        | refine wz_ret ?_
        | refine wz_retT ?_
        | refine ws_skip ?_
        | refine ws_exp ?_
        | refine ws_par ?_
        | refine ws_asgT ?_
        | refine we_tup ?_
        | refine we_lst ?_
        | refine we_ix ?_
        | refine we_not ?_
        | refine we_and ?_
        | refine we_or ?_
        | refine we_ite ?_
        | refine we_chn ?_
        | refine we_comp ?_
        | refine wi_rng ?_
        | refine wi_sq ?_
        | refine wi_enm ?_
        | refine wn1 ⟨by omega, by omega⟩ ?_
        | refine wn2 ⟨by omega, by omega⟩ ⟨by omega, by omega⟩ ?_
        | refine wbd_nil ?_
        | refine wbd_one ?_
        | refine wb_len ?_
        | refine wb_lenT ?_
        | refine wb_min ?_
        | refine wb_max ?_
        | refine we_neg ?_
        | refine we_slc ?_
        | refine we_rev ?_
        | refine we_lsq ?_
        | refine we_tsq ?_
        | refine we_lrg ?_
        | refine we_trg ?_
        | refine ws_for ?_
        | refine ws_brk ?_
        | refine ws_cnt ?_
        | refine ws_retN ?_
        | refine wx_any (by first | assumption | rfl) ?_
        | refine ⟨_, rfl, ?_⟩
        | refine wfil (by rfl) (fun ht => ?_) (fun ht => ?_)
        | exact ⟨rfl, rfl⟩
    · have fin : ∃ j, k + 1 = j + 1 ∧ ∃ lo' hi' s, Sv s ∧ [Slot.sh (storeD st), .sh (loadsD ls), .sh (.int ((lo + hi).fdiv 2 + 1)), .sh (.int hi), .sh (.int ((lo + hi).fdiv 2))] = [Slot.sh (storeD st), .sh (loadsD ls), .sh (.int lo'), .sh (.int hi'), s] ∧ 0 ≤ lo' ∧ lo' ≤ d ∧ d ≤ hi' ∧ hi' ≤ 1000000 ∧ hi' - lo' < 2 ^ j := ⟨k, rfl, _, _, _, Sv.v, rfl, by omega, by omega, a2, a3, by omega⟩
      repeat first
        | exact fin
        | refine ws_seq ?_
        | refine ws_asg ?_
        | refine we_bin ?_
        | refine we_cmp ?_
        | refine we_call ?_
        | refine we_blt ?_
        | refine we_lit ?_
        | (refine we_glb (by rfl) ?_)
        | (refine we_var (by rfl) ?_; try dsimp only [List.set, List.map, Mir.lend, List.getElem?_cons_zero, List.getElem?_cons_succ, List.cons_append, List.nil_append, List.foldl, Mir.lockAll, Mir.lock1, Mir.unlockAll, Mir.unlock1, Mir.restG, Mir.walked, Option.getD, Mir.look, Mir.Slot.d, Mir.XF])
        | (refine we_slot (by rfl) ?_; try dsimp only [List.set, List.map, Mir.lend, List.getElem?_cons_zero, List.getElem?_cons_succ, List.cons_append, List.nil_append, List.foldl, Mir.lockAll, Mir.lock1, Mir.unlockAll, Mir.unlock1, Mir.restG, Mir.walked, Option.getD, Mir.look, Mir.Slot.d, Mir.XF])
        | refine wes_cons ?_
        | refine wes_nil ?_
        | refine wvs_cons ?_
        | refine wvs_nil ?_
        | refine wv_val ?_
        | refine wv_tmp ?_
        | (refine wv_slot (by rfl) ?_; try dsimp only [List.set, List.map, Mir.lend, List.getElem?_cons_zero, List.getElem?_cons_succ, List.cons_append, List.nil_append, List.foldl, Mir.lockAll, Mir.lock1, Mir.unlockAll, Mir.unlock1, Mir.restG, Mir.walked, Option.getD, Mir.look, Mir.Slot.d, Mir.XF])
        | (refine wc (by rfl) ?_; try dsimp only [List.set, List.map, Mir.lend, List.getElem?_cons_zero, List.getElem?_cons_succ, List.cons_append, List.nil_append, List.foldl, Mir.lockAll, Mir.lock1, Mir.unlockAll, Mir.unlock1, Mir.restG, Mir.walked, Option.getD, Mir.look, Mir.Slot.d, Mir.XF])
        | (refine wr e3 ?_)
        | (refine wz (by rfl) ?_; try dsimp only [List.set, List.map, Mir.lend, List.getElem?_cons_zero, List.getElem?_cons_succ, List.cons_append, List.nil_append, List.foldl, Mir.lockAll, Mir.lock1, Mir.unlockAll, Mir.unlock1, Mir.restG, Mir.walked, Option.getD, Mir.look, Mir.Slot.d, Mir.XF])
        | (refine wz_setv (by rfl) (by assumption) ?_; try dsimp only [List.set, List.map, Mir.lend, List.getElem?_cons_zero, List.getElem?_cons_succ, List.cons_append, List.nil_append, List.foldl, Mir.lockAll, Mir.lock1, Mir.unlockAll, Mir.unlock1, Mir.restG, Mir.walked, Option.getD, Mir.look, Mir.Slot.d, Mir.XF])
        | (refine wz_setw (by rfl) (by assumption) ?_; try dsimp only [List.set, List.map, Mir.lend, List.getElem?_cons_zero, List.getElem?_cons_succ, List.cons_append, List.nil_append, List.foldl, Mir.lockAll, Mir.lock1, Mir.unlockAll, Mir.unlock1, Mir.restG, Mir.walked, Option.getD, Mir.look, Mir.Slot.d, Mir.XF])
        | refine wo_f ?_
        | refine wo_t ?_
        | refine wline (by first | omega | exact Nat.le_of_ble_eq_true rfl) ?_
        | refine w2_add ?_
        | refine w2_sub ?_
        | refine w2_mul (by first | assumption | exact big_of ⟨by omega, by omega⟩ ⟨by omega, by omega⟩) ?_
        | refine w2_fdiv (by first | assumption | exact div_of (by omega) (by omega)) ?_
        | refine w2_mod (by omega) ?_
        | refine w2_lists (by first | omega | exact Nat.le_of_ble_eq_true rfl | (simp only [List.length_cons, List.length_nil]; omega)) ?_
        | refine w2_tups (by first | omega | (simp only [List.length_cons, List.length_nil, List.length_map, List.length_replicate]; omega)) ?_
        | refine wk_lt ?_
        | refine wk_le ?_
        | refine wk_gt ?_
        | refine wk_ge ?_
        | refine wk_eqI ?_
        | refine wk_neI ?_
        | refine wk_any (by first | assumption | rfl) ?_
        | refine wt_bool ?_
        | refine wt_any (by first | assumption | rfl) ?_
        | refine wand_t (by first | rfl | assumption | exact decide_eq_true (by omega) | exact nd_t (by omega)) ?_
        | refine wand_f (by first | rfl | assumption | exact decide_eq_false (by omega) | exact nd_f (by omega)) ?_
        | refine ws_ife ?_
        | (refine ws_ret ?_)
        | refine wz_ret ?_
        | refine wz_retT ?_
        | refine ws_skip ?_
        | refine ws_exp ?_
        | refine ws_par ?_
        | refine ws_asgT ?_
        | refine we_tup ?_
        | refine we_lst ?_
        | refine we_ix ?_
        | refine we_not ?_
        | refine we_and ?_
        | refine we_or ?_
        | refine we_ite ?_
        | refine we_chn ?_
        | refine we_comp ?_
        | refine wi_rng ?_
        | refine wi_sq ?_
        | refine wi_enm ?_
        | refine wn1 ⟨by omega, by omega⟩ ?_
        | refine wn2 ⟨by omega, by omega⟩ ⟨by omega, by omega⟩ ?_
        | refine wbd_nil ?_
        | refine wbd_one ?_
        | refine wb_len ?_
        | refine wb_lenT ?_
        | refine wb_min ?_
        | refine wb_max ?_
        | refine we_neg ?_
        | refine we_slc ?_
        | refine we_rev ?_
        | refine we_lsq ?_
        | refine we_tsq ?_
        | refine we_lrg ?_
        | refine we_trg ?_
        | refine ws_for ?_
        | refine ws_brk ?_
        | refine ws_cnt ?_
        | refine ws_retN ?_
        | refine wx_any (by first | assumption | rfl) ?_
        | refine ⟨_, rfl, ?_⟩
        | refine wfil (by rfl) (fun ht => ?_) (fun ht => ?_)
        | exact ⟨rfl, rfl⟩
  · have ee : lo = d := by omega
    subst ee
    repeat first
      | refine ws_seq ?_
      | refine ws_asg ?_
      | refine we_bin ?_
      | refine we_cmp ?_
      | refine we_call ?_
      | refine we_blt ?_
      | refine we_lit ?_
      | (refine we_glb (by rfl) ?_)
      | (refine we_var (by rfl) ?_; try dsimp only [List.set, List.map, Mir.lend, List.getElem?_cons_zero, List.getElem?_cons_succ, List.cons_append, List.nil_append, List.foldl, Mir.lockAll, Mir.lock1, Mir.unlockAll, Mir.unlock1, Mir.restG, Mir.walked, Option.getD, Mir.look, Mir.Slot.d, Mir.XF])
      | (refine we_slot (by rfl) ?_; try dsimp only [List.set, List.map, Mir.lend, List.getElem?_cons_zero, List.getElem?_cons_succ, List.cons_append, List.nil_append, List.foldl, Mir.lockAll, Mir.lock1, Mir.unlockAll, Mir.unlock1, Mir.restG, Mir.walked, Option.getD, Mir.look, Mir.Slot.d, Mir.XF])
      | refine wes_cons ?_
      | refine wes_nil ?_
      | refine wvs_cons ?_
      | refine wvs_nil ?_
      | refine wv_val ?_
      | refine wv_tmp ?_
      | (refine wv_slot (by rfl) ?_; try dsimp only [List.set, List.map, Mir.lend, List.getElem?_cons_zero, List.getElem?_cons_succ, List.cons_append, List.nil_append, List.foldl, Mir.lockAll, Mir.lock1, Mir.unlockAll, Mir.unlock1, Mir.restG, Mir.walked, Option.getD, Mir.look, Mir.Slot.d, Mir.XF])
      | (refine wc (by rfl) ?_; try dsimp only [List.set, List.map, Mir.lend, List.getElem?_cons_zero, List.getElem?_cons_succ, List.cons_append, List.nil_append, List.foldl, Mir.lockAll, Mir.lock1, Mir.unlockAll, Mir.unlock1, Mir.restG, Mir.walked, Option.getD, Mir.look, Mir.Slot.d, Mir.XF])
      | (refine wz (by rfl) ?_; try dsimp only [List.set, List.map, Mir.lend, List.getElem?_cons_zero, List.getElem?_cons_succ, List.cons_append, List.nil_append, List.foldl, Mir.lockAll, Mir.lock1, Mir.unlockAll, Mir.unlock1, Mir.restG, Mir.walked, Option.getD, Mir.look, Mir.Slot.d, Mir.XF])
      | (refine wz_setv (by rfl) (by assumption) ?_; try dsimp only [List.set, List.map, Mir.lend, List.getElem?_cons_zero, List.getElem?_cons_succ, List.cons_append, List.nil_append, List.foldl, Mir.lockAll, Mir.lock1, Mir.unlockAll, Mir.unlock1, Mir.restG, Mir.walked, Option.getD, Mir.look, Mir.Slot.d, Mir.XF])
      | (refine wz_setw (by rfl) (by assumption) ?_; try dsimp only [List.set, List.map, Mir.lend, List.getElem?_cons_zero, List.getElem?_cons_succ, List.cons_append, List.nil_append, List.foldl, Mir.lockAll, Mir.lock1, Mir.unlockAll, Mir.unlock1, Mir.restG, Mir.walked, Option.getD, Mir.look, Mir.Slot.d, Mir.XF])
      | refine wo_f ?_
      | refine wo_t ?_
      | refine wline (by first | omega | exact Nat.le_of_ble_eq_true rfl) ?_
      | refine w2_add ?_
      | refine w2_sub ?_
      | refine w2_mul (by first | assumption | exact big_of ⟨by omega, by omega⟩ ⟨by omega, by omega⟩) ?_
      | refine w2_fdiv (by first | assumption | exact div_of (by omega) (by omega)) ?_
      | refine w2_mod (by omega) ?_
      | refine w2_lists (by first | omega | exact Nat.le_of_ble_eq_true rfl | (simp only [List.length_cons, List.length_nil]; omega)) ?_
      | refine w2_tups (by first | omega | (simp only [List.length_cons, List.length_nil, List.length_map, List.length_replicate]; omega)) ?_
      | refine wk_lt ?_
      | refine wk_le ?_
      | refine wk_gt ?_
      | refine wk_ge ?_
      | refine wk_eqI ?_
      | refine wk_neI ?_
      | refine wk_any (by first | assumption | rfl) ?_
      | refine wt_bool ?_
      | refine wt_any (by first | assumption | rfl) ?_
      | refine wand_t (by first | rfl | assumption | exact decide_eq_true (by omega) | exact nd_t (by omega)) ?_
      | refine wand_f (by first | rfl | assumption | exact decide_eq_false (by omega) | exact nd_f (by omega)) ?_
      | refine ws_ife ?_
      | (refine ws_ret ?_)
      | refine wz_ret ?_
      | refine wz_retT ?_
      | refine ws_skip ?_
      | refine ws_exp ?_
      | refine ws_par ?_
      | refine ws_asgT ?_
      | refine we_tup ?_
      | refine we_lst ?_
      | refine we_ix ?_
      | refine we_not ?_
      | refine we_and ?_
      | refine we_or ?_
      | refine we_ite ?_
      | refine we_chn ?_
      | refine we_comp ?_
      | refine wi_rng ?_
      | refine wi_sq ?_
      | refine wi_enm ?_
      | refine wn1 ⟨by omega, by omega⟩ ?_
      | refine wn2 ⟨by omega, by omega⟩ ⟨by omega, by omega⟩ ?_
      | refine wbd_nil ?_
      | refine wbd_one ?_
      | refine wb_len ?_
      | refine wb_lenT ?_
      | refine wb_min ?_
      | refine wb_max ?_
      | refine we_neg ?_
      | refine we_slc ?_
      | refine we_rev ?_
      | refine we_lsq ?_
      | refine we_tsq ?_
      | refine we_lrg ?_
      | refine we_trg ?_
      | refine ws_for ?_
      | refine ws_brk ?_
      | refine ws_cnt ?_
      | refine ws_retN ?_
      | refine wx_any (by first | assumption | rfl) ?_
      | refine ⟨_, rfl, ?_⟩
      | refine wfil (by rfl) (fun ht => ?_) (fun ht => ?_)
      | exact ⟨rfl, rfl⟩
/-! ## by stretches -/
def Ui (ls : List Int) (s e : Int) : Int := ((ls.drop s.toNat).take (e + 1 - s).toNat).sum
theorem Ui_0 {ls : List Int} {s : Int} : Ui ls s (s - 1) = 0 := by
  unfold Ui
  have z : (s - 1 + 1 - s).toNat = 0 := by omega
  rw [z, List.take_zero]
  all_goals rfl
theorem Ui_step {ls : List Int} {s e : Int} (h0 : 0 ≤ s) (h1 : s ≤ e) (h2 : e < ls.length) : Ui ls s e = Ui ls s (e - 1) + ls[e.toNat]'(by omega) := by
  unfold Ui
  have z : (e + 1 - s).toNat = (e - 1 + 1 - s).toNat + 1 := by omega
  have w : (ls.drop s.toNat)[(e - 1 + 1 - s).toNat]? = some (ls[e.toNat]'(by omega)) := by
    rw [List.getElem?_drop]
    have q : s.toNat + (e - 1 + 1 - s).toNat = e.toNat := by omega
    rw [q, List.getElem?_eq_getElem]
  have t : (ls.drop s.toNat).take (e + 1 - s).toNat = (ls.drop s.toNat).take (e - 1 + 1 - s).toNat ++ [ls[e.toNat]'(by omega)] := by
    rw [z, List.take_add_one, w]
    all_goals rfl
  rw [t, List.sum_append, List.sum_cons, List.sum_nil, Int.add_zero]
def Best (R : Int) (ls : List Int) (b : Int) (P : Int → Int → Prop) : Prop := 0 ≤ b ∧ ∀ x, b ≤ x ↔ 0 ≤ x ∧ ∀ s e : Int, 0 ≤ s → s ≤ e → e < ls.length → P s e → Ui ls s e - R ≤ x * (e - s + 1)
theorem by_stretches {k : Nat} {R : Int} {ls : List Int} (hk : 1 ≤ k) (hl : LdOk ls) : ∃ d, (∃ b, d = D.int b ∧ Best R ls b fun _ _ => True) ∧ callN Tb k 12 [.sh (.int R), .sh (loadsD ls)] = .ok (d, false, [.emp, .emp]) := by
  have h200 := hl.1
  have len : bapp .len [.tup (ls.map D.int)] = .ok (.val (.int (ls.length : Int))) := by
    show Mir.R.ok (Opd.val (.int ((ls.map D.int).length : Int))) = _
    rw [List.length_map]
  obtain ⟨n, rfl⟩ : ∃ n, k = n + 1 := ⟨k - 1, by omega⟩
  refine wdE (fn := fn12) rfl rfl fun C hC => ?_
  dsimp only [fn12, tm12, Nat.reduceSub, List.replicate, List.cons_append, List.nil_append]
  repeat first
    | refine wb_any len ?_
    | refine wf_rng (I := fun i Γ => ∃ b s3 s4 s5, Sv s3 ∧ Sv s4 ∧ Sv s5 ∧ Γ = [Slot.sh (.int R), .sh (loadsD ls), .sh (.int b), s3, s4, s5] ∧ Best R ls b fun s _ => s < i) (lo := 0) (hi := ls.length) (by omega) ⟨_, _, _, _, Sv.e, Sv.e, Sv.e, rfl, Int.le_refl 0, fun x => ⟨fun h => ⟨h, fun s e a _ _ q => by omega⟩, fun h => h.1⟩⟩ (fun i Γ i0 i1 hi => ?_) (fun Γ hi => ?_)
    | refine ws_seq ?_
    | refine ws_asg ?_
    | refine we_bin ?_
    | refine we_cmp ?_
    | refine we_call ?_
    | refine we_blt ?_
    | refine we_lit ?_
    | (refine we_glb (by rfl) ?_)
    | (refine we_var (by rfl) ?_; try dsimp only [List.set, List.map, Mir.lend, List.getElem?_cons_zero, List.getElem?_cons_succ, List.cons_append, List.nil_append, List.foldl, Mir.lockAll, Mir.lock1, Mir.unlockAll, Mir.unlock1, Mir.restG, Mir.walked, Option.getD, Mir.look, Mir.Slot.d, Mir.XF])
    | (refine we_slot (by rfl) ?_; try dsimp only [List.set, List.map, Mir.lend, List.getElem?_cons_zero, List.getElem?_cons_succ, List.cons_append, List.nil_append, List.foldl, Mir.lockAll, Mir.lock1, Mir.unlockAll, Mir.unlock1, Mir.restG, Mir.walked, Option.getD, Mir.look, Mir.Slot.d, Mir.XF])
    | refine wes_cons ?_
    | refine wes_nil ?_
    | refine wvs_cons ?_
    | refine wvs_nil ?_
    | refine wv_val ?_
    | refine wv_tmp ?_
    | (refine wv_slot (by rfl) ?_; try dsimp only [List.set, List.map, Mir.lend, List.getElem?_cons_zero, List.getElem?_cons_succ, List.cons_append, List.nil_append, List.foldl, Mir.lockAll, Mir.lock1, Mir.unlockAll, Mir.unlock1, Mir.restG, Mir.walked, Option.getD, Mir.look, Mir.Slot.d, Mir.XF])
    | (refine wc (by rfl) ?_; try dsimp only [List.set, List.map, Mir.lend, List.getElem?_cons_zero, List.getElem?_cons_succ, List.cons_append, List.nil_append, List.foldl, Mir.lockAll, Mir.lock1, Mir.unlockAll, Mir.unlock1, Mir.restG, Mir.walked, Option.getD, Mir.look, Mir.Slot.d, Mir.XF])
    | (refine wz (by rfl) ?_; try dsimp only [List.set, List.map, Mir.lend, List.getElem?_cons_zero, List.getElem?_cons_succ, List.cons_append, List.nil_append, List.foldl, Mir.lockAll, Mir.lock1, Mir.unlockAll, Mir.unlock1, Mir.restG, Mir.walked, Option.getD, Mir.look, Mir.Slot.d, Mir.XF])
    | (refine wz_setv (by rfl) (by assumption) ?_; try dsimp only [List.set, List.map, Mir.lend, List.getElem?_cons_zero, List.getElem?_cons_succ, List.cons_append, List.nil_append, List.foldl, Mir.lockAll, Mir.lock1, Mir.unlockAll, Mir.unlock1, Mir.restG, Mir.walked, Option.getD, Mir.look, Mir.Slot.d, Mir.XF])
    | (refine wz_setw (by rfl) (by assumption) ?_; try dsimp only [List.set, List.map, Mir.lend, List.getElem?_cons_zero, List.getElem?_cons_succ, List.cons_append, List.nil_append, List.foldl, Mir.lockAll, Mir.lock1, Mir.unlockAll, Mir.unlock1, Mir.restG, Mir.walked, Option.getD, Mir.look, Mir.Slot.d, Mir.XF])
    | refine wo_f ?_
    | refine wo_t ?_
    | refine wline (by first | omega | exact Nat.le_of_ble_eq_true rfl) ?_
    | refine w2_add ?_
    | refine w2_sub ?_
    | refine w2_mul (by first | assumption | exact big_of ⟨by omega, by omega⟩ ⟨by omega, by omega⟩) ?_
    | refine w2_fdiv (by first | assumption | exact div_of (by omega) (by omega)) ?_
    | refine w2_mod (by omega) ?_
    | refine w2_lists (by first | omega | exact Nat.le_of_ble_eq_true rfl | (simp only [List.length_cons, List.length_nil]; omega)) ?_
    | refine w2_tups (by first | omega | (simp only [List.length_cons, List.length_nil, List.length_map, List.length_replicate]; omega)) ?_
    | refine wk_lt ?_
    | refine wk_le ?_
    | refine wk_gt ?_
    | refine wk_ge ?_
    | refine wk_eqI ?_
    | refine wk_neI ?_
    | refine wk_any (by first | assumption | rfl) ?_
    | refine wt_bool ?_
    | refine wt_any (by first | assumption | rfl) ?_
    | refine wand_t (by first | rfl | assumption | exact decide_eq_true (by omega) | exact nd_t (by omega)) ?_
    | refine wand_f (by first | rfl | assumption | exact decide_eq_false (by omega) | exact nd_f (by omega)) ?_
    | refine ws_ife ?_
    | (refine ws_ret ?_)
    | refine wz_ret ?_
    | refine wz_retT ?_
    | refine ws_skip ?_
    | refine ws_exp ?_
    | refine ws_par ?_
    | refine ws_asgT ?_
    | refine we_tup ?_
    | refine we_lst ?_
    | refine we_ix ?_
    | refine we_not ?_
    | refine we_and ?_
    | refine we_or ?_
    | refine we_ite ?_
    | refine we_chn ?_
    | refine we_comp ?_
    | refine wi_rng ?_
    | refine wi_sq ?_
    | refine wi_enm ?_
    | refine wn1 ⟨by omega, by omega⟩ ?_
    | refine wn2 ⟨by omega, by omega⟩ ⟨by omega, by omega⟩ ?_
    | refine wbd_nil ?_
    | refine wbd_one ?_
    | refine wb_len ?_
    | refine wb_lenT ?_
    | refine wb_min ?_
    | refine wb_max ?_
    | refine we_neg ?_
    | refine we_slc ?_
    | refine we_rev ?_
    | refine we_lsq ?_
    | refine we_tsq ?_
    | refine we_lrg ?_
    | refine we_trg ?_
    | refine ws_for ?_
    | refine ws_brk ?_
    | refine ws_cnt ?_
    | refine ws_retN ?_
    | refine wx_any (by first | assumption | rfl) ?_
    | refine ⟨_, rfl, ?_⟩
    | refine wfil (by rfl) (fun ht => ?_) (fun ht => ?_)
    | exact ⟨rfl, rfl⟩
  · obtain ⟨b, s3, s4, s5, h3, h4, h5, rfl, hb⟩ := hi
    repeat first
      | refine wb_any len ?_
      | refine wf_rng (I := fun e Γ => ∃ b s5, Sv s5 ∧ Γ = [Slot.sh (.int R), .sh (loadsD ls), .sh (.int b), .sh (.int i), .sh (.int (-R + Ui ls i (e - 1))), s5] ∧ Best R ls b fun s e' => s < i ∨ s = i ∧ e' < e) (lo := i) (hi := ls.length) (by omega) ⟨_, _, h5, by rw [Ui_0, Int.add_zero], hb.1, fun x => ⟨fun h => ⟨((hb.2 x).mp h).1, fun s e a c d q => ((hb.2 x).mp h).2 s e a c d (by omega)⟩, fun h => (hb.2 x).mpr ⟨h.1, fun s e a c d q => h.2 s e a c d (.inl q)⟩⟩⟩ (fun e Γ e0 e1 hi => ?_) (fun Γ hi => ?_)
      | refine ws_seq ?_
      | refine ws_asg ?_
      | refine we_bin ?_
      | refine we_cmp ?_
      | refine we_call ?_
      | refine we_blt ?_
      | refine we_lit ?_
      | (refine we_glb (by rfl) ?_)
      | (refine we_var (by rfl) ?_; try dsimp only [List.set, List.map, Mir.lend, List.getElem?_cons_zero, List.getElem?_cons_succ, List.cons_append, List.nil_append, List.foldl, Mir.lockAll, Mir.lock1, Mir.unlockAll, Mir.unlock1, Mir.restG, Mir.walked, Option.getD, Mir.look, Mir.Slot.d, Mir.XF])
      | (refine we_slot (by rfl) ?_; try dsimp only [List.set, List.map, Mir.lend, List.getElem?_cons_zero, List.getElem?_cons_succ, List.cons_append, List.nil_append, List.foldl, Mir.lockAll, Mir.lock1, Mir.unlockAll, Mir.unlock1, Mir.restG, Mir.walked, Option.getD, Mir.look, Mir.Slot.d, Mir.XF])
      | refine wes_cons ?_
      | refine wes_nil ?_
      | refine wvs_cons ?_
      | refine wvs_nil ?_
      | refine wv_val ?_
      | refine wv_tmp ?_
      | (refine wv_slot (by rfl) ?_; try dsimp only [List.set, List.map, Mir.lend, List.getElem?_cons_zero, List.getElem?_cons_succ, List.cons_append, List.nil_append, List.foldl, Mir.lockAll, Mir.lock1, Mir.unlockAll, Mir.unlock1, Mir.restG, Mir.walked, Option.getD, Mir.look, Mir.Slot.d, Mir.XF])
      | (refine wc (by rfl) ?_; try dsimp only [List.set, List.map, Mir.lend, List.getElem?_cons_zero, List.getElem?_cons_succ, List.cons_append, List.nil_append, List.foldl, Mir.lockAll, Mir.lock1, Mir.unlockAll, Mir.unlock1, Mir.restG, Mir.walked, Option.getD, Mir.look, Mir.Slot.d, Mir.XF])
      | (refine wz (by rfl) ?_; try dsimp only [List.set, List.map, Mir.lend, List.getElem?_cons_zero, List.getElem?_cons_succ, List.cons_append, List.nil_append, List.foldl, Mir.lockAll, Mir.lock1, Mir.unlockAll, Mir.unlock1, Mir.restG, Mir.walked, Option.getD, Mir.look, Mir.Slot.d, Mir.XF])
      | (refine wz_setv (by rfl) (by assumption) ?_; try dsimp only [List.set, List.map, Mir.lend, List.getElem?_cons_zero, List.getElem?_cons_succ, List.cons_append, List.nil_append, List.foldl, Mir.lockAll, Mir.lock1, Mir.unlockAll, Mir.unlock1, Mir.restG, Mir.walked, Option.getD, Mir.look, Mir.Slot.d, Mir.XF])
      | (refine wz_setw (by rfl) (by assumption) ?_; try dsimp only [List.set, List.map, Mir.lend, List.getElem?_cons_zero, List.getElem?_cons_succ, List.cons_append, List.nil_append, List.foldl, Mir.lockAll, Mir.lock1, Mir.unlockAll, Mir.unlock1, Mir.restG, Mir.walked, Option.getD, Mir.look, Mir.Slot.d, Mir.XF])
      | refine wo_f ?_
      | refine wo_t ?_
      | refine wline (by first | omega | exact Nat.le_of_ble_eq_true rfl) ?_
      | refine w2_add ?_
      | refine w2_sub ?_
      | refine w2_mul (by first | assumption | exact big_of ⟨by omega, by omega⟩ ⟨by omega, by omega⟩) ?_
      | refine w2_fdiv (by first | assumption | exact div_of (by omega) (by omega)) ?_
      | refine w2_mod (by omega) ?_
      | refine w2_lists (by first | omega | exact Nat.le_of_ble_eq_true rfl | (simp only [List.length_cons, List.length_nil]; omega)) ?_
      | refine w2_tups (by first | omega | (simp only [List.length_cons, List.length_nil, List.length_map, List.length_replicate]; omega)) ?_
      | refine wk_lt ?_
      | refine wk_le ?_
      | refine wk_gt ?_
      | refine wk_ge ?_
      | refine wk_eqI ?_
      | refine wk_neI ?_
      | refine wk_any (by first | assumption | rfl) ?_
      | refine wt_bool ?_
      | refine wt_any (by first | assumption | rfl) ?_
      | refine wand_t (by first | rfl | assumption | exact decide_eq_true (by omega) | exact nd_t (by omega)) ?_
      | refine wand_f (by first | rfl | assumption | exact decide_eq_false (by omega) | exact nd_f (by omega)) ?_
      | refine ws_ife ?_
      | (refine ws_ret ?_)
      | refine wz_ret ?_
      | refine wz_retT ?_
      | refine ws_skip ?_
      | refine ws_exp ?_
      | refine ws_par ?_
      | refine ws_asgT ?_
      | refine we_tup ?_
      | refine we_lst ?_
      | refine we_ix ?_
      | refine we_not ?_
      | refine we_and ?_
      | refine we_or ?_
      | refine we_ite ?_
      | refine we_chn ?_
      | refine we_comp ?_
      | refine wi_rng ?_
      | refine wi_sq ?_
      | refine wi_enm ?_
      | refine wn1 ⟨by omega, by omega⟩ ?_
      | refine wn2 ⟨by omega, by omega⟩ ⟨by omega, by omega⟩ ?_
      | refine wbd_nil ?_
      | refine wbd_one ?_
      | refine wb_len ?_
      | refine wb_lenT ?_
      | refine wb_min ?_
      | refine wb_max ?_
      | refine we_neg ?_
      | refine we_slc ?_
      | refine we_rev ?_
      | refine we_lsq ?_
      | refine we_tsq ?_
      | refine we_lrg ?_
      | refine we_trg ?_
      | refine ws_for ?_
      | refine ws_brk ?_
      | refine ws_cnt ?_
      | refine ws_retN ?_
      | refine wx_any (by first | assumption | rfl) ?_
      | refine ⟨_, rfl, ?_⟩
      | refine wfil (by rfl) (fun ht => ?_) (fun ht => ?_)
      | exact ⟨rfl, rfl⟩
    · obtain ⟨b, s5, h5, rfl, hb⟩ := hi
      have le : e.toNat < ls.length := by omega
      have ix : ixD (.tup (ls.map D.int)) (.int e) = .ok (.int ls[e.toNat]) := by
        refine ix_at (xs := ls.map D.int) (by omega) ?_
        rw [List.getElem?_map, List.getElem?_eq_getElem le]
        all_goals rfl
      have us := Ui_step (ls := ls) (s := i) (e := e) i0 e0 e1
      have tot : -R + Ui ls i (e - 1) + ls[e.toNat] = -R + Ui ls i e := by omega
      have w1 : b2 .add (.int (-R + Ui ls i (e - 1))) (.int ls[e.toNat]) = .ok (.val (.int (-R + Ui ls i e))) := by
        show Mir.R.ok (Opd.val (.int (-R + Ui ls i (e - 1) + ls[e.toNat]))) = _
        rw [tot]
      have dv : e - i + 1 ≠ 0 ∧ (e - i + 1).natAbs.log2 < 9000 := div_of (by omega) (by omega)
      have cn := cdv_neg (n := -R + Ui ls i e) (m := e - i + 1) (by omega)
      have e11 : e + 1 - 1 = e := by omega
      have mx : bapp .max [.int b, .int (-((-(-R + Ui ls i e)).fdiv (e - i + 1)))] = .ok (.val (.int (if cdv (-R + Ui ls i e) (e - i + 1) > b then cdv (-R + Ui ls i e) (e - i + 1) else b))) := by rw [cn]; rfl
      have fin : ∃ b' s5, Sv s5 ∧ [Slot.sh (.int R), .sh (loadsD ls), .sh (.int (if cdv (-R + Ui ls i e) (e - i + 1) > b then cdv (-R + Ui ls i e) (e - i + 1) else b)), .sh (.int i), .sh (.int (-R + Ui ls i e)), .sh (.int e)] = [Slot.sh (.int R), .sh (loadsD ls), .sh (.int b'), .sh (.int i), .sh (.int (-R + Ui ls i (e + 1 - 1))), s5] ∧ Best R ls b' fun s e' => s < i ∨ s = i ∧ e' < e + 1 := by
        rw [e11]
        refine ⟨_, _, Sv.v, rfl, by have := hb.1; split <;> omega, fun x => ?_⟩
        have cl := cdv_le (n := -R + Ui ls i e) (m := e - i + 1) (q := x) (by omega)
        have bx := hb.2 x
        have sp : (if cdv (-R + Ui ls i e) (e - i + 1) > b then cdv (-R + Ui ls i e) (e - i + 1) else b) ≤ x ↔ cdv (-R + Ui ls i e) (e - i + 1) ≤ x ∧ b ≤ x := by split <;> omega
        rw [sp, cl, bx]
        constructor
        · rintro ⟨a, c, d⟩
          refine ⟨c, fun s e' p q r z => ?_⟩
          by_cases y : s = i ∧ e' = e
          · obtain ⟨rfl, rfl⟩ := y
            omega
          · exact d s e' p q r (by omega)
        · rintro ⟨a, c⟩
          refine ⟨?_, a, fun s e' p q r z => c s e' p q r (by omega)⟩
          have := c i e i0 e0 e1 (.inr ⟨rfl, by omega⟩)
          omega
      repeat first
        | refine wx_any ix ?_
        | refine w2_any w1 ?_
        | refine w2_fdiv dv ?_
        | refine wb_any mx ?_
        | exact fin
        | refine ws_seq ?_
        | refine ws_asg ?_
        | refine we_bin ?_
        | refine we_cmp ?_
        | refine we_call ?_
        | refine we_blt ?_
        | refine we_lit ?_
        | (refine we_glb (by rfl) ?_)
        | (refine we_var (by rfl) ?_; try dsimp only [List.set, List.map, Mir.lend, List.getElem?_cons_zero, List.getElem?_cons_succ, List.cons_append, List.nil_append, List.foldl, Mir.lockAll, Mir.lock1, Mir.unlockAll, Mir.unlock1, Mir.restG, Mir.walked, Option.getD, Mir.look, Mir.Slot.d, Mir.XF])
        | (refine we_slot (by rfl) ?_; try dsimp only [List.set, List.map, Mir.lend, List.getElem?_cons_zero, List.getElem?_cons_succ, List.cons_append, List.nil_append, List.foldl, Mir.lockAll, Mir.lock1, Mir.unlockAll, Mir.unlock1, Mir.restG, Mir.walked, Option.getD, Mir.look, Mir.Slot.d, Mir.XF])
        | refine wes_cons ?_
        | refine wes_nil ?_
        | refine wvs_cons ?_
        | refine wvs_nil ?_
        | refine wv_val ?_
        | refine wv_tmp ?_
        | (refine wv_slot (by rfl) ?_; try dsimp only [List.set, List.map, Mir.lend, List.getElem?_cons_zero, List.getElem?_cons_succ, List.cons_append, List.nil_append, List.foldl, Mir.lockAll, Mir.lock1, Mir.unlockAll, Mir.unlock1, Mir.restG, Mir.walked, Option.getD, Mir.look, Mir.Slot.d, Mir.XF])
        | (refine wc (by rfl) ?_; try dsimp only [List.set, List.map, Mir.lend, List.getElem?_cons_zero, List.getElem?_cons_succ, List.cons_append, List.nil_append, List.foldl, Mir.lockAll, Mir.lock1, Mir.unlockAll, Mir.unlock1, Mir.restG, Mir.walked, Option.getD, Mir.look, Mir.Slot.d, Mir.XF])
        | (refine wz (by rfl) ?_; try dsimp only [List.set, List.map, Mir.lend, List.getElem?_cons_zero, List.getElem?_cons_succ, List.cons_append, List.nil_append, List.foldl, Mir.lockAll, Mir.lock1, Mir.unlockAll, Mir.unlock1, Mir.restG, Mir.walked, Option.getD, Mir.look, Mir.Slot.d, Mir.XF])
        | (refine wz_setv (by rfl) (by assumption) ?_; try dsimp only [List.set, List.map, Mir.lend, List.getElem?_cons_zero, List.getElem?_cons_succ, List.cons_append, List.nil_append, List.foldl, Mir.lockAll, Mir.lock1, Mir.unlockAll, Mir.unlock1, Mir.restG, Mir.walked, Option.getD, Mir.look, Mir.Slot.d, Mir.XF])
        | (refine wz_setw (by rfl) (by assumption) ?_; try dsimp only [List.set, List.map, Mir.lend, List.getElem?_cons_zero, List.getElem?_cons_succ, List.cons_append, List.nil_append, List.foldl, Mir.lockAll, Mir.lock1, Mir.unlockAll, Mir.unlock1, Mir.restG, Mir.walked, Option.getD, Mir.look, Mir.Slot.d, Mir.XF])
        | refine wo_f ?_
        | refine wo_t ?_
        | refine wline (by first | omega | exact Nat.le_of_ble_eq_true rfl) ?_
        | refine w2_add ?_
        | refine w2_sub ?_
        | refine w2_mul (by first | assumption | exact big_of ⟨by omega, by omega⟩ ⟨by omega, by omega⟩) ?_
        | refine w2_fdiv (by first | assumption | exact div_of (by omega) (by omega)) ?_
        | refine w2_mod (by omega) ?_
        | refine w2_lists (by first | omega | exact Nat.le_of_ble_eq_true rfl | (simp only [List.length_cons, List.length_nil]; omega)) ?_
        | refine w2_tups (by first | omega | (simp only [List.length_cons, List.length_nil, List.length_map, List.length_replicate]; omega)) ?_
        | refine wk_lt ?_
        | refine wk_le ?_
        | refine wk_gt ?_
        | refine wk_ge ?_
        | refine wk_eqI ?_
        | refine wk_neI ?_
        | refine wk_any (by first | assumption | rfl) ?_
        | refine wt_bool ?_
        | refine wt_any (by first | assumption | rfl) ?_
        | refine wand_t (by first | rfl | assumption | exact decide_eq_true (by omega) | exact nd_t (by omega)) ?_
        | refine wand_f (by first | rfl | assumption | exact decide_eq_false (by omega) | exact nd_f (by omega)) ?_
        | refine ws_ife ?_
        | (refine ws_ret ?_)
        | refine wz_ret ?_
        | refine wz_retT ?_
        | refine ws_skip ?_
        | refine ws_exp ?_
        | refine ws_par ?_
        | refine ws_asgT ?_
        | refine we_tup ?_
        | refine we_lst ?_
        | refine we_ix ?_
        | refine we_not ?_
        | refine we_and ?_
        | refine we_or ?_
        | refine we_ite ?_
        | refine we_chn ?_
        | refine we_comp ?_
        | refine wi_rng ?_
        | refine wi_sq ?_
        | refine wi_enm ?_
        | refine wn1 ⟨by omega, by omega⟩ ?_
        | refine wn2 ⟨by omega, by omega⟩ ⟨by omega, by omega⟩ ?_
        | refine wbd_nil ?_
        | refine wbd_one ?_
        | refine wb_len ?_
        | refine wb_lenT ?_
        | refine wb_min ?_
        | refine wb_max ?_
        | refine we_neg ?_
        | refine we_slc ?_
        | refine we_rev ?_
        | refine we_lsq ?_
        | refine we_tsq ?_
        | refine we_lrg ?_
        | refine we_trg ?_
        | refine ws_for ?_
        | refine ws_brk ?_
        | refine ws_cnt ?_
        | refine ws_retN ?_
        | refine wx_any (by first | assumption | rfl) ?_
        | refine ⟨_, rfl, ?_⟩
        | refine wfil (by rfl) (fun ht => ?_) (fun ht => ?_)
        | exact ⟨rfl, rfl⟩
    · obtain ⟨b, s5, h5, rfl, hb⟩ := hi
      have fin : ∃ b' s3 s4 s5', Sv s3 ∧ Sv s4 ∧ Sv s5' ∧ [Slot.sh (.int R), .sh (loadsD ls), .sh (.int b), .sh (.int i), .sh (.int (-R + Ui ls i ((ls.length : Int) - 1))), s5] = [Slot.sh (.int R), .sh (loadsD ls), .sh (.int b'), s3, s4, s5'] ∧ Best R ls b' fun s _ => s < i + 1 := ⟨_, _, _, _, Sv.v, Sv.v, h5, rfl, hb.1, fun x => by
        rw [hb.2 x]
        constructor
        · rintro ⟨a, c⟩
          exact ⟨a, fun s e p q r z => c s e p q r (by omega)⟩
        · rintro ⟨a, c⟩
          exact ⟨a, fun s e p q r z => c s e p q r (by omega)⟩⟩
      repeat first
        | exact fin
        | refine ws_seq ?_
        | refine ws_asg ?_
        | refine we_bin ?_
        | refine we_cmp ?_
        | refine we_call ?_
        | refine we_blt ?_
        | refine we_lit ?_
        | (refine we_glb (by rfl) ?_)
        | (refine we_var (by rfl) ?_; try dsimp only [List.set, List.map, Mir.lend, List.getElem?_cons_zero, List.getElem?_cons_succ, List.cons_append, List.nil_append, List.foldl, Mir.lockAll, Mir.lock1, Mir.unlockAll, Mir.unlock1, Mir.restG, Mir.walked, Option.getD, Mir.look, Mir.Slot.d, Mir.XF])
        | (refine we_slot (by rfl) ?_; try dsimp only [List.set, List.map, Mir.lend, List.getElem?_cons_zero, List.getElem?_cons_succ, List.cons_append, List.nil_append, List.foldl, Mir.lockAll, Mir.lock1, Mir.unlockAll, Mir.unlock1, Mir.restG, Mir.walked, Option.getD, Mir.look, Mir.Slot.d, Mir.XF])
        | refine wes_cons ?_
        | refine wes_nil ?_
        | refine wvs_cons ?_
        | refine wvs_nil ?_
        | refine wv_val ?_
        | refine wv_tmp ?_
        | (refine wv_slot (by rfl) ?_; try dsimp only [List.set, List.map, Mir.lend, List.getElem?_cons_zero, List.getElem?_cons_succ, List.cons_append, List.nil_append, List.foldl, Mir.lockAll, Mir.lock1, Mir.unlockAll, Mir.unlock1, Mir.restG, Mir.walked, Option.getD, Mir.look, Mir.Slot.d, Mir.XF])
        | (refine wc (by rfl) ?_; try dsimp only [List.set, List.map, Mir.lend, List.getElem?_cons_zero, List.getElem?_cons_succ, List.cons_append, List.nil_append, List.foldl, Mir.lockAll, Mir.lock1, Mir.unlockAll, Mir.unlock1, Mir.restG, Mir.walked, Option.getD, Mir.look, Mir.Slot.d, Mir.XF])
        | (refine wz (by rfl) ?_; try dsimp only [List.set, List.map, Mir.lend, List.getElem?_cons_zero, List.getElem?_cons_succ, List.cons_append, List.nil_append, List.foldl, Mir.lockAll, Mir.lock1, Mir.unlockAll, Mir.unlock1, Mir.restG, Mir.walked, Option.getD, Mir.look, Mir.Slot.d, Mir.XF])
        | (refine wz_setv (by rfl) (by assumption) ?_; try dsimp only [List.set, List.map, Mir.lend, List.getElem?_cons_zero, List.getElem?_cons_succ, List.cons_append, List.nil_append, List.foldl, Mir.lockAll, Mir.lock1, Mir.unlockAll, Mir.unlock1, Mir.restG, Mir.walked, Option.getD, Mir.look, Mir.Slot.d, Mir.XF])
        | (refine wz_setw (by rfl) (by assumption) ?_; try dsimp only [List.set, List.map, Mir.lend, List.getElem?_cons_zero, List.getElem?_cons_succ, List.cons_append, List.nil_append, List.foldl, Mir.lockAll, Mir.lock1, Mir.unlockAll, Mir.unlock1, Mir.restG, Mir.walked, Option.getD, Mir.look, Mir.Slot.d, Mir.XF])
        | refine wo_f ?_
        | refine wo_t ?_
        | refine wline (by first | omega | exact Nat.le_of_ble_eq_true rfl) ?_
        | refine w2_add ?_
        | refine w2_sub ?_
        | refine w2_mul (by first | assumption | exact big_of ⟨by omega, by omega⟩ ⟨by omega, by omega⟩) ?_
        | refine w2_fdiv (by first | assumption | exact div_of (by omega) (by omega)) ?_
        | refine w2_mod (by omega) ?_
        | refine w2_lists (by first | omega | exact Nat.le_of_ble_eq_true rfl | (simp only [List.length_cons, List.length_nil]; omega)) ?_
        | refine w2_tups (by first | omega | (simp only [List.length_cons, List.length_nil, List.length_map, List.length_replicate]; omega)) ?_
        | refine wk_lt ?_
        | refine wk_le ?_
        | refine wk_gt ?_
        | refine wk_ge ?_
        | refine wk_eqI ?_
        | refine wk_neI ?_
        | refine wk_any (by first | assumption | rfl) ?_
        | refine wt_bool ?_
        | refine wt_any (by first | assumption | rfl) ?_
        | refine wand_t (by first | rfl | assumption | exact decide_eq_true (by omega) | exact nd_t (by omega)) ?_
        | refine wand_f (by first | rfl | assumption | exact decide_eq_false (by omega) | exact nd_f (by omega)) ?_
        | refine ws_ife ?_
        | (refine ws_ret ?_)
        | refine wz_ret ?_
        | refine wz_retT ?_
        | refine ws_skip ?_
        | refine ws_exp ?_
        | refine ws_par ?_
        | refine ws_asgT ?_
        | refine we_tup ?_
        | refine we_lst ?_
        | refine we_ix ?_
        | refine we_not ?_
        | refine we_and ?_
        | refine we_or ?_
        | refine we_ite ?_
        | refine we_chn ?_
        | refine we_comp ?_
        | refine wi_rng ?_
        | refine wi_sq ?_
        | refine wi_enm ?_
        | refine wn1 ⟨by omega, by omega⟩ ?_
        | refine wn2 ⟨by omega, by omega⟩ ⟨by omega, by omega⟩ ?_
        | refine wbd_nil ?_
        | refine wbd_one ?_
        | refine wb_len ?_
        | refine wb_lenT ?_
        | refine wb_min ?_
        | refine wb_max ?_
        | refine we_neg ?_
        | refine we_slc ?_
        | refine we_rev ?_
        | refine we_lsq ?_
        | refine we_tsq ?_
        | refine we_lrg ?_
        | refine we_trg ?_
        | refine ws_for ?_
        | refine ws_brk ?_
        | refine ws_cnt ?_
        | refine ws_retN ?_
        | refine wx_any (by first | assumption | rfl) ?_
        | refine ⟨_, rfl, ?_⟩
        | refine wfil (by rfl) (fun ht => ?_) (fun ht => ?_)
        | exact ⟨rfl, rfl⟩
  · obtain ⟨b, s3, s4, s5, h3, h4, h5, rfl, hb⟩ := hi
    have hb' : Best R ls b fun _ _ => True := ⟨hb.1, fun x => by
      rw [hb.2 x]
      constructor
      · rintro ⟨a, c⟩
        exact ⟨a, fun s e p q r z => c s e p q r (by omega)⟩
      · rintro ⟨a, c⟩
        exact ⟨a, fun s e p q r z => c s e p q r trivial⟩⟩
    repeat first
      | exact ⟨_, ⟨b, rfl, hb'⟩, rfl, rfl⟩
      | refine ws_seq ?_
      | refine ws_asg ?_
      | refine we_bin ?_
      | refine we_cmp ?_
      | refine we_call ?_
      | refine we_blt ?_
      | refine we_lit ?_
      | (refine we_glb (by rfl) ?_)
      | (refine we_var (by rfl) ?_; try dsimp only [List.set, List.map, Mir.lend, List.getElem?_cons_zero, List.getElem?_cons_succ, List.cons_append, List.nil_append, List.foldl, Mir.lockAll, Mir.lock1, Mir.unlockAll, Mir.unlock1, Mir.restG, Mir.walked, Option.getD, Mir.look, Mir.Slot.d, Mir.XF])
      | (refine we_slot (by rfl) ?_; try dsimp only [List.set, List.map, Mir.lend, List.getElem?_cons_zero, List.getElem?_cons_succ, List.cons_append, List.nil_append, List.foldl, Mir.lockAll, Mir.lock1, Mir.unlockAll, Mir.unlock1, Mir.restG, Mir.walked, Option.getD, Mir.look, Mir.Slot.d, Mir.XF])
      | refine wes_cons ?_
      | refine wes_nil ?_
      | refine wvs_cons ?_
      | refine wvs_nil ?_
      | refine wv_val ?_
      | refine wv_tmp ?_
      | (refine wv_slot (by rfl) ?_; try dsimp only [List.set, List.map, Mir.lend, List.getElem?_cons_zero, List.getElem?_cons_succ, List.cons_append, List.nil_append, List.foldl, Mir.lockAll, Mir.lock1, Mir.unlockAll, Mir.unlock1, Mir.restG, Mir.walked, Option.getD, Mir.look, Mir.Slot.d, Mir.XF])
      | (refine wc (by rfl) ?_; try dsimp only [List.set, List.map, Mir.lend, List.getElem?_cons_zero, List.getElem?_cons_succ, List.cons_append, List.nil_append, List.foldl, Mir.lockAll, Mir.lock1, Mir.unlockAll, Mir.unlock1, Mir.restG, Mir.walked, Option.getD, Mir.look, Mir.Slot.d, Mir.XF])
      | (refine wz (by rfl) ?_; try dsimp only [List.set, List.map, Mir.lend, List.getElem?_cons_zero, List.getElem?_cons_succ, List.cons_append, List.nil_append, List.foldl, Mir.lockAll, Mir.lock1, Mir.unlockAll, Mir.unlock1, Mir.restG, Mir.walked, Option.getD, Mir.look, Mir.Slot.d, Mir.XF])
      | (refine wz_setv (by rfl) (by assumption) ?_; try dsimp only [List.set, List.map, Mir.lend, List.getElem?_cons_zero, List.getElem?_cons_succ, List.cons_append, List.nil_append, List.foldl, Mir.lockAll, Mir.lock1, Mir.unlockAll, Mir.unlock1, Mir.restG, Mir.walked, Option.getD, Mir.look, Mir.Slot.d, Mir.XF])
      | (refine wz_setw (by rfl) (by assumption) ?_; try dsimp only [List.set, List.map, Mir.lend, List.getElem?_cons_zero, List.getElem?_cons_succ, List.cons_append, List.nil_append, List.foldl, Mir.lockAll, Mir.lock1, Mir.unlockAll, Mir.unlock1, Mir.restG, Mir.walked, Option.getD, Mir.look, Mir.Slot.d, Mir.XF])
      | refine wo_f ?_
      | refine wo_t ?_
      | refine wline (by first | omega | exact Nat.le_of_ble_eq_true rfl) ?_
      | refine w2_add ?_
      | refine w2_sub ?_
      | refine w2_mul (by first | assumption | exact big_of ⟨by omega, by omega⟩ ⟨by omega, by omega⟩) ?_
      | refine w2_fdiv (by first | assumption | exact div_of (by omega) (by omega)) ?_
      | refine w2_mod (by omega) ?_
      | refine w2_lists (by first | omega | exact Nat.le_of_ble_eq_true rfl | (simp only [List.length_cons, List.length_nil]; omega)) ?_
      | refine w2_tups (by first | omega | (simp only [List.length_cons, List.length_nil, List.length_map, List.length_replicate]; omega)) ?_
      | refine wk_lt ?_
      | refine wk_le ?_
      | refine wk_gt ?_
      | refine wk_ge ?_
      | refine wk_eqI ?_
      | refine wk_neI ?_
      | refine wk_any (by first | assumption | rfl) ?_
      | refine wt_bool ?_
      | refine wt_any (by first | assumption | rfl) ?_
      | refine wand_t (by first | rfl | assumption | exact decide_eq_true (by omega) | exact nd_t (by omega)) ?_
      | refine wand_f (by first | rfl | assumption | exact decide_eq_false (by omega) | exact nd_f (by omega)) ?_
      | refine ws_ife ?_
      | (refine ws_ret ?_)
      | refine wz_ret ?_
      | refine wz_retT ?_
      | refine ws_skip ?_
      | refine ws_exp ?_
      | refine ws_par ?_
      | refine ws_asgT ?_
      | refine we_tup ?_
      | refine we_lst ?_
      | refine we_ix ?_
      | refine we_not ?_
      | refine we_and ?_
      | refine we_or ?_
      | refine we_ite ?_
      | refine we_chn ?_
      | refine we_comp ?_
      | refine wi_rng ?_
      | refine wi_sq ?_
      | refine wi_enm ?_
      | refine wn1 ⟨by omega, by omega⟩ ?_
      | refine wn2 ⟨by omega, by omega⟩ ⟨by omega, by omega⟩ ?_
      | refine wbd_nil ?_
      | refine wbd_one ?_
      | refine wb_len ?_
      | refine wb_lenT ?_
      | refine wb_min ?_
      | refine wb_max ?_
      | refine we_neg ?_
      | refine we_slc ?_
      | refine we_rev ?_
      | refine we_lsq ?_
      | refine we_tsq ?_
      | refine we_lrg ?_
      | refine we_trg ?_
      | refine ws_for ?_
      | refine ws_brk ?_
      | refine ws_cnt ?_
      | refine ws_retN ?_
      | refine wx_any (by first | assumption | rfl) ?_
      | refine ⟨_, rfl, ?_⟩
      | refine wfil (by rfl) (fun ht => ?_) (fun ht => ?_)
      | exact ⟨rfl, rfl⟩
end Law

set_option Elab.async false
set_option autoImplicit false
set_option linter.all false
set_option maxRecDepth 100000
set_option maxHeartbeats 4000000
namespace Law
open PySem Mir
theorem wl_rngFE {E : Sem} {tg : Tg} {c elt : Ex} {own : List Nat} {Γ : G} (g : Int → D) (p : Int → Bool) {lo hi : Int} {xs : List D} {K : List D → G → Prop} (he : ((il lo hi).filter p).map g = xs) (hl : hi - lo ≤ 16000000) (hs : ∀ a, lo ≤ a ∧ a < hi → Wz (bindTg tg (.int a) Γ) fun Γ2 => We E c Γ2 fun y Γ3 => Wt (look Γ3 y) fun t => t = p a ∧ (t = true → We E elt Γ3 fun y Γ4 => Wv y Γ4 fun d Γ5 => Wz (wipeG Γ5 own) fun Γ6 => d = g a ∧ Γ6 = Γ) ∧ (t = false → Wz (wipeG Γ3 own) fun Γ4 => Γ4 = Γ)) (k : K xs Γ) : Wl E tg (.cons c .nil) elt own (rangeL lo hi) [] Γ K := wl_rngF g p hl hs (by rw [he]; exact k)
theorem pls_int (ns : List Int) : D.pls (ns.map .int) = true := by
  induction ns with
  | nil => rfl
  | cons n ns ih => exact ih
theorem deps_int (ns : List Int) : D.deps (ns.map .int) = 0 := by
  induction ns with
  | nil => rfl
  | cons n ns ih =>
    show max (D.dep (.int n)) (D.deps (ns.map .int)) = 0
    rw [ih]
    all_goals rfl
theorem eqvs_int (ns : List Int) : D.eqvs (ns.map .int) (ns.map .int) = true := by
  induction ns with
  | nil => rfl
  | cons n ns ih =>
    show ((n == n) && D.eqvs (ns.map .int) (ns.map .int)) = true
    rw [ih, beq_self_eq_true]
    all_goals rfl
theorem ne_same (ns : List Int) : c2 .ne (.list (ns.map .int)) (.list (ns.map .int)) = .ok false := by
  have h : eqOk (.list (ns.map .int)) (.list (ns.map .int)) = true := by
    show (D.pls (ns.map .int) && D.pls (ns.map .int) && (decide (D.deps (ns.map .int) + 1 ≤ 64) || _)) = true
    rw [pls_int, deps_int]
    all_goals rfl
  show (if eqOk (.list (ns.map .int)) (.list (ns.map .int)) = true then R.ok (!D.eqvs (ns.map .int) (ns.map .int)) else .no) = _
  rw [if_pos h, eqvs_int]
  all_goals rfl
theorem in_ints (j : Int) (ns : List Int) : c2 .inn (.int j) (.list (ns.map .int)) = .ok (ns.any fun i => i == j) := by
  have h : inOk (.int j) (ns.map .int) = true := by
    show (true && D.pls (ns.map .int) && (true || _)) = true
    rw [pls_int]
    all_goals rfl
  show (if inOk (.int j) (ns.map .int) = true then R.ok ((ns.map D.int).any fun y => D.eqv y (.int j)) else .no) = _
  rw [if_pos h, List.any_map]
  all_goals rfl
theorem twelve : ∀ d : Fin 10, (il 0 12).filter (fun i => decide ((d : Int) ≤ i)) = il d 12 ∧ (il d 12)[0]? = some (d : Int) ∧ ∀ j : Fin 11, (il d 12).any (fun i => i == (j : Int)) = decide ((d : Int) ≤ (j : Int)) := by decide +kernel
theorem tks_sub {S x : Int} (hx : x ≤ S) : ∀ m : List Int, (∀ l ∈ m, 0 ≤ l) → tks S (m.map fun l => x - l) = m.sum - m.length * x := by
  intro m
  induction m with
  | nil => intro _; show (0 : Int) = 0 - ((0 : Nat) : Int) * x; omega
  | cons l m ih =>
    intro h
    have a := h l List.mem_cons_self
    rw [List.map_cons, tks_cons, ih fun y hy => h y (List.mem_cons_of_mem _ hy), List.sum_cons, List.length_cons]
    have e : ((m.length + 1 : Nat) : Int) * x = m.length * x + x := by rw [Int.natCast_add, Int.add_mul]; omega
    have t : tk S (x - l) = l - x := by
      show -(if S < x - l then S else x - l) = _
      rw [if_neg (by omega)]
      omega
    omega
theorem T_hrs {S x : Int} {ls : List Int} (hx : x ≤ S) (hl : ∀ l ∈ ls, 0 ≤ l) {s e : Nat} (h1 : s ≤ e) (h2 : e < ls.length) : T S (hrs ls x) s e = Ui ls s e - ((e : Int) - s + 1) * x := by
  unfold T hrs
  rw [← List.map_drop, ← List.map_take, tks_sub hx _ fun l h => hl l (List.mem_of_mem_drop (List.mem_of_mem_take h))]
  have z : ((e : Int) + 1 - (s : Int)).toNat = e + 1 - s := by omega
  have q : (((ls.drop s).take (e + 1 - s)).length : Int) = (e : Int) - s + 1 := by
    rw [List.length_take, List.length_drop]
    omega
  rw [q]
  unfold Ui
  rw [z, Int.toNat_natCast]
/-- strong enough for all -/
theorem en_strong {st : Int × Int} (hs : StOk st) {ls : List Int} (hl : ∀ l ∈ ls, 0 ≤ l ∧ l ≤ st.2) {x : Int} (h0 : 0 ≤ x) (hx : x ≤ st.2) : en st ls x = true ↔ ∀ s e : Int, 0 ≤ s → s ≤ e → e < ls.length → Ui ls s e - st.1 ≤ x * (e - s + 1) := by
  have kd := keeps_dark (R := st.1) (S := st.2) (by have := hs.2.2.1; omega) (by have := hs.1; omega) (hrs ls x)
  show keeps st.1 st.2 st.1 (hrs ls x) = true ↔ _
  rw [kd]
  constructor
  · rintro ⟨a, b⟩ s e s0 s1 e1
    have z := b s.toNat e.toNat (by omega) (by rw [hrs_len]; omega)
    rw [T_hrs hx (fun l h => (hl l h).1) (by omega) (by omega), Int.toNat_of_nonneg s0, Int.toNat_of_nonneg (by omega), Int.mul_comm] at z
    omega
  · intro h
    refine ⟨fun y hy => ?_, fun s e s1 e1 => ?_⟩
    · obtain ⟨l, m, rfl⟩ := List.mem_map.mp hy
      have := hl l m
      omega
    · rw [hrs_len] at e1
      have z := h s e (by omega) (by omega) (by omega)
      rw [T_hrs hx (fun l h => (hl l h).1) s1 e1, Int.mul_comm]
      omega
theorem best_is {st : Int × Int} (hs : StOk st) {ls : List Int} (hl : ∀ l ∈ ls, 0 ≤ l ∧ l ≤ st.2) {b d : Int} (hb : Best st.1 ls b fun _ _ => True) (hd : IsDraw st ls d) (hdS : d ≤ st.2) : b = d := by
  have key : ∀ x, 0 ≤ x → x ≤ st.2 → (en st ls x = true ↔ b ≤ x) := fun x h0 h1 => by
    rw [en_strong hs hl h0 h1, hb.2 x]
    exact ⟨fun h => ⟨h0, fun s e p q r _ => h s e p q r⟩, fun h s e p q r => h.2 s e p q r trivial⟩
  have a := (key d hd.1 hdS).mp hd.2.1
  apply Int.le_antisymm a
  apply Int.not_lt.mp
  intro z
  have w := (key b hb.1 (by omega)).mpr (Int.le_refl _)
  rw [hd.2.2 b hb.1 z] at w
  cases w
theorem small (c0 c1 : Int) (hc : CupOk c0 c1) : ∃ d0 d1, CupOk d0 d1 ∧ ∀ k, 8 ≤ k → callN Tb k 3 [cupS c0 c1] = .ok (.bool true, false, [cupS d0 d1]) := by
  obtain ⟨x, a0, a1, x0, x1, ok1, q1⟩ := roll c0 c1 9 hc (by decide) (by decide)
  obtain ⟨y, b0, b1, y0, y1, ok2, q2⟩ := roll a0 a1 9 ok1 (by decide) (by decide)
  obtain ⟨ls, d0, d1, ⟨hlen, hls⟩, ok3, q3⟩ := loads_of 8 9 b0 b1 (by decide) (by decide) ok2
  refine ⟨d0, d1, ok3, fun k hk => ?_⟩
  have sok : StOk (1 + x, 1 + y) := ⟨by show 1 ≤ 1 + x; omega, by show 1 + x ≤ 1000000; omega, by show 1 ≤ 1 + y; omega, by show 1 + y ≤ 1000000; omega⟩
  have lok : LdOk ls := ⟨by omega, fun l h => by have := hls l h; omega⟩
  obtain ⟨d, d9, hd⟩ := draw_is sok (b := 9) (by decide) fun l h => (hls l h).2
  have dd := hd.1
  obtain ⟨t1, t2, t3⟩ := twelve ⟨d.toNat, by omega⟩
  have dn : ((d.toNat : Nat) : Int) = d := Int.toNat_of_nonneg dd
  dsimp only at t1 t2 t3
  rw [dn] at t1 t2 t3
  have good : (il 0 12).filter (fun i => en (1 + x, 1 + y) ls i) = il d 12 := by
    rw [← t1]
    refine List.filter_congr fun i hi => ?_
    exact draw_en hd (il_mem hi).1
  have gm : ((il 0 12).filter fun i => en (1 + x, 1 + y) ls i).map D.int = (il d 12).map D.int := by rw [good]
  have ix : ixD (.list ((il d 12).map D.int)) (.int 0) = .ok (.int d) := ix_at (by decide) (by rw [List.getElem?_map]; show Option.map D.int (il d 12)[0]? = _; rw [t2]; rfl)
  have rg : rngX [.int d, .int 12] = .ok ((il d 12).map .int) := by
    rw [← rangeL_il]
    show (if rngOk d && rngOk 12 then R.ok (rangeL d 12) else .no).bind _ = _
    have r12 : rngOk 12 = true := by decide
    rw [show rngOk d = true from decide_eq_true (by omega), r12]
    show (if line (rangeL d 12).length then R.ok (rangeL d 12) else .no) = _
    have hln : line (rangeL d 12).length = true := decide_eq_true (by rw [rangeL_len]; omega)
    rw [hln]
    all_goals rfl
  have inn : ∀ j : Int, 0 ≤ j → j ≤ 10 → c2 .inn (.int j) (.list ((il d 12).map D.int)) = .ok (decide (d ≤ j)) := fun j h0 h1 => by
    have z := t3 ⟨j.toNat, by omega⟩
    dsimp only at z
    rw [Int.toNat_of_nonneg h0] at z
    rw [in_ints, z]
  obtain ⟨n, rfl⟩ : ∃ n, k = n + 1 := ⟨k - 1, by omega⟩
  refine wd (fn := fn3) rfl rfl fun C hC => ?_
  dsimp only [fn3, tm3, Nat.reduceSub, List.replicate, List.cons_append, List.nil_append]
  have e1 := q1 n (by omega)
  have e2 := q2 n (by omega)
  have e3 := q3 n (by omega)
  have e4 : ∀ j : Int, callN Tb n 7 [.sh (storeD (1 + x, 1 + y)), .sh (loadsD ls), .sh (.int j)] = .ok (.bool (en (1 + x, 1 + y) ls j), false, [.emp, .emp, .emp]) := fun j => law_enough (by omega)
  have e5 := least_draw (k := n) (by omega) sok lok hd
  have e6 := like_int (k := n) (i := d) (by omega)
  have e7 : ∀ j : Int, 0 ≤ j ∧ j ≤ 10 → callN Tb n 9 [.sh (storeD (1 + x, 1 + y)), .sh (loadsD ls), .sh (.int j), .sh (.bool (decide (d ≤ j)))] = .ok (.bool true, false, [.emp, .emp, .emp, .emp]) := fun j hj => draw_right (by omega) sok lok hj.1 (by omega) (draw_en hd hj.1).symm
  rw [← hC] at e1 e2 e3 e4 e5 e6 e7
  have hmax : bapp .max [.tup (ls.map .int ++ [.int 0])] = .ok (.val (.int (mxI (ls ++ [0])))) := bmaxT (ints_app (ints_map ls) rfl) (by simp)
  have hlm : (ls.map D.int).length ≤ 8 := by rw [List.length_map]; omega
  have mx1 : bapp .max [.int 0, .int (d - 1)] = .ok (.val (.int (if d - 1 > 0 then d - 1 else 0))) := rfl
  have hm1 : 0 ≤ (if d - 1 > 0 then d - 1 else 0) ∧ (if d - 1 > 0 then d - 1 else 0) ≤ 10 := by split <;> omega
  generalize (if d - 1 > 0 then d - 1 else 0) = m1 at mx1 hm1
  repeat first
    | refine wl_rngFE (fun i => .int i) (fun i => en (1 + x, 1 + y) ls i) (lo := 0) (hi := 12) gm (by omega) (fun i hi => ?_) ?_
    | refine wx_any ix ?_
    | refine wz rg ?_
    | refine wk_any (ne_same _) ?_
    | refine ws_same (s := .ife (.and (.cmp .ge _ _) _) _ _) ?_ ?_
    | refine wb_any mx1 ?_
    | refine wf_map (l := [0, m1, d, d + 1]) (h := .int) (fun _ Γ => ∃ s, Sv s ∧ Γ = [cupS d0 d1, .sh (storeD (1 + x, 1 + y)), .sh (loadsD ls), .li ((il d 12).map .int) false .own, s]) ⟨_, Sv.e, rfl⟩ (fun j don rest Γ el hi => ?_) (fun Γ hi => ?_)
    | refine ws_seq ?_
    | refine ws_asg ?_
    | refine we_bin ?_
    | refine we_cmp ?_
    | refine we_call ?_
    | refine we_blt ?_
    | refine we_lit ?_
    | (refine we_glb (by rfl) ?_)
    | (refine we_var (by rfl) ?_; try dsimp only [List.set, List.map, Mir.lend, List.getElem?_cons_zero, List.getElem?_cons_succ, List.cons_append, List.nil_append, List.foldl, Mir.lockAll, Mir.lock1, Mir.unlockAll, Mir.unlock1, Mir.restG, Mir.walked, Option.getD, Mir.look, Mir.Slot.d, Mir.XF])
    | (refine we_slot (by rfl) ?_; try dsimp only [List.set, List.map, Mir.lend, List.getElem?_cons_zero, List.getElem?_cons_succ, List.cons_append, List.nil_append, List.foldl, Mir.lockAll, Mir.lock1, Mir.unlockAll, Mir.unlock1, Mir.restG, Mir.walked, Option.getD, Mir.look, Mir.Slot.d, Mir.XF])
    | refine wes_cons ?_
    | refine wes_nil ?_
    | refine wvs_cons ?_
    | refine wvs_nil ?_
    | refine wv_val ?_
    | refine wv_tmp ?_
    | (refine wv_slot (by rfl) ?_; try dsimp only [List.set, List.map, Mir.lend, List.getElem?_cons_zero, List.getElem?_cons_succ, List.cons_append, List.nil_append, List.foldl, Mir.lockAll, Mir.lock1, Mir.unlockAll, Mir.unlock1, Mir.restG, Mir.walked, Option.getD, Mir.look, Mir.Slot.d, Mir.XF])
    | (refine wc (by rfl) ?_; try dsimp only [List.set, List.map, Mir.lend, List.getElem?_cons_zero, List.getElem?_cons_succ, List.cons_append, List.nil_append, List.foldl, Mir.lockAll, Mir.lock1, Mir.unlockAll, Mir.unlock1, Mir.restG, Mir.walked, Option.getD, Mir.look, Mir.Slot.d, Mir.XF])
    | (refine wr e1 ?_)
    | (refine wr e2 ?_)
    | (refine wr e3 ?_)
    | (refine wr (e4 _) ?_)
    | (refine wr e5 ?_)
    | (refine wr e6 ?_)
    | (refine wz (by rfl) ?_; try dsimp only [List.set, List.map, Mir.lend, List.getElem?_cons_zero, List.getElem?_cons_succ, List.cons_append, List.nil_append, List.foldl, Mir.lockAll, Mir.lock1, Mir.unlockAll, Mir.unlock1, Mir.restG, Mir.walked, Option.getD, Mir.look, Mir.Slot.d, Mir.XF])
    | (refine wz_setv (by rfl) (by assumption) ?_; try dsimp only [List.set, List.map, Mir.lend, List.getElem?_cons_zero, List.getElem?_cons_succ, List.cons_append, List.nil_append, List.foldl, Mir.lockAll, Mir.lock1, Mir.unlockAll, Mir.unlock1, Mir.restG, Mir.walked, Option.getD, Mir.look, Mir.Slot.d, Mir.XF])
    | (refine wz_setw (by rfl) (by assumption) ?_; try dsimp only [List.set, List.map, Mir.lend, List.getElem?_cons_zero, List.getElem?_cons_succ, List.cons_append, List.nil_append, List.foldl, Mir.lockAll, Mir.lock1, Mir.unlockAll, Mir.unlock1, Mir.restG, Mir.walked, Option.getD, Mir.look, Mir.Slot.d, Mir.XF])
    | refine wo_f ?_
    | refine wo_t ?_
    | refine wline (by first | omega | exact Nat.le_of_ble_eq_true rfl) ?_
    | refine w2_add ?_
    | refine w2_sub ?_
    | refine w2_mul (by first | assumption | exact big_of ⟨by omega, by omega⟩ ⟨by omega, by omega⟩) ?_
    | refine w2_fdiv (by first | assumption | exact div_of (by omega) (by omega)) ?_
    | refine w2_mod (by omega) ?_
    | refine w2_lists (by first | omega | exact Nat.le_of_ble_eq_true rfl | (simp only [List.length_cons, List.length_nil]; omega)) ?_
    | refine w2_tups (by first | omega | (simp only [List.length_cons, List.length_nil, List.length_map, List.length_replicate]; omega)) ?_
    | refine wk_lt ?_
    | refine wk_le ?_
    | refine wk_gt ?_
    | refine wk_ge ?_
    | refine wk_eqI ?_
    | refine wk_neI ?_
    | refine wk_any (by first | assumption | rfl) ?_
    | refine wt_bool ?_
    | refine wt_any (by first | assumption | rfl) ?_
    | refine wand_t (by first | rfl | assumption | exact decide_eq_true (by omega) | exact nd_t (by omega)) ?_
    | refine wand_f (by first | rfl | assumption | exact decide_eq_false (by omega) | exact nd_f (by omega)) ?_
    | refine ws_ife ?_
    | (refine ws_ret ?_)
    | refine wz_ret ?_
    | refine wz_retT ?_
    | refine ws_skip ?_
    | refine ws_exp ?_
    | refine ws_par ?_
    | refine ws_asgT ?_
    | refine we_tup ?_
    | refine we_lst ?_
    | refine we_ix ?_
    | refine we_not ?_
    | refine we_and ?_
    | refine we_or ?_
    | refine we_ite ?_
    | refine we_chn ?_
    | refine we_comp ?_
    | refine wi_rng ?_
    | refine wi_sq ?_
    | refine wi_enm ?_
    | refine wn1 ⟨by omega, by omega⟩ ?_
    | refine wn2 ⟨by omega, by omega⟩ ⟨by omega, by omega⟩ ?_
    | refine wbd_nil ?_
    | refine wbd_one ?_
    | refine wb_len ?_
    | refine wb_lenT ?_
    | refine wb_min ?_
    | refine wb_max ?_
    | refine we_neg ?_
    | refine we_slc ?_
    | refine we_rev ?_
    | refine we_lsq ?_
    | refine we_tsq ?_
    | refine we_lrg ?_
    | refine we_trg ?_
    | refine ws_for ?_
    | refine ws_brk ?_
    | refine ws_cnt ?_
    | refine ws_retN ?_
    | refine wx_any (by first | assumption | rfl) ?_
    | refine ⟨_, rfl, ?_⟩
    | refine wfil (by rfl) (fun ht => ?_) (fun ht => ?_)
    | exact ⟨rfl, rfl⟩
  · obtain ⟨s, h4, rfl⟩ := hi
    have hj : 0 ≤ j ∧ j ≤ 10 := by
      have m : j ∈ [0, m1, d, d + 1] := by rw [el]; exact List.mem_append_right _ List.mem_cons_self
      simp only [List.mem_cons, List.not_mem_nil, or_false] at m
      omega
    have e8 := e7 j hj
    have i1 := inn j hj.1 hj.2
    have fin : ∃ s, Sv s ∧ [cupS d0 d1, .sh (storeD (1 + x, 1 + y)), .sh (loadsD ls), .li ((il d 12).map .int) false .own, .sh (.int j)] = [cupS d0 d1, .sh (storeD (1 + x, 1 + y)), .sh (loadsD ls), .li ((il d 12).map .int) false .own, s] := ⟨_, Sv.v, rfl⟩
    rcases h4 with rfl | ⟨v, rfl⟩
    · repeat first
        | refine wk_any i1 ?_
        | exact fin
        | refine ws_seq ?_
        | refine ws_asg ?_
        | refine we_bin ?_
        | refine we_cmp ?_
        | refine we_call ?_
        | refine we_blt ?_
        | refine we_lit ?_
        | (refine we_glb (by rfl) ?_)
        | (refine we_var (by rfl) ?_; try dsimp only [List.set, List.map, Mir.lend, List.getElem?_cons_zero, List.getElem?_cons_succ, List.cons_append, List.nil_append, List.foldl, Mir.lockAll, Mir.lock1, Mir.unlockAll, Mir.unlock1, Mir.restG, Mir.walked, Option.getD, Mir.look, Mir.Slot.d, Mir.XF])
        | (refine we_slot (by rfl) ?_; try dsimp only [List.set, List.map, Mir.lend, List.getElem?_cons_zero, List.getElem?_cons_succ, List.cons_append, List.nil_append, List.foldl, Mir.lockAll, Mir.lock1, Mir.unlockAll, Mir.unlock1, Mir.restG, Mir.walked, Option.getD, Mir.look, Mir.Slot.d, Mir.XF])
        | refine wes_cons ?_
        | refine wes_nil ?_
        | refine wvs_cons ?_
        | refine wvs_nil ?_
        | refine wv_val ?_
        | refine wv_tmp ?_
        | (refine wv_slot (by rfl) ?_; try dsimp only [List.set, List.map, Mir.lend, List.getElem?_cons_zero, List.getElem?_cons_succ, List.cons_append, List.nil_append, List.foldl, Mir.lockAll, Mir.lock1, Mir.unlockAll, Mir.unlock1, Mir.restG, Mir.walked, Option.getD, Mir.look, Mir.Slot.d, Mir.XF])
        | (refine wc (by rfl) ?_; try dsimp only [List.set, List.map, Mir.lend, List.getElem?_cons_zero, List.getElem?_cons_succ, List.cons_append, List.nil_append, List.foldl, Mir.lockAll, Mir.lock1, Mir.unlockAll, Mir.unlock1, Mir.restG, Mir.walked, Option.getD, Mir.look, Mir.Slot.d, Mir.XF])
        | (refine wr e8 ?_)
        | (refine wz (by rfl) ?_; try dsimp only [List.set, List.map, Mir.lend, List.getElem?_cons_zero, List.getElem?_cons_succ, List.cons_append, List.nil_append, List.foldl, Mir.lockAll, Mir.lock1, Mir.unlockAll, Mir.unlock1, Mir.restG, Mir.walked, Option.getD, Mir.look, Mir.Slot.d, Mir.XF])
        | (refine wz_setv (by rfl) (by assumption) ?_; try dsimp only [List.set, List.map, Mir.lend, List.getElem?_cons_zero, List.getElem?_cons_succ, List.cons_append, List.nil_append, List.foldl, Mir.lockAll, Mir.lock1, Mir.unlockAll, Mir.unlock1, Mir.restG, Mir.walked, Option.getD, Mir.look, Mir.Slot.d, Mir.XF])
        | (refine wz_setw (by rfl) (by assumption) ?_; try dsimp only [List.set, List.map, Mir.lend, List.getElem?_cons_zero, List.getElem?_cons_succ, List.cons_append, List.nil_append, List.foldl, Mir.lockAll, Mir.lock1, Mir.unlockAll, Mir.unlock1, Mir.restG, Mir.walked, Option.getD, Mir.look, Mir.Slot.d, Mir.XF])
        | refine wo_f ?_
        | refine wo_t ?_
        | refine wline (by first | omega | exact Nat.le_of_ble_eq_true rfl) ?_
        | refine w2_add ?_
        | refine w2_sub ?_
        | refine w2_mul (by first | assumption | exact big_of ⟨by omega, by omega⟩ ⟨by omega, by omega⟩) ?_
        | refine w2_fdiv (by first | assumption | exact div_of (by omega) (by omega)) ?_
        | refine w2_mod (by omega) ?_
        | refine w2_lists (by first | omega | exact Nat.le_of_ble_eq_true rfl | (simp only [List.length_cons, List.length_nil]; omega)) ?_
        | refine w2_tups (by first | omega | (simp only [List.length_cons, List.length_nil, List.length_map, List.length_replicate]; omega)) ?_
        | refine wk_lt ?_
        | refine wk_le ?_
        | refine wk_gt ?_
        | refine wk_ge ?_
        | refine wk_eqI ?_
        | refine wk_neI ?_
        | refine wk_any (by first | assumption | rfl) ?_
        | refine wt_bool ?_
        | refine wt_any (by first | assumption | rfl) ?_
        | refine wand_t (by first | rfl | assumption | exact decide_eq_true (by omega) | exact nd_t (by omega)) ?_
        | refine wand_f (by first | rfl | assumption | exact decide_eq_false (by omega) | exact nd_f (by omega)) ?_
        | refine ws_ife ?_
        | (refine ws_ret ?_)
        | refine wz_ret ?_
        | refine wz_retT ?_
        | refine ws_skip ?_
        | refine ws_exp ?_
        | refine ws_par ?_
        | refine ws_asgT ?_
        | refine we_tup ?_
        | refine we_lst ?_
        | refine we_ix ?_
        | refine we_not ?_
        | refine we_and ?_
        | refine we_or ?_
        | refine we_ite ?_
        | refine we_chn ?_
        | refine we_comp ?_
        | refine wi_rng ?_
        | refine wi_sq ?_
        | refine wi_enm ?_
        | refine wn1 ⟨by omega, by omega⟩ ?_
        | refine wn2 ⟨by omega, by omega⟩ ⟨by omega, by omega⟩ ?_
        | refine wbd_nil ?_
        | refine wbd_one ?_
        | refine wb_len ?_
        | refine wb_lenT ?_
        | refine wb_min ?_
        | refine wb_max ?_
        | refine we_neg ?_
        | refine we_slc ?_
        | refine we_rev ?_
        | refine we_lsq ?_
        | refine we_tsq ?_
        | refine we_lrg ?_
        | refine we_trg ?_
        | refine ws_for ?_
        | refine ws_brk ?_
        | refine ws_cnt ?_
        | refine ws_retN ?_
        | refine wx_any (by first | assumption | rfl) ?_
        | refine ⟨_, rfl, ?_⟩
        | refine wfil (by rfl) (fun ht => ?_) (fun ht => ?_)
        | exact ⟨rfl, rfl⟩
    · repeat first
        | refine wk_any i1 ?_
        | exact fin
        | refine ws_seq ?_
        | refine ws_asg ?_
        | refine we_bin ?_
        | refine we_cmp ?_
        | refine we_call ?_
        | refine we_blt ?_
        | refine we_lit ?_
        | (refine we_glb (by rfl) ?_)
        | (refine we_var (by rfl) ?_; try dsimp only [List.set, List.map, Mir.lend, List.getElem?_cons_zero, List.getElem?_cons_succ, List.cons_append, List.nil_append, List.foldl, Mir.lockAll, Mir.lock1, Mir.unlockAll, Mir.unlock1, Mir.restG, Mir.walked, Option.getD, Mir.look, Mir.Slot.d, Mir.XF])
        | (refine we_slot (by rfl) ?_; try dsimp only [List.set, List.map, Mir.lend, List.getElem?_cons_zero, List.getElem?_cons_succ, List.cons_append, List.nil_append, List.foldl, Mir.lockAll, Mir.lock1, Mir.unlockAll, Mir.unlock1, Mir.restG, Mir.walked, Option.getD, Mir.look, Mir.Slot.d, Mir.XF])
        | refine wes_cons ?_
        | refine wes_nil ?_
        | refine wvs_cons ?_
        | refine wvs_nil ?_
        | refine wv_val ?_
        | refine wv_tmp ?_
        | (refine wv_slot (by rfl) ?_; try dsimp only [List.set, List.map, Mir.lend, List.getElem?_cons_zero, List.getElem?_cons_succ, List.cons_append, List.nil_append, List.foldl, Mir.lockAll, Mir.lock1, Mir.unlockAll, Mir.unlock1, Mir.restG, Mir.walked, Option.getD, Mir.look, Mir.Slot.d, Mir.XF])
        | (refine wc (by rfl) ?_; try dsimp only [List.set, List.map, Mir.lend, List.getElem?_cons_zero, List.getElem?_cons_succ, List.cons_append, List.nil_append, List.foldl, Mir.lockAll, Mir.lock1, Mir.unlockAll, Mir.unlock1, Mir.restG, Mir.walked, Option.getD, Mir.look, Mir.Slot.d, Mir.XF])
        | (refine wr e8 ?_)
        | (refine wz (by rfl) ?_; try dsimp only [List.set, List.map, Mir.lend, List.getElem?_cons_zero, List.getElem?_cons_succ, List.cons_append, List.nil_append, List.foldl, Mir.lockAll, Mir.lock1, Mir.unlockAll, Mir.unlock1, Mir.restG, Mir.walked, Option.getD, Mir.look, Mir.Slot.d, Mir.XF])
        | (refine wz_setv (by rfl) (by assumption) ?_; try dsimp only [List.set, List.map, Mir.lend, List.getElem?_cons_zero, List.getElem?_cons_succ, List.cons_append, List.nil_append, List.foldl, Mir.lockAll, Mir.lock1, Mir.unlockAll, Mir.unlock1, Mir.restG, Mir.walked, Option.getD, Mir.look, Mir.Slot.d, Mir.XF])
        | (refine wz_setw (by rfl) (by assumption) ?_; try dsimp only [List.set, List.map, Mir.lend, List.getElem?_cons_zero, List.getElem?_cons_succ, List.cons_append, List.nil_append, List.foldl, Mir.lockAll, Mir.lock1, Mir.unlockAll, Mir.unlock1, Mir.restG, Mir.walked, Option.getD, Mir.look, Mir.Slot.d, Mir.XF])
        | refine wo_f ?_
        | refine wo_t ?_
        | refine wline (by first | omega | exact Nat.le_of_ble_eq_true rfl) ?_
        | refine w2_add ?_
        | refine w2_sub ?_
        | refine w2_mul (by first | assumption | exact big_of ⟨by omega, by omega⟩ ⟨by omega, by omega⟩) ?_
        | refine w2_fdiv (by first | assumption | exact div_of (by omega) (by omega)) ?_
        | refine w2_mod (by omega) ?_
        | refine w2_lists (by first | omega | exact Nat.le_of_ble_eq_true rfl | (simp only [List.length_cons, List.length_nil]; omega)) ?_
        | refine w2_tups (by first | omega | (simp only [List.length_cons, List.length_nil, List.length_map, List.length_replicate]; omega)) ?_
        | refine wk_lt ?_
        | refine wk_le ?_
        | refine wk_gt ?_
        | refine wk_ge ?_
        | refine wk_eqI ?_
        | refine wk_neI ?_
        | refine wk_any (by first | assumption | rfl) ?_
        | refine wt_bool ?_
        | refine wt_any (by first | assumption | rfl) ?_
        | refine wand_t (by first | rfl | assumption | exact decide_eq_true (by omega) | exact nd_t (by omega)) ?_
        | refine wand_f (by first | rfl | assumption | exact decide_eq_false (by omega) | exact nd_f (by omega)) ?_
        | refine ws_ife ?_
        | (refine ws_ret ?_)
        | refine wz_ret ?_
        | refine wz_retT ?_
        | refine ws_skip ?_
        | refine ws_exp ?_
        | refine ws_par ?_
        | refine ws_asgT ?_
        | refine we_tup ?_
        | refine we_lst ?_
        | refine we_ix ?_
        | refine we_not ?_
        | refine we_and ?_
        | refine we_or ?_
        | refine we_ite ?_
        | refine we_chn ?_
        | refine we_comp ?_
        | refine wi_rng ?_
        | refine wi_sq ?_
        | refine wi_enm ?_
        | refine wn1 ⟨by omega, by omega⟩ ?_
        | refine wn2 ⟨by omega, by omega⟩ ⟨by omega, by omega⟩ ?_
        | refine wbd_nil ?_
        | refine wbd_one ?_
        | refine wb_len ?_
        | refine wb_lenT ?_
        | refine wb_min ?_
        | refine wb_max ?_
        | refine we_neg ?_
        | refine we_slc ?_
        | refine we_rev ?_
        | refine we_lsq ?_
        | refine we_tsq ?_
        | refine we_lrg ?_
        | refine we_trg ?_
        | refine ws_for ?_
        | refine ws_brk ?_
        | refine ws_cnt ?_
        | refine ws_retN ?_
        | refine wx_any (by first | assumption | rfl) ?_
        | refine ⟨_, rfl, ?_⟩
        | refine wfil (by rfl) (fun ht => ?_) (fun ht => ?_)
        | exact ⟨rfl, rfl⟩
  · obtain ⟨s, h4, rfl⟩ := hi
    repeat first
      | refine ws_seq ?_
      | refine ws_asg ?_
      | refine we_bin ?_
      | refine we_cmp ?_
      | refine we_call ?_
      | refine we_blt ?_
      | refine we_lit ?_
      | (refine we_glb (by rfl) ?_)
      | (refine we_var (by rfl) ?_; try dsimp only [List.set, List.map, Mir.lend, List.getElem?_cons_zero, List.getElem?_cons_succ, List.cons_append, List.nil_append, List.foldl, Mir.lockAll, Mir.lock1, Mir.unlockAll, Mir.unlock1, Mir.restG, Mir.walked, Option.getD, Mir.look, Mir.Slot.d, Mir.XF])
      | (refine we_slot (by rfl) ?_; try dsimp only [List.set, List.map, Mir.lend, List.getElem?_cons_zero, List.getElem?_cons_succ, List.cons_append, List.nil_append, List.foldl, Mir.lockAll, Mir.lock1, Mir.unlockAll, Mir.unlock1, Mir.restG, Mir.walked, Option.getD, Mir.look, Mir.Slot.d, Mir.XF])
      | refine wes_cons ?_
      | refine wes_nil ?_
      | refine wvs_cons ?_
      | refine wvs_nil ?_
      | refine wv_val ?_
      | refine wv_tmp ?_
      | (refine wv_slot (by rfl) ?_; try dsimp only [List.set, List.map, Mir.lend, List.getElem?_cons_zero, List.getElem?_cons_succ, List.cons_append, List.nil_append, List.foldl, Mir.lockAll, Mir.lock1, Mir.unlockAll, Mir.unlock1, Mir.restG, Mir.walked, Option.getD, Mir.look, Mir.Slot.d, Mir.XF])
      | (refine wc (by rfl) ?_; try dsimp only [List.set, List.map, Mir.lend, List.getElem?_cons_zero, List.getElem?_cons_succ, List.cons_append, List.nil_append, List.foldl, Mir.lockAll, Mir.lock1, Mir.unlockAll, Mir.unlock1, Mir.restG, Mir.walked, Option.getD, Mir.look, Mir.Slot.d, Mir.XF])
      | (refine wz (by rfl) ?_; try dsimp only [List.set, List.map, Mir.lend, List.getElem?_cons_zero, List.getElem?_cons_succ, List.cons_append, List.nil_append, List.foldl, Mir.lockAll, Mir.lock1, Mir.unlockAll, Mir.unlock1, Mir.restG, Mir.walked, Option.getD, Mir.look, Mir.Slot.d, Mir.XF])
      | (refine wz_setv (by rfl) (by assumption) ?_; try dsimp only [List.set, List.map, Mir.lend, List.getElem?_cons_zero, List.getElem?_cons_succ, List.cons_append, List.nil_append, List.foldl, Mir.lockAll, Mir.lock1, Mir.unlockAll, Mir.unlock1, Mir.restG, Mir.walked, Option.getD, Mir.look, Mir.Slot.d, Mir.XF])
      | (refine wz_setw (by rfl) (by assumption) ?_; try dsimp only [List.set, List.map, Mir.lend, List.getElem?_cons_zero, List.getElem?_cons_succ, List.cons_append, List.nil_append, List.foldl, Mir.lockAll, Mir.lock1, Mir.unlockAll, Mir.unlock1, Mir.restG, Mir.walked, Option.getD, Mir.look, Mir.Slot.d, Mir.XF])
      | refine wo_f ?_
      | refine wo_t ?_
      | refine wline (by first | omega | exact Nat.le_of_ble_eq_true rfl) ?_
      | refine w2_add ?_
      | refine w2_sub ?_
      | refine w2_mul (by first | assumption | exact big_of ⟨by omega, by omega⟩ ⟨by omega, by omega⟩) ?_
      | refine w2_fdiv (by first | assumption | exact div_of (by omega) (by omega)) ?_
      | refine w2_mod (by omega) ?_
      | refine w2_lists (by first | omega | exact Nat.le_of_ble_eq_true rfl | (simp only [List.length_cons, List.length_nil]; omega)) ?_
      | refine w2_tups (by first | omega | (simp only [List.length_cons, List.length_nil, List.length_map, List.length_replicate]; omega)) ?_
      | refine wk_lt ?_
      | refine wk_le ?_
      | refine wk_gt ?_
      | refine wk_ge ?_
      | refine wk_eqI ?_
      | refine wk_neI ?_
      | refine wk_any (by first | assumption | rfl) ?_
      | refine wt_bool ?_
      | refine wt_any (by first | assumption | rfl) ?_
      | refine wand_t (by first | rfl | assumption | exact decide_eq_true (by omega) | exact nd_t (by omega)) ?_
      | refine wand_f (by first | rfl | assumption | exact decide_eq_false (by omega) | exact nd_f (by omega)) ?_
      | refine ws_ife ?_
      | (refine ws_ret ?_)
      | refine wz_ret ?_
      | refine wz_retT ?_
      | refine ws_skip ?_
      | refine ws_exp ?_
      | refine ws_par ?_
      | refine ws_asgT ?_
      | refine we_tup ?_
      | refine we_lst ?_
      | refine we_ix ?_
      | refine we_not ?_
      | refine we_and ?_
      | refine we_or ?_
      | refine we_ite ?_
      | refine we_chn ?_
      | refine we_comp ?_
      | refine wi_rng ?_
      | refine wi_sq ?_
      | refine wi_enm ?_
      | refine wn1 ⟨by omega, by omega⟩ ?_
      | refine wn2 ⟨by omega, by omega⟩ ⟨by omega, by omega⟩ ?_
      | refine wbd_nil ?_
      | refine wbd_one ?_
      | refine wb_len ?_
      | refine wb_lenT ?_
      | refine wb_min ?_
      | refine wb_max ?_
      | refine we_neg ?_
      | refine we_slc ?_
      | refine we_rev ?_
      | refine we_lsq ?_
      | refine we_tsq ?_
      | refine we_lrg ?_
      | refine we_trg ?_
      | refine ws_for ?_
      | refine ws_brk ?_
      | refine ws_cnt ?_
      | refine ws_retN ?_
      | refine wx_any (by first | assumption | rfl) ?_
      | refine ⟨_, rfl, ?_⟩
      | refine wfil (by rfl) (fun ht => ?_) (fun ht => ?_)
      | exact ⟨rfl, rfl⟩
  · refine ⟨?_⟩
    by_cases c : mxI (ls ++ [0]) ≤ 1 + y
    · have all : ∀ l ∈ ls, 0 ≤ l ∧ l ≤ (1 + x, 1 + y).2 := fun l h => ⟨(hls l h).1, Int.le_trans ((mx_is (xs := ls ++ [0]) (by simp)).2.2 l (List.mem_append_left _ h)) c⟩
      obtain ⟨v, ⟨b, rfl, hb⟩, e8⟩ := by_stretches (k := n) (R := 1 + x) (by omega) lok
      have dS : d ≤ (1 + x, 1 + y).2 := by
        obtain ⟨d', h, hd'⟩ := draw_is sok (b := 1 + y) (by omega) fun l h => (all l h).2
        rw [draw_uniq hd hd']
        exact h
      have bd := best_is sok all hb hd dS
      subst bd
      rw [← hC] at e8
      repeat first
        | refine wb_any hmax ?_
        | refine wx_any ix ?_
        | (with_reducible exact rfl)
        | refine ws_seq ?_
        | refine ws_asg ?_
        | refine we_bin ?_
        | refine we_cmp ?_
        | refine we_call ?_
        | refine we_blt ?_
        | refine we_lit ?_
        | (refine we_glb (by rfl) ?_)
        | (refine we_var (by rfl) ?_; try dsimp only [List.set, List.map, Mir.lend, List.getElem?_cons_zero, List.getElem?_cons_succ, List.cons_append, List.nil_append, List.foldl, Mir.lockAll, Mir.lock1, Mir.unlockAll, Mir.unlock1, Mir.restG, Mir.walked, Option.getD, Mir.look, Mir.Slot.d, Mir.XF])
        | (refine we_slot (by rfl) ?_; try dsimp only [List.set, List.map, Mir.lend, List.getElem?_cons_zero, List.getElem?_cons_succ, List.cons_append, List.nil_append, List.foldl, Mir.lockAll, Mir.lock1, Mir.unlockAll, Mir.unlock1, Mir.restG, Mir.walked, Option.getD, Mir.look, Mir.Slot.d, Mir.XF])
        | refine wes_cons ?_
        | refine wes_nil ?_
        | refine wvs_cons ?_
        | refine wvs_nil ?_
        | refine wv_val ?_
        | refine wv_tmp ?_
        | (refine wv_slot (by rfl) ?_; try dsimp only [List.set, List.map, Mir.lend, List.getElem?_cons_zero, List.getElem?_cons_succ, List.cons_append, List.nil_append, List.foldl, Mir.lockAll, Mir.lock1, Mir.unlockAll, Mir.unlock1, Mir.restG, Mir.walked, Option.getD, Mir.look, Mir.Slot.d, Mir.XF])
        | (refine wc (by rfl) ?_; try dsimp only [List.set, List.map, Mir.lend, List.getElem?_cons_zero, List.getElem?_cons_succ, List.cons_append, List.nil_append, List.foldl, Mir.lockAll, Mir.lock1, Mir.unlockAll, Mir.unlock1, Mir.restG, Mir.walked, Option.getD, Mir.look, Mir.Slot.d, Mir.XF])
        | (refine wr e8 ?_)
        | (refine wz (by rfl) ?_; try dsimp only [List.set, List.map, Mir.lend, List.getElem?_cons_zero, List.getElem?_cons_succ, List.cons_append, List.nil_append, List.foldl, Mir.lockAll, Mir.lock1, Mir.unlockAll, Mir.unlock1, Mir.restG, Mir.walked, Option.getD, Mir.look, Mir.Slot.d, Mir.XF])
        | (refine wz_setv (by rfl) (by assumption) ?_; try dsimp only [List.set, List.map, Mir.lend, List.getElem?_cons_zero, List.getElem?_cons_succ, List.cons_append, List.nil_append, List.foldl, Mir.lockAll, Mir.lock1, Mir.unlockAll, Mir.unlock1, Mir.restG, Mir.walked, Option.getD, Mir.look, Mir.Slot.d, Mir.XF])
        | (refine wz_setw (by rfl) (by assumption) ?_; try dsimp only [List.set, List.map, Mir.lend, List.getElem?_cons_zero, List.getElem?_cons_succ, List.cons_append, List.nil_append, List.foldl, Mir.lockAll, Mir.lock1, Mir.unlockAll, Mir.unlock1, Mir.restG, Mir.walked, Option.getD, Mir.look, Mir.Slot.d, Mir.XF])
        | refine wo_f ?_
        | refine wo_t ?_
        | refine wline (by first | omega | exact Nat.le_of_ble_eq_true rfl) ?_
        | refine w2_add ?_
        | refine w2_sub ?_
        | refine w2_mul (by first | assumption | exact big_of ⟨by omega, by omega⟩ ⟨by omega, by omega⟩) ?_
        | refine w2_fdiv (by first | assumption | exact div_of (by omega) (by omega)) ?_
        | refine w2_mod (by omega) ?_
        | refine w2_lists (by first | omega | exact Nat.le_of_ble_eq_true rfl | (simp only [List.length_cons, List.length_nil]; omega)) ?_
        | refine w2_tups (by first | omega | (simp only [List.length_cons, List.length_nil, List.length_map, List.length_replicate]; omega)) ?_
        | refine wk_lt ?_
        | refine wk_le ?_
        | refine wk_gt ?_
        | refine wk_ge ?_
        | refine wk_eqI ?_
        | refine wk_neI ?_
        | refine wk_any (by first | assumption | rfl) ?_
        | refine wt_bool ?_
        | refine wt_any (by first | assumption | rfl) ?_
        | refine wand_t (by first | rfl | assumption | exact decide_eq_true (by omega) | exact nd_t (by omega)) ?_
        | refine wand_f (by first | rfl | assumption | exact decide_eq_false (by omega) | exact nd_f (by omega)) ?_
        | refine ws_ife ?_
        | (refine ws_ret ?_)
        | refine wz_ret ?_
        | refine wz_retT ?_
        | refine ws_skip ?_
        | refine ws_exp ?_
        | refine ws_par ?_
        | refine ws_asgT ?_
        | refine we_tup ?_
        | refine we_lst ?_
        | refine we_ix ?_
        | refine we_not ?_
        | refine we_and ?_
        | refine we_or ?_
        | refine we_ite ?_
        | refine we_chn ?_
        | refine we_comp ?_
        | refine wi_rng ?_
        | refine wi_sq ?_
        | refine wi_enm ?_
        | refine wn1 ⟨by omega, by omega⟩ ?_
        | refine wn2 ⟨by omega, by omega⟩ ⟨by omega, by omega⟩ ?_
        | refine wbd_nil ?_
        | refine wbd_one ?_
        | refine wb_len ?_
        | refine wb_lenT ?_
        | refine wb_min ?_
        | refine wb_max ?_
        | refine we_neg ?_
        | refine we_slc ?_
        | refine we_rev ?_
        | refine we_lsq ?_
        | refine we_tsq ?_
        | refine we_lrg ?_
        | refine we_trg ?_
        | refine ws_for ?_
        | refine ws_brk ?_
        | refine ws_cnt ?_
        | refine ws_retN ?_
        | refine wx_any (by first | assumption | rfl) ?_
        | refine ⟨_, rfl, ?_⟩
        | refine wfil (by rfl) (fun ht => ?_) (fun ht => ?_)
        | exact ⟨rfl, rfl⟩
    · repeat first
        | refine wb_any hmax ?_
        | (with_reducible exact rfl)
        | refine ws_seq ?_
        | refine ws_asg ?_
        | refine we_bin ?_
        | refine we_cmp ?_
        | refine we_call ?_
        | refine we_blt ?_
        | refine we_lit ?_
        | (refine we_glb (by rfl) ?_)
        | (refine we_var (by rfl) ?_; try dsimp only [List.set, List.map, Mir.lend, List.getElem?_cons_zero, List.getElem?_cons_succ, List.cons_append, List.nil_append, List.foldl, Mir.lockAll, Mir.lock1, Mir.unlockAll, Mir.unlock1, Mir.restG, Mir.walked, Option.getD, Mir.look, Mir.Slot.d, Mir.XF])
        | (refine we_slot (by rfl) ?_; try dsimp only [List.set, List.map, Mir.lend, List.getElem?_cons_zero, List.getElem?_cons_succ, List.cons_append, List.nil_append, List.foldl, Mir.lockAll, Mir.lock1, Mir.unlockAll, Mir.unlock1, Mir.restG, Mir.walked, Option.getD, Mir.look, Mir.Slot.d, Mir.XF])
        | refine wes_cons ?_
        | refine wes_nil ?_
        | refine wvs_cons ?_
        | refine wvs_nil ?_
        | refine wv_val ?_
        | refine wv_tmp ?_
        | (refine wv_slot (by rfl) ?_; try dsimp only [List.set, List.map, Mir.lend, List.getElem?_cons_zero, List.getElem?_cons_succ, List.cons_append, List.nil_append, List.foldl, Mir.lockAll, Mir.lock1, Mir.unlockAll, Mir.unlock1, Mir.restG, Mir.walked, Option.getD, Mir.look, Mir.Slot.d, Mir.XF])
        | (refine wc (by rfl) ?_; try dsimp only [List.set, List.map, Mir.lend, List.getElem?_cons_zero, List.getElem?_cons_succ, List.cons_append, List.nil_append, List.foldl, Mir.lockAll, Mir.lock1, Mir.unlockAll, Mir.unlock1, Mir.restG, Mir.walked, Option.getD, Mir.look, Mir.Slot.d, Mir.XF])
        | (refine wz (by rfl) ?_; try dsimp only [List.set, List.map, Mir.lend, List.getElem?_cons_zero, List.getElem?_cons_succ, List.cons_append, List.nil_append, List.foldl, Mir.lockAll, Mir.lock1, Mir.unlockAll, Mir.unlock1, Mir.restG, Mir.walked, Option.getD, Mir.look, Mir.Slot.d, Mir.XF])
        | (refine wz_setv (by rfl) (by assumption) ?_; try dsimp only [List.set, List.map, Mir.lend, List.getElem?_cons_zero, List.getElem?_cons_succ, List.cons_append, List.nil_append, List.foldl, Mir.lockAll, Mir.lock1, Mir.unlockAll, Mir.unlock1, Mir.restG, Mir.walked, Option.getD, Mir.look, Mir.Slot.d, Mir.XF])
        | (refine wz_setw (by rfl) (by assumption) ?_; try dsimp only [List.set, List.map, Mir.lend, List.getElem?_cons_zero, List.getElem?_cons_succ, List.cons_append, List.nil_append, List.foldl, Mir.lockAll, Mir.lock1, Mir.unlockAll, Mir.unlock1, Mir.restG, Mir.walked, Option.getD, Mir.look, Mir.Slot.d, Mir.XF])
        | refine wo_f ?_
        | refine wo_t ?_
        | refine wline (by first | omega | exact Nat.le_of_ble_eq_true rfl) ?_
        | refine w2_add ?_
        | refine w2_sub ?_
        | refine w2_mul (by first | assumption | exact big_of ⟨by omega, by omega⟩ ⟨by omega, by omega⟩) ?_
        | refine w2_fdiv (by first | assumption | exact div_of (by omega) (by omega)) ?_
        | refine w2_mod (by omega) ?_
        | refine w2_lists (by first | omega | exact Nat.le_of_ble_eq_true rfl | (simp only [List.length_cons, List.length_nil]; omega)) ?_
        | refine w2_tups (by first | omega | (simp only [List.length_cons, List.length_nil, List.length_map, List.length_replicate]; omega)) ?_
        | refine wk_lt ?_
        | refine wk_le ?_
        | refine wk_gt ?_
        | refine wk_ge ?_
        | refine wk_eqI ?_
        | refine wk_neI ?_
        | refine wk_any (by first | assumption | rfl) ?_
        | refine wt_bool ?_
        | refine wt_any (by first | assumption | rfl) ?_
        | refine wand_t (by first | rfl | assumption | exact decide_eq_true (by omega) | exact nd_t (by omega)) ?_
        | refine wand_f (by first | rfl | assumption | exact decide_eq_false (by omega) | exact nd_f (by omega)) ?_
        | refine ws_ife ?_
        | (refine ws_ret ?_)
        | refine wz_ret ?_
        | refine wz_retT ?_
        | refine ws_skip ?_
        | refine ws_exp ?_
        | refine ws_par ?_
        | refine ws_asgT ?_
        | refine we_tup ?_
        | refine we_lst ?_
        | refine we_ix ?_
        | refine we_not ?_
        | refine we_and ?_
        | refine we_or ?_
        | refine we_ite ?_
        | refine we_chn ?_
        | refine we_comp ?_
        | refine wi_rng ?_
        | refine wi_sq ?_
        | refine wi_enm ?_
        | refine wn1 ⟨by omega, by omega⟩ ?_
        | refine wn2 ⟨by omega, by omega⟩ ⟨by omega, by omega⟩ ?_
        | refine wbd_nil ?_
        | refine wbd_one ?_
        | refine wb_len ?_
        | refine wb_lenT ?_
        | refine wb_min ?_
        | refine wb_max ?_
        | refine we_neg ?_
        | refine we_slc ?_
        | refine we_rev ?_
        | refine we_lsq ?_
        | refine we_tsq ?_
        | refine we_lrg ?_
        | refine we_trg ?_
        | refine ws_for ?_
        | refine ws_brk ?_
        | refine ws_cnt ?_
        | refine ws_retN ?_
        | refine wx_any (by first | assumption | rfl) ?_
        | refine ⟨_, rfl, ?_⟩
        | refine wfil (by rfl) (fun ht => ?_) (fun ht => ?_)
        | exact ⟨rfl, rfl⟩
end Law

set_option Elab.async false
set_option autoImplicit false
set_option linter.all false
set_option maxRecDepth 100000
set_option maxHeartbeats 4000000
namespace Law
open PySem Mir
theorem rep_flat (st : D) : ∀ n : Nat, (List.replicate n [st]).flatten = List.replicate n st := by
  intro n
  induction n with
  | zero => rfl
  | succ n ih =>
    rw [List.replicate_succ, List.flatten_cons, ih]
    all_goals rfl
theorem mul_int {x k : Int} (h0 : 0 ≤ k) (h : k ≤ 1000) : b2 .mul (.tup [.int x]) (.int k) = .ok (.val (loadsD (List.replicate k.toNat x))) := by
  show (if decide (-(2 ^ 62) ≤ k ∧ k ≤ 1000 ∧ 1 ≤ 1000) = true then R.ok (Opd.val (.tup (List.replicate k.toNat [D.int x]).flatten)) else .no) = _
  rw [if_pos (decide_eq_true (by omega)), rep_flat]
  unfold loadsD
  rw [List.map_replicate]
theorem add_loads {a b : List Int} (h : a.length + b.length ≤ 1000) : b2 .add (loadsD a) (loadsD b) = .ok (.val (loadsD (a ++ b))) := by
  show (if line ((a.map D.int).length + (b.map D.int).length) = true then R.ok (Opd.val (.tup (a.map D.int ++ b.map D.int))) else .no) = _
  have hl : line ((a.map D.int).length + (b.map D.int).length) = true := decide_eq_true (by rw [List.length_map, List.length_map]; omega)
  rw [if_pos hl, ← List.map_append]
  all_goals rfl
/-- what is above x -/
def pp (x l : Int) : Int := if l > x then l - x else 0
def PS (x : Int) (ls : List Int) : Int := (ls.map (pp x)).sum
theorem pp_nn (x l : Int) : 0 ≤ pp x l := by unfold pp; split <;> omega
theorem PS_nn (x : Int) (ls : List Int) : 0 ≤ PS x ls := by
  induction ls with
  | nil => exact Int.le_refl _
  | cons l ls ih =>
    have a := pp_nn x l
    show 0 ≤ ((l :: ls).map (pp x)).sum
    rw [List.map_cons, List.sum_cons]
    have b : 0 ≤ (ls.map (pp x)).sum := ih
    omega
theorem PS_app (x : Int) (a b : List Int) : PS x (a ++ b) = PS x a + PS x b := by unfold PS; rw [List.map_append, List.sum_append]
theorem PS_mid (x : Int) (ls : List Int) (s n : Nat) : PS x ((ls.drop s).take n) ≤ PS x ls := by
  have e : ls = ls.take s ++ ((ls.drop s).take n ++ (ls.drop s).drop n) := by rw [List.take_append_drop, List.take_append_drop]
  have a := congrArg (PS x) e
  rw [PS_app, PS_app] at a
  have b := PS_nn x (ls.take s)
  have c := PS_nn x ((ls.drop s).drop n)
  omega
theorem sum_PS (x : Int) (m : List Int) : m.sum ≤ x * m.length + PS x m := by
  induction m with
  | nil => show (0 : Int) ≤ x * ((0 : Nat) : Int) + 0; omega
  | cons l m ih =>
    have a : l ≤ x + pp x l := by unfold pp; split <;> omega
    have e : x * ((m.length + 1 : Nat) : Int) = x * m.length + x := by rw [Int.natCast_add, Int.mul_add]; omega
    have p : PS x (l :: m) = pp x l + PS x m := by unfold PS; rw [List.map_cons, List.sum_cons]
    rw [List.sum_cons, List.length_cons, p]
    omega
theorem PS_low {x : Int} {ls : List Int} (h : ∀ l ∈ ls, l ≤ x) : PS x ls = 0 := by
  induction ls with
  | nil => rfl
  | cons l ls ih =>
    have a := h l List.mem_cons_self
    have p : PS x (l :: ls) = pp x l + PS x ls := by unfold PS; rw [List.map_cons, List.sum_cons]
    rw [p, ih fun y hy => h y (List.mem_cons_of_mem _ hy)]
    unfold pp
    rw [if_neg (by omega)]
    all_goals rfl
theorem PS_rep (x p : Int) (n : Nat) : PS x (List.replicate n p) = n * pp x p := by
  induction n with
  | zero => show (0 : Int) = ((0 : Nat) : Int) * pp x p; omega
  | succ n ih =>
    have q : PS x (p :: List.replicate n p) = pp x p + PS x (List.replicate n p) := by unfold PS; rw [List.map_cons, List.sum_cons]
    have e : ((n + 1 : Nat) : Int) * pp x p = n * pp x p + pp x p := by rw [Int.natCast_add, Int.add_mul]; omega
    rw [List.replicate_succ, q, ih]
    omega
theorem sum_rep (n : Nat) (x : Int) : (List.replicate n x).sum = n * x := by
  induction n with
  | zero => show (0 : Int) = ((0 : Nat) : Int) * x; omega
  | succ n ih =>
    rw [List.replicate_succ, List.sum_cons, ih]
    have e : ((n + 1 : Nat) : Int) * x = n * x + x := by rw [Int.natCast_add, Int.add_mul]; omega
    omega
theorem peak_draw {R p DU base : Int} {w : Nat} {A C : List Int} (hR : 1 ≤ R ∧ R ≤ 1000000) (hp : 0 ≤ p ∧ p ≤ 1000000) (hA : ∀ l ∈ A, 0 ≤ l ∧ l ≤ base) (hC : ∀ l ∈ C, 0 ≤ l ∧ l ≤ base) (hb : base ≤ DU) (hb2 : base ≤ 1000000) (hw : 1 ≤ w) (h0 : 0 ≤ DU) (hD : DU ≤ 1000000) (hDU : ∀ x, 0 ≤ x → (DU ≤ x ↔ (w : Int) * p - R ≤ x * w)) : IsDraw (R, 1000000) ((A ++ List.replicate w p) ++ C) DU := by
  have hs : StOk (R, 1000000) := ⟨hR.1, hR.2, (by decide : (1 : Int) ≤ 1000000), (by decide : (1000000 : Int) ≤ 1000000)⟩
  have all : ∀ l ∈ (A ++ List.replicate w p) ++ C, 0 ≤ l ∧ l ≤ (R, (1000000 : Int)).2 := fun l h => by
    show 0 ≤ l ∧ l ≤ 1000000
    rcases List.mem_append.mp h with h | h
    · rcases List.mem_append.mp h with h | h
      · have := hA l h; omega
      · rw [List.eq_of_mem_replicate h]; exact hp
    · have := hC l h; omega
  have self := (hDU DU h0).mp (Int.le_refl _)
  refine draw_of h0 ?_ fun hpos => ?_
  · refine (en_strong hs all h0 hD).mpr fun s e s0 s1 e1 => ?_
    have a := sum_PS DU (((A ++ List.replicate w p ++ C).drop s.toNat).take (e + 1 - s).toNat)
    have b := PS_mid DU (A ++ List.replicate w p ++ C) s.toNat (e + 1 - s).toNat
    rw [PS_app, PS_app, PS_low (ls := A) (fun l h => by have := hA l h; omega), PS_low (ls := C) (fun l h => by have := hC l h; omega), PS_rep] at b
    have len : ((((A ++ List.replicate w p ++ C).drop s.toNat).take (e + 1 - s).toNat).length : Int) = e - s + 1 := by
      rw [List.length_take, List.length_drop]
      omega
    rw [len] at a
    have c : (w : Int) * pp DU p ≤ R := by
      unfold pp
      split
      · rw [Int.mul_sub, Int.mul_comm (w : Int) DU]
        omega
      · omega
    show Ui (A ++ List.replicate w p ++ C) s e - R ≤ DU * (e - s + 1)
    unfold Ui
    omega
  · cases z : en (R, 1000000) ((A ++ List.replicate w p) ++ C) (DU - 1) with
    | false => rfl
    | true =>
      have q := (en_strong hs all (by omega) (by show DU - 1 ≤ 1000000; omega)).mp z (A.length : Int) ((A.length : Int) + w - 1) (by omega) (by omega) (by rw [List.length_append, List.length_append, List.length_replicate]; omega)
      have u : Ui (A ++ List.replicate w p ++ C) (A.length : Int) ((A.length : Int) + w - 1) = w * p := by
        unfold Ui
        have t1 : ((A.length : Int) + w - 1 + 1 - (A.length : Int)).toNat = (List.replicate w p).length := by rw [List.length_replicate]; omega
        rw [Int.toNat_natCast, List.append_assoc, List.drop_left, t1, List.take_left, sum_rep]
      rw [u] at q
      have t2 : (A.length : Int) + w - 1 - (A.length : Int) + 1 = w := by omega
      rw [t2] at q
      have := (hDU (DU - 1) (by omega)).mpr q
      omega
theorem due_is {w p R : Int} (hw : 1 ≤ w) (hw2 : w ≤ 1000) (hp : 0 ≤ p ∧ p ≤ 1000000) (hR : 1 ≤ R) : ∃ DU, bapp .max [.int 0, .int (-((-(w * p - R)).fdiv w))] = .ok (.val (.int DU)) ∧ 0 ≤ DU ∧ DU ≤ 1000000 ∧ ∀ x, 0 ≤ x → (DU ≤ x ↔ w * p - R ≤ x * w) := by
  have cn := cdv_neg (n := w * p - R) (m := w) hw
  rw [cn]
  refine ⟨_, rfl, by split <;> omega, ?_, fun x hx => ?_⟩
  · have z : cdv (w * p - R) w ≤ 1000000 := by
      rw [cdv_le hw]
      have : w * p ≤ w * 1000000 := Int.mul_le_mul_of_nonneg_left hp.2 (by omega)
      omega
    split <;> omega
  · have z := cdv_le (n := w * p - R) (m := w) (q := x) hw
    rw [← z]
    split <;> omega
theorem flat_two {p : Int} (hp : 1 ≤ p) : IsDraw (1, 1) (List.replicate 200 p) p := by
  refine draw_of (by omega) (en_high ⟨by decide, by decide, by decide, by decide⟩ fun l h => by rw [List.eq_of_mem_replicate h]; exact Int.le_refl _) fun _ => ?_
  cases z : en (1, 1) (List.replicate 200 p) (p - 1) with
  | false => rfl
  | true =>
    have nd := (keeps_dark (R := 1) (S := 1) (by decide) (by decide) (hrs (List.replicate 200 p) (p - 1))).mp z
    have e : hrs (List.replicate 200 p) (p - 1) = List.replicate 200 (-1) := by
      unfold hrs
      rw [List.map_replicate]
      have : p - 1 - p = -1 := by omega
      rw [this]
    rw [e] at nd
    have := nd.2 0 1 (by decide) (by decide)
    have t : T 1 (List.replicate 200 (-1)) 0 1 = 2 := by decide
    omega
theorem zeros : IsDraw (1000000, 1000000) (List.replicate 200 0) 0 := draw_of (by decide) (en_high ⟨by decide, by decide, by decide, by decide⟩ fun l h => by rw [List.eq_of_mem_replicate h]; exact Int.le_refl _) fun h => by omega
theorem one_hour : IsDraw (1, 1) [1000000] 999999 := draw_of (by decide) (by decide) fun _ => by decide
end Law

set_option Elab.async false
set_option autoImplicit false
set_option linter.all false
set_option maxRecDepth 100000
set_option maxHeartbeats 8000000
namespace Law
open PySem Mir
theorem great (c0 c1 : Int) (hc : CupOk c0 c1) : ∃ d0 d1, CupOk d0 d1 ∧ ∀ k, 8 ≤ k → callN Tb k 1 [cupS c0 c1] = .ok (.bool true, false, [cupS d0 d1]) := by
  obtain ⟨base, a0, a1, x0, x1, ok1, q1⟩ := roll c0 c1 1000 hc (by decide) (by decide)
  obtain ⟨y, b0, b1, y0, y1, ok2, q2⟩ := roll a0 a1 900000 ok1 (by decide) (by decide)
  obtain ⟨z, u0, u1, z0, z1, ok3, q3⟩ := roll b0 b1 100 ok2 (by decide) (by decide)
  obtain ⟨t, v0, v1, t0, t1, ok4, q4⟩ := roll u0 u1 1000000 ok3 (by decide) (by decide)
  obtain ⟨r, d0, d1, r0, r1, ok5, q5⟩ := roll v0 v1 1000 ok4 (by decide) (by decide)
  refine ⟨d0, d1, ok5, fun k hk => ?_⟩
  have f1 := mul_int (x := base) (k := 50) (by decide) (by decide)
  have f2 := mul_int (x := 1000 + y) (k := 1 + z) (by omega) (by omega)
  have f3 := mul_int (x := base) (k := 150 - (1 + z)) (by omega) (by omega)
  have f4 := mul_int (x := 1000 + y) (k := 200) (by decide) (by decide)
  have f5 := mul_int (x := 0) (k := 200) (by decide) (by decide)
  have g1 := add_loads (a := List.replicate (50 : Int).toNat base) (b := List.replicate (1 + z).toNat (1000 + y)) (by rw [List.length_replicate, List.length_replicate]; omega)
  have g2 := add_loads (a := List.replicate (50 : Int).toNat base ++ List.replicate (1 + z).toNat (1000 + y)) (b := List.replicate (150 - (1 + z)).toNat base) (by rw [List.length_append, List.length_replicate, List.length_replicate, List.length_replicate]; omega)
  obtain ⟨DU, hDU, du0, du1, du2⟩ := due_is (w := 1 + z) (p := 1000 + y) (R := 1 + t) (by omega) (by omega) ⟨by omega, by omega⟩ (by omega)
  obtain ⟨DF, hDF, df0, df1, df2⟩ := due_is (w := 200) (p := 1000 + y) (R := 1 + t) (by decide) (by decide) ⟨by omega, by omega⟩ (by omega)
  have wn : (((1 + z).toNat : Nat) : Int) = 1 + z := Int.toNat_of_nonneg (by omega)
  have mA : ∀ n : Nat, ∀ l ∈ List.replicate n base, 0 ≤ l ∧ l ≤ base := fun n l h => by rw [List.eq_of_mem_replicate h]; omega
  have pk : base ≤ DU → IsDraw (1 + t, 1000000) (List.replicate (50 : Int).toNat base ++ List.replicate (1 + z).toNat (1000 + y) ++ List.replicate (150 - (1 + z)).toNat base) DU := fun hb => peak_draw ⟨by omega, by omega⟩ ⟨by omega, by omega⟩ (mA _) (mA _) hb (by omega) (by omega) du0 du1 (by rw [wn]; exact du2)
  have pf : IsDraw (1 + t, 1000000) (List.replicate (200 : Int).toNat (1000 + y)) DF := by
    have w := peak_draw (R := 1 + t) (p := 1000 + y) (DU := DF) (base := 0) (w := (200 : Int).toNat) (A := []) (C := []) ⟨by omega, by omega⟩ ⟨by omega, by omega⟩ (fun l h => by cases h) (fun l h => by cases h) df0 (by decide) (by decide) df0 df1 df2
    rw [List.nil_append, List.append_nil] at w
    exact w
  have p2 := flat_two (p := 1000 + y) (by omega)
  have lsok : LdOk (List.replicate (50 : Int).toNat base ++ List.replicate (1 + z).toNat (1000 + y) ++ List.replicate (150 - (1 + z)).toNat base) := ⟨by rw [List.length_append, List.length_append, List.length_replicate, List.length_replicate, List.length_replicate]; omega, fun l h => by
    rcases List.mem_append.mp h with h | h
    · rcases List.mem_append.mp h with h | h
      · have := mA _ l h; omega
      · rw [List.eq_of_mem_replicate h]; omega
    · have := mA _ l h; omega⟩
  have peakIn : 1000 + y ∈ List.replicate (50 : Int).toNat base ++ List.replicate (1 + z).toNat (1000 + y) ++ List.replicate (150 - (1 + z)).toNat base := List.mem_append_left _ (List.mem_append_right _ (List.mem_replicate.mpr ⟨by omega, rfl⟩))
  have flok : LdOk (List.replicate (200 : Int).toNat (1000 + y)) := ⟨by rw [List.length_replicate]; decide, fun l h => by rw [List.eq_of_mem_replicate h]; omega⟩
  have zeok : LdOk (List.replicate (200 : Int).toNat 0) := ⟨by rw [List.length_replicate]; decide, fun l h => by rw [List.eq_of_mem_replicate h]; omega⟩
  have onok : LdOk [1000000] := ⟨by decide, fun l h => by rw [List.mem_singleton.mp h]; decide⟩
  have s1ok : StOk (1 + t, 1000000) := ⟨by show 1 ≤ 1 + t; omega, by show 1 + t ≤ 1000000; omega, (by decide : (1 : Int) ≤ 1000000), (by decide : (1000000 : Int) ≤ 1000000)⟩
  have s2ok : StOk (1000000, 1 + r) := ⟨(by decide : (1 : Int) ≤ 1000000), (by decide : (1000000 : Int) ≤ 1000000), by show 1 ≤ 1 + r; omega, by show 1 + r ≤ 1000000; omega⟩
  obtain ⟨dd, ddle, hdd⟩ := draw_is s2ok (b := 1000000) (by decide) fun l h => (lsok.2 l h).2
  have far : ¬ dd < 1000 + y - (1 + r) := by
    have nd := (keeps_dark (R := 1000000) (S := 1 + r) (by omega) (by decide) _).mp hdd.2.1
    have := nd.1 (dd - (1000 + y)) (List.mem_map.mpr ⟨_, peakIn, rfl⟩)
    omega
  have e14 := least_draw (k := k - 1) (by omega) s1ok flok pf
  have e15 := least_draw (k := k - 1) (st := (1, 1)) (by omega) ⟨by decide, by decide, by decide, by decide⟩ flok p2
  have e16 := least_draw (k := k - 1) (st := (1000000, 1000000)) (by omega) ⟨by decide, by decide, by decide, by decide⟩ zeok zeros
  have e17 := least_draw (k := k - 1) (st := (1, 1)) (by omega) ⟨by decide, by decide, by decide, by decide⟩ onok one_hour
  have e8 := least_draw (k := k - 1) (by omega) s2ok lsok hdd
  have e9 := law_enough (k := k - 1) (st := (1000000, 1 + r)) (ls := List.replicate (50 : Int).toNat base ++ List.replicate (1 + z).toNat (1000 + y) ++ List.replicate (150 - (1 + z)).toNat base) (d := dd) (by omega)
  rw [hdd.2.1] at e9
  have e10 : 0 < dd → callN Tb (k - 1) 7 [.sh (storeD (1000000, 1 + r)), .sh (loadsD (List.replicate (50 : Int).toNat base ++ List.replicate (1 + z).toNat (1000 + y) ++ List.replicate (150 - (1 + z)).toNat base)), .sh (.int (dd - 1))] = .ok (.bool false, false, [.emp, .emp, .emp]) := fun hp => by
    have w := law_enough (k := k - 1) (st := (1000000, 1 + r)) (ls := List.replicate (50 : Int).toNat base ++ List.replicate (1 + z).toNat (1000 + y) ++ List.replicate (150 - (1 + z)).toNat base) (d := dd - 1) (by omega)
    rw [hdd.2.2 (dd - 1) (by omega) (by omega)] at w
    exact w
  generalize List.replicate (50 : Int).toNat base ++ List.replicate (1 + z).toNat (1000 + y) ++ List.replicate (150 - (1 + z)).toNat base = ls at g2 pk lsok hdd e8 e9 e10 peakIn
  generalize List.replicate (50 : Int).toNat base = lA at f1 g1 g2
  generalize List.replicate (1 + z).toNat (1000 + y) = lB at f2 g1 g2
  generalize lA ++ lB = lAB at g1 g2
  generalize List.replicate (150 - (1 + z)).toNat base = lC at f3 g2
  generalize List.replicate (200 : Int).toNat (1000 + y) = lF at f4 pf e14 e15
  generalize List.replicate (200 : Int).toNat 0 = lZ at f5 e16
  have dd0 := hdd.1
  obtain ⟨n, rfl⟩ : ∃ n, k = n + 1 := ⟨k - 1, by omega⟩
  refine wd (fn := fn1) rfl rfl fun C hC => ?_
  dsimp only [fn1, tm1, Nat.reduceSub, List.replicate, List.cons_append, List.nil_append]
  have en' : n + 1 - 1 = n := by omega
  rw [en'] at e8 e9 e10 e14 e15 e16 e17
  have e1 := q1 n (by omega)
  have e2 := q2 n (by omega)
  have e3 := q3 n (by omega)
  have e4 := q4 n (by omega)
  have e5 := q5 n (by omega)
  have e18 : callN Tb n 5 [.li [.int DF, .int (1000 + y), .int 0, .int 999999] true .own, .li [.int DF, .int (1000 + y), .int 0, .int 999999] true .own] = _ := like_ints n (by omega) [DF, 1000 + y, 0, 999999]
  rw [← hC] at e1 e2 e3 e4 e5 e8 e9 e10 e14 e15 e16 e17 e18
  have bg1 : bigOk (1 + z) (1000 + y) = true := big_of ⟨by omega, by omega⟩ ⟨by omega, by omega⟩
  have bg2 : bigOk 200 (1000 + y) = true := big_of ⟨by omega, by omega⟩ ⟨by omega, by omega⟩
  clear q1 q2 q3 q4 q5
  repeat first
    | refine w2_any f1 ?_
    | refine w2_any f2 ?_
    | refine w2_any f3 ?_
    | refine w2_any f4 ?_
    | refine w2_any f5 ?_
    | refine w2_any g1 ?_
    | refine w2_any g2 ?_
    | refine wb_any hDU ?_
    | refine wb_any hDF ?_
    | refine ws_same (s := .ife (.cmp .ge _ _) _ _) ?_ ?_
    | refine ws_same (s := .ife (.or (.cmp .lt _ _) _) _ _) ?_ ?_
    | refine ws_seq ?_
    | refine ws_asg ?_
    | refine we_bin ?_
    | refine we_cmp ?_
    | refine we_call ?_
    | refine we_blt ?_
    | refine we_lit ?_
    | (refine we_glb (by rfl) ?_)
    | (refine we_var (by rfl) ?_; try dsimp only [List.set, List.map, Mir.lend, List.getElem?_cons_zero, List.getElem?_cons_succ, List.cons_append, List.nil_append, List.foldl, Mir.lockAll, Mir.lock1, Mir.unlockAll, Mir.unlock1, Mir.restG, Mir.walked, Option.getD, Mir.look, Mir.Slot.d, Mir.XF])
    | (refine we_slot (by rfl) ?_; try dsimp only [List.set, List.map, Mir.lend, List.getElem?_cons_zero, List.getElem?_cons_succ, List.cons_append, List.nil_append, List.foldl, Mir.lockAll, Mir.lock1, Mir.unlockAll, Mir.unlock1, Mir.restG, Mir.walked, Option.getD, Mir.look, Mir.Slot.d, Mir.XF])
    | refine wes_cons ?_
    | refine wes_nil ?_
    | refine wvs_cons ?_
    | refine wvs_nil ?_
    | refine wv_val ?_
    | refine wv_tmp ?_
    | (refine wv_slot (by rfl) ?_; try dsimp only [List.set, List.map, Mir.lend, List.getElem?_cons_zero, List.getElem?_cons_succ, List.cons_append, List.nil_append, List.foldl, Mir.lockAll, Mir.lock1, Mir.unlockAll, Mir.unlock1, Mir.restG, Mir.walked, Option.getD, Mir.look, Mir.Slot.d, Mir.XF])
    | (refine wc (by rfl) ?_; try dsimp only [List.set, List.map, Mir.lend, List.getElem?_cons_zero, List.getElem?_cons_succ, List.cons_append, List.nil_append, List.foldl, Mir.lockAll, Mir.lock1, Mir.unlockAll, Mir.unlock1, Mir.restG, Mir.walked, Option.getD, Mir.look, Mir.Slot.d, Mir.XF])
    | (refine wr e1 ?_)
    | (refine wr e2 ?_)
    | (refine wr e3 ?_)
    | (refine wr e4 ?_)
    | (refine wr e5 ?_)
    | (refine wr e8 ?_)
    | (refine wr e9 ?_)
    | (refine wr e14 ?_)
    | (refine wr e15 ?_)
    | (refine wr e16 ?_)
    | (refine wr e17 ?_)
    | (refine wr e18 ?_)
    | (refine wz (by rfl) ?_; try dsimp only [List.set, List.map, Mir.lend, List.getElem?_cons_zero, List.getElem?_cons_succ, List.cons_append, List.nil_append, List.foldl, Mir.lockAll, Mir.lock1, Mir.unlockAll, Mir.unlock1, Mir.restG, Mir.walked, Option.getD, Mir.look, Mir.Slot.d, Mir.XF])
    | (refine wz_setv (by rfl) (by assumption) ?_; try dsimp only [List.set, List.map, Mir.lend, List.getElem?_cons_zero, List.getElem?_cons_succ, List.cons_append, List.nil_append, List.foldl, Mir.lockAll, Mir.lock1, Mir.unlockAll, Mir.unlock1, Mir.restG, Mir.walked, Option.getD, Mir.look, Mir.Slot.d, Mir.XF])
    | (refine wz_setw (by rfl) (by assumption) ?_; try dsimp only [List.set, List.map, Mir.lend, List.getElem?_cons_zero, List.getElem?_cons_succ, List.cons_append, List.nil_append, List.foldl, Mir.lockAll, Mir.lock1, Mir.unlockAll, Mir.unlock1, Mir.restG, Mir.walked, Option.getD, Mir.look, Mir.Slot.d, Mir.XF])
    | refine wo_f ?_
    | refine wo_t ?_
    | refine wline (by first | omega | exact Nat.le_of_ble_eq_true rfl) ?_
    | refine w2_add ?_
    | refine w2_sub ?_
    | refine w2_mul (by first | assumption | exact big_of ⟨by omega, by omega⟩ ⟨by omega, by omega⟩) ?_
    | refine w2_fdiv (by first | assumption | exact div_of (by omega) (by omega)) ?_
    | refine w2_mod (by omega) ?_
    | refine w2_lists (by first | omega | exact Nat.le_of_ble_eq_true rfl | (simp only [List.length_cons, List.length_nil]; omega)) ?_
    | refine w2_tups (by first | omega | (simp only [List.length_cons, List.length_nil, List.length_map, List.length_replicate]; omega)) ?_
    | refine wk_lt ?_
    | refine wk_le ?_
    | refine wk_gt ?_
    | refine wk_ge ?_
    | refine wk_eqI ?_
    | refine wk_neI ?_
    | refine wk_any (by first | assumption | rfl) ?_
    | refine wt_bool ?_
    | refine wt_any (by first | assumption | rfl) ?_
    | refine wand_t (by first | rfl | assumption | exact decide_eq_true (by omega) | exact nd_t (by omega)) ?_
    | refine wand_f (by first | rfl | assumption | exact decide_eq_false (by omega) | exact nd_f (by omega)) ?_
    | refine ws_ife ?_
    | (refine ws_ret ?_)
    | refine wz_ret ?_
    | refine wz_retT ?_
    | refine ws_skip ?_
    | refine ws_exp ?_
    | refine ws_par ?_
    | refine ws_asgT ?_
    | refine we_tup ?_
    | refine we_lst ?_
    | refine we_ix ?_
    | refine we_not ?_
    | refine we_and ?_
    | refine we_or ?_
    | refine we_ite ?_
    | refine we_chn ?_
    | refine we_comp ?_
    | refine wi_rng ?_
    | refine wi_sq ?_
    | refine wi_enm ?_
    | refine wn1 ⟨by omega, by omega⟩ ?_
    | refine wn2 ⟨by omega, by omega⟩ ⟨by omega, by omega⟩ ?_
    | refine wbd_nil ?_
    | refine wbd_one ?_
    | refine wb_len ?_
    | refine wb_lenT ?_
    | refine wb_min ?_
    | refine wb_max ?_
    | refine we_neg ?_
    | refine we_slc ?_
    | refine we_rev ?_
    | refine we_lsq ?_
    | refine we_tsq ?_
    | refine we_lrg ?_
    | refine we_trg ?_
    | refine ws_for ?_
    | refine ws_brk ?_
    | refine ws_cnt ?_
    | refine ws_retN ?_
    | refine wx_any (by first | assumption | rfl) ?_
    | refine ⟨_, rfl, ?_⟩
    | refine wfil (by rfl) (fun ht => ?_) (fun ht => ?_)
    | exact ⟨rfl, rfl⟩
  · refine ⟨?_⟩
    by_cases hp : 0 < dd
    · have e11 := e10 hp
      repeat first
        | (with_reducible exact rfl)
        | refine ws_seq ?_
        | refine ws_asg ?_
        | refine we_bin ?_
        | refine we_cmp ?_
        | refine we_call ?_
        | refine we_blt ?_
        | refine we_lit ?_
        | (refine we_glb (by rfl) ?_)
        | (refine we_var (by rfl) ?_; try dsimp only [List.set, List.map, Mir.lend, List.getElem?_cons_zero, List.getElem?_cons_succ, List.cons_append, List.nil_append, List.foldl, Mir.lockAll, Mir.lock1, Mir.unlockAll, Mir.unlock1, Mir.restG, Mir.walked, Option.getD, Mir.look, Mir.Slot.d, Mir.XF])
        | (refine we_slot (by rfl) ?_; try dsimp only [List.set, List.map, Mir.lend, List.getElem?_cons_zero, List.getElem?_cons_succ, List.cons_append, List.nil_append, List.foldl, Mir.lockAll, Mir.lock1, Mir.unlockAll, Mir.unlock1, Mir.restG, Mir.walked, Option.getD, Mir.look, Mir.Slot.d, Mir.XF])
        | refine wes_cons ?_
        | refine wes_nil ?_
        | refine wvs_cons ?_
        | refine wvs_nil ?_
        | refine wv_val ?_
        | refine wv_tmp ?_
        | (refine wv_slot (by rfl) ?_; try dsimp only [List.set, List.map, Mir.lend, List.getElem?_cons_zero, List.getElem?_cons_succ, List.cons_append, List.nil_append, List.foldl, Mir.lockAll, Mir.lock1, Mir.unlockAll, Mir.unlock1, Mir.restG, Mir.walked, Option.getD, Mir.look, Mir.Slot.d, Mir.XF])
        | (refine wc (by rfl) ?_; try dsimp only [List.set, List.map, Mir.lend, List.getElem?_cons_zero, List.getElem?_cons_succ, List.cons_append, List.nil_append, List.foldl, Mir.lockAll, Mir.lock1, Mir.unlockAll, Mir.unlock1, Mir.restG, Mir.walked, Option.getD, Mir.look, Mir.Slot.d, Mir.XF])
        | (refine wr e9 ?_)
        | (refine wr e11 ?_)
        | (refine wz (by rfl) ?_; try dsimp only [List.set, List.map, Mir.lend, List.getElem?_cons_zero, List.getElem?_cons_succ, List.cons_append, List.nil_append, List.foldl, Mir.lockAll, Mir.lock1, Mir.unlockAll, Mir.unlock1, Mir.restG, Mir.walked, Option.getD, Mir.look, Mir.Slot.d, Mir.XF])
        | (refine wz_setv (by rfl) (by assumption) ?_; try dsimp only [List.set, List.map, Mir.lend, List.getElem?_cons_zero, List.getElem?_cons_succ, List.cons_append, List.nil_append, List.foldl, Mir.lockAll, Mir.lock1, Mir.unlockAll, Mir.unlock1, Mir.restG, Mir.walked, Option.getD, Mir.look, Mir.Slot.d, Mir.XF])
        | (refine wz_setw (by rfl) (by assumption) ?_; try dsimp only [List.set, List.map, Mir.lend, List.getElem?_cons_zero, List.getElem?_cons_succ, List.cons_append, List.nil_append, List.foldl, Mir.lockAll, Mir.lock1, Mir.unlockAll, Mir.unlock1, Mir.restG, Mir.walked, Option.getD, Mir.look, Mir.Slot.d, Mir.XF])
        | refine wo_f ?_
        | refine wo_t ?_
        | refine wline (by first | omega | exact Nat.le_of_ble_eq_true rfl) ?_
        | refine w2_add ?_
        | refine w2_sub ?_
        | refine w2_mul (by first | assumption | exact big_of ⟨by omega, by omega⟩ ⟨by omega, by omega⟩) ?_
        | refine w2_fdiv (by first | assumption | exact div_of (by omega) (by omega)) ?_
        | refine w2_mod (by omega) ?_
        | refine w2_lists (by first | omega | exact Nat.le_of_ble_eq_true rfl | (simp only [List.length_cons, List.length_nil]; omega)) ?_
        | refine w2_tups (by first | omega | (simp only [List.length_cons, List.length_nil, List.length_map, List.length_replicate]; omega)) ?_
        | refine wk_lt ?_
        | refine wk_le ?_
        | refine wk_gt ?_
        | refine wk_ge ?_
        | refine wk_eqI ?_
        | refine wk_neI ?_
        | refine wk_any (by first | assumption | rfl) ?_
        | refine wt_bool ?_
        | refine wt_any (by first | assumption | rfl) ?_
        | refine wand_t (by first | rfl | assumption | exact decide_eq_true (by omega) | exact nd_t (by omega)) ?_
        | refine wand_f (by first | rfl | assumption | exact decide_eq_false (by omega) | exact nd_f (by omega)) ?_
        | refine ws_ife ?_
        | (refine ws_ret ?_)
        | refine wz_ret ?_
        | refine wz_retT ?_
        | refine ws_skip ?_
        | refine ws_exp ?_
        | refine ws_par ?_
        | refine ws_asgT ?_
        | refine we_tup ?_
        | refine we_lst ?_
        | refine we_ix ?_
        | refine we_not ?_
        | refine we_and ?_
        | refine we_or ?_
        | refine we_ite ?_
        | refine we_chn ?_
        | refine we_comp ?_
        | refine wi_rng ?_
        | refine wi_sq ?_
        | refine wi_enm ?_
        | refine wn1 ⟨by omega, by omega⟩ ?_
        | refine wn2 ⟨by omega, by omega⟩ ⟨by omega, by omega⟩ ?_
        | refine wbd_nil ?_
        | refine wbd_one ?_
        | refine wb_len ?_
        | refine wb_lenT ?_
        | refine wb_min ?_
        | refine wb_max ?_
        | refine we_neg ?_
        | refine we_slc ?_
        | refine we_rev ?_
        | refine we_lsq ?_
        | refine we_tsq ?_
        | refine we_lrg ?_
        | refine we_trg ?_
        | refine ws_for ?_
        | refine ws_brk ?_
        | refine ws_cnt ?_
        | refine ws_retN ?_
        | refine wx_any (by first | assumption | rfl) ?_
        | refine ⟨_, rfl, ?_⟩
        | refine wfil (by rfl) (fun ht => ?_) (fun ht => ?_)
        | exact ⟨rfl, rfl⟩
    · repeat first
        | (with_reducible exact rfl)
        | refine ws_seq ?_
        | refine ws_asg ?_
        | refine we_bin ?_
        | refine we_cmp ?_
        | refine we_call ?_
        | refine we_blt ?_
        | refine we_lit ?_
        | (refine we_glb (by rfl) ?_)
        | (refine we_var (by rfl) ?_; try dsimp only [List.set, List.map, Mir.lend, List.getElem?_cons_zero, List.getElem?_cons_succ, List.cons_append, List.nil_append, List.foldl, Mir.lockAll, Mir.lock1, Mir.unlockAll, Mir.unlock1, Mir.restG, Mir.walked, Option.getD, Mir.look, Mir.Slot.d, Mir.XF])
        | (refine we_slot (by rfl) ?_; try dsimp only [List.set, List.map, Mir.lend, List.getElem?_cons_zero, List.getElem?_cons_succ, List.cons_append, List.nil_append, List.foldl, Mir.lockAll, Mir.lock1, Mir.unlockAll, Mir.unlock1, Mir.restG, Mir.walked, Option.getD, Mir.look, Mir.Slot.d, Mir.XF])
        | refine wes_cons ?_
        | refine wes_nil ?_
        | refine wvs_cons ?_
        | refine wvs_nil ?_
        | refine wv_val ?_
        | refine wv_tmp ?_
        | (refine wv_slot (by rfl) ?_; try dsimp only [List.set, List.map, Mir.lend, List.getElem?_cons_zero, List.getElem?_cons_succ, List.cons_append, List.nil_append, List.foldl, Mir.lockAll, Mir.lock1, Mir.unlockAll, Mir.unlock1, Mir.restG, Mir.walked, Option.getD, Mir.look, Mir.Slot.d, Mir.XF])
        | (refine wc (by rfl) ?_; try dsimp only [List.set, List.map, Mir.lend, List.getElem?_cons_zero, List.getElem?_cons_succ, List.cons_append, List.nil_append, List.foldl, Mir.lockAll, Mir.lock1, Mir.unlockAll, Mir.unlock1, Mir.restG, Mir.walked, Option.getD, Mir.look, Mir.Slot.d, Mir.XF])
        | (refine wr e9 ?_)
        | (refine wz (by rfl) ?_; try dsimp only [List.set, List.map, Mir.lend, List.getElem?_cons_zero, List.getElem?_cons_succ, List.cons_append, List.nil_append, List.foldl, Mir.lockAll, Mir.lock1, Mir.unlockAll, Mir.unlock1, Mir.restG, Mir.walked, Option.getD, Mir.look, Mir.Slot.d, Mir.XF])
        | (refine wz_setv (by rfl) (by assumption) ?_; try dsimp only [List.set, List.map, Mir.lend, List.getElem?_cons_zero, List.getElem?_cons_succ, List.cons_append, List.nil_append, List.foldl, Mir.lockAll, Mir.lock1, Mir.unlockAll, Mir.unlock1, Mir.restG, Mir.walked, Option.getD, Mir.look, Mir.Slot.d, Mir.XF])
        | (refine wz_setw (by rfl) (by assumption) ?_; try dsimp only [List.set, List.map, Mir.lend, List.getElem?_cons_zero, List.getElem?_cons_succ, List.cons_append, List.nil_append, List.foldl, Mir.lockAll, Mir.lock1, Mir.unlockAll, Mir.unlock1, Mir.restG, Mir.walked, Option.getD, Mir.look, Mir.Slot.d, Mir.XF])
        | refine wo_f ?_
        | refine wo_t ?_
        | refine wline (by first | omega | exact Nat.le_of_ble_eq_true rfl) ?_
        | refine w2_add ?_
        | refine w2_sub ?_
        | refine w2_mul (by first | assumption | exact big_of ⟨by omega, by omega⟩ ⟨by omega, by omega⟩) ?_
        | refine w2_fdiv (by first | assumption | exact div_of (by omega) (by omega)) ?_
        | refine w2_mod (by omega) ?_
        | refine w2_lists (by first | omega | exact Nat.le_of_ble_eq_true rfl | (simp only [List.length_cons, List.length_nil]; omega)) ?_
        | refine w2_tups (by first | omega | (simp only [List.length_cons, List.length_nil, List.length_map, List.length_replicate]; omega)) ?_
        | refine wk_lt ?_
        | refine wk_le ?_
        | refine wk_gt ?_
        | refine wk_ge ?_
        | refine wk_eqI ?_
        | refine wk_neI ?_
        | refine wk_any (by first | assumption | rfl) ?_
        | refine wt_bool ?_
        | refine wt_any (by first | assumption | rfl) ?_
        | refine wand_t (by first | rfl | assumption | exact decide_eq_true (by omega) | exact nd_t (by omega)) ?_
        | refine wand_f (by first | rfl | assumption | exact decide_eq_false (by omega) | exact nd_f (by omega)) ?_
        | refine ws_ife ?_
        | (refine ws_ret ?_)
        | refine wz_ret ?_
        | refine wz_retT ?_
        | refine ws_skip ?_
        | refine ws_exp ?_
        | refine ws_par ?_
        | refine ws_asgT ?_
        | refine we_tup ?_
        | refine we_lst ?_
        | refine we_ix ?_
        | refine we_not ?_
        | refine we_and ?_
        | refine we_or ?_
        | refine we_ite ?_
        | refine we_chn ?_
        | refine we_comp ?_
        | refine wi_rng ?_
        | refine wi_sq ?_
        | refine wi_enm ?_
        | refine wn1 ⟨by omega, by omega⟩ ?_
        | refine wn2 ⟨by omega, by omega⟩ ⟨by omega, by omega⟩ ?_
        | refine wbd_nil ?_
        | refine wbd_one ?_
        | refine wb_len ?_
        | refine wb_lenT ?_
        | refine wb_min ?_
        | refine wb_max ?_
        | refine we_neg ?_
        | refine we_slc ?_
        | refine we_rev ?_
        | refine we_lsq ?_
        | refine we_tsq ?_
        | refine we_lrg ?_
        | refine we_trg ?_
        | refine ws_for ?_
        | refine ws_brk ?_
        | refine ws_cnt ?_
        | refine ws_retN ?_
        | refine wx_any (by first | assumption | rfl) ?_
        | refine ⟨_, rfl, ?_⟩
        | refine wfil (by rfl) (fun ht => ?_) (fun ht => ?_)
        | exact ⟨rfl, rfl⟩
  · refine ⟨?_⟩
    by_cases hb : base ≤ DU
    · have pd := pk hb
      have k1 := least_draw (k := n) (by omega) s1ok lsok pd
      have k2 := like_int (k := n) (i := DU) (by omega)
      have k3 := draw_right (k := n) (b := true) (by omega) s1ok lsok du0 du1 pd.2.1.symm
      have k4 : 0 < DU → callN Tb n 9 [.sh (storeD (1 + t, 1000000)), .sh (loadsD ls), .sh (.int (DU - 1)), .sh (.bool false)] = .ok (.bool true, false, [.emp, .emp, .emp, .emp]) := fun hp => draw_right (b := false) (by omega) s1ok lsok (by omega) (by omega) (pd.2.2 (DU - 1) (by omega) (by omega)).symm
      rw [← hC] at k1 k2 k3 k4
      by_cases hp : 0 < DU
      · have k5 := k4 hp
        repeat first
          | (with_reducible exact rfl)
          | refine ws_seq ?_
          | refine ws_asg ?_
          | refine we_bin ?_
          | refine we_cmp ?_
          | refine we_call ?_
          | refine we_blt ?_
          | refine we_lit ?_
          | (refine we_glb (by rfl) ?_)
          | (refine we_var (by rfl) ?_; try dsimp only [List.set, List.map, Mir.lend, List.getElem?_cons_zero, List.getElem?_cons_succ, List.cons_append, List.nil_append, List.foldl, Mir.lockAll, Mir.lock1, Mir.unlockAll, Mir.unlock1, Mir.restG, Mir.walked, Option.getD, Mir.look, Mir.Slot.d, Mir.XF])
          | (refine we_slot (by rfl) ?_; try dsimp only [List.set, List.map, Mir.lend, List.getElem?_cons_zero, List.getElem?_cons_succ, List.cons_append, List.nil_append, List.foldl, Mir.lockAll, Mir.lock1, Mir.unlockAll, Mir.unlock1, Mir.restG, Mir.walked, Option.getD, Mir.look, Mir.Slot.d, Mir.XF])
          | refine wes_cons ?_
          | refine wes_nil ?_
          | refine wvs_cons ?_
          | refine wvs_nil ?_
          | refine wv_val ?_
          | refine wv_tmp ?_
          | (refine wv_slot (by rfl) ?_; try dsimp only [List.set, List.map, Mir.lend, List.getElem?_cons_zero, List.getElem?_cons_succ, List.cons_append, List.nil_append, List.foldl, Mir.lockAll, Mir.lock1, Mir.unlockAll, Mir.unlock1, Mir.restG, Mir.walked, Option.getD, Mir.look, Mir.Slot.d, Mir.XF])
          | (refine wc (by rfl) ?_; try dsimp only [List.set, List.map, Mir.lend, List.getElem?_cons_zero, List.getElem?_cons_succ, List.cons_append, List.nil_append, List.foldl, Mir.lockAll, Mir.lock1, Mir.unlockAll, Mir.unlock1, Mir.restG, Mir.walked, Option.getD, Mir.look, Mir.Slot.d, Mir.XF])
          | (refine wr k1 ?_)
          | (refine wr k2 ?_)
          | (refine wr k3 ?_)
          | (refine wr k5 ?_)
          | (refine wz (by rfl) ?_; try dsimp only [List.set, List.map, Mir.lend, List.getElem?_cons_zero, List.getElem?_cons_succ, List.cons_append, List.nil_append, List.foldl, Mir.lockAll, Mir.lock1, Mir.unlockAll, Mir.unlock1, Mir.restG, Mir.walked, Option.getD, Mir.look, Mir.Slot.d, Mir.XF])
          | (refine wz_setv (by rfl) (by assumption) ?_; try dsimp only [List.set, List.map, Mir.lend, List.getElem?_cons_zero, List.getElem?_cons_succ, List.cons_append, List.nil_append, List.foldl, Mir.lockAll, Mir.lock1, Mir.unlockAll, Mir.unlock1, Mir.restG, Mir.walked, Option.getD, Mir.look, Mir.Slot.d, Mir.XF])
          | (refine wz_setw (by rfl) (by assumption) ?_; try dsimp only [List.set, List.map, Mir.lend, List.getElem?_cons_zero, List.getElem?_cons_succ, List.cons_append, List.nil_append, List.foldl, Mir.lockAll, Mir.lock1, Mir.unlockAll, Mir.unlock1, Mir.restG, Mir.walked, Option.getD, Mir.look, Mir.Slot.d, Mir.XF])
          | refine wo_f ?_
          | refine wo_t ?_
          | refine wline (by first | omega | exact Nat.le_of_ble_eq_true rfl) ?_
          | refine w2_add ?_
          | refine w2_sub ?_
          | refine w2_mul (by first | assumption | exact big_of ⟨by omega, by omega⟩ ⟨by omega, by omega⟩) ?_
          | refine w2_fdiv (by first | assumption | exact div_of (by omega) (by omega)) ?_
          | refine w2_mod (by omega) ?_
          | refine w2_lists (by first | omega | exact Nat.le_of_ble_eq_true rfl | (simp only [List.length_cons, List.length_nil]; omega)) ?_
          | refine w2_tups (by first | omega | (simp only [List.length_cons, List.length_nil, List.length_map, List.length_replicate]; omega)) ?_
          | refine wk_lt ?_
          | refine wk_le ?_
          | refine wk_gt ?_
          | refine wk_ge ?_
          | refine wk_eqI ?_
          | refine wk_neI ?_
          | refine wk_any (by first | assumption | rfl) ?_
          | refine wt_bool ?_
          | refine wt_any (by first | assumption | rfl) ?_
          | refine wand_t (by first | rfl | assumption | exact decide_eq_true (by omega) | exact nd_t (by omega)) ?_
          | refine wand_f (by first | rfl | assumption | exact decide_eq_false (by omega) | exact nd_f (by omega)) ?_
          | refine ws_ife ?_
          | (refine ws_ret ?_)
          | refine wz_ret ?_
          | refine wz_retT ?_
          | refine ws_skip ?_
          | refine ws_exp ?_
          | refine ws_par ?_
          | refine ws_asgT ?_
          | refine we_tup ?_
          | refine we_lst ?_
          | refine we_ix ?_
          | refine we_not ?_
          | refine we_and ?_
          | refine we_or ?_
          | refine we_ite ?_
          | refine we_chn ?_
          | refine we_comp ?_
          | refine wi_rng ?_
          | refine wi_sq ?_
          | refine wi_enm ?_
          | refine wn1 ⟨by omega, by omega⟩ ?_
          | refine wn2 ⟨by omega, by omega⟩ ⟨by omega, by omega⟩ ?_
          | refine wbd_nil ?_
          | refine wbd_one ?_
          | refine wb_len ?_
          | refine wb_lenT ?_
          | refine wb_min ?_
          | refine wb_max ?_
          | refine we_neg ?_
          | refine we_slc ?_
          | refine we_rev ?_
          | refine we_lsq ?_
          | refine we_tsq ?_
          | refine we_lrg ?_
          | refine we_trg ?_
          | refine ws_for ?_
          | refine ws_brk ?_
          | refine ws_cnt ?_
          | refine ws_retN ?_
          | refine wx_any (by first | assumption | rfl) ?_
          | refine ⟨_, rfl, ?_⟩
          | refine wfil (by rfl) (fun ht => ?_) (fun ht => ?_)
          | exact ⟨rfl, rfl⟩
      · repeat first
          | (with_reducible exact rfl)
          | refine ws_seq ?_
          | refine ws_asg ?_
          | refine we_bin ?_
          | refine we_cmp ?_
          | refine we_call ?_
          | refine we_blt ?_
          | refine we_lit ?_
          | (refine we_glb (by rfl) ?_)
          | (refine we_var (by rfl) ?_; try dsimp only [List.set, List.map, Mir.lend, List.getElem?_cons_zero, List.getElem?_cons_succ, List.cons_append, List.nil_append, List.foldl, Mir.lockAll, Mir.lock1, Mir.unlockAll, Mir.unlock1, Mir.restG, Mir.walked, Option.getD, Mir.look, Mir.Slot.d, Mir.XF])
          | (refine we_slot (by rfl) ?_; try dsimp only [List.set, List.map, Mir.lend, List.getElem?_cons_zero, List.getElem?_cons_succ, List.cons_append, List.nil_append, List.foldl, Mir.lockAll, Mir.lock1, Mir.unlockAll, Mir.unlock1, Mir.restG, Mir.walked, Option.getD, Mir.look, Mir.Slot.d, Mir.XF])
          | refine wes_cons ?_
          | refine wes_nil ?_
          | refine wvs_cons ?_
          | refine wvs_nil ?_
          | refine wv_val ?_
          | refine wv_tmp ?_
          | (refine wv_slot (by rfl) ?_; try dsimp only [List.set, List.map, Mir.lend, List.getElem?_cons_zero, List.getElem?_cons_succ, List.cons_append, List.nil_append, List.foldl, Mir.lockAll, Mir.lock1, Mir.unlockAll, Mir.unlock1, Mir.restG, Mir.walked, Option.getD, Mir.look, Mir.Slot.d, Mir.XF])
          | (refine wc (by rfl) ?_; try dsimp only [List.set, List.map, Mir.lend, List.getElem?_cons_zero, List.getElem?_cons_succ, List.cons_append, List.nil_append, List.foldl, Mir.lockAll, Mir.lock1, Mir.unlockAll, Mir.unlock1, Mir.restG, Mir.walked, Option.getD, Mir.look, Mir.Slot.d, Mir.XF])
          | (refine wr k1 ?_)
          | (refine wr k2 ?_)
          | (refine wr k3 ?_)
          | (refine wz (by rfl) ?_; try dsimp only [List.set, List.map, Mir.lend, List.getElem?_cons_zero, List.getElem?_cons_succ, List.cons_append, List.nil_append, List.foldl, Mir.lockAll, Mir.lock1, Mir.unlockAll, Mir.unlock1, Mir.restG, Mir.walked, Option.getD, Mir.look, Mir.Slot.d, Mir.XF])
          | (refine wz_setv (by rfl) (by assumption) ?_; try dsimp only [List.set, List.map, Mir.lend, List.getElem?_cons_zero, List.getElem?_cons_succ, List.cons_append, List.nil_append, List.foldl, Mir.lockAll, Mir.lock1, Mir.unlockAll, Mir.unlock1, Mir.restG, Mir.walked, Option.getD, Mir.look, Mir.Slot.d, Mir.XF])
          | (refine wz_setw (by rfl) (by assumption) ?_; try dsimp only [List.set, List.map, Mir.lend, List.getElem?_cons_zero, List.getElem?_cons_succ, List.cons_append, List.nil_append, List.foldl, Mir.lockAll, Mir.lock1, Mir.unlockAll, Mir.unlock1, Mir.restG, Mir.walked, Option.getD, Mir.look, Mir.Slot.d, Mir.XF])
          | refine wo_f ?_
          | refine wo_t ?_
          | refine wline (by first | omega | exact Nat.le_of_ble_eq_true rfl) ?_
          | refine w2_add ?_
          | refine w2_sub ?_
          | refine w2_mul (by first | assumption | exact big_of ⟨by omega, by omega⟩ ⟨by omega, by omega⟩) ?_
          | refine w2_fdiv (by first | assumption | exact div_of (by omega) (by omega)) ?_
          | refine w2_mod (by omega) ?_
          | refine w2_lists (by first | omega | exact Nat.le_of_ble_eq_true rfl | (simp only [List.length_cons, List.length_nil]; omega)) ?_
          | refine w2_tups (by first | omega | (simp only [List.length_cons, List.length_nil, List.length_map, List.length_replicate]; omega)) ?_
          | refine wk_lt ?_
          | refine wk_le ?_
          | refine wk_gt ?_
          | refine wk_ge ?_
          | refine wk_eqI ?_
          | refine wk_neI ?_
          | refine wk_any (by first | assumption | rfl) ?_
          | refine wt_bool ?_
          | refine wt_any (by first | assumption | rfl) ?_
          | refine wand_t (by first | rfl | assumption | exact decide_eq_true (by omega) | exact nd_t (by omega)) ?_
          | refine wand_f (by first | rfl | assumption | exact decide_eq_false (by omega) | exact nd_f (by omega)) ?_
          | refine ws_ife ?_
          | (refine ws_ret ?_)
          | refine wz_ret ?_
          | refine wz_retT ?_
          | refine ws_skip ?_
          | refine ws_exp ?_
          | refine ws_par ?_
          | refine ws_asgT ?_
          | refine we_tup ?_
          | refine we_lst ?_
          | refine we_ix ?_
          | refine we_not ?_
          | refine we_and ?_
          | refine we_or ?_
          | refine we_ite ?_
          | refine we_chn ?_
          | refine we_comp ?_
          | refine wi_rng ?_
          | refine wi_sq ?_
          | refine wi_enm ?_
          | refine wn1 ⟨by omega, by omega⟩ ?_
          | refine wn2 ⟨by omega, by omega⟩ ⟨by omega, by omega⟩ ?_
          | refine wbd_nil ?_
          | refine wbd_one ?_
          | refine wb_len ?_
          | refine wb_lenT ?_
          | refine wb_min ?_
          | refine wb_max ?_
          | refine we_neg ?_
          | refine we_slc ?_
          | refine we_rev ?_
          | refine we_lsq ?_
          | refine we_tsq ?_
          | refine we_lrg ?_
          | refine we_trg ?_
          | refine ws_for ?_
          | refine ws_brk ?_
          | refine ws_cnt ?_
          | refine ws_retN ?_
          | refine wx_any (by first | assumption | rfl) ?_
          | refine ⟨_, rfl, ?_⟩
          | refine wfil (by rfl) (fun ht => ?_) (fun ht => ?_)
          | exact ⟨rfl, rfl⟩
    · repeat first
        | (with_reducible exact rfl)
        | refine ws_seq ?_
        | refine ws_asg ?_
        | refine we_bin ?_
        | refine we_cmp ?_
        | refine we_call ?_
        | refine we_blt ?_
        | refine we_lit ?_
        | (refine we_glb (by rfl) ?_)
        | (refine we_var (by rfl) ?_; try dsimp only [List.set, List.map, Mir.lend, List.getElem?_cons_zero, List.getElem?_cons_succ, List.cons_append, List.nil_append, List.foldl, Mir.lockAll, Mir.lock1, Mir.unlockAll, Mir.unlock1, Mir.restG, Mir.walked, Option.getD, Mir.look, Mir.Slot.d, Mir.XF])
        | (refine we_slot (by rfl) ?_; try dsimp only [List.set, List.map, Mir.lend, List.getElem?_cons_zero, List.getElem?_cons_succ, List.cons_append, List.nil_append, List.foldl, Mir.lockAll, Mir.lock1, Mir.unlockAll, Mir.unlock1, Mir.restG, Mir.walked, Option.getD, Mir.look, Mir.Slot.d, Mir.XF])
        | refine wes_cons ?_
        | refine wes_nil ?_
        | refine wvs_cons ?_
        | refine wvs_nil ?_
        | refine wv_val ?_
        | refine wv_tmp ?_
        | (refine wv_slot (by rfl) ?_; try dsimp only [List.set, List.map, Mir.lend, List.getElem?_cons_zero, List.getElem?_cons_succ, List.cons_append, List.nil_append, List.foldl, Mir.lockAll, Mir.lock1, Mir.unlockAll, Mir.unlock1, Mir.restG, Mir.walked, Option.getD, Mir.look, Mir.Slot.d, Mir.XF])
        | (refine wc (by rfl) ?_; try dsimp only [List.set, List.map, Mir.lend, List.getElem?_cons_zero, List.getElem?_cons_succ, List.cons_append, List.nil_append, List.foldl, Mir.lockAll, Mir.lock1, Mir.unlockAll, Mir.unlock1, Mir.restG, Mir.walked, Option.getD, Mir.look, Mir.Slot.d, Mir.XF])
        | (refine wz (by rfl) ?_; try dsimp only [List.set, List.map, Mir.lend, List.getElem?_cons_zero, List.getElem?_cons_succ, List.cons_append, List.nil_append, List.foldl, Mir.lockAll, Mir.lock1, Mir.unlockAll, Mir.unlock1, Mir.restG, Mir.walked, Option.getD, Mir.look, Mir.Slot.d, Mir.XF])
        | (refine wz_setv (by rfl) (by assumption) ?_; try dsimp only [List.set, List.map, Mir.lend, List.getElem?_cons_zero, List.getElem?_cons_succ, List.cons_append, List.nil_append, List.foldl, Mir.lockAll, Mir.lock1, Mir.unlockAll, Mir.unlock1, Mir.restG, Mir.walked, Option.getD, Mir.look, Mir.Slot.d, Mir.XF])
        | (refine wz_setw (by rfl) (by assumption) ?_; try dsimp only [List.set, List.map, Mir.lend, List.getElem?_cons_zero, List.getElem?_cons_succ, List.cons_append, List.nil_append, List.foldl, Mir.lockAll, Mir.lock1, Mir.unlockAll, Mir.unlock1, Mir.restG, Mir.walked, Option.getD, Mir.look, Mir.Slot.d, Mir.XF])
        | refine wo_f ?_
        | refine wo_t ?_
        | refine wline (by first | omega | exact Nat.le_of_ble_eq_true rfl) ?_
        | refine w2_add ?_
        | refine w2_sub ?_
        | refine w2_mul (by first | assumption | exact big_of ⟨by omega, by omega⟩ ⟨by omega, by omega⟩) ?_
        | refine w2_fdiv (by first | assumption | exact div_of (by omega) (by omega)) ?_
        | refine w2_mod (by omega) ?_
        | refine w2_lists (by first | omega | exact Nat.le_of_ble_eq_true rfl | (simp only [List.length_cons, List.length_nil]; omega)) ?_
        | refine w2_tups (by first | omega | (simp only [List.length_cons, List.length_nil, List.length_map, List.length_replicate]; omega)) ?_
        | refine wk_lt ?_
        | refine wk_le ?_
        | refine wk_gt ?_
        | refine wk_ge ?_
        | refine wk_eqI ?_
        | refine wk_neI ?_
        | refine wk_any (by first | assumption | rfl) ?_
        | refine wt_bool ?_
        | refine wt_any (by first | assumption | rfl) ?_
        | refine wand_t (by first | rfl | assumption | exact decide_eq_true (by omega) | exact nd_t (by omega)) ?_
        | refine wand_f (by first | rfl | assumption | exact decide_eq_false (by omega) | exact nd_f (by omega)) ?_
        | refine ws_ife ?_
        | (refine ws_ret ?_)
        | refine wz_ret ?_
        | refine wz_retT ?_
        | refine ws_skip ?_
        | refine ws_exp ?_
        | refine ws_par ?_
        | refine ws_asgT ?_
        | refine we_tup ?_
        | refine we_lst ?_
        | refine we_ix ?_
        | refine we_not ?_
        | refine we_and ?_
        | refine we_or ?_
        | refine we_ite ?_
        | refine we_chn ?_
        | refine we_comp ?_
        | refine wi_rng ?_
        | refine wi_sq ?_
        | refine wi_enm ?_
        | refine wn1 ⟨by omega, by omega⟩ ?_
        | refine wn2 ⟨by omega, by omega⟩ ⟨by omega, by omega⟩ ?_
        | refine wbd_nil ?_
        | refine wbd_one ?_
        | refine wb_len ?_
        | refine wb_lenT ?_
        | refine wb_min ?_
        | refine wb_max ?_
        | refine we_neg ?_
        | refine we_slc ?_
        | refine we_rev ?_
        | refine we_lsq ?_
        | refine we_tsq ?_
        | refine we_lrg ?_
        | refine we_trg ?_
        | refine ws_for ?_
        | refine ws_brk ?_
        | refine ws_cnt ?_
        | refine ws_retN ?_
        | refine wx_any (by first | assumption | rfl) ?_
        | refine ⟨_, rfl, ?_⟩
        | refine wfil (by rfl) (fun ht => ?_) (fun ht => ?_)
        | exact ⟨rfl, rfl⟩
end Law

set_option Elab.async false
set_option autoImplicit false
set_option linter.all false
set_option maxRecDepth 100000
set_option maxHeartbeats 4000000
namespace Law
open PySem Mir
def isTrueR : R (D × Bool × List Slot) → Bool
  | .ok (.bool true, false, []) => true
  | _ => false
theorem of_isTrue {r : R (D × Bool × List Slot)} (h : isTrueR r = true) : r = .ok (.bool true, false, []) := by
  unfold isTrueR at h
  split at h
  · rfl
  · cases h
theorem written : callN Tb 11 2 [] = .ok (.bool true, false, []) := of_isTrue (by decide +kernel)
theorem top (ns : List Int) (hl : ns.length ≤ 63) (hb : ∀ z ∈ ns, Builtin.Int.intBits z ≤ 1048576) : ∃ fin, callN Tb 12 0 [.sh (.scr ns)] = .ok (.bool true, false, fin) := by
  obtain ⟨c0, c1, ok1, q1⟩ := cup_of ns hl hb
  obtain ⟨⟨f0, f1⟩, ok2, q2⟩ := wf_draw (T := Tb) (dep := 8) (Ok := fun e : Int × Int => CupOk e.1 e.2) (S := Sv) (Γ := fun e t => [.sh (.scr ns), .li [.int e.1, .int e.2] false .own, t]) (tg := .nm 2)
    (s := .seq (.ife (.not (.call 3 (.cons (.var 1) .nil))) (.seq (.ret (.lit (.bool false))) .skip) .skip) .skip) (by
      rintro ⟨e0, e1⟩ he
      obtain ⟨g0, g1, ok, q⟩ := small e0 e1 he
      refine ⟨(g0, g1), ok, fun n hn C hC a t ht => ?_⟩
      have k1 := q n hn
      rw [← hC] at k1
      have fin : ∃ t', Sv t' ∧ [Slot.sh (.scr ns), .li [.int g0, .int g1] false .own, .sh a] = [Slot.sh (.scr ns), .li [.int g0, .int g1] false .own, t'] := ⟨_, Sv.v, rfl⟩
      repeat first
        | exact fin
        | refine ws_seq ?_
        | refine ws_asg ?_
        | refine we_bin ?_
        | refine we_cmp ?_
        | refine we_call ?_
        | refine we_blt ?_
        | refine we_lit ?_
        | (refine we_glb (by rfl) ?_)
        | (refine we_var (by rfl) ?_; try dsimp only [List.set, List.map, Mir.lend, List.getElem?_cons_zero, List.getElem?_cons_succ, List.cons_append, List.nil_append, List.foldl, Mir.lockAll, Mir.lock1, Mir.unlockAll, Mir.unlock1, Mir.restG, Mir.walked, Option.getD, Mir.look, Mir.Slot.d, Mir.XF])
        | (refine we_slot (by rfl) ?_; try dsimp only [List.set, List.map, Mir.lend, List.getElem?_cons_zero, List.getElem?_cons_succ, List.cons_append, List.nil_append, List.foldl, Mir.lockAll, Mir.lock1, Mir.unlockAll, Mir.unlock1, Mir.restG, Mir.walked, Option.getD, Mir.look, Mir.Slot.d, Mir.XF])
        | refine wes_cons ?_
        | refine wes_nil ?_
        | refine wvs_cons ?_
        | refine wvs_nil ?_
        | refine wv_val ?_
        | refine wv_tmp ?_
        | (refine wv_slot (by rfl) ?_; try dsimp only [List.set, List.map, Mir.lend, List.getElem?_cons_zero, List.getElem?_cons_succ, List.cons_append, List.nil_append, List.foldl, Mir.lockAll, Mir.lock1, Mir.unlockAll, Mir.unlock1, Mir.restG, Mir.walked, Option.getD, Mir.look, Mir.Slot.d, Mir.XF])
        | (refine wc (by rfl) ?_; try dsimp only [List.set, List.map, Mir.lend, List.getElem?_cons_zero, List.getElem?_cons_succ, List.cons_append, List.nil_append, List.foldl, Mir.lockAll, Mir.lock1, Mir.unlockAll, Mir.unlock1, Mir.restG, Mir.walked, Option.getD, Mir.look, Mir.Slot.d, Mir.XF])
        | (refine wr k1 ?_)
        | (refine wz (by rfl) ?_; try dsimp only [List.set, List.map, Mir.lend, List.getElem?_cons_zero, List.getElem?_cons_succ, List.cons_append, List.nil_append, List.foldl, Mir.lockAll, Mir.lock1, Mir.unlockAll, Mir.unlock1, Mir.restG, Mir.walked, Option.getD, Mir.look, Mir.Slot.d, Mir.XF])
        | (refine wz_setv (by rfl) (by assumption) ?_; try dsimp only [List.set, List.map, Mir.lend, List.getElem?_cons_zero, List.getElem?_cons_succ, List.cons_append, List.nil_append, List.foldl, Mir.lockAll, Mir.lock1, Mir.unlockAll, Mir.unlock1, Mir.restG, Mir.walked, Option.getD, Mir.look, Mir.Slot.d, Mir.XF])
        | (refine wz_setw (by rfl) (by assumption) ?_; try dsimp only [List.set, List.map, Mir.lend, List.getElem?_cons_zero, List.getElem?_cons_succ, List.cons_append, List.nil_append, List.foldl, Mir.lockAll, Mir.lock1, Mir.unlockAll, Mir.unlock1, Mir.restG, Mir.walked, Option.getD, Mir.look, Mir.Slot.d, Mir.XF])
        | refine wo_f ?_
        | refine wo_t ?_
        | refine wline (by first | omega | exact Nat.le_of_ble_eq_true rfl) ?_
        | refine w2_add ?_
        | refine w2_sub ?_
        | refine w2_mul (by first | assumption | exact big_of ⟨by omega, by omega⟩ ⟨by omega, by omega⟩) ?_
        | refine w2_fdiv (by first | assumption | exact div_of (by omega) (by omega)) ?_
        | refine w2_mod (by omega) ?_
        | refine w2_lists (by first | omega | exact Nat.le_of_ble_eq_true rfl | (simp only [List.length_cons, List.length_nil]; omega)) ?_
        | refine w2_tups (by first | omega | (simp only [List.length_cons, List.length_nil, List.length_map, List.length_replicate]; omega)) ?_
        | refine wk_lt ?_
        | refine wk_le ?_
        | refine wk_gt ?_
        | refine wk_ge ?_
        | refine wk_eqI ?_
        | refine wk_neI ?_
        | refine wk_any (by first | assumption | rfl) ?_
        | refine wt_bool ?_
        | refine wt_any (by first | assumption | rfl) ?_
        | refine wand_t (by first | rfl | assumption | exact decide_eq_true (by omega) | exact nd_t (by omega)) ?_
        | refine wand_f (by first | rfl | assumption | exact decide_eq_false (by omega) | exact nd_f (by omega)) ?_
        | refine ws_ife ?_
        | (refine ws_ret ?_)
        | refine wz_ret ?_
        | refine wz_retT ?_
        | refine ws_skip ?_
        | refine ws_exp ?_
        | refine ws_par ?_
        | refine ws_asgT ?_
        | refine we_tup ?_
        | refine we_lst ?_
        | refine we_ix ?_
        | refine we_not ?_
        | refine we_and ?_
        | refine we_or ?_
        | refine we_ite ?_
        | refine we_chn ?_
        | refine we_comp ?_
        | refine wi_rng ?_
        | refine wi_sq ?_
        | refine wi_enm ?_
        | refine wn1 ⟨by omega, by omega⟩ ?_
        | refine wn2 ⟨by omega, by omega⟩ ⟨by omega, by omega⟩ ?_
        | refine wbd_nil ?_
        | refine wbd_one ?_
        | refine wb_len ?_
        | refine wb_lenT ?_
        | refine wb_min ?_
        | refine wb_max ?_
        | refine we_neg ?_
        | refine we_slc ?_
        | refine we_rev ?_
        | refine we_lsq ?_
        | refine we_tsq ?_
        | refine we_lrg ?_
        | refine we_trg ?_
        | refine ws_for ?_
        | refine ws_brk ?_
        | refine ws_cnt ?_
        | refine ws_retN ?_
        | refine wx_any (by first | assumption | rfl) ?_
        | refine ⟨_, rfl, ?_⟩
        | refine wfil (by rfl) (fun ht => ?_) (fun ht => ?_)
        | exact ⟨rfl, rfl⟩
      ) 12 (c0, c1) ok1
  obtain ⟨g0, g1, ok3, q3⟩ := great f0 f1 ok2
  refine ⟨[.emp], ?_⟩
  refine wd (fn := fn0) rfl rfl fun C hC => ?_
  have e1 := q1 11 (by decide)
  have e3 := q3 11 (by decide)
  have e4 := written
  rw [← hC] at e1 e3 e4
  dsimp only [fn0, tm0, Nat.reduceSub, List.replicate, List.cons_append, List.nil_append]
  repeat first
    | refine q2 11 (by decide) C hC _ .emp _ _ (by rw [rangeL_len]; decide) Sv.e (fun s' hs' => ?_)
    | refine ws_seq ?_
    | refine ws_asg ?_
    | refine we_bin ?_
    | refine we_cmp ?_
    | refine we_call ?_
    | refine we_blt ?_
    | refine we_lit ?_
    | (refine we_glb (by rfl) ?_)
    | (refine we_var (by rfl) ?_; try dsimp only [List.set, List.map, Mir.lend, List.getElem?_cons_zero, List.getElem?_cons_succ, List.cons_append, List.nil_append, List.foldl, Mir.lockAll, Mir.lock1, Mir.unlockAll, Mir.unlock1, Mir.restG, Mir.walked, Option.getD, Mir.look, Mir.Slot.d, Mir.XF])
    | (refine we_slot (by rfl) ?_; try dsimp only [List.set, List.map, Mir.lend, List.getElem?_cons_zero, List.getElem?_cons_succ, List.cons_append, List.nil_append, List.foldl, Mir.lockAll, Mir.lock1, Mir.unlockAll, Mir.unlock1, Mir.restG, Mir.walked, Option.getD, Mir.look, Mir.Slot.d, Mir.XF])
    | refine wes_cons ?_
    | refine wes_nil ?_
    | refine wvs_cons ?_
    | refine wvs_nil ?_
    | refine wv_val ?_
    | refine wv_tmp ?_
    | (refine wv_slot (by rfl) ?_; try dsimp only [List.set, List.map, Mir.lend, List.getElem?_cons_zero, List.getElem?_cons_succ, List.cons_append, List.nil_append, List.foldl, Mir.lockAll, Mir.lock1, Mir.unlockAll, Mir.unlock1, Mir.restG, Mir.walked, Option.getD, Mir.look, Mir.Slot.d, Mir.XF])
    | (refine wc (by rfl) ?_; try dsimp only [List.set, List.map, Mir.lend, List.getElem?_cons_zero, List.getElem?_cons_succ, List.cons_append, List.nil_append, List.foldl, Mir.lockAll, Mir.lock1, Mir.unlockAll, Mir.unlock1, Mir.restG, Mir.walked, Option.getD, Mir.look, Mir.Slot.d, Mir.XF])
    | (refine wr e1 ?_)
    | (refine wr e3 ?_)
    | (refine wr e4 ?_)
    | (refine wz (by rfl) ?_; try dsimp only [List.set, List.map, Mir.lend, List.getElem?_cons_zero, List.getElem?_cons_succ, List.cons_append, List.nil_append, List.foldl, Mir.lockAll, Mir.lock1, Mir.unlockAll, Mir.unlock1, Mir.restG, Mir.walked, Option.getD, Mir.look, Mir.Slot.d, Mir.XF])
    | (refine wz_setv (by rfl) (by assumption) ?_; try dsimp only [List.set, List.map, Mir.lend, List.getElem?_cons_zero, List.getElem?_cons_succ, List.cons_append, List.nil_append, List.foldl, Mir.lockAll, Mir.lock1, Mir.unlockAll, Mir.unlock1, Mir.restG, Mir.walked, Option.getD, Mir.look, Mir.Slot.d, Mir.XF])
    | (refine wz_setw (by rfl) (by assumption) ?_; try dsimp only [List.set, List.map, Mir.lend, List.getElem?_cons_zero, List.getElem?_cons_succ, List.cons_append, List.nil_append, List.foldl, Mir.lockAll, Mir.lock1, Mir.unlockAll, Mir.unlock1, Mir.restG, Mir.walked, Option.getD, Mir.look, Mir.Slot.d, Mir.XF])
    | refine wo_f ?_
    | refine wo_t ?_
    | refine wline (by first | omega | exact Nat.le_of_ble_eq_true rfl) ?_
    | refine w2_add ?_
    | refine w2_sub ?_
    | refine w2_mul (by first | assumption | exact big_of ⟨by omega, by omega⟩ ⟨by omega, by omega⟩) ?_
    | refine w2_fdiv (by first | assumption | exact div_of (by omega) (by omega)) ?_
    | refine w2_mod (by omega) ?_
    | refine w2_lists (by first | omega | exact Nat.le_of_ble_eq_true rfl | (simp only [List.length_cons, List.length_nil]; omega)) ?_
    | refine w2_tups (by first | omega | (simp only [List.length_cons, List.length_nil, List.length_map, List.length_replicate]; omega)) ?_
    | refine wk_lt ?_
    | refine wk_le ?_
    | refine wk_gt ?_
    | refine wk_ge ?_
    | refine wk_eqI ?_
    | refine wk_neI ?_
    | refine wk_any (by first | assumption | rfl) ?_
    | refine wt_bool ?_
    | refine wt_any (by first | assumption | rfl) ?_
    | refine wand_t (by first | rfl | assumption | exact decide_eq_true (by omega) | exact nd_t (by omega)) ?_
    | refine wand_f (by first | rfl | assumption | exact decide_eq_false (by omega) | exact nd_f (by omega)) ?_
    | refine ws_ife ?_
    | (refine ws_ret ?_)
    | refine wz_ret ?_
    | refine wz_retT ?_
    | refine ws_skip ?_
    | refine ws_exp ?_
    | refine ws_par ?_
    | refine ws_asgT ?_
    | refine we_tup ?_
    | refine we_lst ?_
    | refine we_ix ?_
    | refine we_not ?_
    | refine we_and ?_
    | refine we_or ?_
    | refine we_ite ?_
    | refine we_chn ?_
    | refine we_comp ?_
    | refine wi_rng ?_
    | refine wi_sq ?_
    | refine wi_enm ?_
    | refine wn1 ⟨by omega, by omega⟩ ?_
    | refine wn2 ⟨by omega, by omega⟩ ⟨by omega, by omega⟩ ?_
    | refine wbd_nil ?_
    | refine wbd_one ?_
    | refine wb_len ?_
    | refine wb_lenT ?_
    | refine wb_min ?_
    | refine wb_max ?_
    | refine we_neg ?_
    | refine we_slc ?_
    | refine we_rev ?_
    | refine we_lsq ?_
    | refine we_tsq ?_
    | refine we_lrg ?_
    | refine we_trg ?_
    | refine ws_for ?_
    | refine ws_brk ?_
    | refine ws_cnt ?_
    | refine ws_retN ?_
    | refine wx_any (by first | assumption | rfl) ?_
    | refine ⟨_, rfl, ?_⟩
    | refine wfil (by rfl) (fun ht => ?_) (fun ht => ?_)
    | exact ⟨rfl, rfl⟩
end Law

set_option Elab.async false
set_option linter.all false
set_option maxRecDepth 100000
set_option maxHeartbeats 4000000
/-! # k57_whole_draws: what the top has written; the end -/
namespace Law
open PySem L2 Mir
theorem all_mk {P : Program} {w : World} {K : PySem.W.Frag} {h : Heap} {mg : Str → Option Value} {fa f0 f1 f2 f3 f4 f5 f6 f7 f8 f9 f10 f11 f12 f13 f14 f15 f16 f17 f18 f19 f20 f21 f22 f23 f24 f25 f26 f27 f28 f29 f30 f31 f32 f33 : Addr} (X : K.In h) (G : h.Ns mainGlobals mg) (hfa : mg "law" = some (.ref fa))
    {od0 an0 od1 an1 od2 an2 od3 an3 od4 an4 od5 an5 od6 an6 od7 an7 od8 an8 od9 an9 od10 an10 od11 an11 od12 an12 od13 an13 od14 an14 od15 an15 od16 an16 od17 an17 od18 an18 od19 an19 od20 an20 od21 an21 od22 an22 od23 an23 od24 an24 od25 an25 od26 an26 od27 an27 od28 an28 od29 an29 od30 an30 od31 an31 od32 an32 od33 an33 : Option Addr} {sl0 sl1 sl2 sl3 sl4 sl5 sl6 sl7 sl8 sl9 sl10 sl11 sl12 sl13 sl14 sl15 sl16 sl17 sl18 sl19 sl20 sl21 sl22 sl23 sl24 sl25 sl26 sl27 sl28 sl29 sl30 sl31 sl32 sl33 : Array (Option Value)} {oc0 kV0 dc0 pm0v cd0 ct0 oc1 kV1 dc1 pm1v cd1 ct1 oc2 kV2 dc2 pm2v cd2 ct2 oc3 kV3 dc3 pm3v cd3 ct3 oc4 kV4 dc4 pm4v cd4 ct4 oc5 kV5 dc5 pm5v cd5 ct5 oc6 kV6 dc6 pm6v cd6 ct6 oc7 kV7 dc7 pm7v cd7 ct7 oc8 kV8 dc8 pm8v cd8 ct8 oc9 kV9 dc9 pm9v cd9 ct9 oc10 kV10 dc10 pm10v cd10 ct10 oc11 kV11 dc11 pm11v cd11 ct11 oc12 kV12 dc12 pm12v cd12 ct12 oc13 kV13 dc13 pm13v cd13 ct13 oc14 kV14 dc14 pm14v cd14 ct14 oc15 kV15 dc15 pm15v cd15 ct15 oc16 kV16 dc16 pm16v cd16 ct16 oc17 kV17 dc17 pm17v cd17 ct17 oc18 kV18 dc18 pm18v cd18 ct18 oc19 kV19 dc19 pm19v cd19 ct19 oc20 kV20 dc20 pm20v cd20 ct20 oc21 kV21 dc21 pm21v cd21 ct21 oc22 kV22 dc22 pm22v cd22 ct22 oc23 kV23 dc23 pm23v cd23 ct23 oc24 kV24 dc24 pm24v cd24 ct24 oc25 kV25 dc25 pm25v cd25 ct25 oc26 kV26 dc26 pm26v cd26 ct26 oc27 kV27 dc27 pm27v cd27 ct27 oc28 kV28 dc28 pm28v cd28 ct28 oc29 kV29 dc29 pm29v cd29 ct29 oc30 kV30 dc30 pm30v cd30 ct30 oc31 kV31 dc31 pm31v cd31 ct31 oc32 kV32 dc32 pm32v cd32 ct32 oc33 kV33 dc33 pm33v cd33 ct33 : Value} {tk0 tk1 : Tok}
    (a0 : PySem.W.nsIn K mainGlobals "law" = some (some (.ref f0))) (l0 : K.lookup f0 = some ⟨oc0, od0, .func (PySem.W.fnOf "law" "law" (defArgs (stt 46)) (defBody (stt 46)) (defScope (stt 46)) .none kV0 dc0 pm0v an0 cd0 ct0), sl0⟩) (c0 : PySem.W.codeIn K cd0 "law" = true) (k0 : PySem.W.keepIn K (.ref f0) = true)
    (a1 : PySem.W.nsIn K mainGlobals "_law_great_right" = some (some (.ref f1))) (l1 : K.lookup f1 = some ⟨oc1, od1, .func (PySem.W.fnOf "_law_great_right" "_law_great_right" (defArgs (stt 44)) (defBody (stt 44)) (defScope (stt 44)) .none kV1 dc1 pm1v an1 cd1 ct1), sl1⟩) (c1 : PySem.W.codeIn K cd1 "_law_great_right" = true) (k1 : PySem.W.keepIn K (.ref f1) = true)
    (a2 : PySem.W.nsIn K mainGlobals "_law_written_right" = some (some (.ref f2))) (l2 : K.lookup f2 = some ⟨oc2, od2, .func (PySem.W.fnOf "_law_written_right" "_law_written_right" (defArgs (stt 45)) (defBody (stt 45)) (defScope (stt 45)) .none kV2 dc2 pm2v an2 cd2 ct2), sl2⟩) (c2 : PySem.W.codeIn K cd2 "_law_written_right" = true) (k2 : PySem.W.keepIn K (.ref f2) = true)
    (a3 : PySem.W.nsIn K mainGlobals "_law_small_right" = some (some (.ref f3))) (l3 : K.lookup f3 = some ⟨oc3, od3, .func (PySem.W.fnOf "_law_small_right" "_law_small_right" (defArgs (stt 43)) (defBody (stt 43)) (defScope (stt 43)) .none kV3 dc3 pm3v an3 cd3 ct3), sl3⟩) (c3 : PySem.W.codeIn K cd3 "_law_small_right" = true) (k3 : PySem.W.keepIn K (.ref f3) = true)
    (a4 : PySem.W.nsIn K mainGlobals "_law_cup" = some (some (.ref f4))) (l4 : K.lookup f4 = some ⟨oc4, od4, .func (PySem.W.fnOf "_law_cup" "_law_cup" (defArgs (stt 34)) (defBody (stt 34)) (defScope (stt 34)) .none kV4 dc4 pm4v an4 cd4 ct4), sl4⟩) (c4 : PySem.W.codeIn K cd4 "_law_cup" = true) (k4 : PySem.W.keepIn K (.ref f4) = true)
    (a5 : PySem.W.nsIn K mainGlobals "_law_like" = some (some (.ref f5))) (l5 : K.lookup f5 = some ⟨oc5, od5, .func (PySem.W.fnOf "_law_like" "_law_like" (defArgs (stt 38)) (defBody (stt 38)) (defScope (stt 38)) .none kV5 dc5 pm5v an5 cd5 ct5), sl5⟩) (c5 : PySem.W.codeIn K cd5 "_law_like" = true) (k5 : PySem.W.keepIn K (.ref f5) = true)
    (a6 : PySem.W.nsIn K mainGlobals "least_draw" = some (some (.ref f6))) (l6 : K.lookup f6 = some ⟨oc6, od6, .func (PySem.W.fnOf "least_draw" "least_draw" (defArgs (stt 31)) (defBody (stt 31)) (defScope (stt 31)) .none kV6 dc6 pm6v an6 cd6 ct6), sl6⟩) (c6 : PySem.W.codeIn K cd6 "least_draw" = true) (k6 : PySem.W.keepIn K (.ref f6) = true)
    (a7 : PySem.W.nsIn K mainGlobals "_law_enough" = some (some (.ref f7))) (l7 : K.lookup f7 = some ⟨oc7, od7, .func (PySem.W.fnOf "_law_enough" "_law_enough" (defArgs (stt 40)) (defBody (stt 40)) (defScope (stt 40)) .none kV7 dc7 pm7v an7 cd7 ct7), sl7⟩) (c7 : PySem.W.codeIn K cd7 "_law_enough" = true) (k7 : PySem.W.keepIn K (.ref f7) = true)
    (a8 : PySem.W.nsIn K mainGlobals "_law_roll" = some (some (.ref f8))) (l8 : K.lookup f8 = some ⟨oc8, od8, .func (PySem.W.fnOf "_law_roll" "_law_roll" (defArgs (stt 35)) (defBody (stt 35)) (defScope (stt 35)) .none kV8 dc8 pm8v an8 cd8 ct8), sl8⟩) (c8 : PySem.W.codeIn K cd8 "_law_roll" = true) (k8 : PySem.W.keepIn K (.ref f8) = true)
    (a9 : PySem.W.nsIn K mainGlobals "_law_draw_right" = some (some (.ref f9))) (l9 : K.lookup f9 = some ⟨oc9, od9, .func (PySem.W.fnOf "_law_draw_right" "_law_draw_right" (defArgs (stt 42)) (defBody (stt 42)) (defScope (stt 42)) .none kV9 dc9 pm9v an9 cd9 ct9), sl9⟩) (c9 : PySem.W.codeIn K cd9 "_law_draw_right" = true) (k9 : PySem.W.keepIn K (.ref f9) = true)
    (a10 : PySem.W.nsIn K mainGlobals "is_enough" = some (some (.ref f10))) (l10 : K.lookup f10 = some ⟨oc10, od10, .func (PySem.W.fnOf "is_enough" "is_enough" (defArgs (stt 30)) (defBody (stt 30)) (defScope (stt 30)) .none kV10 dc10 pm10v an10 cd10 ct10), sl10⟩) (c10 : PySem.W.codeIn K cd10 "is_enough" = true) (k10 : PySem.W.keepIn K (.ref f10) = true)
    (a11 : PySem.W.nsIn K mainGlobals "draw_stretch" = some (some (.ref f11))) (l11 : K.lookup f11 = some ⟨oc11, od11, .func (PySem.W.fnOf "draw_stretch" "draw_stretch" (defArgs (stt 32)) (defBody (stt 32)) (defScope (stt 32)) .none kV11 dc11 pm11v an11 cd11 ct11), sl11⟩) (c11 : PySem.W.codeIn K cd11 "draw_stretch" = true) (k11 : PySem.W.keepIn K (.ref f11) = true)
    (a12 : PySem.W.nsIn K mainGlobals "_law_by_stretches" = some (some (.ref f12))) (l12 : K.lookup f12 = some ⟨oc12, od12, .func (PySem.W.fnOf "_law_by_stretches" "_law_by_stretches" (defArgs (stt 41)) (defBody (stt 41)) (defScope (stt 41)) .none kV12 dc12 pm12v an12 cd12 ct12), sl12⟩) (c12 : PySem.W.codeIn K cd12 "_law_by_stretches" = true) (k12 : PySem.W.keepIn K (.ref f12) = true)
    (a13 : PySem.W.nsIn K mainGlobals "_law_loads" = some (some (.ref f13))) (l13 : K.lookup f13 = some ⟨oc13, od13, .func (PySem.W.fnOf "_law_loads" "_law_loads" (defArgs (stt 39)) (defBody (stt 39)) (defScope (stt 39)) .none kV13 dc13 pm13v an13 cd13 ct13), sl13⟩) (c13 : PySem.W.codeIn K cd13 "_law_loads" = true) (k13 : PySem.W.keepIn K (.ref f13) = true)
    (a14 : PySem.W.nsIn K mainGlobals "_law_sort" = some (some (.ref f14))) (l14 : K.lookup f14 = some ⟨oc14, od14, .func (PySem.W.fnOf "_law_sort" "_law_sort" (defArgs (stt 37)) (defBody (stt 37)) (defScope (stt 37)) .none kV14 dc14 pm14v an14 cd14 ct14), sl14⟩) (c14 : PySem.W.codeIn K cd14 "_law_sort" = true) (k14 : PySem.W.keepIn K (.ref f14) = true)
    (a15 : PySem.W.nsIn K mainGlobals "is_enough_in" = some (some (.ref f15))) (l15 : K.lookup f15 = some ⟨oc15, od15, .func (PySem.W.fnOf "is_enough_in" "is_enough_in" (defArgs (stt 29)) (defBody (stt 29)) (defScope (stt 29)) .none kV15 dc15 pm15v an15 cd15 ct15), sl15⟩) (c15 : PySem.W.codeIn K cd15 "is_enough_in" = true) (k15 : PySem.W.keepIn K (.ref f15) = true)
    (a16 : PySem.W.nsIn K mainGlobals "need_question" = some (some (.ref f16))) (l16 : K.lookup f16 = some ⟨oc16, od16, .func (PySem.W.fnOf "need_question" "need_question" (defArgs (stt 27)) (defBody (stt 27)) (defScope (stt 27)) .none kV16 dc16 pm16v an16 cd16 ct16), sl16⟩) (c16 : PySem.W.codeIn K cd16 "need_question" = true) (k16 : PySem.W.keepIn K (.ref f16) = true)
    (a17 : PySem.W.nsIn K mainGlobals "is_dark_stretch" = some (some (.ref f17))) (l17 : K.lookup f17 = some ⟨oc17, od17, .func (PySem.W.fnOf "is_dark_stretch" "is_dark_stretch" (defArgs (stt 25)) (defBody (stt 25)) (defScope (stt 25)) .none kV17 dc17 pm17v an17 cd17 ct17), sl17⟩) (c17 : PySem.W.codeIn K cd17 "is_dark_stretch" = true) (k17 : PySem.W.keepIn K (.ref f17) = true)
    (a18 : PySem.W.nsIn K mainGlobals "need_whole" = some (some (.ref f18))) (l18 : K.lookup f18 = some ⟨oc18, od18, .func (PySem.W.fnOf "need_whole" "need_whole" (defArgs (stt 8)) (defBody (stt 8)) (defScope (stt 8)) .none kV18 dc18 pm18v an18 cd18 ct18), sl18⟩) (c18 : PySem.W.codeIn K cd18 "need_whole" = true) (k18 : PySem.W.keepIn K (.ref f18) = true)
    (a19 : PySem.W.nsIn K mainGlobals "stretch_in" = some (some (.ref f19))) (l19 : K.lookup f19 = some ⟨oc19, od19, .func (PySem.W.fnOf "stretch_in" "stretch_in" (defArgs (stt 23)) (defBody (stt 23)) (defScope (stt 23)) .none kV19 dc19 pm19v an19 cd19 ct19), sl19⟩) (c19 : PySem.W.codeIn K cd19 "stretch_in" = true) (k19 : PySem.W.keepIn K (.ref f19) = true)
    (a20 : PySem.W.nsIn K mainGlobals "hours_for" = some (some (.ref f20))) (l20 : K.lookup f20 = some ⟨oc20, od20, .func (PySem.W.fnOf "hours_for" "hours_for" (defArgs (stt 28)) (defBody (stt 28)) (defScope (stt 28)) .none kV20 dc20 pm20v an20 cd20 ct20), sl20⟩) (c20 : PySem.W.codeIn K cd20 "hours_for" = true) (k20 : PySem.W.keepIn K (.ref f20) = true)
    (a21 : PySem.W.nsIn K mainGlobals "_law_some" = some (some (.ref f21))) (l21 : K.lookup f21 = some ⟨oc21, od21, .func (PySem.W.fnOf "_law_some" "_law_some" (defArgs (stt 36)) (defBody (stt 36)) (defScope (stt 36)) .none kV21 dc21 pm21v an21 cd21 ct21), sl21⟩) (c21 : PySem.W.codeIn K cd21 "_law_some" = true) (k21 : PySem.W.keepIn K (.ref f21) = true)
    (a22 : PySem.W.nsIn K mainGlobals "levels_in" = some (some (.ref f22))) (l22 : K.lookup f22 = some ⟨oc22, od22, .func (PySem.W.fnOf "levels_in" "levels_in" (defArgs (stt 21)) (defBody (stt 21)) (defScope (stt 21)) .none kV22 dc22 pm22v an22 cd22 ct22), sl22⟩) (c22 : PySem.W.codeIn K cd22 "levels_in" = true) (k22 : PySem.W.keepIn K (.ref f22) = true)
    (a23 : PySem.W.nsIn K mainGlobals "need_loads" = some (some (.ref f23))) (l23 : K.lookup f23 = some ⟨oc23, od23, .func (PySem.W.fnOf "need_loads" "need_loads" (defArgs (stt 15)) (defBody (stt 15)) (defScope (stt 15)) .none kV23 dc23 pm23v an23 cd23 ct23), sl23⟩) (c23 : PySem.W.codeIn K cd23 "need_loads" = true) (k23 : PySem.W.keepIn K (.ref f23) = true)
    (a24 : PySem.W.nsIn K mainGlobals "need_one_store" = some (some (.ref f24))) (l24 : K.lookup f24 = some ⟨oc24, od24, .func (PySem.W.fnOf "need_one_store" "need_one_store" (defArgs (stt 18)) (defBody (stt 18)) (defScope (stt 18)) .none kV24 dc24 pm24v an24 cd24 ct24), sl24⟩) (c24 : PySem.W.codeIn K cd24 "need_one_store" = true) (k24 : PySem.W.keepIn K (.ref f24) = true)
    (a25 : PySem.W.nsIn K mainGlobals "is_dark_in" = some (some (.ref f25))) (l25 : K.lookup f25 = some ⟨oc25, od25, .func (PySem.W.fnOf "is_dark_in" "is_dark_in" (defArgs (stt 24)) (defBody (stt 24)) (defScope (stt 24)) .none kV25 dc25 pm25v an25 cd25 ct25), sl25⟩) (c25 : PySem.W.codeIn K cd25 "is_dark_in" = true) (k25 : PySem.W.keepIn K (.ref f25) = true)
    (a26 : PySem.W.nsIn K mainGlobals "need_all" = some (some (.ref f26))) (l26 : K.lookup f26 = some ⟨oc26, od26, .func (PySem.W.fnOf "need_all" "need_all" (defArgs (stt 20)) (defBody (stt 20)) (defScope (stt 20)) .none kV26 dc26 pm26v an26 cd26 ct26), sl26⟩) (c26 : PySem.W.codeIn K cd26 "need_all" = true) (k26 : PySem.W.keepIn K (.ref f26) = true)
    (a27 : PySem.W.nsIn K mainGlobals "is_whole" = some (some (.ref f27))) (l27 : K.lookup f27 = some ⟨oc27, od27, .func (PySem.W.fnOf "is_whole" "is_whole" (defArgs (stt 7)) (defBody (stt 7)) (defScope (stt 7)) .none kV27 dc27 pm27v an27 cd27 ct27), sl27⟩) (c27 : PySem.W.codeIn K cd27 "is_whole" = true) (k27 : PySem.W.keepIn K (.ref f27) = true)
    (a28 : PySem.W.nsIn K mainGlobals "lost_in" = some (some (.ref f28))) (l28 : K.lookup f28 = some ⟨oc28, od28, .func (PySem.W.fnOf "lost_in" "lost_in" (defArgs (stt 22)) (defBody (stt 22)) (defScope (stt 22)) .none kV28 dc28 pm28v an28 cd28 ct28), sl28⟩) (c28 : PySem.W.codeIn K cd28 "lost_in" = true) (k28 : PySem.W.keepIn K (.ref f28) = true)
    (a29 : PySem.W.nsIn K mainGlobals "are_loads_in" = some (some (.ref f29))) (l29 : K.lookup f29 = some ⟨oc29, od29, .func (PySem.W.fnOf "are_loads_in" "are_loads_in" (defArgs (stt 14)) (defBody (stt 14)) (defScope (stt 14)) .none kV29 dc29 pm29v an29 cd29 ct29), sl29⟩) (c29 : PySem.W.codeIn K cd29 "are_loads_in" = true) (k29 : PySem.W.keepIn K (.ref f29) = true)
    (a30 : PySem.W.nsIn K mainGlobals "is_store" = some (some (.ref f30))) (l30 : K.lookup f30 = some ⟨oc30, od30, .func (PySem.W.fnOf "is_store" "is_store" (defArgs (stt 13)) (defBody (stt 13)) (defScope (stt 13)) .none kV30 dc30 pm30v an30 cd30 ct30), sl30⟩) (c30 : PySem.W.codeIn K cd30 "is_store" = true) (k30 : PySem.W.keepIn K (.ref f30) = true)
    (a31 : PySem.W.nsIn K mainGlobals "is_tuple_of" = some (some (.ref f31))) (l31 : K.lookup f31 = some ⟨oc31, od31, .func (PySem.W.fnOf "is_tuple_of" "is_tuple_of" (defArgs (stt 9)) (defBody (stt 9)) (defScope (stt 9)) .none kV31 dc31 pm31v an31 cd31 ct31), sl31⟩) (c31 : PySem.W.codeIn K cd31 "is_tuple_of" = true) (k31 : PySem.W.keepIn K (.ref f31) = true)
    (a32 : PySem.W.nsIn K mainGlobals "need_hours" = some (some (.ref f32))) (l32 : K.lookup f32 = some ⟨oc32, od32, .func (PySem.W.fnOf "need_hours" "need_hours" (defArgs (stt 19)) (defBody (stt 19)) (defScope (stt 19)) .none kV32 dc32 pm32v an32 cd32 ct32), sl32⟩) (c32 : PySem.W.codeIn K cd32 "need_hours" = true) (k32 : PySem.W.keepIn K (.ref f32) = true)
    (a33 : PySem.W.nsIn K mainGlobals "are_hours" = some (some (.ref f33))) (l33 : K.lookup f33 = some ⟨oc33, od33, .func (PySem.W.fnOf "are_hours" "are_hours" (defArgs (stt 17)) (defBody (stt 17)) (defScope (stt 17)) .none kV33 dc33 pm33v an33 cd33 ct33), sl33⟩) (c33 : PySem.W.codeIn K cd33 "are_hours" = true) (k33 : PySem.W.keepIn K (.ref f33) = true)
    (z0 : PySem.W.nsIn K mainGlobals "len" = some none)
    (z1 : PySem.W.nsIn K mainGlobals "abs" = some none)
    (z2 : PySem.W.nsIn K mainGlobals "min" = some none)
    (z3 : PySem.W.nsIn K mainGlobals "max" = some none)
    (z4 : PySem.W.nsIn K mainGlobals "sum" = some none)
    (z5 : PySem.W.nsIn K mainGlobals "sorted" = some none)
    (z6 : PySem.W.nsIn K mainGlobals "all" = some none)
    (z7 : PySem.W.nsIn K mainGlobals "any" = some none)
    (z8 : PySem.W.nsIn K mainGlobals "int" = some none)
    (z9 : PySem.W.nsIn K mainGlobals "isinstance" = some none)
    (z10 : PySem.W.nsIn K mainGlobals "bool" = some none)
    (z11 : PySem.W.nsIn K mainGlobals "str" = some none)
    (z12 : PySem.W.nsIn K mainGlobals "tuple" = some none)
    (z13 : PySem.W.nsIn K mainGlobals "list" = some none)
    (z14 : PySem.W.nsIn K mainGlobals "range" = some none)
    (z15 : PySem.W.nsIn K mainGlobals "zip" = some none)
    (z16 : PySem.W.nsIn K mainGlobals "enumerate" = some none)
    (cg0 : PySem.W.nsIn K mainGlobals "AMOUNT" = some (some (.int 1000000 tk0)))
    (cg1 : PySem.W.nsIn K mainGlobals "HOURS" = some (some (.int 200 tk1)))
    : ∃ fd : FuncData, (∀ (s : Shared) (u : Value), BindsTo s fd ⟨[u], []⟩ [("script", u)]) ∧ ∀ base : Heap, K.In base → base.Ns mainGlobals mg → FnOk P w K mg base (L2.CX P w) 12 fa fd ["script"] (spF K (callN Tb 12) (fun _ => 0) 0) := by
  have e : fa = f0 := by
    have e := hfa.symm.trans (PySem.W.mg_of X G a0)
    cases e
    rfl
  rw [e]
  have F0 := fun_mk (st := stt 46) l0 c0 k0
  have b0 := F0.binds (ps := pm0) fun _ _ _ _ _ _ us hl => match us, hl with | [_], _ => rfl
  have F1 := fun_mk (st := stt 44) l1 c1 k1
  have b1 := F1.binds (ps := pm1) fun _ _ _ _ _ _ us hl => match us, hl with | [_], _ => rfl
  have F2 := fun_mk (st := stt 45) l2 c2 k2
  have b2 := F2.binds (ps := pm2) fun _ _ _ _ _ _ us hl => match us, hl with | [], _ => rfl
  have F3 := fun_mk (st := stt 43) l3 c3 k3
  have b3 := F3.binds (ps := pm3) fun _ _ _ _ _ _ us hl => match us, hl with | [_], _ => rfl
  have F4 := fun_mk (st := stt 34) l4 c4 k4
  have b4 := F4.binds (ps := pm4) fun _ _ _ _ _ _ us hl => match us, hl with | [_], _ => rfl
  have F5 := fun_mk (st := stt 38) l5 c5 k5
  have b5 := F5.binds (ps := pm5) fun _ _ _ _ _ _ us hl => match us, hl with | [_, _], _ => rfl
  have F6 := fun_mk (st := stt 31) l6 c6 k6
  have b6 := F6.binds (ps := pm6) fun _ _ _ _ _ _ us hl => match us, hl with | [_, _], _ => rfl
  have F7 := fun_mk (st := stt 40) l7 c7 k7
  have b7 := F7.binds (ps := pm7) fun _ _ _ _ _ _ us hl => match us, hl with | [_, _, _], _ => rfl
  have F8 := fun_mk (st := stt 35) l8 c8 k8
  have b8 := F8.binds (ps := pm8) fun _ _ _ _ _ _ us hl => match us, hl with | [_, _], _ => rfl
  have F9 := fun_mk (st := stt 42) l9 c9 k9
  have b9 := F9.binds (ps := pm9) fun _ _ _ _ _ _ us hl => match us, hl with | [_, _, _, _], _ => rfl
  have F10 := fun_mk (st := stt 30) l10 c10 k10
  have b10 := F10.binds (ps := pm10) fun _ _ _ _ _ _ us hl => match us, hl with | [_, _, _], _ => rfl
  have F11 := fun_mk (st := stt 32) l11 c11 k11
  have b11 := F11.binds (ps := pm11) fun _ _ _ _ _ _ us hl => match us, hl with | [_, _, _], _ => rfl
  have F12 := fun_mk (st := stt 41) l12 c12 k12
  have b12 := F12.binds (ps := pm12) fun _ _ _ _ _ _ us hl => match us, hl with | [_, _], _ => rfl
  have F13 := fun_mk (st := stt 39) l13 c13 k13
  have b13 := F13.binds (ps := pm13) fun _ _ _ _ _ _ us hl => match us, hl with | [_, _, _], _ => rfl
  have F14 := fun_mk (st := stt 37) l14 c14 k14
  have b14 := F14.binds (ps := pm14) fun _ _ _ _ _ _ us hl => match us, hl with | [_], _ => rfl
  have F15 := fun_mk (st := stt 29) l15 c15 k15
  have b15 := F15.binds (ps := pm15) fun _ _ _ _ _ _ us hl => match us, hl with | [_, _, _], _ => rfl
  have F16 := fun_mk (st := stt 27) l16 c16 k16
  have b16 := F16.binds (ps := pm16) fun _ _ _ _ _ _ us hl => match us, hl with | [_, _], _ => rfl
  have F17 := fun_mk (st := stt 25) l17 c17 k17
  have b17 := F17.binds (ps := pm17) fun _ _ _ _ _ _ us hl => match us, hl with | [_, _, _, _], _ => rfl
  have F18 := fun_mk (st := stt 8) l18 c18 k18
  have b18 := F18.binds (ps := pm18) fun _ _ _ _ _ _ us hl => match us, hl with | [_, _, _], _ => rfl
  have F19 := fun_mk (st := stt 23) l19 c19 k19
  have b19 := F19.binds (ps := pm19) fun _ _ _ _ _ _ us hl => match us, hl with | [_, _, _], _ => rfl
  have F20 := fun_mk (st := stt 28) l20 c20 k20
  have b20 := F20.binds (ps := pm20) fun _ _ _ _ _ _ us hl => match us, hl with | [_, _], _ => rfl
  have F21 := fun_mk (st := stt 36) l21 c21 k21
  have b21 := F21.binds (ps := pm21) fun _ _ _ _ _ _ us hl => match us, hl with | [_, _], _ => rfl
  have F22 := fun_mk (st := stt 21) l22 c22 k22
  have b22 := F22.binds (ps := pm22) fun _ _ _ _ _ _ us hl => match us, hl with | [_, _, _], _ => rfl
  have F23 := fun_mk (st := stt 15) l23 c23 k23
  have b23 := F23.binds (ps := pm23) fun _ _ _ _ _ _ us hl => match us, hl with | [_], _ => rfl
  have F24 := fun_mk (st := stt 18) l24 c24 k24
  have b24 := F24.binds (ps := pm24) fun _ _ _ _ _ _ us hl => match us, hl with | [_], _ => rfl
  have F25 := fun_mk (st := stt 24) l25 c25 k25
  have b25 := F25.binds (ps := pm25) fun _ _ _ _ _ _ us hl => match us, hl with | [_, _, _, _], _ => rfl
  have F26 := fun_mk (st := stt 20) l26 c26 k26
  have b26 := F26.binds (ps := pm26) fun _ _ _ _ _ _ us hl => match us, hl with | [_, _, _], _ => rfl
  have F27 := fun_mk (st := stt 7) l27 c27 k27
  have b27 := F27.binds (ps := pm27) fun _ _ _ _ _ _ us hl => match us, hl with | [_, _, _], _ => rfl
  have F28 := fun_mk (st := stt 22) l28 c28 k28
  have b28 := F28.binds (ps := pm28) fun _ _ _ _ _ _ us hl => match us, hl with | [_, _], _ => rfl
  have F29 := fun_mk (st := stt 14) l29 c29 k29
  have b29 := F29.binds (ps := pm29) fun _ _ _ _ _ _ us hl => match us, hl with | [_], _ => rfl
  have F30 := fun_mk (st := stt 13) l30 c30 k30
  have b30 := F30.binds (ps := pm30) fun _ _ _ _ _ _ us hl => match us, hl with | [_], _ => rfl
  have F31 := fun_mk (st := stt 9) l31 c31 k31
  have b31 := F31.binds (ps := pm31) fun _ _ _ _ _ _ us hl => match us, hl with | [_, _, _], _ => rfl
  have F32 := fun_mk (st := stt 19) l32 c32 k32
  have b32 := F32.binds (ps := pm32) fun _ _ _ _ _ _ us hl => match us, hl with | [_], _ => rfl
  have F33 := fun_mk (st := stt 17) l33 c33 k33
  have b33 := F33.binds (ps := pm33) fun _ _ _ _ _ _ us hl => match us, hl with | [_], _ => rfl
  have hM : ModOk Yc K mg (fun _ => 0) Tb.con := by
    refine ⟨fun x hx => ?_, fun z => ?_, fun g x hx => ?_, fun j x hx => ?_⟩
    · simp only [bNames, List.mem_cons, List.not_mem_nil, or_false] at hx
      rcases hx with rfl | rfl | rfl | rfl | rfl | rfl | rfl | rfl | rfl | rfl | rfl | rfl | rfl | rfl | rfl | rfl | rfl
      · exact PySem.W.mg_none_of X G z0
      · exact PySem.W.mg_none_of X G z1
      · exact PySem.W.mg_none_of X G z2
      · exact PySem.W.mg_none_of X G z3
      · exact PySem.W.mg_none_of X G z4
      · exact PySem.W.mg_none_of X G z5
      · exact PySem.W.mg_none_of X G z6
      · exact PySem.W.mg_none_of X G z7
      · exact PySem.W.mg_none_of X G z8
      · exact PySem.W.mg_none_of X G z9
      · exact PySem.W.mg_none_of X G z10
      · exact PySem.W.mg_none_of X G z11
      · exact PySem.W.mg_none_of X G z12
      · exact PySem.W.mg_none_of X G z13
      · exact PySem.W.mg_none_of X G z14
      · exact PySem.W.mg_none_of X G z15
      · exact PySem.W.mg_none_of X G z16
    · cases z
    · match g, hx with
      | 0, hx => exact ⟨.int 1000000, _, (Option.some.inj hx) ▸ PySem.W.mg_of X G cg0, ⟨_, rfl⟩, fun _ _ => by unfold DV; rfl⟩
      | 1, hx => exact ⟨.int 200, _, (Option.some.inj hx) ▸ PySem.W.mg_of X G cg1, ⟨_, rfl⟩, fun _ _ => by unfold DV; rfl⟩
      | g + 2, hx => exact absurd hx (by simp [Yc])
    · exact absurd hx (by simp [Yc])
  refine ⟨(PySem.W.fnOf "law" "law" (defArgs (stt 46)) (defBody (stt 46)) (defScope (stt 46)) .none kV0 dc0 pm0v an0 cd0 ct0), fun s u => .of_eq rfl, fun base _ _ => all_ok (defs := [⟨"law", stt 46, f0, (PySem.W.fnOf "law" "law" (defArgs (stt 46)) (defBody (stt 46)) (defScope (stt 46)) .none kV0 dc0 pm0v an0 cd0 ct0), pm0, nm0, fn0⟩, ⟨"_law_great_right", stt 44, f1, (PySem.W.fnOf "_law_great_right" "_law_great_right" (defArgs (stt 44)) (defBody (stt 44)) (defScope (stt 44)) .none kV1 dc1 pm1v an1 cd1 ct1), pm1, nm1, fn1⟩, ⟨"_law_written_right", stt 45, f2, (PySem.W.fnOf "_law_written_right" "_law_written_right" (defArgs (stt 45)) (defBody (stt 45)) (defScope (stt 45)) .none kV2 dc2 pm2v an2 cd2 ct2), pm2, nm2, fn2⟩, ⟨"_law_small_right", stt 43, f3, (PySem.W.fnOf "_law_small_right" "_law_small_right" (defArgs (stt 43)) (defBody (stt 43)) (defScope (stt 43)) .none kV3 dc3 pm3v an3 cd3 ct3), pm3, nm3, fn3⟩, ⟨"_law_cup", stt 34, f4, (PySem.W.fnOf "_law_cup" "_law_cup" (defArgs (stt 34)) (defBody (stt 34)) (defScope (stt 34)) .none kV4 dc4 pm4v an4 cd4 ct4), pm4, nm4, fn4⟩, ⟨"_law_like", stt 38, f5, (PySem.W.fnOf "_law_like" "_law_like" (defArgs (stt 38)) (defBody (stt 38)) (defScope (stt 38)) .none kV5 dc5 pm5v an5 cd5 ct5), pm5, nm5, fn5⟩, ⟨"least_draw", stt 31, f6, (PySem.W.fnOf "least_draw" "least_draw" (defArgs (stt 31)) (defBody (stt 31)) (defScope (stt 31)) .none kV6 dc6 pm6v an6 cd6 ct6), pm6, nm6, fn6⟩, ⟨"_law_enough", stt 40, f7, (PySem.W.fnOf "_law_enough" "_law_enough" (defArgs (stt 40)) (defBody (stt 40)) (defScope (stt 40)) .none kV7 dc7 pm7v an7 cd7 ct7), pm7, nm7, fn7⟩, ⟨"_law_roll", stt 35, f8, (PySem.W.fnOf "_law_roll" "_law_roll" (defArgs (stt 35)) (defBody (stt 35)) (defScope (stt 35)) .none kV8 dc8 pm8v an8 cd8 ct8), pm8, nm8, fn8⟩, ⟨"_law_draw_right", stt 42, f9, (PySem.W.fnOf "_law_draw_right" "_law_draw_right" (defArgs (stt 42)) (defBody (stt 42)) (defScope (stt 42)) .none kV9 dc9 pm9v an9 cd9 ct9), pm9, nm9, fn9⟩, ⟨"is_enough", stt 30, f10, (PySem.W.fnOf "is_enough" "is_enough" (defArgs (stt 30)) (defBody (stt 30)) (defScope (stt 30)) .none kV10 dc10 pm10v an10 cd10 ct10), pm10, nm10, fn10⟩, ⟨"draw_stretch", stt 32, f11, (PySem.W.fnOf "draw_stretch" "draw_stretch" (defArgs (stt 32)) (defBody (stt 32)) (defScope (stt 32)) .none kV11 dc11 pm11v an11 cd11 ct11), pm11, nm11, fn11⟩, ⟨"_law_by_stretches", stt 41, f12, (PySem.W.fnOf "_law_by_stretches" "_law_by_stretches" (defArgs (stt 41)) (defBody (stt 41)) (defScope (stt 41)) .none kV12 dc12 pm12v an12 cd12 ct12), pm12, nm12, fn12⟩, ⟨"_law_loads", stt 39, f13, (PySem.W.fnOf "_law_loads" "_law_loads" (defArgs (stt 39)) (defBody (stt 39)) (defScope (stt 39)) .none kV13 dc13 pm13v an13 cd13 ct13), pm13, nm13, fn13⟩, ⟨"_law_sort", stt 37, f14, (PySem.W.fnOf "_law_sort" "_law_sort" (defArgs (stt 37)) (defBody (stt 37)) (defScope (stt 37)) .none kV14 dc14 pm14v an14 cd14 ct14), pm14, nm14, fn14⟩, ⟨"is_enough_in", stt 29, f15, (PySem.W.fnOf "is_enough_in" "is_enough_in" (defArgs (stt 29)) (defBody (stt 29)) (defScope (stt 29)) .none kV15 dc15 pm15v an15 cd15 ct15), pm15, nm15, fn15⟩, ⟨"need_question", stt 27, f16, (PySem.W.fnOf "need_question" "need_question" (defArgs (stt 27)) (defBody (stt 27)) (defScope (stt 27)) .none kV16 dc16 pm16v an16 cd16 ct16), pm16, nm16, fn16⟩, ⟨"is_dark_stretch", stt 25, f17, (PySem.W.fnOf "is_dark_stretch" "is_dark_stretch" (defArgs (stt 25)) (defBody (stt 25)) (defScope (stt 25)) .none kV17 dc17 pm17v an17 cd17 ct17), pm17, nm17, fn17⟩, ⟨"need_whole", stt 8, f18, (PySem.W.fnOf "need_whole" "need_whole" (defArgs (stt 8)) (defBody (stt 8)) (defScope (stt 8)) .none kV18 dc18 pm18v an18 cd18 ct18), pm18, nm18, fn18⟩, ⟨"stretch_in", stt 23, f19, (PySem.W.fnOf "stretch_in" "stretch_in" (defArgs (stt 23)) (defBody (stt 23)) (defScope (stt 23)) .none kV19 dc19 pm19v an19 cd19 ct19), pm19, nm19, fn19⟩, ⟨"hours_for", stt 28, f20, (PySem.W.fnOf "hours_for" "hours_for" (defArgs (stt 28)) (defBody (stt 28)) (defScope (stt 28)) .none kV20 dc20 pm20v an20 cd20 ct20), pm20, nm20, fn20⟩, ⟨"_law_some", stt 36, f21, (PySem.W.fnOf "_law_some" "_law_some" (defArgs (stt 36)) (defBody (stt 36)) (defScope (stt 36)) .none kV21 dc21 pm21v an21 cd21 ct21), pm21, nm21, fn21⟩, ⟨"levels_in", stt 21, f22, (PySem.W.fnOf "levels_in" "levels_in" (defArgs (stt 21)) (defBody (stt 21)) (defScope (stt 21)) .none kV22 dc22 pm22v an22 cd22 ct22), pm22, nm22, fn22⟩, ⟨"need_loads", stt 15, f23, (PySem.W.fnOf "need_loads" "need_loads" (defArgs (stt 15)) (defBody (stt 15)) (defScope (stt 15)) .none kV23 dc23 pm23v an23 cd23 ct23), pm23, nm23, fn23⟩, ⟨"need_one_store", stt 18, f24, (PySem.W.fnOf "need_one_store" "need_one_store" (defArgs (stt 18)) (defBody (stt 18)) (defScope (stt 18)) .none kV24 dc24 pm24v an24 cd24 ct24), pm24, nm24, fn24⟩, ⟨"is_dark_in", stt 24, f25, (PySem.W.fnOf "is_dark_in" "is_dark_in" (defArgs (stt 24)) (defBody (stt 24)) (defScope (stt 24)) .none kV25 dc25 pm25v an25 cd25 ct25), pm25, nm25, fn25⟩, ⟨"need_all", stt 20, f26, (PySem.W.fnOf "need_all" "need_all" (defArgs (stt 20)) (defBody (stt 20)) (defScope (stt 20)) .none kV26 dc26 pm26v an26 cd26 ct26), pm26, nm26, fn26⟩, ⟨"is_whole", stt 7, f27, (PySem.W.fnOf "is_whole" "is_whole" (defArgs (stt 7)) (defBody (stt 7)) (defScope (stt 7)) .none kV27 dc27 pm27v an27 cd27 ct27), pm27, nm27, fn27⟩, ⟨"lost_in", stt 22, f28, (PySem.W.fnOf "lost_in" "lost_in" (defArgs (stt 22)) (defBody (stt 22)) (defScope (stt 22)) .none kV28 dc28 pm28v an28 cd28 ct28), pm28, nm28, fn28⟩, ⟨"are_loads_in", stt 14, f29, (PySem.W.fnOf "are_loads_in" "are_loads_in" (defArgs (stt 14)) (defBody (stt 14)) (defScope (stt 14)) .none kV29 dc29 pm29v an29 cd29 ct29), pm29, nm29, fn29⟩, ⟨"is_store", stt 13, f30, (PySem.W.fnOf "is_store" "is_store" (defArgs (stt 13)) (defBody (stt 13)) (defScope (stt 13)) .none kV30 dc30 pm30v an30 cd30 ct30), pm30, nm30, fn30⟩, ⟨"is_tuple_of", stt 9, f31, (PySem.W.fnOf "is_tuple_of" "is_tuple_of" (defArgs (stt 9)) (defBody (stt 9)) (defScope (stt 9)) .none kV31 dc31 pm31v an31 cd31 ct31), pm31, nm31, fn31⟩, ⟨"need_hours", stt 19, f32, (PySem.W.fnOf "need_hours" "need_hours" (defArgs (stt 19)) (defBody (stt 19)) (defScope (stt 19)) .none kV32 dc32 pm32v an32 cd32 ct32), pm32, nm32, fn32⟩, ⟨"are_hours", stt 17, f33, (PySem.W.fnOf "are_hours" "are_hours" (defArgs (stt 17)) (defBody (stt 17)) (defScope (stt 17)) .none kV33 dc33 pm33v an33 cd33 ct33), pm33, nm33, fn33⟩]) (T := Tb) (Y := Yc) rfl rfl (fun d hd => ?_) hM 12 0 ⟨"law", stt 46, f0, (PySem.W.fnOf "law" "law" (defArgs (stt 46)) (defBody (stt 46)) (defScope (stt 46)) .none kV0 dc0 pm0v an0 cd0 ct0), pm0, nm0, fn0⟩ rfl⟩
  simp only [List.mem_cons, List.not_mem_nil, or_false] at hd
  rcases hd with rfl | rfl | rfl | rfl | rfl | rfl | rfl | rfl | rfl | rfl | rfl | rfl | rfl | rfl | rfl | rfl | rfl | rfl | rfl | rfl | rfl | rfl | rfl | rfl | rfl | rfl | rfl | rfl | rfl | rfl | rfl | rfl | rfl | rfl
  · exact ⟨F0, PySem.W.mg_of X G a0, b0, fit0⟩
  · exact ⟨F1, PySem.W.mg_of X G a1, b1, fit1⟩
  · exact ⟨F2, PySem.W.mg_of X G a2, b2, fit2⟩
  · exact ⟨F3, PySem.W.mg_of X G a3, b3, fit3⟩
  · exact ⟨F4, PySem.W.mg_of X G a4, b4, fit4⟩
  · exact ⟨F5, PySem.W.mg_of X G a5, b5, fit5⟩
  · exact ⟨F6, PySem.W.mg_of X G a6, b6, fit6⟩
  · exact ⟨F7, PySem.W.mg_of X G a7, b7, fit7⟩
  · exact ⟨F8, PySem.W.mg_of X G a8, b8, fit8⟩
  · exact ⟨F9, PySem.W.mg_of X G a9, b9, fit9⟩
  · exact ⟨F10, PySem.W.mg_of X G a10, b10, fit10⟩
  · exact ⟨F11, PySem.W.mg_of X G a11, b11, fit11⟩
  · exact ⟨F12, PySem.W.mg_of X G a12, b12, fit12⟩
  · exact ⟨F13, PySem.W.mg_of X G a13, b13, fit13⟩
  · exact ⟨F14, PySem.W.mg_of X G a14, b14, fit14⟩
  · exact ⟨F15, PySem.W.mg_of X G a15, b15, fit15⟩
  · exact ⟨F16, PySem.W.mg_of X G a16, b16, fit16⟩
  · exact ⟨F17, PySem.W.mg_of X G a17, b17, fit17⟩
  · exact ⟨F18, PySem.W.mg_of X G a18, b18, fit18⟩
  · exact ⟨F19, PySem.W.mg_of X G a19, b19, fit19⟩
  · exact ⟨F20, PySem.W.mg_of X G a20, b20, fit20⟩
  · exact ⟨F21, PySem.W.mg_of X G a21, b21, fit21⟩
  · exact ⟨F22, PySem.W.mg_of X G a22, b22, fit22⟩
  · exact ⟨F23, PySem.W.mg_of X G a23, b23, fit23⟩
  · exact ⟨F24, PySem.W.mg_of X G a24, b24, fit24⟩
  · exact ⟨F25, PySem.W.mg_of X G a25, b25, fit25⟩
  · exact ⟨F26, PySem.W.mg_of X G a26, b26, fit26⟩
  · exact ⟨F27, PySem.W.mg_of X G a27, b27, fit27⟩
  · exact ⟨F28, PySem.W.mg_of X G a28, b28, fit28⟩
  · exact ⟨F29, PySem.W.mg_of X G a29, b29, fit29⟩
  · exact ⟨F30, PySem.W.mg_of X G a30, b30, fit30⟩
  · exact ⟨F31, PySem.W.mg_of X G a31, b31, fit31⟩
  · exact ⟨F32, PySem.W.mg_of X G a32, b32, fit32⟩
  · exact ⟨F33, PySem.W.mg_of X G a33, b33, fit33⟩
end Law
open PySem PySem.W PyProof.Rows
set_option maxHeartbeats 0 in
theorem PySem.Challenge.cw_currentkept_k57_whole_draws_holds : PySem.Challenge.rw_currentkept_k57_whole_draws.Holds := by
  w_on; o_law; k_head; (case hw => w_witness2)
  k_fill
  refine L2.walk_ofB (l := PySem.Challenge.rw_currentkept_k57_whole_draws) (n := 63) (k := 12) (x := "script") (CX := fun w => L2.CX PySem.Challenge.rw_currentkept_k57_whole_draws.prog w) (sp := fun w => Mir.spF _ (Mir.callN Law.Tb 12) (fun _ => 0) 0) rfl (by decide) rfl ⟨rfl, by decide, by decide⟩ (fun w h Y => PySem.W.kIn_of Y) ?F (fun w H a ns hl hb _ hS => Mir.top_sp hS (Law.top ns hl hb) _) (fun w H s e s' h => Mir.top_cx h)
  case F =>
    intro w mg fa h KX G hmg
    refine' Law.all_mk KX G hmg ?a0 ?l0 ?c0 ?k0 ?a1 ?l1 ?c1 ?k1 ?a2 ?l2 ?c2 ?k2 ?a3 ?l3 ?c3 ?k3 ?a4 ?l4 ?c4 ?k4 ?a5 ?l5 ?c5 ?k5 ?a6 ?l6 ?c6 ?k6 ?a7 ?l7 ?c7 ?k7 ?a8 ?l8 ?c8 ?k8 ?a9 ?l9 ?c9 ?k9 ?a10 ?l10 ?c10 ?k10 ?a11 ?l11 ?c11 ?k11 ?a12 ?l12 ?c12 ?k12 ?a13 ?l13 ?c13 ?k13 ?a14 ?l14 ?c14 ?k14 ?a15 ?l15 ?c15 ?k15 ?a16 ?l16 ?c16 ?k16 ?a17 ?l17 ?c17 ?k17 ?a18 ?l18 ?c18 ?k18 ?a19 ?l19 ?c19 ?k19 ?a20 ?l20 ?c20 ?k20 ?a21 ?l21 ?c21 ?k21 ?a22 ?l22 ?c22 ?k22 ?a23 ?l23 ?c23 ?k23 ?a24 ?l24 ?c24 ?k24 ?a25 ?l25 ?c25 ?k25 ?a26 ?l26 ?c26 ?k26 ?a27 ?l27 ?c27 ?k27 ?a28 ?l28 ?c28 ?k28 ?a29 ?l29 ?c29 ?k29 ?a30 ?l30 ?c30 ?k30 ?a31 ?l31 ?c31 ?k31 ?a32 ?l32 ?c32 ?k32 ?a33 ?l33 ?c33 ?k33 ?z0 ?z1 ?z2 ?z3 ?z4 ?z5 ?z6 ?z7 ?z8 ?z9 ?z10 ?z11 ?z12 ?z13 ?z14 ?z15 ?z16 ?cg0 ?cg1
    (case a0 => k_is); (case l0 => k_is); (case c0 => k_is); (case k0 => k_is); (case a1 => k_is); (case l1 => k_is)
    (case c1 => k_is); (case k1 => k_is); (case a2 => k_is); (case l2 => k_is); (case c2 => k_is); (case k2 => k_is)
    (case a3 => k_is); (case l3 => k_is); (case c3 => k_is); (case k3 => k_is); (case a4 => k_is); (case l4 => k_is)
    (case c4 => k_is); (case k4 => k_is); (case a5 => k_is); (case l5 => k_is); (case c5 => k_is); (case k5 => k_is)
    (case a6 => k_is); (case l6 => k_is); (case c6 => k_is); (case k6 => k_is); (case a7 => k_is); (case l7 => k_is)
    (case c7 => k_is); (case k7 => k_is); (case a8 => k_is); (case l8 => k_is); (case c8 => k_is); (case k8 => k_is)
    (case a9 => k_is); (case l9 => k_is); (case c9 => k_is); (case k9 => k_is); (case a10 => k_is); (case l10 => k_is)
    (case c10 => k_is); (case k10 => k_is); (case a11 => k_is); (case l11 => k_is); (case c11 => k_is); (case k11 => k_is)
    (case a12 => k_is); (case l12 => k_is); (case c12 => k_is); (case k12 => k_is); (case a13 => k_is); (case l13 => k_is)
    (case c13 => k_is); (case k13 => k_is); (case a14 => k_is); (case l14 => k_is); (case c14 => k_is); (case k14 => k_is)
    (case a15 => k_is); (case l15 => k_is); (case c15 => k_is); (case k15 => k_is); (case a16 => k_is); (case l16 => k_is)
    (case c16 => k_is); (case k16 => k_is); (case a17 => k_is); (case l17 => k_is); (case c17 => k_is); (case k17 => k_is)
    (case a18 => k_is); (case l18 => k_is); (case c18 => k_is); (case k18 => k_is); (case a19 => k_is); (case l19 => k_is)
    (case c19 => k_is); (case k19 => k_is); (case a20 => k_is); (case l20 => k_is); (case c20 => k_is); (case k20 => k_is)
    (case a21 => k_is); (case l21 => k_is); (case c21 => k_is); (case k21 => k_is); (case a22 => k_is); (case l22 => k_is)
    (case c22 => k_is); (case k22 => k_is); (case a23 => k_is); (case l23 => k_is); (case c23 => k_is); (case k23 => k_is)
    (case a24 => k_is); (case l24 => k_is); (case c24 => k_is); (case k24 => k_is); (case a25 => k_is); (case l25 => k_is)
    (case c25 => k_is); (case k25 => k_is); (case a26 => k_is); (case l26 => k_is); (case c26 => k_is); (case k26 => k_is)
    (case a27 => k_is); (case l27 => k_is); (case c27 => k_is); (case k27 => k_is); (case a28 => k_is); (case l28 => k_is)
    (case c28 => k_is); (case k28 => k_is); (case a29 => k_is); (case l29 => k_is); (case c29 => k_is); (case k29 => k_is)
    (case a30 => k_is); (case l30 => k_is); (case c30 => k_is); (case k30 => k_is); (case a31 => k_is); (case l31 => k_is)
    (case c31 => k_is); (case k31 => k_is); (case a32 => k_is); (case l32 => k_is); (case c32 => k_is); (case k32 => k_is)
    (case a33 => k_is); (case l33 => k_is); (case c33 => k_is); (case k33 => k_is); (case z0 => k_is); (case z1 => k_is)
    (case z2 => k_is); (case z3 => k_is); (case z4 => k_is); (case z5 => k_is); (case z6 => k_is); (case z7 => k_is)
    (case z8 => k_is); (case z9 => k_is); (case z10 => k_is); (case z11 => k_is); (case z12 => k_is); (case z13 => k_is)
    (case z14 => k_is); (case z15 => k_is); (case z16 => k_is); (case cg0 => k_is); (case cg1 => k_is)


