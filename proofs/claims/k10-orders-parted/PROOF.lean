import PyProof.Rows.All
import PySem.Str
import PyProof.P3Statements
import PySem.Builtin.Int.Common
import HandS.ForMost
import HandS.ForExc
import HandS.IsInst
import HandS.ExcInit
import HandS.ExcField
import HandS.Wide
import HandS.WideBits
import HandS.TupAny
import HandS.TupMul
import HandS.Gcd
import HandS.Defaults
import HandS.Style
import KE.DataEq
import HandS.Zip
import KE.GoesEnum
import HandS.ExcCtx
import HandS.HotCalls
import KE.KExcIs
import HandS.ExcIs
import HandS.Conv
import HandS.SortInts
import HandS.Head0
import HandS.Head1
import HandS.Head2
import HandS.Head3
import HandS.HeadEnd
import HandS.HeadHook1
import HandS.HeadHook2
import PySem.Challenge.RW_oneistrue_k10_whole_orders_parted
set_option linter.all false
set_option autoImplicit false
/-! RXa: a pure big-step evaluator on plain data, as combinators. No heap, no program text here. -/
namespace RX
open PySem

/-- plain data: what a value stands for. fn k: the k-th def of the text; ty n: a built-in class; scr l: the law's own script, read alone -/
inductive D where
  | non | bl (b : Bool) | int (i : Int) | str (s : Str) | tup (l : List D) | lst (l : List D) | fn (k : Nat) | ty (n : String) | scr (l : List Int)

/-- what a name's slot holds. own: a list that only this slot knows; par: a list handed in by the caller, changed in place; exn: a caught exception; gh: a list within a deck, under a name that no text writes -/
inductive Sl where
  | none | val (d : D) | own (l : List D) | par (l : List D) | exn (c : Nat) (fs : List (Str × D)) | gh (l : List D)
abbrev Env := List Sl
/-- a result: data, or a list that is new and known to nobody else -/
inductive Ex where
  | d (x : D) | fresh (l : List D) | dkn (l g : List D)
def Ex.frz : Ex → D
  | .d x => x
  | .fresh l => .lst l
  | .dkn _ _ => .non
/-- the number by which a deck's items name the list within it -/
def GI : Nat := 1000000
inductive R (α : Type) where
  | ok (a : α) (ρ : Env) | exc (c : Nat) (fs : List (Str × D)) (ρ : Env) | stuck
def R.bind {α β : Type} (x : R α) (f : α → Env → R β) : R β := match x with
  | .ok a ρ => f a ρ
  | .exc c fs ρ => .exc c fs ρ
  | .stuck => .stuck
inductive Arg where
  | d (x : D) | own (l : List D) | gh (l : List D)
inductive CR where
  | ok (r : Ex) (outs : List (List D)) | exc (c : Nat) (fs : List (Str × D)) | stuck | dk (l g : List D) (outs : List (List D))
abbrev Calls := Nat → List Arg → CR
abbrev Den := Calls → Env → R Ex
abbrev TD := Calls → Env → R Bool
/-- a statement's end -/
inductive Out where
  | next (ρ : Env) | brk (ρ : Env) | cont (ρ : Env) | ret (r : Ex) (ρ : Env) | exc (c : Nat) (fs : List (Str × D)) (ρ : Env) | stuck
abbrev DS := Calls → Env → Out
def R.out {α : Type} (x : R α) (f : α → Env → Out) : Out := match x with
  | .ok a ρ => f a ρ
  | .exc c fs ρ => .exc c fs ρ
  | .stuck => .stuck
def Out.bind (x : Out) (f : Env → Out) : Out := match x with
  | .next ρ => f ρ
  | .brk ρ => .brk ρ
  | .cont ρ => .cont ρ
  | .ret r ρ => .ret r ρ
  | .exc c fs ρ => .exc c fs ρ
  | .stuck => .stuck

/-- the model's greatest length -/
def LIM : Nat := 16777216
/-! ### data -/
mutual
def D.py : D → PyData
  | .non => .none
  | .bl b => .bool b
  | .int i => .int i
  | .str s => .str s
  | .tup l => .tuple (pyL l)
  | .lst l => .list (pyL l)
  | .fn _ => .none
  | .ty _ => .none
  | .scr _ => .none
def pyL : List D → List PyData
  | [] => []
  | d :: r => d.py :: pyL r
end
mutual
/-- no def, class or script within -/
def D.plain : D → Bool
  | .tup l => plainL l
  | .lst l => plainL l
  | .fn _ => false
  | .ty _ => false
  | .scr _ => false
  | _ => true
def plainL : List D → Bool
  | [] => true
  | d :: r => d.plain && plainL r
end
mutual
def D.dep : D → Nat
  | .tup l => depL l + 1
  | .lst l => depL l + 1
  | _ => 0
def depL : List D → Nat
  | [] => 0
  | d :: r => max d.dep (depL r)
end
mutual
/-- Python's == -/
def D.eqv : D → D → Bool
  | .non, .non => true
  | .bl a, .bl b => a == b
  | .bl a, .int j => (if a then 1 else 0) == j
  | .int i, .bl b => i == (if b then 1 else 0)
  | .int i, .int j => i == j
  | .str x, .str y => x == y
  | .lst l, .lst m => eqvL l m
  | .tup l, .tup m => eqvL l m
  | _, _ => false
def eqvL : List D → List D → Bool
  | [], [] => true
  | x :: xs, y :: ys => x.eqv y && eqvL xs ys
  | [], _ :: _ => false
  | _ :: _, [] => false
end

/-! ### operators -/
def mulOk (i j : Int) : Bool := decide (i.natAbs.log2 + j.natAbs.log2 < 134000000)
def divOk (j : Int) : Bool := decide (j ≠ 0) && decide (j.natAbs.log2 < 9000)
abbrev Op2 := D → D → Option Ex
def fAdd : Op2
  | .int i, .int j => some (.d (.int (i + j)))
  | .str i, .str j => if i.length + j.length ≤ LIM then some (.d (.str (i ++ j))) else none
  | .tup l, .tup m => if l.length + m.length ≤ LIM then some (.d (.tup (l ++ m))) else none
  | .lst l, .lst m => if l.length + m.length ≤ LIM then some (.fresh (l ++ m)) else none
  | _, _ => none
def fSub : Op2
  | .int i, .int j => some (.d (.int (i - j)))
  | _, _ => none
def fMul : Op2
  | .int i, .int j => if mulOk i j then some (.d (.int (i * j))) else none
  | .lst l, .int k => if 0 ≤ k ∧ k ≤ 1000000 ∧ l.length * k.toNat ≤ LIM then some (.fresh (List.replicate k.toNat l).flatten) else none
  | .tup l, .int k => if l ≠ [] ∧ 2 ≤ k ∧ k ≤ 1000 ∧ l.length ≤ 1000 then some (.d (.tup (List.replicate k.toNat l).flatten)) else if k = 1 then some (.d (.tup l)) else none
  | _, _ => none
def fDiv : Op2
  | .int i, .int j => if divOk j then some (.d (.int (i.fdiv j))) else none
  | _, _ => none
def fMod : Op2
  | .int i, .int j => if j ≠ 0 then some (.d (.int (i.fmod j))) else none
  | _, _ => none
def fPow : Op2
  | .int i, .int j => if 0 ≤ j ∧ j ≤ 1000000 ∧ i.natAbs < 18446744073709551616 then some (.d (.int (i ^ j.toNat))) else none
  | _, _ => none
def fShl : Op2
  | .int i, .int j => if 0 ≤ j ∧ j ≤ 1000000 ∧ i.natAbs < 18446744073709551616 then some (.d (.int (i * 2 ^ j.toNat))) else none
  | _, _ => none
def fShr : Op2
  | .int i, .int j => if 0 ≤ j then some (.d (.int (i / 2 ^ j.toNat))) else none
  | _, _ => none
def fAnd : Op2
  | .int i, .int j => some (.d (.int (Builtin.bitAnd i j)))
  | _, _ => none
def fOr : Op2
  | .int i, .int j => some (.d (.int (Builtin.bitOr i j)))
  | _, _ => none
def cmpOk (x y : D) : Bool := x.plain && y.plain && decide (min x.dep y.dep ≤ 40)
def fEq : Op2 := fun x y => if cmpOk x y then some (.d (.bl (x.eqv y))) else none
def fNe : Op2 := fun x y => if cmpOk x y then some (.d (.bl (!x.eqv y))) else none
def fLt : Op2
  | .int i, .int j => some (.d (.bl (decide (i < j))))
  | _, _ => none
def fLe : Op2
  | .int i, .int j => some (.d (.bl (decide (i ≤ j))))
  | _, _ => none
def fGt : Op2
  | .int i, .int j => some (.d (.bl (decide (j < i))))
  | _, _ => none
def fGe : Op2
  | .int i, .int j => some (.d (.bl (decide (j ≤ i))))
  | _, _ => none
def D.isNon : D → Bool
  | .non => true
  | _ => false
def fIs : Op2
  | x, .non => some (.d (.bl x.isNon))
  | .bl a, .bl b => some (.d (.bl (a == b)))
  | _, _ => none
def fIsNot : Op2
  | x, .non => some (.d (.bl (!x.isNon)))
  | .bl a, .bl b => some (.d (.bl (!(a == b))))
  | _, _ => none
def inOk (x : D) (l : List D) : Bool := x.plain && plainL l && decide (min (depL l) x.dep ≤ 40)
def fIn : Op2
  | x, .tup l => if inOk x l then some (.d (.bl (l.any fun z => z.eqv x))) else none
  | x, .lst l => if inOk x l then some (.d (.bl (l.any fun z => z.eqv x))) else none
  | _, _ => none
def fNotIn : Op2
  | x, .tup l => if inOk x l then some (.d (.bl (!l.any fun z => z.eqv x))) else none
  | x, .lst l => if inOk x l then some (.d (.bl (!l.any fun z => z.eqv x))) else none
  | _, _ => none
abbrev Op1 := D → Option Ex
def fNeg : Op1
  | .int i => some (.d (.int (-i)))
  | _ => none
def truth : D → Option Bool
  | .non => some false
  | .bl b => some b
  | .int i => some (i != 0)
  | .str s => if s.length ≤ LIM then some ((s.length : Int) != 0) else none
  | .tup l => some (!l.isEmpty)
  | .lst l => some (!l.isEmpty)
  | .scr l => some (!l.isEmpty)
  | _ => none
/-- the place of an index in a sequence of n -/
def ixN (n : Nat) (i : Int) : Option Nat := if 0 ≤ i then (if i < n then some i.toNat else none) else if -(n : Int) ≤ i then some (i + n).toNat else none
def atD (l : List D) (i : Int) : Option D := (ixN l.length i).bind fun j => l[j]?
def fIx : Op2
  | .lst l, .int i => (atD l i).map .d
  | .tup l, .int i => (atD l i).map .d
  | .scr l, .int i => (atD (l.map .int) i).map .d
  | _, _ => none
/-- where a slice begins or ends -/
def sIx (n d : Nat) : Option Int → Nat
  | none => d
  | some i => if 0 ≤ i then min i.toNat n else (i + n).toNat
def cut (l : List D) (lo hi : Option Int) : List D := (l.drop (sIx l.length 0 lo)).take (sIx l.length l.length hi - sIx l.length 0 lo)
def fSl (x : D) (lo hi : Option Int) : Option Ex := match x with
  | .lst l => some (.fresh (cut l lo hi))
  | .tup l => some (.d (.tup (cut l lo hi)))
  | .scr l => some (.fresh (cut (l.map .int) lo hi))
  | _ => none
def D.asInt? : D → Option Int
  | .int i => some i
  | _ => none
def D.asBl? : D → Option Bool
  | .bl b => some b
  | _ => none
def D.items? : D → Option (List D)
  | .lst l => some l
  | .tup l => some l
  | .scr l => some (l.map .int)
  | _ => none
def D.lst? : D → Option (List D)
  | .lst l => some l
  | _ => none
/-! ### expressions -/
def dC (x : D) : Den := fun _ ρ => .ok (.d x) ρ
/-- a name as a value: a list that the slot alone knew is known to others from now on, and is never changed again -/
def dVar (i : Nat) : Den := fun _ ρ => match ρ[i]? with
  | some (.val d) => .ok (.d d) ρ
  | some (.own l) => .ok (.d (.lst l)) (ρ.set i (.val (.lst l)))
  | _ => .stuck
/-- what a name reads as, unchanged -/
def look (ρ : Env) (i : Nat) : Option D := match ρ[i]? with
  | some (.val d) => some d
  | some (.own l) => some (.lst l)
  | some (.par l) => some (.lst l)
  | some (.gh l) => some (.lst l)
  | _ => none
def isOwn : Option Sl → Bool
  | some (.own _) => true
  | some (.par _) => true
  | _ => false
def dOp (f : Op2) (a b : Den) : Den := fun C ρ => (a C ρ).bind fun x ρ1 => (b C ρ1).bind fun y ρ2 => match f x.frz y.frz with
  | some r => .ok r ρ2
  | none => .stuck
def dUn (f : Op1) (a : Den) : Den := fun C ρ => (a C ρ).bind fun x ρ1 => match f x.frz with
  | some r => .ok r ρ1
  | none => .stuck
/-- a op b op' c -/
def dChain (f g : Op2) (a b c : Den) : Den := fun C ρ => (a C ρ).bind fun x ρ1 => (b C ρ1).bind fun y ρ2 => match f x.frz y.frz with
  | some (.d (.bl true)) => (c C ρ2).bind fun z ρ3 => (match g y.frz z.frz with
    | some r => .ok r ρ3
    | none => .stuck)
  | some (.d (.bl false)) => .ok (.d (.bl false)) ρ2
  | _ => .stuck
def tE (a : Den) : TD := fun C ρ => (a C ρ).bind fun x ρ1 => match truth x.frz with
  | some b => .ok b ρ1
  | none => .stuck
def tNot (t : TD) : TD := fun C ρ => (t C ρ).bind fun b ρ1 => .ok (!b) ρ1
def tAnd (t u : TD) : TD := fun C ρ => (t C ρ).bind fun b ρ1 => if b then u C ρ1 else .ok false ρ1
def tOr (t u : TD) : TD := fun C ρ => (t C ρ).bind fun b ρ1 => if b then .ok true ρ1 else u C ρ1
/-- and, or, not as values: of bools -/
def dAnd (a b : Den) : Den := fun C ρ => (a C ρ).bind fun x ρ1 => match x.frz with
  | .bl true => b C ρ1
  | .bl false => .ok (.d (.bl false)) ρ1
  | _ => .stuck
def dOr (a b : Den) : Den := fun C ρ => (a C ρ).bind fun x ρ1 => match x.frz with
  | .bl true => .ok (.d (.bl true)) ρ1
  | .bl false => b C ρ1
  | _ => .stuck
def dNot (a : Den) : Den := fun C ρ => (a C ρ).bind fun x ρ1 => match x.frz with
  | .bl b => .ok (.d (.bl (!b))) ρ1
  | _ => .stuck
def dIf (t : TD) (a b : Den) : Den := fun C ρ => (t C ρ).bind fun c ρ1 => if c then a C ρ1 else b C ρ1
/-- several values, from the left -/
def dAll : List Den → Calls → Env → R (List D)
  | [], _, ρ => .ok [] ρ
  | a :: r, C, ρ => (a C ρ).bind fun x ρ1 => (dAll r C ρ1).bind fun xs ρ2 => .ok (x.frz :: xs) ρ2
def dTup (es : List Den) : Den := fun C ρ => (dAll es C ρ).bind fun xs ρ1 => .ok (.d (.tup xs)) ρ1
def dLst (es : List Den) : Den := fun C ρ => (dAll es C ρ).bind fun xs ρ1 => .ok (.fresh xs) ρ1
/-- x[e], x a name -/
def dIxV (i : Nat) (e : Den) : Den := fun C ρ => match look ρ i with
  | none => .stuck
  | some _ => (e C ρ).bind fun y ρ1 => match look ρ1 i with
    | some x => (match fIx x y.frz with
      | some r => .ok r ρ1
      | none => .stuck)
    | none => .stuck
def dPart : Option Den → Calls → Env → R (Option Int)
  | none, _, ρ => .ok none ρ
  | some e, C, ρ => (e C ρ).bind fun x ρ1 => match x.frz.asInt? with
    | some i => .ok (some i) ρ1
    | none => .stuck
def dSl (a : Den) (lo hi : Option Den) : Den := fun C ρ => (a C ρ).bind fun x ρ1 => (dPart lo C ρ1).bind fun l ρ2 => (dPart hi C ρ2).bind fun h ρ3 => match fSl x.frz l h with
  | some r => .ok r ρ3
  | none => .stuck
/-- x[lo:hi], x a name -/
def dSlV (i : Nat) (lo hi : Option Den) : Den := fun C ρ => match look ρ i with
  | none => .stuck
  | some _ => (dPart lo C ρ).bind fun l ρ2 => (dPart hi C ρ2).bind fun h ρ3 => match look ρ3 i with
    | some x => (match fSl x l h with
      | some r => .ok r ρ3
      | none => .stuck)
    | none => .stuck
/-- a built-in of data -/
abbrev Bf := List D → Option Ex
def dB (f : Bf) (es : List Den) : Den := fun C ρ => (dAll es C ρ).bind fun xs ρ1 => match f xs with
  | some r => .ok r ρ1
  | none => .stuck
/-- .. of one name, which it does not keep -/
def dB1 (f : Bf) (i : Nat) : Den := fun _ ρ => match look ρ i with
  | some x => (match f [x] with
    | some r => .ok r ρ
    | none => .stuck)
  | none => .stuck
/-- x.pop(), x.pop(k): x a name -/
def dPop (i : Nat) : Den := fun _ ρ => match ρ[i]? with
  | some (.own l) => (match l[l.length - 1]? with
    | some d => .ok (.d d) (ρ.set i (.own l.dropLast))
    | none => .stuck)
  | some (.par l) => (match l[l.length - 1]? with
    | some d => .ok (.d d) (ρ.set i (.par l.dropLast))
    | none => .stuck)
  | _ => .stuck
def popAt (l : List D) (k : Int) : Option (D × List D) := if -(9223372036854775808 : Int) ≤ k ∧ k < 9223372036854775808 then (ixN l.length k).bind fun j => (l[j]?).map fun d => (d, l.eraseIdx j) else none
def dPopAt (i : Nat) (e : Den) : Den := fun C ρ => match isOwn ρ[i]? with
  | false => .stuck
  | true => (e C ρ).bind fun y ρ1 => match y.frz.asInt? with
    | none => .stuck
    | some k => (match ρ1[i]? with
      | some (.own l) => (match popAt l k with
        | some (d, m) => .ok (.d d) (ρ1.set i (.own m))
        | none => .stuck)
      | some (.par l) => (match popAt l k with
        | some (d, m) => .ok (.d d) (ρ1.set i (.par m))
        | none => .stuck)
      | _ => .stuck)
/-- a field of a caught exception -/
def dFld (i : Nat) (f : Str) : Den := fun _ ρ => match ρ[i]? with
  | some (.exn _ fs) => (match fs.lookup f with
    | some d => .ok (.d d) ρ
    | none => .stuck)
  | _ => .stuck
/-! ### calls -/
/-- an argument: a name (its own list is handed on, to be changed in place), or a value -/
inductive AD where
  | v (i : Nat) | e (d : Den)
inductive AV where
  | own (i : Nat) | d (x : D) | gh (i : Nat)
def argsE : List AD → Calls → Env → R (List AV)
  | [], _, ρ => .ok [] ρ
  | .v i :: r, C, ρ => if isOwn ρ[i]? then (argsE r C ρ).bind fun xs ρ2 => .ok (.own i :: xs) ρ2 else (dVar i C ρ).bind fun x ρ1 => (argsE r C ρ1).bind fun xs ρ2 => .ok (.d x.frz :: xs) ρ2
  | .e a :: r, C, ρ => (a C ρ).bind fun x ρ1 => (argsE r C ρ1).bind fun xs ρ2 => .ok (.d x.frz :: xs) ρ2
def owns : List AV → List Nat
  | [] => []
  | .own i :: r => i :: owns r
  | .gh i :: r => i :: owns r
  | .d _ :: r => owns r
def argOf (ρ : Env) : AV → Option Arg
  | .d x => some (.d x)
  | .own i => match ρ[i]? with
    | some (.own l) => some (.own l)
    | some (.par l) => some (.own l)
    | _ => none
  | .gh i => match ρ[i]? with
    | some (.gh l) => some (.gh l)
    | _ => none
def argsOf (ρ : Env) : List AV → Option (List Arg)
  | [] => some []
  | a :: r => (argOf ρ a).bind fun x => (argsOf ρ r).map fun xs => x :: xs
/-- the lists come back -/
def backTo (ρ : Env) : List Nat → List (List D) → Option Env
  | [], [] => some ρ
  | i :: r, l :: ls => (match ρ[i]? with
    | some (.own _) => backTo (ρ.set i (.own l)) r ls
    | some (.par _) => backTo (ρ.set i (.par l)) r ls
    | some (.gh _) => backTo (ρ.set i (.gh l)) r ls
    | _ => none)
  | _, _ => none
def nodupN : List Nat → Bool
  | [] => true
  | i :: r => !r.contains i && nodupN r
def doCall (f : Nat) (as : List AV) (C : Calls) (ρ : Env) : R Ex :=
  if nodupN (owns as) then match argsOf ρ as with
    | none => .stuck
    | some xs => (match C f xs with
      | .ok r outs => (match backTo ρ (owns as) outs with
        | some ρ' => .ok r ρ'
        | none => .stuck)
      | .exc c fs => if (owns as).isEmpty then .exc c fs ρ else .stuck
      | _ => .stuck)
  else .stuck
/-- f(..): perm puts what was written into the parameters' order (keywords) -/
def dCall (f : Nat) (as : List AD) : Den := fun C ρ => (argsE as C ρ).bind fun xs ρ1 => doCall f xs C ρ1
/-- .. the list within a deck handed on, too: g its slot -/
def dCallG (f : Nat) (as : List AD) (g : Nat) : Den := fun C ρ => (argsE as C ρ).bind fun xs ρ1 => doCall f (xs ++ [.gh g]) C ρ1
def permL {α : Type} (p : List Nat) (xs : List α) : List α := p.filterMap fun i => xs[i]?
def dCallK (f : Nat) (p : List Nat) (as : List AD) : Den := fun C ρ => (argsE as C ρ).bind fun xs ρ1 => doCall f (permL p xs) C ρ1
/-- a name that holds a def, called -/
def dCallV (i : Nat) (as : List AD) : Den := fun C ρ => match ρ[i]? with
  | some (.val (.fn f)) => if f < GI then (argsE as C ρ).bind fun xs ρ1 => doCall f xs C ρ1 else .stuck
  | _ => .stuck
/-! ### targets, walks -/
inductive Tg where
  | v (i : Nat) | t (l : List Nat)
def stSl (ρ : Env) (i : Nat) (s : Sl) : Option Env := match ρ[i]? with
  | some (.par _) => none
  | some (.exn _ _) => none
  | some (.gh _) => none
  | some _ => some (ρ.set i s)
  | none => none
def stAll (ρ : Env) : List Nat → List D → Option Env
  | [], [] => some ρ
  | i :: r, d :: ds => (stSl ρ i (.val d)).bind fun ρ1 => stAll ρ1 r ds
  | _, _ => none
def Tg.st (ρ : Env) (d : D) : Tg → Option Env
  | .v i => stSl ρ i (.val d)
  | .t l => match d with
    | .tup ds => stAll ρ l ds
    | _ => none
/-- what a for walks: the items -/
abbrev ID := Calls → Env → R (List D)
def iE (a : Den) : ID := fun C ρ => (a C ρ).bind fun x ρ1 => match x.frz.items? with
  | some l => .ok l ρ1
  | none => .stuck
def rng (a b : Int) : List D := (List.range (b - a).toNat).map fun (k : Nat) => .int (a + k)
def iR1 (a : Den) : ID := fun C ρ => (a C ρ).bind fun x ρ1 => match x.frz.asInt? with
  | some n => if -16777216 < n ∧ n < 16777216 then .ok (rng 0 n) ρ1 else .stuck
  | none => .stuck
def iR2 (a b : Den) : ID := fun C ρ => (a C ρ).bind fun x ρ1 => (b C ρ1).bind fun y ρ2 => match x.frz.asInt?, y.frz.asInt? with
  | some i, some j => if -16777216 < i ∧ i < 16777216 ∧ -16777216 < j ∧ j < 16777216 then .ok (rng i j) ρ2 else .stuck
  | _, _ => .stuck
def enumL (n : Nat) : List D → List D
  | [] => []
  | d :: r => .tup [.int n, d] :: enumL (n + 1) r
def iEnum (a : Den) : ID := fun C ρ => (a C ρ).bind fun x ρ1 => match x.frz.items? with
  | some l => .ok (enumL 0 l) ρ1
  | none => .stuck
def zipL : List D → List D → List D
  | x :: xs, y :: ys => .tup [x, y] :: zipL xs ys
  | _, _ => []
def iZip (a b : Den) : ID := fun C ρ => (a C ρ).bind fun x ρ1 => (b C ρ1).bind fun y ρ2 => match x.frz, y.frz with
  | .lst l, .lst m => .ok (zipL l m) ρ2
  | .tup l, .tup m => .ok (zipL l m) ρ2
  | _, _ => .stuck
/-! ### comprehensions -/
def wipe (ρ : Env) : List Nat → Env
  | [] => ρ
  | v :: vs => (wipe ρ vs).set v .none
/-- the slots of the block's own names, as they were -/
def unwipe (ρ0 ρ : Env) : List Nat → Env
  | [] => ρ
  | v :: vs => match ρ0[v]? with
    | some s => (unwipe ρ0 ρ vs).set v s
    | none => unwipe ρ0 ρ vs
def free1 : Option Sl → Bool
  | some .none => true
  | some (.val _) => true
  | _ => false
def tests : List TD → TD
  | [] => fun _ ρ => .ok true ρ
  | [t] => t
  | _ => fun _ _ => .stuck
def compL (vs : List Nat) (tg : Tg) (ts : TD) (elt : Den) (C : Calls) : List D → Env → R (List D)
  | [], ρ => .ok [] (wipe ρ vs)
  | x :: xs, ρ => match tg.st (wipe ρ vs) x with
    | none => .stuck
    | some ρ1 => (ts C ρ1).bind fun b ρ2 => if b then (elt C ρ2).bind fun y ρ3 => (compL vs tg ts elt C xs ρ3).bind fun ys ρ4 => .ok (y.frz :: ys) ρ4 else compL vs tg ts elt C xs ρ2
/-- no exception comes out of a comprehension -/
def R.noExc {α : Type} : R α → R α
  | .exc _ _ _ => .stuck
  | x => x
def dComp (vs : List Nat) (it : ID) (tg : Tg) (ts : TD) (elt : Den) : Den := fun C ρ => (it C ρ).bind fun l ρ1 =>
  if l.length < LIM ∧ vs.all (fun v => free1 ρ1[v]?) then (compL vs tg ts elt C l (wipe ρ1 vs)).noExc.bind fun ys ρ2 => .ok (.fresh ys) (unwipe ρ1 ρ2 vs) else .stuck
/-- two fors: vs1 are the inner one's names -/
def comp2L (vs vs1 : List Nat) (tg : Tg) (ts : TD) (it1 : ID) (tg1 : Tg) (ts1 : TD) (elt : Den) (C : Calls) : List D → Env → R (List D)
  | [], ρ => .ok [] (wipe ρ vs)
  | x :: xs, ρ => match tg.st (wipe ρ vs) x with
    | none => .stuck
    | some ρ1 => (ts C ρ1).bind fun b ρ2 => if b then (it1 C ρ2).bind fun l ρ3 => if l.length < 4096 then (compL vs1 tg1 ts1 elt C l ρ3).bind fun ys ρ4 => (comp2L vs vs1 tg ts it1 tg1 ts1 elt C xs ρ4).bind fun zs ρ5 => .ok (ys ++ zs) ρ5 else .stuck else comp2L vs vs1 tg ts it1 tg1 ts1 elt C xs ρ2
def dComp2 (vs vs1 : List Nat) (it : ID) (tg : Tg) (ts : TD) (it1 : ID) (tg1 : Tg) (ts1 : TD) (elt : Den) : Den := fun C ρ => (it C ρ).bind fun l ρ1 =>
  if l.length < 4096 ∧ vs.all (fun v => free1 ρ1[v]?) then (comp2L vs vs1 tg ts it1 tg1 ts1 elt C l (wipe ρ1 vs)).noExc.bind fun ys ρ2 => .ok (.fresh ys) (unwipe ρ1 ρ2 vs) else .stuck
/-! ### statements -/
def sPass : DS := fun _ ρ => .next ρ
def sBrk : DS := fun _ ρ => .brk ρ
def sCont : DS := fun _ ρ => .cont ρ
def sSeq (a b : DS) : DS := fun C ρ => (a C ρ).bind fun ρ1 => b C ρ1
def sBlk : List DS → DS
  | [] => sPass
  | [a] => a
  | a :: b :: r => sSeq a (sBlk (b :: r))
def Ex.sl : Ex → Sl
  | .d x => .val x
  | .fresh l => .own l
  | .dkn _ _ => .none
def sSet (i : Nat) (a : Den) : DS := fun C ρ => (a C ρ).out fun x ρ1 => match stSl ρ1 i x.sl with
  | some ρ2 => .next ρ2
  | none => .stuck
/-- a, b = e -/
def sUnp (l : List Nat) (a : Den) : DS := fun C ρ => (a C ρ).out fun x ρ1 => match (Tg.t l).st ρ1 x.frz with
  | some ρ2 => .next ρ2
  | none => .stuck
/-- a, b = x, y -/
def sPar (i j : Nat) (a b : Den) : DS := fun C ρ => (dAll [a, b] C ρ).out fun xs ρ1 => match stAll ρ1 [i, j] xs with
  | some ρ2 => .next ρ2
  | none => .stuck
def sExpr (a : Den) : DS := fun C ρ => (a C ρ).out fun _ ρ1 => .next ρ1
def sRet (a : Den) : DS := fun C ρ => (a C ρ).out fun x ρ1 => .ret x ρ1
/-- return x, x a name -/
def sRetV (i : Nat) : DS := fun _ ρ => match ρ[i]? with
  | some (.val d) => .ret (.d d) ρ
  | some (.own l) => .ret (.fresh l) (ρ.set i .none)
  | _ => .stuck
def sRetN : DS := fun _ ρ => .ret (.d .non) ρ
def sIf (t : TD) (a b : DS) : DS := fun C ρ => (t C ρ).out fun c ρ1 => if c then a C ρ1 else b C ρ1
/-- x op= e -/
def sAug (i : Nat) (f : Op2) (a : Den) : DS := fun C ρ => match ρ[i]? with
  | some (.val x) => (a C ρ).out fun y ρ1 => (match f x y.frz with
    | some (.d z) => (match stSl ρ1 i (.val z) with
      | some ρ2 => .next ρ2
      | none => .stuck)
    | _ => .stuck)
  | _ => .stuck
/-- x[k] = e, x a name -/
def putAt (l : List D) (k : Int) (y : D) : Option (List D) := (ixN l.length k).map fun j => l.set j y
def sPut (i : Nat) (k e : Den) : DS := fun C ρ => (e C ρ).out fun y ρ1 => match isOwn ρ1[i]? with
  | false => .stuck
  | true => (k C ρ1).out fun z ρ2 => match z.frz.asInt? with
    | none => .stuck
    | some j => (match ρ2[i]? with
      | some (.own l) => (match putAt l j y.frz with
        | some m => .next (ρ2.set i (.own m))
        | none => .stuck)
      | some (.par l) => (match putAt l j y.frz with
        | some m => .next (ρ2.set i (.par m))
        | none => .stuck)
      | _ => .stuck)
/-- x.append(e), x a name -/
def sApp (i : Nat) (e : Den) : DS := fun C ρ => match isOwn ρ[i]? with
  | false => .stuck
  | true => (e C ρ).out fun y ρ1 => match ρ1[i]? with
    | some (.own l) => if l.length < LIM then .next (ρ1.set i (.own (l ++ [y.frz]))) else .stuck
    | some (.par l) => if l.length < LIM then .next (ρ1.set i (.par (l ++ [y.frz]))) else .stuck
    | _ => .stuck
def forL (tg : Tg) (b : DS) (C : Calls) : List D → Env → Out
  | [], ρ => .next ρ
  | x :: xs, ρ => match tg.st ρ x with
    | none => .stuck
    | some ρ1 => match b C ρ1 with
      | .next ρ2 => forL tg b C xs ρ2
      | .cont ρ2 => forL tg b C xs ρ2
      | .brk ρ2 => .next ρ2
      | .ret r ρ2 => .ret r ρ2
      | .exc c fs ρ2 => .exc c fs ρ2
      | .stuck => .stuck
def sFor (tg : Tg) (it : ID) (b : DS) : DS := fun C ρ => (it C ρ).out fun l ρ1 => forL tg b C l ρ1
def whileL (t : TD) (b : DS) (C : Calls) : Nat → Env → Out
  | 0, _ => .stuck
  | n + 1, ρ => (t C ρ).out fun c ρ1 => if c then (match b C ρ1 with
      | .next ρ2 => whileL t b C n ρ2
      | .cont ρ2 => whileL t b C n ρ2
      | .brk ρ2 => .next ρ2
      | .ret r ρ2 => .ret r ρ2
      | .exc c fs ρ2 => .exc c fs ρ2
      | .stuck => .stuck) else .next ρ1
/-- with turns enough -/
noncomputable def sWhile (t : TD) (b : DS) : DS := fun C ρ => open Classical in if h : ∃ n, whileL t b C n ρ ≠ .stuck then whileL t b C h.choose ρ else .stuck
theorem whileL_more {t : TD} {b : DS} {C : Calls} : ∀ {n m : Nat} {ρ : Env}, n ≤ m → whileL t b C n ρ ≠ .stuck → whileL t b C m ρ = whileL t b C n ρ
  | 0, _, _, _, h => absurd rfl h
  | n + 1, 0, _, h, _ => by omega
  | n + 1, m + 1, ρ, hm, h => by
    unfold whileL at h ⊢
    cases e : t C ρ with
    | exc c fs ρ1 => rfl
    | stuck => rfl
    | ok k ρ1 =>
      rw [e] at h
      cases k with
      | false => rfl
      | true =>
        simp only [R.out, if_true] at h ⊢
        cases e2 : b C ρ1 with
        | next ρ2 => simp only [e2] at h ⊢; exact whileL_more (by omega) h
        | cont ρ2 => simp only [e2] at h ⊢; exact whileL_more (by omega) h
        | brk ρ2 => rfl
        | ret r ρ2 => rfl
        | exc c fs ρ2 => rfl
        | stuck => rfl
theorem sWhile_eq {t : TD} {b : DS} {C : Calls} {n : Nat} {ρ : Env} {o : Out} (h : whileL t b C n ρ = o) (ho : o ≠ .stuck) : sWhile t b C ρ = o := by
  have e : ∃ n, whileL t b C n ρ ≠ .stuck := ⟨n, by rw [h]; exact ho⟩
  unfold sWhile
  rw [dif_pos e]
  have h1 := e.choose_spec
  have h2 : whileL t b C n ρ ≠ .stuck := by rw [h]; exact ho
  rcases Nat.le_total e.choose n with q | q
  · rw [← whileL_more q h1, h]
  · rw [whileL_more q h2, h]
def sRaise (c : Nat) (fl : List Str) (es : List Den) : DS := fun C ρ => (dAll es C ρ).out fun xs ρ1 => if xs.length = fl.length then .exc c (fl.zip xs) ρ1 else .stuck
/-- try: b except (one of the classes cs) as i: h -/
structure Hd where
  cs : Nat → Bool
  as_ : Option Nat
  h : DS
def Out.suite (ρ' : Option Nat) : Out → Out
  | .next ρ => .next (match ρ' with | some i => ρ.set i .none | none => ρ)
  | .ret r ρ => .ret r (match ρ' with | some i => ρ.set i .none | none => ρ)
  | .brk ρ => .brk (match ρ' with | some i => ρ.set i .none | none => ρ)
  | .cont ρ => .cont (match ρ' with | some i => ρ.set i .none | none => ρ)
  | _ => .stuck
def handle (C : Calls) (c : Nat) (fs : List (Str × D)) (ρ : Env) : List Hd → Out
  | [] => .exc c fs ρ
  | h :: r => if h.cs c = true then (match h.as_ with
      | none => (h.h C ρ).suite none
      | some i => (match stSl ρ i (.exn c fs) with
        | some ρ1 => (h.h C ρ1).suite (some i)
        | none => .stuck)) else handle C c fs ρ r
def sTry (b : DS) (hs : List Hd) : DS := fun C ρ => match b C ρ with
  | .exc c fs ρ1 => handle C c fs ρ1 hs
  | o => o
/-! ### defs -/
/-- ng: the lists within decks, handed on behind the parameters -/
structure FD where
  np : Nat
  ng : Nat
  ns : Nat
  body : DS
def Arg.sl : Arg → Sl
  | .d x => .val x
  | .own l => .par l
  | .gh l => .gh l
def Arg.isOwn : Arg → Bool
  | .d _ => false
  | _ => true
def outsOf (ρ : Env) : Nat → List Arg → Option (List (List D))
  | _, [] => some []
  | k, .d _ :: r => outsOf ρ (k + 1) r
  | k, .own _ :: r => match ρ[k]? with
    | some (.par l) => (outsOf ρ (k + 1) r).map fun ls => l :: ls
    | _ => none
  | k, .gh _ :: r => match ρ[k]? with
    | some (.gh l) => (outsOf ρ (k + 1) r).map fun ls => l :: ls
    | _ => none
def mkCR (r : Ex) (ls : List (List D)) : CR := match r with
  | .dkn l g => .dk l g ls
  | .d x => .ok (.d x) ls
  | .fresh l => .ok (.fresh l) ls
def finish (args : List Arg) (r : Ex) (ρ : Env) : CR := match outsOf ρ 0 args with
  | some ls => mkCR r ls
  | none => .stuck
/-- how many arguments are lists within decks -/
def ngh : List Arg → Nat
  | [] => 0
  | .gh _ :: r => ngh r + 1
  | _ :: r => ngh r
def runF (fd : FD) (C : Calls) (args : List Arg) : CR :=
  if args.length = fd.np + fd.ng ∧ ngh args = fd.ng then match fd.body C (args.map Arg.sl ++ List.replicate (fd.ns - (fd.np + fd.ng)) .none) with
    | .ret r ρ => finish args r ρ
    | .next ρ => finish args (.d .non) ρ
    | .exc c fs _ => if args.any Arg.isOwn then .stuck else .exc c fs
    | _ => .stuck
  else .stuck
def callN (T : List FD) : Nat → Calls
  | 0 => fun _ _ => .stuck
  | n + 1 => fun f args => match T[f]? with
    | some fd => runF fd (callN T n) args
    | none => .stuck
end RX
set_option autoImplicit true
set_option Elab.async false
set_option linter.all false
set_option maxRecDepth 100000
set_option maxHeartbeats 4000000
/-! RXb: what the evaluator's data are in the hand layer's heaps; the shape of the readings. -/
namespace RX
open PySem PySem.Spec PyProof.Rows L2
/-! ### data in a heap -/
/-- a list that nobody can change: locked, or of the module -/
def SqF (K : PySem.W.Frag) (H : Hp) (a : Addr) (xs : List V) : Prop := (∃ o, H a = some (.frz o (.lst xs))) ∨
  ∃ (o : Obj) (its : Array Value) (n : Nat), K.lookup a = some o ∧ o.cls = .type "list" ∧ o.dict = none ∧ o.data = .seq its n ∧ its.size ≤ sizeLine ∧ Vals xs its.toList
theorem SqF.l {K : PySem.W.Frag} {H : Hp} {a : Addr} {xs : List V} (h : SqF K H a xs) : SqL K H a xs := by
  rcases h with ⟨o, h⟩ | h
  · exact .inl (.inr ⟨o, h⟩)
  · exact .inr h
theorem SqF.of {K : PySem.W.Frag} {H : Hp} {a : Addr} {xs : List V} (O : Only H) (h : SqL K H a xs) : SqF K H a xs := by
  rcases h with (h | h) | h
  · rcases O a with e | ⟨o, ys, e⟩
    · rw [e] at h; cases h
    · rw [e] at h; cases h
  · exact .inl h
  · exact .inr h
section
variable (K : PySem.W.Frag) (fa : Nat → Addr)
mutual
/-- v is the data d: F tells the lists that nobody changes any more -/
inductive Rp (F : Addr → Prop) (H : Hp) : V → D → Prop
  | non : Rp F H .non .non
  | bl (b : Bool) : Rp F H (.bl b) (.bl b)
  | int (i : Int) : Rp F H (.int i) (.int i)
  | str (x : Str) : Rp F H (.str x) (.str x)
  | tup {a : Addr} {xs : List V} {ds : List D} : SqT K H a xs → RpL F H xs ds → Rp F H (.ref a) (.tup ds)
  | lst {a : Addr} {xs : List V} {ds : List D} : F a → H a = some (.lst xs) → RpL F H xs ds → Rp F H (.ref a) (.lst ds)
  | scr {a : Addr} {ns : List Int} : SqF K H a (ns.map V.int) → Rp F H (.ref a) (.scr ns)
  | fn (k : Nat) : Rp F H (.ref (fa k)) (.fn k)
  | ty (n : String) : Rp F H (.ty n) (.ty n)
inductive RpL (F : Addr → Prop) (H : Hp) : List V → List D → Prop
  | nil : RpL F H [] []
  | cons {v : V} {vs : List V} {d : D} {ds : List D} : Rp F H v d → RpL F H vs ds → RpL F H (v :: vs) (d :: ds)
end
end
/-- a later heap: what is frozen, the tuples, the locked things and the exceptions' dicts stand -/
structure Ext (F : Addr → Prop) (H : Hp) (F' : Addr → Prop) (H' : Hp) : Prop where
  fz : ∀ a, F a → F' a ∧ H' a = H a
  tup : ∀ a xs, H a = some (.tup xs) → H' a = some (.tup xs)
  frz : ∀ a o u, H a = some (.frz o u) → H' a = some (.frz o u)
  xd : ∀ a fs, H a = some (.xd fs) → H' a = some (.xd fs)
theorem Ext.refl {F : Addr → Prop} {H : Hp} : Ext F H F H := ⟨fun _ h => ⟨h, rfl⟩, fun _ _ h => h, fun _ _ _ h => h, fun _ _ h => h⟩
theorem Ext.trans {F F1 F2 : Addr → Prop} {H H1 H2 : Hp} (a : Ext F H F1 H1) (b : Ext F1 H1 F2 H2) : Ext F H F2 H2 :=
  ⟨fun x h => ⟨(b.fz x (a.fz x h).1).1, (b.fz x (a.fz x h).1).2.trans (a.fz x h).2⟩, fun x _ h => b.tup x _ (a.tup x _ h), fun x _ _ h => b.frz x _ _ (a.frz x _ _ h), fun x _ h => b.xd x _ (a.xd x _ h)⟩
theorem Ext.same {F : Addr → Prop} {H H' : Hp} (h : Same H H') (t : ∀ a, F a → ∃ xs, H a = some (.lst xs)) : Ext F H F H' :=
  ⟨fun a f => ⟨f, by obtain ⟨xs, e⟩ := t a f; rw [e, h _ _ e]⟩, fun _ _ e => h _ _ e, fun _ _ _ e => h _ _ e, fun _ _ e => h _ _ e⟩
theorem Ext.sqt {K : PySem.W.Frag} {F F' : Addr → Prop} {H H' : Hp} (e : Ext F H F' H') {a : Addr} {xs : List V} (h : SqT K H a xs) : SqT K H' a xs := by
  rcases h with (h | ⟨o, h⟩) | h
  · exact .inl (.inl (e.tup _ _ h))
  · exact .inl (.inr ⟨o, e.frz _ _ _ h⟩)
  · exact .inr h
theorem Ext.sqf {K : PySem.W.Frag} {F F' : Addr → Prop} {H H' : Hp} (e : Ext F H F' H') {a : Addr} {xs : List V} (h : SqF K H a xs) : SqF K H' a xs := by
  rcases h with ⟨o, h⟩ | h
  · exact .inl ⟨o, e.frz _ _ _ h⟩
  · exact .inr h
section
variable {K : PySem.W.Frag} {fa : Nat → Addr} {F F' : Addr → Prop} {H H' : Hp}
mutual
theorem Rp.ext (e : Ext F H F' H') : ∀ (d : D) (v : V), Rp K fa F H v d → Rp K fa F' H' v d
  | .non, _, h => by cases h; exact .non
  | .bl b, _, h => by cases h; exact .bl b
  | .int i, _, h => by cases h; exact .int i
  | .str x, _, h => by cases h; exact .str x
  | .tup ds, _, h => by
    cases h with
    | tup s r => exact .tup (e.sqt s) (RpL.ext e ds _ r)
  | .lst ds, _, h => by
    cases h with
    | lst f s r => exact .lst (e.fz _ f).1 ((e.fz _ f).2.trans s) (RpL.ext e ds _ r)
  | .fn k, _, h => by cases h; exact .fn k
  | .ty n, _, h => by cases h; exact .ty n
  | .scr l, _, h => by
    cases h with
    | scr s => exact .scr (e.sqf s)
theorem RpL.ext (e : Ext F H F' H') : ∀ (ds : List D) (vs : List V), RpL K fa F H vs ds → RpL K fa F' H' vs ds
  | [], _, h => by cases h; exact .nil
  | d :: ds, _, h => by
    cases h with
    | cons r t => exact .cons (Rp.ext e d _ r) (RpL.ext e ds _ t)
end
theorem RpL.length : ∀ {vs : List V} {ds : List D}, RpL K fa F H vs ds → vs.length = ds.length
  | _, _, .nil => rfl
  | _, _, .cons _ t => congrArg (· + 1) (RpL.length t)
theorem RpL.append : ∀ {vs ws : List V} {ds es : List D}, RpL K fa F H vs ds → RpL K fa F H ws es → RpL K fa F H (vs ++ ws) (ds ++ es)
  | _, _, _, _, .nil, h => h
  | _, _, _, _, .cons r t, h => .cons r (t.append h)
theorem RpL.get : ∀ {vs : List V} {ds : List D} {i : Nat} {d : D}, RpL K fa F H vs ds → ds[i]? = some d → ∃ v, vs[i]? = some v ∧ Rp K fa F H v d
  | _, _, _, _, .nil, e => by simp at e
  | _, _, 0, _, .cons r _, e => by simp at e; subst e; exact ⟨_, rfl, r⟩
  | _, _, i + 1, d, .cons _ t, e => by
    obtain ⟨v, h1, h2⟩ := RpL.get (i := i) t (by simpa using e)
    exact ⟨v, by simpa using h1, h2⟩
theorem RpL.getV : ∀ {vs : List V} {ds : List D} {i : Nat} {v : V}, RpL K fa F H vs ds → vs[i]? = some v → ∃ d, ds[i]? = some d ∧ Rp K fa F H v d
  | _, _, _, _, .nil, e => by simp at e
  | _, _, 0, _, .cons r _, e => by simp at e; subst e; exact ⟨_, rfl, r⟩
  | _, _, i + 1, d, .cons _ t, e => by
    obtain ⟨v, h1, h2⟩ := RpL.getV (i := i) t (by simpa using e)
    exact ⟨v, by simpa using h1, h2⟩
theorem RpL.take : ∀ {vs : List V} {ds : List D} (n : Nat), RpL K fa F H vs ds → RpL K fa F H (vs.take n) (ds.take n)
  | _, _, 0, _ => .nil
  | _, _, _ + 1, .nil => .nil
  | _, _, n + 1, .cons r t => .cons r (t.take n)
theorem RpL.drop : ∀ {vs : List V} {ds : List D} (n : Nat), RpL K fa F H vs ds → RpL K fa F H (vs.drop n) (ds.drop n)
  | _, _, 0, r => r
  | _, _, _ + 1, .nil => .nil
  | _, _, n + 1, .cons _ t => t.drop n
theorem RpL.set {v : V} {d : D} (r : Rp K fa F H v d) : ∀ {vs : List V} {ds : List D} (i : Nat), RpL K fa F H vs ds → RpL K fa F H (vs.set i v) (ds.set i d)
  | _, _, _, .nil => .nil
  | _, _, 0, .cons _ t => .cons r t
  | _, _, i + 1, .cons q t => .cons q (t.set r i)
theorem RpL.eraseIdx : ∀ {vs : List V} {ds : List D} (i : Nat), RpL K fa F H vs ds → RpL K fa F H (vs.eraseIdx i) (ds.eraseIdx i)
  | _, _, _, .nil => .nil
  | _, _, 0, .cons _ t => t
  | _, _, i + 1, .cons q t => .cons q (t.eraseIdx i)
theorem RpL.dropLast : ∀ {vs : List V} {ds : List D}, RpL K fa F H vs ds → RpL K fa F H vs.dropLast ds.dropLast
  | _, _, .nil => .nil
  | _, _, .cons r .nil => .nil
  | _, _, .cons r (.cons q t) => .cons r (RpL.dropLast (.cons q t))
theorem RpL.rep (n : Nat) {vs : List V} {ds : List D} (r : RpL K fa F H vs ds) : RpL K fa F H (List.replicate n vs).flatten (List.replicate n ds).flatten := by
  induction n with
  | zero => exact .nil
  | succ n ih =>
    rw [List.replicate_succ, List.replicate_succ, List.flatten_cons, List.flatten_cons]
    exact r.append ih
/-! without defs and classes: the layer's own data -/
mutual
theorem Rp.dp : ∀ (d : D) (v : V), Rp K fa F H v d → d.plain = true → Dp K H v d.py
  | .non, _, h, _ => by cases h; exact .non
  | .bl b, _, h, _ => by cases h; exact .bl b
  | .int i, _, h, _ => by cases h; exact .int i
  | .str x, _, h, _ => by cases h; exact .str x
  | .tup ds, _, h, p => by
    cases h with
    | tup s r => exact .tup s (RpL.dp ds _ r p)
  | .lst ds, _, h, p => by
    cases h with
    | lst f s r => exact .lst (.of s) (RpL.dp ds _ r p)
  | .fn k, _, _, p => by cases p
  | .ty n, _, _, p => by cases p
  | .scr n, _, _, p => by cases p
theorem RpL.dp : ∀ (ds : List D) (vs : List V), RpL K fa F H vs ds → plainL ds = true → DpAll K H vs (pyL ds)
  | [], _, h, _ => by cases h; exact .nil
  | d :: ds, _, h, p => by
    cases h with
    | cons r t =>
      have q : (d.plain && plainL ds) = true := p
      rw [Bool.and_eq_true] at q
      exact .cons (Rp.dp d _ r q.1) (RpL.dp ds _ t q.2)
end
end
mutual
theorem plain_py : ∀ d : D, d.py.plain = true
  | .non => rfl
  | .bl _ => rfl
  | .int _ => rfl
  | .str _ => rfl
  | .tup ds => plainL_py ds
  | .lst ds => plainL_py ds
  | .fn _ => rfl
  | .ty _ => rfl
  | .scr _ => rfl
theorem plainL_py : ∀ ds : List D, PyData.plainAll (pyL ds) = true
  | [] => rfl
  | d :: ds => by
    show (d.py.plain && PyData.plainAll (pyL ds)) = true
    rw [plain_py d, plainL_py ds]; rfl
end
mutual
theorem dep_py : ∀ d : D, d.py.depth = d.dep
  | .non => rfl
  | .bl _ => rfl
  | .int _ => rfl
  | .str _ => rfl
  | .tup ds => by show PyData.depthAll (pyL ds) + 1 = depL ds + 1; rw [depL_py ds]
  | .lst ds => by show PyData.depthAll (pyL ds) + 1 = depL ds + 1; rw [depL_py ds]
  | .fn _ => rfl
  | .ty _ => rfl
  | .scr _ => rfl
theorem depL_py : ∀ ds : List D, PyData.depthAll (pyL ds) = depL ds
  | [] => rfl
  | d :: ds => by show max d.py.depth (PyData.depthAll (pyL ds)) = max d.dep (depL ds); rw [dep_py d, depL_py ds]
end
mutual
theorem eqv_py : ∀ x y : D, x.plain = true → y.plain = true → PyData.eqv x.py y.py = x.eqv y
  | .non, .non, _, _ | .bl _, .bl _, _, _ | .bl _, .int _, _, _ | .int _, .bl _, _, _ | .int _, .int _, _, _ | .str _, .str _, _, _ => rfl
  | .tup l, .tup m, p, q => eqvL_py l m p q
  | .lst l, .lst m, p, q => eqvL_py l m p q
  | .non, .bl _, _, _ | .non, .int _, _, _ | .non, .str _, _, _ | .non, .tup _, _, _ | .non, .lst _, _, _ => rfl
  | .bl _, .non, _, _ | .bl _, .str _, _, _ | .bl _, .tup _, _, _ | .bl _, .lst _, _, _ => rfl
  | .int _, .non, _, _ | .int _, .str _, _, _ | .int _, .tup _, _, _ | .int _, .lst _, _, _ => rfl
  | .str _, .non, _, _ | .str _, .bl _, _, _ | .str _, .int _, _, _ | .str _, .tup _, _, _ | .str _, .lst _, _, _ => rfl
  | .tup _, .non, _, _ | .tup _, .bl _, _, _ | .tup _, .int _, _, _ | .tup _, .str _, _, _ | .tup _, .lst _, _, _ => rfl
  | .lst _, .non, _, _ | .lst _, .bl _, _, _ | .lst _, .int _, _, _ | .lst _, .str _, _, _ | .lst _, .tup _, _, _ => rfl
  | .fn _, _, p, _ => by cases p
  | .ty _, _, p, _ => by cases p
  | .scr _, _, p, _ => by cases p
  | _, .fn _, _, q => by cases q
  | _, .ty _, _, q => by cases q
  | _, .scr _, _, q => by cases q
theorem eqvL_py : ∀ l m : List D, plainL l = true → plainL m = true → PyData.eqvAll (pyL l) (pyL m) = eqvL l m
  | [], [], _, _ => rfl
  | [], _ :: _, _, _ => rfl
  | _ :: _, [], _, _ => rfl
  | x :: xs, y :: ys, p, q => by
    have p' : (x.plain && plainL xs) = true := p
    have q' : (y.plain && plainL ys) = true := q
    rw [Bool.and_eq_true] at p' q'
    show (PyData.eqv x.py y.py && PyData.eqvAll (pyL xs) (pyL ys)) = (x.eqv y && eqvL xs ys)
    rw [eqv_py x y p'.1 q'.1, eqvL_py xs ys p'.2 q'.2]
end
theorem any_py {x : D} (hx : x.plain = true) : ∀ {l : List D}, plainL l = true → (pyL l).any (fun z => PyData.eqv z x.py) = l.any fun z => z.eqv x
  | [], _ => rfl
  | y :: r, p => by
    have p' : (y.plain && plainL r) = true := p
    rw [Bool.and_eq_true] at p'
    show (PyData.eqv y.py x.py || (pyL r).any _) = (y.eqv x || r.any _)
    rw [eqv_py y x p'.1 hx, any_py hx p'.2]
end RX
set_option Elab.async false
set_option linter.all false
set_option maxRecDepth 100000
set_option maxHeartbeats 4000000
/-! RXc: slots, states, results; the readings' one form. -/
namespace RX
open PySem PySem.Spec PyProof.Rows L2
/-- what is fixed while a body runs: the heap and the frozen lists at the entry, the slots that hold the caller's lists; pin: what else stands as it is (a list that a comprehension makes) -/
structure Gh where
  H0 : Hp
  F0 : Addr → Prop
  pars : List (Nat × Addr)
  pin : Hp := fun _ => none
/-- where the exceptions' classes stand; the slot, address, class and dict of the exception that a suite holds -/
structure Cc where
  ca : Nat → Addr
  ex : Option (Nat × Addr × Value × Option Addr)
/-- an exception's class and dict say c and fs -/
def ExnR (K : PySem.W.Frag) (fa : Nat → Addr) (ca : Cc) (F : Addr → Prop) (H : Hp) (c : Nat) (fs : List (Str × D)) (cls : Value) (d : Option Addr) : Prop :=
  cls = .ref (ca.ca c) ∧ ∃ (dd : Addr) (gs : List (Str × V)), d = some dd ∧ H dd = some (.xd gs) ∧ ∀ f x, fs.lookup f = some x → ∃ v, gs.lookup f = some v ∧ Rp K fa F H v x
section
variable (K : PySem.W.Frag) (fa : Nat → Addr) (ca : Cc)
inductive SlR (G : Gh) (F : Addr → Prop) (H : Hp) (i : Nat) : Sl → Option (Option V) → Prop
  | none {o : Option (Option V)} : SlR G F H i .none o
  | val {v : V} {d : D} : Rp K fa F H v d → SlR G F H i (.val d) (some (some v))
  | own {a : Addr} {xs : List V} {l : List D} : H a = some (.lst xs) → ¬ F a → RpL K fa F H xs l → G.H0 a = Option.none → SlR G F H i (.own l) (some (some (.ref a)))
  | par {a : Addr} {xs : List V} {l : List D} : H a = some (.lst xs) → ¬ F a → RpL K fa F H xs l → (i, a) ∈ G.pars → SlR G F H i (.par l) (some (some (.ref a)))
  | gh {xs : List V} {l : List D} : H (fa GI) = some (.lst xs) → ¬ F (fa GI) → RpL K fa F H xs l → (i, fa GI) ∈ G.pars → SlR G F H i (.gh l) (some (some (.ref (fa GI))))
  | exn {a : Addr} {c : Nat} {fs : List (Str × D)} {cls : Value} {d : Option Addr} : ca.ex = some (i, a, cls, d) → ExnR K fa ca F H c fs cls d → SlR G F H i (.exn c fs) (some (some (.ref a)))
/-- a list handed in -/
def Pr (s : Option Sl) (l : List D) : Prop := s = some (.par l) ∨ s = some (.gh l)
/-- the slot i holds, as its own, the list at a -/
def OwnA (ρ : Env) (σ : L2.St) (i : Nat) (a : Addr) : Prop := ((∃ l, ρ[i]? = some (.own l)) ∨ ∃ l, Pr ρ[i]? l) ∧ σ[i]? = some (some (.ref a))
structure SR (G : Gh) (F : Addr → Prop) (ρ : Env) (σ : L2.St) (H : Hp) : Prop where
  len : ρ.length = σ.length
  sl : ∀ i s, ρ[i]? = some s → SlR K fa ca G F H i s σ[i]?
  dis : ∀ i j a, OwnA ρ σ i a → OwnA ρ σ j a → i = j
  trk : ∀ a, F a → ∃ xs, H a = some (.lst xs)
  fr : ∀ a o, G.H0 a = some o → (∀ i, (i, a) ∉ G.pars) → H a = some o
  new : ∀ a, F a → G.F0 a ∨ G.H0 a = none
  up : ∀ a, G.F0 a → F a
  par : ∀ p ∈ G.pars, (∃ l, Pr ρ[p.1]? l) ∧ σ[p.1]? = some (some (.ref p.2))
  gp : ∀ p ∈ G.pars, ∃ o, G.H0 p.2 = some o
  pn : ∀ a o, G.pin a = some o → H a = some o ∧ ¬ F a ∧ ∀ i, ¬ OwnA ρ σ i a
/-- a result -/
def RpEx (G : Gh) (F : Addr → Prop) (ρ : Env) (σ : L2.St) (H : Hp) : Ex → V → Prop
  | .d x, v => Rp K fa F H v x
  | .fresh l, v => ∃ b xs, v = .ref b ∧ H b = some (.lst xs) ∧ RpL K fa F H xs l ∧ ¬ F b ∧ (G.H0 b = none ∧ G.pin b = none) ∧ ∀ i, ¬ OwnA ρ σ i b
  | .dkn _ _, _ => False
/-- what is wanted of a result: ok of a value, W of an exception -/
def RPost {α : Type} (G : Gh) (F : Addr → Prop) (H : Hp) (σ : L2.St) (W : WX) (x : R α) (ok : α → Env → Prop) : Prop := match x with
  | .ok a ρ => ok a ρ
  | .exc c fs ρ => ∀ F' H' cls d, SR K fa ca G F' ρ σ H' → Ext F H F' H' → ExnR K fa ca F' H' c fs cls d → W cls d σ H'
  | .stuck => False
def tSem (W : WX) (d : Den) (C : Calls) : TE := fun σ H Q => ∃ G F ρ, SR K fa ca G F ρ σ H ∧ RPost K fa ca G F H σ W (d C ρ) fun r ρ' => ∀ v F' H', SR K fa ca G F' ρ' σ H' → Ext F H F' H' → RpEx K fa G F' ρ' σ H' r v → Q v H'
def tSemT (W : WX) (d : TD) (C : Calls) : TT := fun σ H Q => ∃ G F ρ, SR K fa ca G F ρ σ H ∧ RPost K fa ca G F H σ W (d C ρ) fun b ρ' => ∀ F' H', SR K fa ca G F' ρ' σ H' → Ext F H F' H' → Q b H'
def tSemA (W : WX) (ds : List Den) (C : Calls) : TA := fun σ H Q => ∃ G F ρ, SR K fa ca G F ρ σ H ∧ RPost K fa ca G F H σ W (dAll ds C ρ) fun xs ρ' => ∀ vs F' H', SR K fa ca G F' ρ' σ H' → Ext F H F' H' → RpL K fa F' H' vs xs → Q vs H'
end
section
variable {K : PySem.W.Frag} {fa : Nat → Addr} {ca : Cc} {G : Gh} {F F' : Addr → Prop} {H H' : Hp} {σ : L2.St} {ρ ρ' : Env} {W : WX}
theorem RPost.bind {α β : Type} {x : R α} {f : α → Env → R β} {ok : β → Env → Prop} (h : RPost K fa ca G F H σ W (x.bind f) ok) : RPost K fa ca G F H σ W x fun a ρ1 => RPost K fa ca G F H σ W (f a ρ1) ok := by
  cases x with
  | ok a ρ => exact h
  | exc c fs ρ => exact h
  | stuck => exact h
theorem RPost.mono {α : Type} {x : R α} {ok ok' : α → Env → Prop} (h : RPost K fa ca G F H σ W x ok) (i : ∀ a ρ1, ok a ρ1 → ok' a ρ1) : RPost K fa ca G F H σ W x ok' := by
  cases x with
  | ok a ρ => exact i _ _ h
  | exc c fs ρ => exact h
  | stuck => exact h
/-- seen from a later heap -/
theorem RPost.later {α : Type} {x : R α} {ok : α → Env → Prop} (h : RPost K fa ca G F H σ W x ok) (e : Ext F H F' H') : RPost K fa ca G F' H' σ W x ok := by
  cases x with
  | ok a ρ => exact h
  | exc c fs ρ => exact fun F2 H2 cls d S e2 q => h F2 H2 cls d S (e.trans e2) q
  | stuck => exact h
theorem ExnR.ext {c : Nat} {fs : List (Str × D)} {cls : Value} {d : Option Addr} (e : Ext F H F' H') (h : ExnR K fa ca F H c fs cls d) : ExnR K fa ca F' H' c fs cls d := by
  obtain ⟨h1, dd, gs, h2, h3, h4⟩ := h
  exact ⟨h1, dd, gs, h2, e.xd _ _ h3, fun f x q => by
    obtain ⟨v, q1, q2⟩ := h4 f x q
    exact ⟨v, q1, Rp.ext e _ _ q2⟩⟩
theorem SlR.ext {i : Nat} {s : Sl} {o : Option (Option V)} (e : Ext F H F' H') (k : ∀ a xs, H a = some (.lst xs) → ¬ F a → (G.H0 a = Option.none ∨ (i, a) ∈ G.pars) → o = some (some (.ref a)) → (∀ d, s ≠ .val d) → H' a = some (.lst xs) ∧ ¬ F' a)
    (h : SlR K fa ca G F H i s o) : SlR K fa ca G F' H' i s o := by
  cases h with
  | none => exact .none
  | val r => exact .val (Rp.ext e _ _ r)
  | own h1 h2 h3 h4 => exact .own (k _ _ h1 h2 (.inl h4) rfl (fun _ z => by cases z)).1 (k _ _ h1 h2 (.inl h4) rfl (fun _ z => by cases z)).2 (RpL.ext e _ _ h3) h4
  | par h1 h2 h3 h4 => exact .par (k _ _ h1 h2 (.inr h4) rfl (fun _ z => by cases z)).1 (k _ _ h1 h2 (.inr h4) rfl (fun _ z => by cases z)).2 (RpL.ext e _ _ h3) h4
  | gh h1 h2 h3 h4 => exact .gh (k _ _ h1 h2 (.inr h4) rfl (fun _ z => by cases z)).1 (k _ _ h1 h2 (.inr h4) rfl (fun _ z => by cases z)).2 (RpL.ext e _ _ h3) h4
  | exn h1 h2 => exact .exn h1 (h2.ext e)
theorem SR.ext (S : SR K fa ca G F ρ σ H) (h : Same H H') : Ext F H F H' := Ext.same h S.trk
theorem SR.same (S : SR K fa ca G F ρ σ H) (h : Same H H') : SR K fa ca G F ρ σ H' where
  len := S.len
  sl := fun i s e => (S.sl i s e).ext (S.ext h) fun a xs q nf _ _ _ => ⟨h _ _ q, nf⟩
  dis := S.dis
  trk := fun a f => by obtain ⟨xs, e⟩ := S.trk a f; exact ⟨xs, h _ _ e⟩
  fr := fun a o e n => h _ _ (S.fr a o e n)
  new := S.new
  up := S.up
  par := S.par
  gp := S.gp
  pn := fun a o e => ⟨h _ _ (S.pn a o e).1, (S.pn a o e).2⟩
theorem SR.npin (S : SR K fa ca G F ρ σ H) {b : Addr} (h : H b = none) : G.pin b = none := by
  cases e : G.pin b with
  | none => rfl
  | some o => rw [(S.pn b o e).1] at h; cases h
theorem SR.nfr (S : SR K fa ca G F ρ σ H) {b : Addr} (h : H b = none) : G.H0 b = none := by
  cases e : G.H0 b with
  | none => rfl
  | some o =>
    by_cases q : ∃ i, (i, b) ∈ G.pars
    · obtain ⟨i, q⟩ := q
      obtain ⟨⟨l, e1⟩, e2⟩ := S.par _ q
      rcases e1 with e1 | e1
      · have := S.sl _ _ e1
        rw [e2] at this
        cases this with
        | par h1 => rw [h1] at h; cases h
      · have := S.sl _ _ e1
        rw [e2] at this
        cases this with
        | gh h1 => rw [h1] at h; cases h
    · have := S.fr b o e fun i z => q ⟨i, z⟩
      rw [this] at h; cases h
/-- a slot's own list is there -/
theorem SR.ownAt (S : SR K fa ca G F ρ σ H) {i : Nat} {a : Addr} (h : OwnA ρ σ i a) : (∃ xs, H a = some (.lst xs)) ∧ ¬ F a := by
  obtain ⟨h, e⟩ := h
  rcases h with ⟨l, h⟩ | ⟨l, h | h⟩
  · have := S.sl _ _ h
    rw [e] at this
    cases this with
    | own h1 h2 => exact ⟨⟨_, h1⟩, h2⟩
  · have := S.sl _ _ h
    rw [e] at this
    cases this with
    | par h1 h2 => exact ⟨⟨_, h1⟩, h2⟩
  · have := S.sl _ _ h
    rw [e] at this
    cases this with
    | gh h1 h2 => exact ⟨⟨_, h1⟩, h2⟩
theorem SR.nown (S : SR K fa ca G F ρ σ H) {b : Addr} (h : H b = none) (i : Nat) : ¬ OwnA ρ σ i b := fun q => by
  obtain ⟨⟨xs, e⟩, _⟩ := S.ownAt q
  rw [e] at h; cases h
theorem SR.nF (S : SR K fa ca G F ρ σ H) {b : Addr} (h : H b = none) : ¬ F b := fun q => by
  obtain ⟨xs, e⟩ := S.trk _ q
  rw [e] at h; cases h
/-- one more list is never changed any more -/
theorem SR.addF (S : SR K fa ca G F ρ σ H) {b : Addr} {xs : List V} (h : H b = some (.lst xs)) (h0 : G.H0 b = none) (hp : G.pin b = none) (no : ∀ i, ¬ OwnA ρ σ i b) :
    SR K fa ca G (fun a => F a ∨ a = b) ρ σ H ∧ Ext F H (fun a => F a ∨ a = b) H := by
  have e : Ext F H (fun a => F a ∨ a = b) H := ⟨fun a f => ⟨.inl f, rfl⟩, fun _ _ q => q, fun _ _ _ q => q, fun _ _ q => q⟩
  refine ⟨⟨S.len, fun i s q => ?_, S.dis, fun a f => ?_, S.fr, fun a f => ?_, fun a f => .inl (S.up a f), S.par, S.gp, fun a o q => ⟨(S.pn a o q).1, fun z => (show F a ∨ a = b from z).elim (S.pn a o q).2.1 (fun y => by rw [y, hp] at q; cases q), (S.pn a o q).2.2⟩⟩, e⟩
  · have hs := S.sl i s q
    generalize eo : σ[i]? = o at hs
    cases hs with
    | none => exact .none
    | val r => exact .val (Rp.ext e _ _ r)
    | own h1 h2 h3 h4 =>
      refine .own h1 (fun z => ?_) (RpL.ext e _ _ h3) h4
      rcases z with z | z
      · exact h2 z
      · subst z; exact no i ⟨.inl ⟨_, q⟩, eo⟩
    | par h1 h2 h3 h4 =>
      refine .par h1 (fun z => ?_) (RpL.ext e _ _ h3) h4
      rcases z with z | z
      · exact h2 z
      · subst z; exact no i ⟨.inr ⟨_, .inl q⟩, eo⟩
    | gh h1 h2 h3 h4 =>
      refine .gh h1 (fun z => ?_) (RpL.ext e _ _ h3) h4
      rcases z with z | z
      · exact h2 z
      · exact no i ⟨.inr ⟨_, .inr q⟩, by rw [← z]; exact eo⟩
    | exn h1 h2 => exact .exn h1 (h2.ext e)
  · rcases f with f | f
    · exact S.trk a f
    · exact ⟨xs, by rw [f]; exact h⟩
  · rcases f with f | f
    · exact S.new a f
    · exact .inr (by rw [f]; exact h0)
/-- a result as data: a new list is shared from now on -/
theorem SR.frz (S : SR K fa ca G F ρ σ H) {r : Ex} {v : V} (h : RpEx K fa G F ρ σ H r v) : ∃ F1, SR K fa ca G F1 ρ σ H ∧ Ext F H F1 H ∧ Rp K fa F1 H v r.frz := by
  cases r with
  | d x => exact ⟨F, S, Ext.refl, h⟩
  | fresh l =>
    obtain ⟨b, xs, rfl, h1, h2, h3, h4, h5⟩ := h
    obtain ⟨S1, e1⟩ := S.addF h1 h4.1 h4.2 h5
    exact ⟨_, S1, e1, .lst (.inr rfl) h1 (RpL.ext e1 _ _ h2)⟩
  | dkn l g => exact h.elim
theorem own_drop {i j : Nat} {a : Addr} (h : OwnA (ρ.set i .none) σ j a) : OwnA ρ σ j a := by
  obtain ⟨h, e⟩ := h
  by_cases z : i = j
  · subst z
    by_cases hl : i < ρ.length
    · rw [List.getElem?_set_self hl] at h
      rcases h with ⟨l, h⟩ | ⟨l, h | h⟩ <;> cases h
    · rw [List.getElem?_eq_none (by rw [List.length_set]; omega)] at h
      rcases h with ⟨l, h⟩ | ⟨l, h | h⟩ <;> cases h
  · rw [List.getElem?_set_ne z] at h; exact ⟨h, e⟩
/-- a slot forgotten (not the caller's) -/
theorem SR.drop (S : SR K fa ca G F ρ σ H) (i : Nat) (hp : ∀ l, ¬ Pr ρ[i]? l) : SR K fa ca G F (ρ.set i .none) σ H where
  len := by rw [List.length_set]; exact S.len
  sl := fun j s e => by
    by_cases h : i = j
    · subst h
      by_cases hl : i < ρ.length
      · rw [List.getElem?_set_self hl] at e; cases e; exact .none
      · rw [List.getElem?_eq_none (by rw [List.length_set]; omega)] at e; cases e
    · rw [List.getElem?_set_ne h] at e; exact S.sl j s e
  dis := fun j k a h1 h2 => S.dis j k a (own_drop h1) (own_drop h2)
  trk := S.trk
  fr := S.fr
  new := S.new
  up := S.up
  par := fun p hm => by
    obtain ⟨⟨l, h1⟩, h2⟩ := S.par p hm
    have z : i ≠ p.1 := fun z => by subst z; exact hp l h1
    exact ⟨⟨l, by rw [List.getElem?_set_ne z]; exact h1⟩, h2⟩
  gp := S.gp
  pn := fun a o q => ⟨(S.pn a o q).1, (S.pn a o q).2.1, fun j h => (S.pn a o q).2.2 j (own_drop h)⟩
theorem OwnA.of_set {i j : Nat} {s : Sl} {a : Addr} (h : i ≠ j) (q : OwnA (ρ.set i s) σ j a) : OwnA ρ σ j a := by
  obtain ⟨q, e⟩ := q
  rw [List.getElem?_set_ne h] at q
  exact ⟨q, e⟩
/-- a slot's description changed: the value stands; not the caller's -/
theorem SR.reset (S : SR K fa ca G F ρ σ H) {i : Nat} {v : V} {d : D} (hp : ∀ l, ¬ Pr ρ[i]? l) (hv : σ[i]? = some (some v)) (r : Rp K fa F H v d) : SR K fa ca G F (ρ.set i (.val d)) σ H := by
  have S1 := S.drop i hp
  have hl : i < ρ.length := by rw [S.len]; exact (List.getElem?_eq_some_iff.mp hv).1
  have e0 : (ρ.set i .none).set i (.val d) = ρ.set i (.val d) := by rw [List.set_set]
  have nw : ∀ j a, OwnA (ρ.set i (.val d)) σ j a → OwnA (ρ.set i .none) σ j a := fun j a h => by
    by_cases z : i = j
    · subst z
      obtain ⟨h, _⟩ := h
      rw [List.getElem?_set_self hl] at h
      rcases h with ⟨l, h⟩ | ⟨l, h | h⟩ <;> cases h
    · obtain ⟨h, e⟩ := h
      rw [List.getElem?_set_ne z] at h
      exact ⟨by rw [List.getElem?_set_ne z]; exact h, e⟩
  refine ⟨by rw [List.length_set]; exact S.len, fun j s e => ?_, fun j k a h1 h2 => S1.dis j k a (nw _ _ h1) (nw _ _ h2), S.trk, S.fr, S.new, S.up, fun p hm => ?_, S.gp, fun a o q => ⟨(S1.pn a o q).1, (S1.pn a o q).2.1, fun j h => (S1.pn a o q).2.2 j (nw _ _ h)⟩⟩
  · by_cases z : i = j
    · subst z
      rw [List.getElem?_set_self hl] at e
      cases e
      rw [hv]
      exact .val r
    · rw [List.getElem?_set_ne z] at e; exact S.sl j s e
  · obtain ⟨⟨l, h1⟩, h2⟩ := S.par p hm
    have z : i ≠ p.1 := fun z => by subst z; exact hp l h1
    exact ⟨⟨l, by rw [List.getElem?_set_ne z]; exact h1⟩, h2⟩
/-- a slot stored -/
theorem SR.store (S : SR K fa ca G F ρ σ H) {i : Nat} {v : V} {r : Ex} (hi : i < ρ.length) (hp : ∀ l, ¬ Pr ρ[i]? l) (h : RpEx K fa G F ρ σ H r v) : SR K fa ca G F (ρ.set i r.sl) (σ.set i (some v)) H := by
  have hσ : i < σ.length := by rw [← S.len]; exact hi
  have off : ∀ j a, i ≠ j → OwnA (ρ.set i r.sl) (σ.set i (some v)) j a → OwnA ρ σ j a := fun j a z h => by
    obtain ⟨h, e⟩ := h
    rw [List.getElem?_set_ne z] at h e
    exact ⟨h, e⟩
  refine ⟨by rw [List.length_set, List.length_set]; exact S.len, fun j s e => ?_, fun j k a h1 h2 => ?_, S.trk, S.fr, S.new, S.up, fun p hm => ?_, S.gp, fun a o q => ⟨(S.pn a o q).1, (S.pn a o q).2.1, fun j h1 => ?_⟩⟩
  · by_cases z : i = j
    · subst z
      rw [List.getElem?_set_self hi] at e
      rw [List.getElem?_set_self hσ]
      cases e
      cases r with
      | d x => exact .val h
      | fresh l =>
        obtain ⟨b, xs, rfl, h1, h2, h3, h4, h5⟩ := h
        exact .own h1 h3 h2 h4.1
      | dkn l g => exact h.elim
    · rw [List.getElem?_set_ne z] at e
      rw [List.getElem?_set_ne z]
      exact S.sl j s e
  · by_cases z : i = j
    · by_cases y : i = k
      · rw [← z, ← y]
      · exfalso
        subst z
        have q := off k a y h2
        obtain ⟨h1, e1⟩ := h1
        rw [List.getElem?_set_self hi] at h1
        rw [List.getElem?_set_self hσ] at e1
        cases r with
        | d x => rcases h1 with ⟨l, h1⟩ | ⟨l, h1 | h1⟩ <;> cases h1
        | fresh l =>
          obtain ⟨b, xs, rfl, _, _, _, _, h5⟩ := h
          cases e1
          exact h5 k q
        | dkn l g => exact h.elim
    · by_cases y : i = k
      · exfalso
        subst y
        have q := off j a z h1
        obtain ⟨h2, e2⟩ := h2
        rw [List.getElem?_set_self hi] at h2
        rw [List.getElem?_set_self hσ] at e2
        cases r with
        | d x => rcases h2 with ⟨l, h2⟩ | ⟨l, h2 | h2⟩ <;> cases h2
        | fresh l =>
          obtain ⟨b, xs, rfl, _, _, _, _, h5⟩ := h
          cases e2
          exact h5 j q
        | dkn l g => exact h.elim
      · exact S.dis j k a (off j a z h1) (off k a y h2)
  · obtain ⟨⟨l, h1⟩, h2⟩ := S.par p hm
    have z : i ≠ p.1 := fun z => by subst z; exact hp l h1
    exact ⟨⟨l, by rw [List.getElem?_set_ne z]; exact h1⟩, by rw [List.getElem?_set_ne z]; exact h2⟩
  · by_cases z : i = j
    · subst z
      obtain ⟨h1, e1⟩ := h1
      rw [List.getElem?_set_self hi] at h1
      rw [List.getElem?_set_self hσ] at e1
      cases r with
      | d x => rcases h1 with ⟨l, h1⟩ | ⟨l, h1 | h1⟩ <;> cases h1
      | fresh l =>
        obtain ⟨b, xs, rfl, _, _, _, h4, _⟩ := h
        cases e1
        rw [h4.2] at q; cases q
      | dkn l g => exact h.elim
    · exact (S.pn a o q).2.2 j (off j a z h1)
/-- a slot's list changed in place -/
inductive Mine : Sl → List D → (List D → Sl) → Prop
  | own (l : List D) : Mine (.own l) l .own
  | par (l : List D) : Mine (.par l) l .par
  | gh (l : List D) : Mine (.gh l) l .gh
theorem SR.mine (S : SR K fa ca G F ρ σ H) {i : Nat} {s : Sl} {l : List D} {mk : List D → Sl} (m : Mine s l mk) (e : ρ[i]? = some s) : ∃ a xs, σ[i]? = some (some (.ref a)) ∧ H a = some (.lst xs) ∧ ¬ F a ∧ RpL K fa F H xs l := by
  have h := S.sl i s e
  cases m with
  | own l =>
    generalize σ[i]? = o at h
    cases h with
    | own h1 h2 h3 h4 => exact ⟨_, _, rfl, h1, h2, h3⟩
  | par l =>
    generalize σ[i]? = o at h
    cases h with
    | par h1 h2 h3 h4 => exact ⟨_, _, rfl, h1, h2, h3⟩
  | gh l =>
    generalize σ[i]? = o at h
    cases h with
    | gh h1 h2 h3 h4 => exact ⟨_, _, rfl, h1, h2, h3⟩
theorem SR.write (S : SR K fa ca G F ρ σ H) {i : Nat} {s : Sl} {l m : List D} {mk : List D → Sl} {a : Addr} {ys : List V} (M : Mine s l mk) (e : ρ[i]? = some s) (ea : σ[i]? = some (some (.ref a))) (r : RpL K fa F H ys m) :
    SR K fa ca G F (ρ.set i (mk m)) σ (upd H a (.lst ys)) ∧ Ext F H F (upd H a (.lst ys)) := by
  have hi : i < ρ.length := (List.getElem?_eq_some_iff.mp e).1
  have own : OwnA ρ σ i a := by
    cases M with
    | own l => exact ⟨.inl ⟨_, e⟩, ea⟩
    | par l => exact ⟨.inr ⟨_, .inl e⟩, ea⟩
    | gh l => exact ⟨.inr ⟨_, .inr e⟩, ea⟩
  obtain ⟨⟨xs, hx⟩, nf⟩ := S.ownAt own
  have ne : ∀ {b : Addr} {o : HO}, H b = some o → (∀ zs, o ≠ .lst zs) → b ≠ a := fun {b o} q d z => by subst z; rw [hx] at q; cases q; exact d _ rfl
  have E : Ext F H F (upd H a (.lst ys)) := ⟨fun b f => ⟨f, upd_ne fun z => nf (z ▸ f)⟩, fun b zs q => by rw [upd_ne (ne q fun _ z => by cases z)]; exact q, fun b o u q => by rw [upd_ne (ne q fun _ z => by cases z)]; exact q, fun b fs q => by rw [upd_ne (ne q fun _ z => by cases z)]; exact q⟩
  have back : ∀ j b, OwnA (ρ.set i (mk m)) σ j b → OwnA ρ σ j b := fun j b q => by
    by_cases z : i = j
    · subst z
      obtain ⟨_, q2⟩ := q
      rw [ea] at q2
      cases q2
      exact own
    · exact q.of_set z
  refine ⟨⟨by rw [List.length_set]; exact S.len, fun j t q => ?_, fun j k b h1 h2 => S.dis j k b (back _ _ h1) (back _ _ h2), fun b f => ?_, fun b o q n => ?_, S.new, S.up, fun p hm => ?_, S.gp, fun b o q => ⟨by rw [upd_ne fun (z : b = a) => (S.pn b o q).2.2 i (by rw [z]; exact own)]; exact (S.pn b o q).1, (S.pn b o q).2.1, fun j h => (S.pn b o q).2.2 j (back _ _ h)⟩⟩, E⟩
  · by_cases z : i = j
    · subst z
      rw [List.getElem?_set_self hi] at q
      cases q
      rw [ea]
      have h := S.sl i s e
      rw [ea] at h
      cases M with
      | own l =>
        cases h with
        | own h1 h2 h3 h4 => exact .own upd_same h2 (RpL.ext E _ _ r) h4
      | par l =>
        cases h with
        | par h1 h2 h3 h4 => exact .par upd_same h2 (RpL.ext E _ _ r) h4
      | gh l =>
        cases h with
        | gh h1 h2 h3 h4 => exact .gh upd_same h2 (RpL.ext E _ _ r) h4
    · rw [List.getElem?_set_ne z] at q
      have h := S.sl j t q
      generalize eo : σ[j]? = o at h
      cases h with
      | none => exact .none
      | val r => exact .val (Rp.ext E _ _ r)
      | own h1 h2 h3 h4 =>
        rename_i b zs l'
        have hb : b ≠ a := fun y => by subst y; exact z (S.dis _ _ _ own ⟨.inl ⟨_, q⟩, eo⟩)
        exact .own (by rw [upd_ne hb]; exact h1) h2 (RpL.ext E _ _ h3) h4
      | par h1 h2 h3 h4 =>
        rename_i b zs l'
        have hb : b ≠ a := fun y => by subst y; exact z (S.dis _ _ _ own ⟨.inr ⟨_, .inl q⟩, eo⟩)
        exact .par (by rw [upd_ne hb]; exact h1) h2 (RpL.ext E _ _ h3) h4
      | gh h1 h2 h3 h4 =>
        have hb : fa GI ≠ a := fun y => z (S.dis _ _ _ own ⟨.inr ⟨_, .inr q⟩, by rw [← y]; exact eo⟩)
        exact .gh (by rw [upd_ne hb]; exact h1) h2 (RpL.ext E _ _ h3) h4
      | exn h1 h2 => exact .exn h1 (h2.ext E)
  · obtain ⟨zs, q⟩ := S.trk b f
    exact ⟨zs, by rw [(E.fz b f).2]; exact q⟩
  · have hb : b ≠ a := fun y => by
      subst y
      have h := S.sl i s e
      rw [ea] at h
      cases M with
      | own l =>
        cases h with
        | own h1 h2 h3 h4 => rw [h4] at q; cases q
      | par l =>
        cases h with
        | par h1 h2 h3 h4 => exact n i h4
      | gh l =>
        cases h with
        | gh h1 h2 h3 h4 => exact n i h4
    rw [upd_ne hb]
    exact S.fr b o q n
  · obtain ⟨⟨l', h1⟩, h2⟩ := S.par p hm
    refine ⟨?_, h2⟩
    by_cases z : i = p.1
    · rw [← z] at h1
      rw [e] at h1
      cases M with
      | own l => rcases h1 with h1 | h1 <;> cases h1
      | par l => exact ⟨m, by rw [← z, List.getElem?_set_self hi]; exact .inl rfl⟩
      | gh l => exact ⟨m, by rw [← z, List.getElem?_set_self hi]; exact .inr rfl⟩
    · exact ⟨l', by rw [List.getElem?_set_ne z]; exact h1⟩
theorem RpEx.of_new {r : Ex} {v : V} (S : SR K fa ca G F ρ σ H) (h : Same H H') (q : match r with
    | .d x => Rp K fa F H' v x
    | .fresh l => ∃ b xs, v = .ref b ∧ H b = none ∧ H' b = some (.lst xs) ∧ RpL K fa F H' xs l
    | .dkn _ _ => False) : RpEx K fa G F ρ σ H' r v := by
  cases r with
  | d x => exact q
  | fresh l =>
    obtain ⟨b, xs, rfl, h0, h1, h2⟩ := q
    exact ⟨b, xs, rfl, h1, h2, S.nF h0, ⟨S.nfr h0, S.npin h0⟩, S.nown h0⟩
  | dkn l g => exact q.elim
end
end RX
set_option Elab.async false
set_option linter.all false
set_option maxRecDepth 100000
set_option maxHeartbeats 4000000
/-! RXd: expressions. -/
namespace RX
open PySem PySem.Spec PyProof.Rows L2
def NewR (K : PySem.W.Frag) (fa : Nat → Addr) (F : Addr → Prop) (H H' : Hp) : Ex → V → Prop
  | .d x, v => Rp K fa F H' v x
  | .fresh l, v => ∃ b xs, v = .ref b ∧ H b = none ∧ H' b = some (.lst xs) ∧ RpL K fa F H' xs l
  | .dkn _ _, _ => False
def Trk (F : Addr → Prop) (H : Hp) : Prop := ∀ a, F a → ∃ xs, H a = some (.lst xs)
/-- an operator's rule says what f says -/
def OpS (K : PySem.W.Frag) (fa : Nat → Addr) (f : Op2) (r : R2) : Prop := ∀ (x y : D) (e : Ex), f x y = some e → ∀ (F : Addr → Prop) (H : Hp) (v u : V) (Q : VK), Trk F H → Rp K fa F H v x → Rp K fa F H u y →
  (∀ v' H', Same H H' → NewR K fa F H H' e v' → Q v' H') → r v u H Q
def UnS (K : PySem.W.Frag) (fa : Nat → Addr) (f : Op1) (r : V → Hp → VK → Prop) : Prop := ∀ (x : D) (e : Ex), f x = some e → ∀ (F : Addr → Prop) (H : Hp) (v : V) (Q : VK), Trk F H → Rp K fa F H v x →
  (∀ v' H', Same H H' → NewR K fa F H H' e v' → Q v' H') → r v H Q
abbrev SimE (fa : Nat → Addr) (ca : Cc) (W : WX) (C : Calls) (X : Cx) (e : Expr) (d : Den) : Prop := PE X e (tSem X.K fa ca W d C)
abbrev SimT (fa : Nat → Addr) (ca : Cc) (W : WX) (C : Calls) (X : Cx) (e : Expr) (d : TD) : Prop := PT X e (tSemT X.K fa ca W d C)
abbrev SimA (fa : Nat → Addr) (ca : Cc) (W : WX) (C : Calls) (X : Cx) (es : List Expr) (ds : List Den) : Prop := PA X es (tSemA X.K fa ca W ds C)
theorem pe_le {X : Cx} {e : Expr} {t t' : TE} (h : PE X e t) (i : ∀ σ H Q, t' σ H Q → t σ H Q) : PE X e t' := ⟨fun pins s σ H Q I q => h.run pins s σ H Q I (i _ _ _ q)⟩
theorem pt_le {X : Cx} {e : Expr} {t t' : TT} (h : PT X e t) (i : ∀ σ H Q, t' σ H Q → t σ H Q) : PT X e t' := ⟨fun pins s σ H Q I q => h.run pins s σ H Q I (i _ _ _ q)⟩
theorem pw_le {X : Cx} {e : Expr} {t t' : TT} (h : PW X e t) (i : ∀ σ H Q, t' σ H Q → t σ H Q) : PW X e t' := ⟨fun wh pins s σ H Q I q => h.run wh pins s σ H Q I (i _ _ _ q)⟩
theorem pa_le {X : Cx} {es : List Expr} {t t' : TA} (h : PA X es t) (i : ∀ σ H Q, t' σ H Q → t σ H Q) : PA X es t' := ⟨fun pos pins s σ H Q I q => h.run pos pins s σ H Q I (i _ _ _ q)⟩
section
variable {fa : Nat → Addr} {ca : Cc} {W : WX} {C : Calls} {X : Cx} {G : Gh} {F F' : Addr → Prop} {H H' : Hp} {σ : L2.St} {ρ ρ' : Env} {K : PySem.W.Frag}
/-- from what an operator makes to a result -/
theorem fin_new {e : Ex} {Q : VK} {H0 : Hp} {F0 : Addr → Prop} (S : SR K fa ca G F ρ σ H) (E : Ext F0 H0 F H)
    (q : ∀ v F' H', SR K fa ca G F' ρ σ H' → Ext F0 H0 F' H' → RpEx K fa G F' ρ σ H' e v → Q v H') {v' : V} {H' : Hp} (h : Same H H') (n : NewR K fa F H H' e v') : Q v' H' :=
  q v' F H' (S.same h) (E.trans (S.ext h)) (RpEx.of_new S h (by cases e <;> exact n))
theorem sim_op {op : Operator} {a b : Expr} {da db : Den} {f : Op2} {r : R2} {pos : Pos} (ho : OpR X (binaryOp op) r) (hs : OpS X.K fa f r) (ha : SimE fa ca W C X a da) (hb : SimE fa ca W C X b db) : SimE fa ca W C X (.BinOp a op b pos) (dOp f da db) := by
  refine pe_le (pe_op ho ha hb) fun σ H Q h => ?_
  obtain ⟨G, F, ρ, S, h⟩ := h
  refine ⟨G, F, ρ, S, h.bind.mono fun x ρ1 h1 v F1 H1 S1 E1 r1 => ?_⟩
  obtain ⟨F1, S1, E1', p1⟩ := S1.frz r1
  refine ⟨G, F1, ρ1, S1, (h1.bind.later (E1.trans E1')).mono fun y ρ2 h2 u F2 H2 S2 E2 r2 => ?_⟩
  obtain ⟨F2, S2, E2', p2⟩ := S2.frz r2
  cases e : f x.frz y.frz with
  | none => rw [e] at h2; exact h2.elim
  | some z =>
    rw [e] at h2
    exact hs _ _ _ e F2 H2 v u Q S2.trk (Rp.ext (E2.trans E2') _ _ p1) p2 fun v' H' sm n => fin_new (S2) (((E1.trans E1').trans E2).trans E2') h2 sm n
theorem sim_cmp {op : CmpOp} {a b : Expr} {da db : Den} {f : Op2} {r : R2} {pos : Pos} (ho : OpR X (compareOp op) r) (hs : OpS X.K fa f r) (hm : behindInMarks op b = false) (ha : SimE fa ca W C X a da) (hb : SimE fa ca W C X b db) : SimE fa ca W C X (.Compare a [op] [b] pos) (dOp f da db) := by
  refine pe_le (pe_cmpR ho ha hb hm) fun σ H Q h => ?_
  obtain ⟨G, F, ρ, S, h⟩ := h
  refine ⟨G, F, ρ, S, h.bind.mono fun x ρ1 h1 v F1 H1 S1 E1 r1 => ?_⟩
  obtain ⟨F1, S1, E1', p1⟩ := S1.frz r1
  refine ⟨G, F1, ρ1, S1, (h1.bind.later (E1.trans E1')).mono fun y ρ2 h2 u F2 H2 S2 E2 r2 => ?_⟩
  obtain ⟨F2, S2, E2', p2⟩ := S2.frz r2
  cases e : f x.frz y.frz with
  | none => rw [e] at h2; exact h2.elim
  | some z =>
    rw [e] at h2
    exact hs _ _ _ e F2 H2 v u Q S2.trk (Rp.ext (E2.trans E2') _ _ p1) p2 fun v' H' sm n => fin_new (S2) (((E1.trans E1').trans E2).trans E2') h2 sm n
theorem sim_un {op : UnaryOp} {a : Expr} {da : Den} {f : Op1} {r : V → Hp → VK → Prop} {pos : Pos} (ho : UnR X (unaryOp op) r) (hs : UnS X.K fa f r) (ha : SimE fa ca W C X a da) (pu : ∀ {t}, PE X a t → PE X (.UnaryOp op a pos) (tUn r t)) : SimE fa ca W C X (.UnaryOp op a pos) (dUn f da) := by
  refine pe_le (pu ha) fun σ H Q h => ?_
  obtain ⟨G, F, ρ, S, h⟩ := h
  refine ⟨G, F, ρ, S, h.bind.mono fun x ρ1 h1 v F1 H1 S1 E1 r1 => ?_⟩
  obtain ⟨F1, S1, E1', p1⟩ := S1.frz r1
  cases e : f x.frz with
  | none => rw [e] at h1; exact h1.elim
  | some z =>
    rw [e] at h1
    exact hs _ _ e F1 H1 v Q S1.trk p1 fun v' H' sm n => fin_new S1 (E1.trans E1') h1 sm n
theorem sim_chain {op op' : CmpOp} {a b c : Expr} {da db dc : Den} {f g : Op2} {r r' : R2} {pos : Pos} (ho : OpR X (compareOp op) r) (ho' : OpR X (compareOp op') r') (hs : OpS X.K fa f r) (hs' : OpS X.K fa g r')
    (pc : ∀ {ta tb tc}, PE X a ta → PE X b tb → PE X c tc → PE X (.Compare a [op, op'] [b, c] pos) (tChain r r' ta tb tc)) (ha : SimE fa ca W C X a da) (hb : SimE fa ca W C X b db) (hc : SimE fa ca W C X c dc) :
    SimE fa ca W C X (.Compare a [op, op'] [b, c] pos) (dChain f g da db dc) := by
  refine pe_le (pc ha hb hc) fun σ H Q h => ?_
  obtain ⟨G, F, ρ, S, h⟩ := h
  refine ⟨G, F, ρ, S, h.bind.mono fun x ρ1 h1 v F1 H1 S1 E1 r1 => ?_⟩
  obtain ⟨F1, S1, E1', p1⟩ := S1.frz r1
  refine ⟨G, F1, ρ1, S1, (h1.bind.later (E1.trans E1')).mono fun y ρ2 h2 u F2 H2 S2 E2 r2 => ?_⟩
  obtain ⟨F2, S2, E2', p2⟩ := S2.frz r2
  have Ea := ((E1.trans E1').trans E2).trans E2'
  cases e : f x.frz y.frz with
  | none => rw [e] at h2; exact h2.elim
  | some z =>
    rw [e] at h2
    refine hs _ _ _ e F2 H2 v u _ S2.trk (Rp.ext (E2.trans E2') _ _ p1) p2 fun v' H' sm n => ?_
    cases z with
    | fresh l => exact h2.elim
    | dkn l g => exact h2.elim
    | d z =>
      cases z with
      | bl k =>
        cases n
        refine ⟨k, rfl, ?_⟩
        cases k with
        | false =>
          rw [if_neg Bool.false_ne_true]
          exact h2 _ F2 H' (S2.same sm) (Ea.trans (S2.ext sm)) (.bl false)
        | true =>
          rw [if_pos rfl]
          have S3 := S2.same sm
          refine ⟨G, F2, ρ2, S3, (h2.bind.later (Ea.trans (S2.ext sm))).mono fun z ρ3 h3 w F3 H3 S4 E3 r3 => ?_⟩
          obtain ⟨F3, S4, E3', p3⟩ := S4.frz r3
          cases e3 : g y.frz z.frz with
          | none => rw [e3] at h3; exact h3.elim
          | some k =>
            rw [e3] at h3
            exact hs' _ _ _ e3 F3 H3 u w Q S4.trk (Rp.ext (((S2.ext sm).trans E3).trans E3') _ _ p2) p3 fun v' H' sm' n => fin_new S4 (((Ea.trans (S2.ext sm)).trans E3).trans E3') h3 sm' n
      | _ => exact h2.elim
/-! ### names, constants -/
theorem sim_c {e : Expr} {v : V} {x : D} (he : PE X e (tC v)) (r : ∀ F H, Rp X.K fa F H v x) : SimE fa ca W C X e (dC x) := by
  refine pe_le he fun σ H Q h => ?_
  obtain ⟨G, F, ρ, S, h⟩ := h
  exact h v F H S Ext.refl (r _ _)
theorem sim_var {i : Nat} {e : Expr} (he : PE X e (tVar i)) : SimE fa ca W C X e (dVar i) := by
  refine pe_le he fun σ H Q h => ?_
  obtain ⟨G, F, ρ, S, h⟩ := h
  unfold dVar at h
  cases e : ρ[i]? with
  | none => rw [e] at h; exact h.elim
  | some s =>
    rw [e] at h
    have q := S.sl i s e
    cases s with
    | val d =>
      generalize eo : σ[i]? = o at q
      cases q with
      | val r => exact ⟨_, eo, h _ F H S Ext.refl r⟩
    | own l =>
      generalize eo : σ[i]? = o at q
      cases q with
      | own h1 h2 h3 h4 =>
        rename_i a xs
        have hp : ∀ l, ¬ Pr ρ[i]? l := fun l z => by rw [e] at z; rcases z with z | z <;> cases z
        have S1 := S.drop i hp
        have no : ∀ j, ¬ OwnA (ρ.set i .none) σ j a := fun j z => by
          by_cases y : i = j
          · subst y
            obtain ⟨z, _⟩ := z
            rw [List.getElem?_set_self (List.getElem?_eq_some_iff.mp e).1] at z
            rcases z with ⟨l, z⟩ | ⟨l, z | z⟩ <;> cases z
          · exact y (S.dis _ _ _ ⟨.inl ⟨_, e⟩, eo⟩ (z.of_set y))
        obtain ⟨S2, E2⟩ := S1.addF h1 h4 (by
          cases ep : G.pin a with
          | none => rfl
          | some o => exact absurd ⟨.inl ⟨_, e⟩, eo⟩ ((S.pn a o ep).2.2 i)) no
        have r : Rp X.K fa (fun b => F b ∨ b = a) H (.ref a) (.lst l) := .lst (.inr rfl) h1 (RpL.ext E2 _ _ h3)
        have S3 := S2.reset (i := i) (v := .ref a) (d := .lst l) (fun m z => by
          rw [List.getElem?_set_self (List.getElem?_eq_some_iff.mp e).1] at z; rcases z with z | z <;> cases z) eo r
        rw [List.set_set] at S3
        exact ⟨_, eo, h _ _ H S3 E2 r⟩
    | _ => exact h.elim
/-! ### and, or, not, if -/
theorem sim_if {c a b : Expr} {t : TD} {da db : Den} {pos : Pos} (hc : SimT fa ca W C X c t) (ha : SimE fa ca W C X a da) (hb : SimE fa ca W C X b db) : SimE fa ca W C X (.IfExp c a b pos) (dIf t da db) := by
  refine pe_le (pe_ifExp hc ha hb) fun σ H Q h => ?_
  obtain ⟨G, F, ρ, S, h⟩ := h
  refine ⟨G, F, ρ, S, h.bind.mono fun k ρ1 h1 F1 H1 S1 E1 => ?_⟩
  cases k with
  | true => rw [if_pos rfl] at h1 ⊢; exact ⟨G, F1, ρ1, S1, (h1.later E1).mono fun z ρ2 h2 v F2 H2 S2 E2 r2 => h2 v F2 H2 S2 (E1.trans E2) r2⟩
  | false => rw [if_neg Bool.false_ne_true] at h1 ⊢; exact ⟨G, F1, ρ1, S1, (h1.later E1).mono fun z ρ2 h2 v F2 H2 S2 E2 r2 => h2 v F2 H2 S2 (E1.trans E2) r2⟩
theorem sim_and {a b : Expr} {rest : List Expr} {da db : Den} {pos : Pos} (ha : SimE fa ca W C X a da) (hb : SimE fa ca W C X (.BoolOp .And (b :: rest) pos) db) : SimE fa ca W C X (.BoolOp .And (a :: b :: rest) pos) (dAnd da db) := by
  refine pe_le (pe_and ha hb) fun σ H Q h => ?_
  obtain ⟨G, F, ρ, S, h⟩ := h
  refine ⟨G, F, ρ, S, h.bind.mono fun x ρ1 h1 v F1 H1 S1 E1 r1 => ?_⟩
  obtain ⟨F1, S1, E1', p1⟩ := S1.frz r1
  generalize x.frz = d at h1 p1
  cases d with
  | bl k =>
    cases p1
    refine ⟨k, rfl, ?_⟩
    cases k with
    | true => rw [if_pos rfl]; exact ⟨G, F1, ρ1, S1, (h1.later (E1.trans E1')).mono fun z ρ2 h2 v F2 H2 S2 E2 r2 => h2 v F2 H2 S2 ((E1.trans E1').trans E2) r2⟩
    | false => rw [if_neg Bool.false_ne_true]; exact h1 _ F1 H1 S1 (E1.trans E1') (.bl false)
  | _ => exact h1.elim
theorem sim_or {a b : Expr} {rest : List Expr} {da db : Den} {pos : Pos} (ha : SimE fa ca W C X a da) (hb : SimE fa ca W C X (.BoolOp .Or (b :: rest) pos) db) : SimE fa ca W C X (.BoolOp .Or (a :: b :: rest) pos) (dOr da db) := by
  refine pe_le (pe_or ha hb) fun σ H Q h => ?_
  obtain ⟨G, F, ρ, S, h⟩ := h
  refine ⟨G, F, ρ, S, h.bind.mono fun x ρ1 h1 v F1 H1 S1 E1 r1 => ?_⟩
  obtain ⟨F1, S1, E1', p1⟩ := S1.frz r1
  generalize x.frz = d at h1 p1
  cases d with
  | bl k =>
    cases p1
    refine ⟨k, rfl, ?_⟩
    cases k with
    | false => rw [if_neg Bool.false_ne_true]; exact ⟨G, F1, ρ1, S1, (h1.later (E1.trans E1')).mono fun z ρ2 h2 v F2 H2 S2 E2 r2 => h2 v F2 H2 S2 ((E1.trans E1').trans E2) r2⟩
    | true => rw [if_pos rfl]; exact h1 _ F1 H1 S1 (E1.trans E1') (.bl true)
  | _ => exact h1.elim
theorem sim_not {a : Expr} {da : Den} {pos : Pos} (ha : SimE fa ca W C X a da) : SimE fa ca W C X (.UnaryOp .Not a pos) (dNot da) := by
  refine pe_le (pe_not ha) fun σ H Q h => ?_
  obtain ⟨G, F, ρ, S, h⟩ := h
  refine ⟨G, F, ρ, S, h.bind.mono fun x ρ1 h1 v F1 H1 S1 E1 r1 => ?_⟩
  obtain ⟨F1, S1, E1', p1⟩ := S1.frz r1
  generalize x.frz = d at h1 p1
  cases d with
  | bl k =>
    cases p1
    exact ⟨k, rfl, h1 _ F1 H1 S1 (E1.trans E1') (.bl _)⟩
  | _ => exact h1.elim
/-! ### tests -/
theorem truth_ok {x : D} {b : Bool} (e : truth x = some b) {v : V} (r : Rp K fa F H v x) : TruV K v H b := by
  cases r with
  | non => cases e; rfl
  | bl k => cases e; rfl
  | int i => cases e; rfl
  | str s =>
    have e' : (if s.length ≤ LIM then some ((s.length : Int) != 0) else none) = some b := e
    split at e'
    · rename_i h; cases e'; exact ⟨by rw [sizeLine_eq]; exact h, rfl⟩
    · cases e'
  | tup s r =>
    cases e
    refine .inr (.inl ⟨_, s, ?_⟩)
    cases r <;> rfl
  | lst f s r =>
    cases e
    refine .inl ⟨_, .of s, ?_⟩
    cases r <;> rfl
  | scr s =>
    cases e
    refine .inl ⟨_, s.l, ?_⟩
    rename_i ns
    cases ns <;> rfl
  | fn k => cases e
  | ty n => cases e
theorem sim_tE {e : Expr} {d : Den} (he : SimE fa ca W C X e d) (pt : ∀ {t}, PE X e t → PT X e (fun σ H Q => t σ H fun x H1 => ∃ k, TruV X.K x H1 k ∧ Q k H1)) : SimT fa ca W C X e (tE d) := by
  refine pt_le (pt he) fun σ H Q h => ?_
  obtain ⟨G, F, ρ, S, h⟩ := h
  refine ⟨G, F, ρ, S, h.bind.mono fun x ρ1 h1 v F1 H1 S1 E1 r1 => ?_⟩
  obtain ⟨F1, S1, E1', p1⟩ := S1.frz r1
  cases e : truth x.frz with
  | none => rw [e] at h1; exact h1.elim
  | some k => rw [e] at h1; exact ⟨k, truth_ok e p1, h1 F1 H1 S1 (E1.trans E1')⟩
theorem sim_tNot {a : Expr} {t : TD} {pos : Pos} (ha : SimT fa ca W C X a t) : SimT fa ca W C X (.UnaryOp .Not a pos) (tNot t) := by
  refine pt_le (pt_not ha) fun σ H Q h => ?_
  obtain ⟨G, F, ρ, S, h⟩ := h
  exact ⟨G, F, ρ, S, h.bind.mono fun k ρ1 h1 F1 H1 S1 E1 => h1 F1 H1 S1 E1⟩
abbrev SimW (fa : Nat → Addr) (ca : Cc) (W : WX) (C : Calls) (X : Cx) (e : Expr) (d : TD) : Prop := PW X e (tSemT X.K fa ca W d C)
theorem sim_tAnd {a b : Expr} {rest : List Expr} {t u : TD} {pos : Pos} (ha : SimT fa ca W C X a t) (hb : SimW fa ca W C X (.BoolOp .And (b :: rest) pos) u) : SimW fa ca W C X (.BoolOp .And (a :: b :: rest) pos) (tAnd t u) := by
  refine pw_le (pw_and ha hb) fun σ H Q h => ?_
  obtain ⟨G, F, ρ, S, h⟩ := h
  refine ⟨G, F, ρ, S, h.bind.mono fun k ρ1 h1 F1 H1 S1 E1 => ?_⟩
  cases k with
  | true => rw [if_pos rfl] at h1 ⊢; exact ⟨G, F1, ρ1, S1, (h1.later E1).mono fun z ρ2 h2 F2 H2 S2 E2 => h2 F2 H2 S2 (E1.trans E2)⟩
  | false => rw [if_neg Bool.false_ne_true] at h1 ⊢; exact h1 F1 H1 S1 E1
theorem sim_tOr {a b : Expr} {rest : List Expr} {t u : TD} {pos : Pos} (ha : SimT fa ca W C X a t) (hb : SimW fa ca W C X (.BoolOp .Or (b :: rest) pos) u) : SimW fa ca W C X (.BoolOp .Or (a :: b :: rest) pos) (tOr t u) := by
  refine pw_le (pw_or ha hb) fun σ H Q h => ?_
  obtain ⟨G, F, ρ, S, h⟩ := h
  refine ⟨G, F, ρ, S, h.bind.mono fun k ρ1 h1 F1 H1 S1 E1 => ?_⟩
  cases k with
  | true => rw [if_pos rfl] at h1 ⊢; exact h1 F1 H1 S1 E1
  | false => rw [if_neg Bool.false_ne_true] at h1 ⊢; exact ⟨G, F1, ρ1, S1, (h1.later E1).mono fun z ρ2 h2 F2 H2 S2 E2 => h2 F2 H2 S2 (E1.trans E2)⟩
/-! ### argument lists, displays -/
theorem sim_nil : SimA fa ca W C X [] [] := by
  refine pa_le pa_nil fun σ H Q h => ?_
  obtain ⟨G, F, ρ, S, h⟩ := h
  exact h [] F H S Ext.refl .nil
theorem sim_cons {e : Expr} {es : List Expr} {d : Den} {ds : List Den} (he : SimE fa ca W C X e d) (hr : SimA fa ca W C X es ds) (hs : starEach (e :: es) X.env = (false, eval e X.env) :: starEach es X.env) : SimA fa ca W C X (e :: es) (d :: ds) := by
  refine pa_le (pa_cons he hr hs) fun σ H Q h => ?_
  obtain ⟨G, F, ρ, S, h⟩ := h
  refine ⟨G, F, ρ, S, h.bind.mono fun x ρ1 h1 v F1 H1 S1 E1 r1 => ?_⟩
  obtain ⟨F1, S1, E1', p1⟩ := S1.frz r1
  refine ⟨G, F1, ρ1, S1, (h1.bind.later (E1.trans E1')).mono fun xs ρ2 h2 vs F2 H2 S2 E2 r2 => ?_⟩
  exact h2 _ F2 H2 S2 ((E1.trans E1').trans E2) (.cons (Rp.ext E2 _ _ p1) r2)
theorem same_new {H : Hp} {p : Addr} {o : HO} (h : H p = none) : Same H (upd H p o) := fun b x e => by
  rw [upd_ne (ne_of_none e h)]
  exact e
theorem RPost.eq {α : Type} {x : R α} {ok : α → Env → Prop} (h : RPost K fa ca G F H σ W x ok) : RPost K fa ca G F H σ W x fun a ρ1 => x = .ok a ρ1 ∧ ok a ρ1 := by
  cases x with
  | ok a ρ => exact ⟨rfl, h⟩
  | exc c fs ρ => exact h
  | stuck => exact h
theorem dAll_len : ∀ {ds : List Den} {ρ : Env} {xs : List D} {ρ' : Env}, dAll ds C ρ = .ok xs ρ' → xs.length = ds.length
  | [], _, _, _, e => by cases e; rfl
  | d :: ds, ρ, xs, ρ', e => by
    have e' : ((d C ρ).bind fun x ρ1 => (dAll ds C ρ1).bind fun xs ρ2 => .ok (x.frz :: xs) ρ2) = .ok xs ρ' := e
    cases e1 : d C ρ with
    | exc c fs ρ1 => rw [e1] at e'; cases e'
    | stuck => rw [e1] at e'; cases e'
    | ok x ρ1 =>
      rw [e1] at e'
      have e2 : ((dAll ds C ρ1).bind fun xs ρ2 => .ok (x.frz :: xs) ρ2) = .ok xs ρ' := e'
      cases e3 : dAll ds C ρ1 with
      | exc c fs ρ1 => rw [e3] at e2; cases e2
      | stuck => rw [e3] at e2; cases e2
      | ok ys ρ2 =>
        rw [e3] at e2
        cases e2
        exact congrArg (· + 1) (dAll_len e3)
theorem sim_tup {es : List Expr} {ds : List Den} {x1 : Nat} {pos : Pos} (h : SimA fa ca W C X es ds) (hl : ds.length ≤ 1000) : SimE fa ca W C X (.Tuple es x1 pos) (dTup ds) := by
  refine pe_le (pe_tup h) fun σ H Q h => ?_
  obtain ⟨G, F, ρ, S, h⟩ := h
  refine ⟨G, F, ρ, S, (RPost.bind (x := dAll ds C ρ) h).eq.mono fun xs ρ1 ⟨e, h1⟩ vs F1 H1 S1 E1 r1 => ⟨?_, fun p np => ?_⟩⟩
  · rw [r1.length, dAll_len e, sizeLine_eq]; omega
  · exact h1 _ F1 _ (S1.same (same_new np)) (E1.trans (S1.ext (same_new np))) (.tup (.of upd_same) (RpL.ext (S1.ext (same_new np)) _ _ r1))
theorem sim_lst {es : List Expr} {ds : List Den} {pos : Pos} (h : SimA fa ca W C X es ds) (hl : ds.length ≤ 1000) : SimE fa ca W C X (.List es pos) (dLst ds) := by
  refine pe_le (pe_lst h) fun σ H Q h => ?_
  obtain ⟨G, F, ρ, S, h⟩ := h
  refine ⟨G, F, ρ, S, (RPost.bind (x := dAll ds C ρ) h).eq.mono fun xs ρ1 ⟨e, h1⟩ vs F1 H1 S1 E1 r1 => ⟨?_, fun p np => ?_⟩⟩
  · rw [r1.length, dAll_len e, sizeLine_eq]; omega
  · exact h1 _ F1 _ (S1.same (same_new np)) (E1.trans (S1.ext (same_new np))) (RpEx.of_new (r := .fresh xs) S1 (same_new np) ⟨p, vs, rfl, np, upd_same, RpL.ext (S1.ext (same_new np)) _ _ r1⟩)
end
end RX
set_option Elab.async false
set_option linter.all false
set_option maxRecDepth 100000
set_option maxHeartbeats 4000000
/-! RXe: the operators say what the evaluator says. -/
namespace RX
open PySem PySem.Spec PyProof.Rows L2
theorem lim_eq : (sizeLine : Nat) = LIM := sizeLine_eq
section
variable {X : Cx}
theorem op_or {f : Value → Value → Sem Value} {r r' : R2} (h : OpR X f r) (h' : OpR X f r') : OpR X f (fun x y H Q => r x y H Q ∨ r' x y H Q) := OpR.or h h'
theorem opB {f : Value → Value → Sem Value} {C : Int → Int → Prop} {g : Int → Int → Int}
    (rule : ∀ (i j : Int) (t u : Tok) (s : Shared) (Q : Value → Shared → Prop) (E : Value → Shared → Prop), C i j → Q (.int (g i j) s.toks) { s with toks := s.toks + 1 } → wpAny (model X.prog X.w) X.A (f (.int i t) (.int j u)) Q E s) :
    OpR X f (rI C fun i j => .int (g i j)) := opI rule
theorem op_fdivZ : OpR X (binaryOp .FloorDiv) (rI (fun _ j => divOk j = true) fun i j => .int (i.fdiv j)) := opI fun i j _ _ _ _ _ hc q => by
  unfold divOk at hc
  rw [Bool.and_eq_true, decide_eq_true_eq, decide_eq_true_eq] at hc
  exact floordiv_int hc.1 q (.inl (PyProof.noPylong_of_log2 hc.2))
theorem intBits_le (x : Int) : Builtin.Int.intBits x ≤ x.natAbs.log2 + 1 := by
  unfold Builtin.Int.intBits
  split <;> omega
theorem op_mulZ : OpR X (binaryOp .Mult) (rI (fun i j => mulOk i j = true) fun i j => .int (i * j)) := opI fun i j _ _ _ _ _ hc q => by
  unfold mulOk at hc
  rw [decide_eq_true_eq] at hc
  have h1 := intBits_le i
  have h2 := intBits_le j
  exact mul_int q (CMulX.ok (by unfold CMulX; omega))
/-- == and != of plain data -/
def rEqP (K : PySem.W.Frag) (n : Bool) : R2 := fun x y H Q => ∃ d e, Dp K H x d ∧ Dp K H y e ∧ d.plain = true ∧ e.plain = true ∧ min d.depth e.depth ≤ 64 ∧ Q (.bl (if n then !PyData.eqv d e else PyData.eqv d e)) H
theorem op_eqP (hu : X.A.units + 65 < cLine) : OpR X (compareOp .Eq) (rEqP X.K false) := by
  intro pins s σ H x y v u Q I rx ry h
  obtain ⟨d, e, hd, he, pd, pe, hm, q⟩ := h
  obtain ⟨as, r1⟩ := Dp.reads I d x v hd rx
  obtain ⟨bs, r2⟩ := Dp.reads I e y u he ry
  exact SeqAt.eq_plain r1 r2 pd pe (by omega) ⟨.bl _, H, I, rfl, q⟩
theorem op_neP (hu : X.A.units + 65 < cLine) : OpR X (compareOp .NotEq) (rEqP X.K true) := by
  intro pins s σ H x y v u Q I rx ry h
  obtain ⟨d, e, hd, he, pd, pe, hm, q⟩ := h
  obtain ⟨as, r1⟩ := Dp.reads I d x v hd rx
  obtain ⟨bs, r2⟩ := Dp.reads I e y u he ry
  exact SeqAt.ne_plain r1 r2 pd pe (by omega) ⟨.bl _, H, I, rfl, q⟩
/-- in, not in: of plain data in a list or a tuple -/
def rInP (K : PySem.W.Frag) (n : Bool) : R2 := fun x y H Q => ∃ d ds, Dp K H x d ∧ (Dp K H y (.list ds) ∨ Dp K H y (.tuple ds)) ∧ d.plain = true ∧ PyData.plainAll ds = true ∧ min (PyData.depthAll ds) d.depth ≤ 60 ∧
  Q (.bl (if n then !ds.any (fun z => PyData.eqv z d) else ds.any (fun z => PyData.eqv z d))) H
theorem op_inP (hu : X.A.units + 65 < cLine) : OpR X (compareOp .In) (rInP X.K false) := by
  intro pins s σ H x y v u Q I rx ry h
  obtain ⟨d, ds, hd, he, pd, pe, hm, q⟩ := h
  obtain ⟨as, r1⟩ := Dp.reads I d x v hd rx
  rcases he with he | he
  · obtain ⟨bs, r2⟩ := Dp.reads I _ y u he ry
    exact SeqAt.in_list_data r2 r1 pe pd (by omega) ⟨.bl _, H, I, rfl, q⟩
  · obtain ⟨bs, r2⟩ := Dp.reads I _ y u he ry
    exact SeqAt.in_tuple_data r2 r1 pe pd (by omega) ⟨.bl _, H, I, rfl, q⟩
theorem op_ninP (hu : X.A.units + 65 < cLine) : OpR X (compareOp .NotIn) (rInP X.K true) := by
  intro pins s σ H x y v u Q I rx ry h
  obtain ⟨d, ds, hd, he, pd, pe, hm, q⟩ := h
  obtain ⟨as, r1⟩ := Dp.reads I d x v hd rx
  rcases he with he | he
  · obtain ⟨bs, r2⟩ := Dp.reads I _ y u he ry
    exact SeqAt.notIn_list_data r2 r1 pe pd (by omega) ⟨.bl _, H, I, rfl, q⟩
  · obtain ⟨bs, r2⟩ := Dp.reads I _ y u he ry
    exact SeqAt.notIn_tuple_data r2 r1 pe pd (by omega) ⟨.bl _, H, I, rfl, q⟩
end
section
variable {K : PySem.W.Frag} {fa : Nat → Addr}
theorem nl_get {p : Prop} [Decidable p] {α : Type} {a b : α} (h : (if p then some a else none) = some b) : p ∧ a = b := by
  split at h
  · rename_i q; exact ⟨q, Option.some.inj h⟩
  · cases h
/-- two ints -/
theorem ops_int {f : Op2} {C : Int → Int → Prop} {g : Int → Int → Int} (h : ∀ x y e, f x y = some e → ∃ i j, x = .int i ∧ y = .int j ∧ C i j ∧ e = .d (.int (g i j))) : OpS K fa f (rI C fun i j => .int (g i j)) := by
  intro x y e hf F H v u Q T rx ry q
  obtain ⟨i, j, rfl, rfl, c, rfl⟩ := h x y e hf
  cases rx; cases ry
  exact ⟨i, j, rfl, rfl, c, q _ H (Same.refl H) (.int _)⟩
theorem ops_int0 {f : Op2} {g : Int → Int → Int} (h : ∀ x y e, f x y = some e → ∃ i j, x = .int i ∧ y = .int j ∧ e = .d (.int (g i j))) : OpS K fa f (rI0 fun i j => .int (g i j)) := by
  intro x y e hf F H v u Q T rx ry q
  obtain ⟨i, j, rfl, rfl, rfl⟩ := h x y e hf
  cases rx; cases ry
  exact ⟨i, j, rfl, rfl, q _ H (Same.refl H) (.int _)⟩
theorem ops_bl0 {f : Op2} {g : Int → Int → Bool} (h : ∀ x y e, f x y = some e → ∃ i j, x = .int i ∧ y = .int j ∧ e = .d (.bl (g i j))) : OpS K fa f (rI0 fun i j => .bl (g i j)) := by
  intro x y e hf F H v u Q T rx ry q
  obtain ⟨i, j, rfl, rfl, rfl⟩ := h x y e hf
  cases rx; cases ry
  exact ⟨i, j, rfl, rfl, q _ H (Same.refl H) (.bl _)⟩
theorem s_sub : OpS K fa fSub (rI0 fun i j => .int (i - j)) := ops_int0 fun x y e h => by
  unfold fSub at h; split at h <;> first | exact ⟨_, _, rfl, rfl, (Option.some.inj h).symm⟩ | cases h
theorem s_and : OpS K fa fAnd (rI0 fun i j => .int (Builtin.bitAnd i j)) := ops_int0 fun x y e h => by
  unfold fAnd at h; split at h <;> first | exact ⟨_, _, rfl, rfl, (Option.some.inj h).symm⟩ | cases h
theorem s_or : OpS K fa fOr (rI0 fun i j => .int (Builtin.bitOr i j)) := ops_int0 fun x y e h => by
  unfold fOr at h; split at h <;> first | exact ⟨_, _, rfl, rfl, (Option.some.inj h).symm⟩ | cases h
theorem s_lt : OpS K fa fLt (rI0 fun i j => .bl (decide (i < j))) := ops_bl0 fun x y e h => by
  unfold fLt at h; split at h <;> first | exact ⟨_, _, rfl, rfl, (Option.some.inj h).symm⟩ | cases h
theorem s_le : OpS K fa fLe (rI0 fun i j => .bl (decide (i ≤ j))) := ops_bl0 fun x y e h => by
  unfold fLe at h; split at h <;> first | exact ⟨_, _, rfl, rfl, (Option.some.inj h).symm⟩ | cases h
theorem s_gt : OpS K fa fGt (rI0 fun i j => .bl (decide (j < i))) := ops_bl0 fun x y e h => by
  unfold fGt at h; split at h <;> first | exact ⟨_, _, rfl, rfl, (Option.some.inj h).symm⟩ | cases h
theorem s_ge : OpS K fa fGe (rI0 fun i j => .bl (decide (j ≤ i))) := ops_bl0 fun x y e h => by
  unfold fGe at h; split at h <;> first | exact ⟨_, _, rfl, rfl, (Option.some.inj h).symm⟩ | cases h
theorem s_div : OpS K fa fDiv (rI (fun _ j => divOk j = true) fun i j => .int (i.fdiv j)) := ops_int fun x y e h => by
  unfold fDiv at h; split at h
  · obtain ⟨c, q⟩ := nl_get h; exact ⟨_, _, rfl, rfl, c, q.symm⟩
  · cases h
theorem s_mod : OpS K fa fMod (rI (fun _ j => j ≠ 0) fun i j => .int (i.fmod j)) := ops_int fun x y e h => by
  unfold fMod at h; split at h
  · obtain ⟨c, q⟩ := nl_get h; exact ⟨_, _, rfl, rfl, c, q.symm⟩
  · cases h
theorem s_pow : OpS K fa fPow (rI CPow fun i j => .int (i ^ j.toNat)) := ops_int fun x y e h => by
  unfold fPow at h; split at h
  · obtain ⟨c, q⟩ := nl_get h; exact ⟨_, _, rfl, rfl, ⟨c.1, c.2.1, Nat.lt_of_lt_of_le c.2.2 (by decide)⟩, q.symm⟩
  · cases h
theorem s_shl : OpS K fa fShl (rI CPow fun i j => .int (i * 2 ^ j.toNat)) := ops_int fun x y e h => by
  unfold fShl at h; split at h
  · obtain ⟨c, q⟩ := nl_get h; exact ⟨_, _, rfl, rfl, ⟨c.1, c.2.1, Nat.lt_of_lt_of_le c.2.2 (by decide)⟩, q.symm⟩
  · cases h
theorem s_shr : OpS K fa fShr (rI (fun _ j => 0 ≤ j) fun i j => .int (i / 2 ^ j.toNat)) := ops_int fun x y e h => by
  unfold fShr at h; split at h
  · obtain ⟨c, q⟩ := nl_get h; exact ⟨_, _, rfl, rfl, c, q.symm⟩
  · cases h
abbrev rAddS : R2 := fun x y H Q => ∃ i j, x = .str i ∧ y = .str j ∧ i.length + j.length ≤ sizeLine ∧ Q (.str (i ++ j)) H
abbrev rAddZ (K : PySem.W.Frag) : R2 := fun x y H Q => rI0 (fun i j => .int (i + j)) x y H Q ∨ (rAddS x y H Q ∨ (rCatA K x y H Q ∨ rCat x y H Q))
theorem op_addZ {X : Cx} : OpR X (binaryOp .Add) (rAddZ X.K) := .or op_add (.or op_add_str (.or op_catA op_cat))
theorem s_add : OpS K fa fAdd (rAddZ K) := by
  intro x y e hf F H v u Q T rx ry q
  unfold fAdd at hf
  split at hf
  · cases hf; cases rx; cases ry
    exact .inl ⟨_, _, rfl, rfl, q _ H (Same.refl H) (.int _)⟩
  · obtain ⟨c, rfl⟩ := nl_get hf; cases rx; cases ry
    exact .inr (.inl ⟨_, _, rfl, rfl, by rw [lim_eq]; exact c, q _ H (Same.refl H) (.str _)⟩)
  · obtain ⟨c, rfl⟩ := nl_get hf
    rename_i l m
    cases rx with
    | @tup a xs _ s1 r1 =>
      cases ry with
      | @tup b ys _ s2 r2 =>
        refine .inr (.inr (.inl ⟨a, b, xs, ys, rfl, rfl, s1, s2, by rw [r1.length, r2.length, lim_eq]; exact c, fun z => ?_, fun _ z => ?_, fun _ _ p np => ?_⟩))
        · subst z; cases r1
          exact q _ H (Same.refl H) (.tup s2 r2)
        · subst z; cases r2
          exact q _ H (Same.refl H) (by show Rp K fa F H _ (.tup (l ++ [])); rw [List.append_nil]; exact .tup s1 r1)
        · exact q _ _ (same_new np) (.tup (.of upd_same) ((r1.append r2).ext (Ext.same (F := F) (same_new np) T) _ _))
  · obtain ⟨c, rfl⟩ := nl_get hf
    cases rx with
    | @lst a xs _ f1 s1 r1 =>
      cases ry with
      | @lst b ys _ f2 s2 r2 =>
        refine .inr (.inr (.inr ⟨a, b, xs, ys, rfl, rfl, s1, s2, by rw [r1.length, r2.length, lim_eq]; exact c, fun p np => ?_⟩))
        exact q _ _ (same_new np) ⟨p, _, rfl, np, upd_same, (r1.append r2).ext (Ext.same (F := F) (same_new np) T) _ _⟩
  · cases hf
/-- a tuple once -/
theorem tuple_once (l : Addr) (its : Array Value) (n : Nat) (dd : Option Addr) (sl : Array (Option Value)) (u : Tok) :
    Meets (Builtin.«tuple.__mul__» ⟨[.ref l, .int 1 u], []⟩) (fun _ R s => s.heap.get? l = some { cls := .type "tuple", dict := dd, data := .seq its n, slots := sl } ∧ R (.ok (.ret (Value.ref l))) s) :=
  .of_wp fun prog w A R s h => by
    obtain ⟨hp, g, d, tk, os⟩ := s
    obtain ⟨hl, h⟩ := h
    have f1 := AutoSeq1.idx_int
    wp_walk using wpAny_loadPart' hl
    repeat (first
      | (refine wpAny_ite_false (decide_eq_false (by decide)) ?_; wp_walk using wpAny_loadPart' hl)
      | (refine wpAny_ite_true (by rw [Bool.or_true]) ?_; wp_walk using wpAny_loadPart' hl)
      | (refine wpAny_ite_true rfl ?_; wp_walk using wpAny_loadPart' hl))
    exact ⟨_, rfl, h⟩
abbrev rOnce (K : PySem.W.Frag) : R2 := fun x y H Q => ∃ l xs, x = .ref l ∧ y = .int 1 ∧ SqT K H l xs ∧ Q (.ref l) H
theorem op_once {X : Cx} : OpR X (binaryOp .Mult) (rOnce X.K) := by
  intro pins s σ H x y v u Q I rx ry h
  obtain ⟨l, xs, rfl, rfl, hT, q⟩ := h
  cases rx
  obtain ⟨t, rfl⟩ := ry
  obtain ⟨its, r, ⟨⟨cls, dd, data, sl⟩, ho, hc, n, hd⟩, hs⟩ := I.tuple hT
  simp only at hc hd
  subst hc hd
  refine wpAny_binaryOp_repeat_ref (T := "tuple") (U := "int") (by decide) ⟨_, ho, rfl⟩ (fun s' => typeIs_int s' 1 t) noFill_tuple_mul F.fills_int_mul F.slot_int_rmul repeat_tuple F.slot_int_index.lookup
    (call_meets F.slot_int_rmul (typeIs_int s 1 t) F.entry_int_rmul (F.args_int_rmul_2 _ _) (int_rmul_tuple 1 t l its.toArray n dd sl)
      ⟨ho, rfl, ⟨_, ho, rfl⟩, call_meets F.slot_tuple_mul ⟨_, ho, rfl⟩ F.entry_tuple_mul (F.args_tuple_mul_2 _ _) (tuple_once l its.toArray n dd sl t) ⟨ho, ?_⟩⟩)
  exact ⟨.ref l, H, I, rfl, q⟩
abbrev rMulZ (K : PySem.W.Frag) : R2 := fun x y H Q => rI (fun i j => mulOk i j = true) (fun i j => .int (i * j)) x y H Q ∨ (rRep x y H Q ∨ (rRepT K x y H Q ∨ rOnce K x y H Q))
theorem op_mulZZ {X : Cx} : OpR X (binaryOp .Mult) (rMulZ X.K) := .or op_mulZ (.or op_rep (.or op_repT op_once))
theorem s_mul : OpS K fa fMul (rMulZ K) := by
  intro x y e hf F H v u Q T rx ry q
  unfold fMul at hf
  split at hf
  · obtain ⟨c, rfl⟩ := nl_get hf; cases rx; cases ry
    exact .inl ⟨_, _, rfl, rfl, c, q _ H (Same.refl H) (.int _)⟩
  · obtain ⟨c, rfl⟩ := nl_get hf
    cases ry
    rename_i l k
    cases rx with
    | @lst a xs _ f1 s1 r1 =>
      refine .inr (.inl ⟨a, k, xs, rfl, rfl, s1, ?_, ?_, by rw [r1.length, lim_eq]; exact c.2.2, fun p np => ?_⟩)
      · have := c.1; omega
      · have := c.2.1; omega
      · exact q _ _ (same_new np) ⟨p, _, rfl, np, upd_same, (r1.rep k.toNat).ext (Ext.same (F := F) (same_new np) T) _ _⟩
  · rename_i l k
    by_cases hc : l ≠ [] ∧ 2 ≤ k ∧ k ≤ 1000 ∧ l.length ≤ 1000
    · rw [if_pos hc] at hf
      cases hf
      cases ry
      cases rx with
      | @tup a xs _ s1 r1 =>
        refine .inr (.inr (.inl ⟨a, k, xs, rfl, rfl, s1, ?_, hc.2.1, hc.2.2.1, by rw [r1.length]; exact hc.2.2.2, fun p np => ?_⟩))
        · intro z; subst z; cases r1; exact hc.1 rfl
        · exact q _ _ (same_new np) (.tup (.of upd_same) ((r1.rep k.toNat).ext (Ext.same (F := F) (same_new np) T) _ _))
    · rw [if_neg hc] at hf
      obtain ⟨h1, rfl⟩ := nl_get hf
      subst h1
      cases ry
      cases rx with
      | @tup a xs _ s1 r1 => exact .inr (.inr (.inr ⟨a, xs, rfl, rfl, s1, q _ H (Same.refl H) (.tup s1 r1)⟩))
  · cases hf
theorem cmp_ok {x y : D} (h : cmpOk x y = true) : x.plain = true ∧ y.plain = true ∧ min x.dep y.dep ≤ 40 := by
  unfold cmpOk at h
  rw [Bool.and_eq_true, Bool.and_eq_true, decide_eq_true_eq] at h
  exact ⟨h.1.1, h.1.2, h.2⟩
theorem s_eq : OpS K fa fEq (rEqP K false) := by
  intro x y e hf F H v u Q T rx ry q
  unfold fEq at hf
  obtain ⟨c, rfl⟩ := nl_get hf
  obtain ⟨p1, p2, hd⟩ := cmp_ok c
  refine ⟨x.py, y.py, rx.dp _ _ p1, ry.dp _ _ p2, plain_py x, plain_py y, by rw [dep_py, dep_py]; omega, ?_⟩
  rw [if_neg Bool.false_ne_true, eqv_py x y p1 p2]
  exact q _ H (Same.refl H) (.bl _)
theorem s_ne : OpS K fa fNe (rEqP K true) := by
  intro x y e hf F H v u Q T rx ry q
  unfold fNe at hf
  obtain ⟨c, rfl⟩ := nl_get hf
  obtain ⟨p1, p2, hd⟩ := cmp_ok c
  refine ⟨x.py, y.py, rx.dp _ _ p1, ry.dp _ _ p2, plain_py x, plain_py y, by rw [dep_py, dep_py]; omega, ?_⟩
  rw [if_pos rfl, eqv_py x y p1 p2]
  exact q _ H (Same.refl H) (.bl _)
theorem in_ok {x : D} {l : List D} (h : inOk x l = true) : x.plain = true ∧ plainL l = true ∧ min (depL l) x.dep ≤ 40 := by
  unfold inOk at h
  rw [Bool.and_eq_true, Bool.and_eq_true, decide_eq_true_eq] at h
  exact ⟨h.1.1, h.1.2, h.2⟩
theorem s_in : OpS K fa fIn (rInP K false) := by
  intro x y e hf F H v u Q T rx ry q
  unfold fIn at hf
  split at hf
  · obtain ⟨c, rfl⟩ := nl_get hf
    obtain ⟨p1, p2, hd⟩ := in_ok c
    refine ⟨_, _, rx.dp _ _ p1, .inr (ry.dp _ _ p2), plain_py _, plainL_py _, by rw [depL_py, dep_py]; omega, ?_⟩
    rw [if_neg Bool.false_ne_true, any_py p1 p2]
    exact q _ H (Same.refl H) (.bl _)
  · obtain ⟨c, rfl⟩ := nl_get hf
    obtain ⟨p1, p2, hd⟩ := in_ok c
    refine ⟨_, _, rx.dp _ _ p1, .inl (ry.dp _ _ p2), plain_py _, plainL_py _, by rw [depL_py, dep_py]; omega, ?_⟩
    rw [if_neg Bool.false_ne_true, any_py p1 p2]
    exact q _ H (Same.refl H) (.bl _)
  · cases hf
theorem s_notIn : OpS K fa fNotIn (rInP K true) := by
  intro x y e hf F H v u Q T rx ry q
  unfold fNotIn at hf
  split at hf
  · obtain ⟨c, rfl⟩ := nl_get hf
    obtain ⟨p1, p2, hd⟩ := in_ok c
    refine ⟨_, _, rx.dp _ _ p1, .inr (ry.dp _ _ p2), plain_py _, plainL_py _, by rw [depL_py, dep_py]; omega, ?_⟩
    rw [if_pos rfl, any_py p1 p2]
    exact q _ H (Same.refl H) (.bl _)
  · obtain ⟨c, rfl⟩ := nl_get hf
    obtain ⟨p1, p2, hd⟩ := in_ok c
    refine ⟨_, _, rx.dp _ _ p1, .inl (ry.dp _ _ p2), plain_py _, plainL_py _, by rw [depL_py, dep_py]; omega, ?_⟩
    rw [if_pos rfl, any_py p1 p2]
    exact q _ H (Same.refl H) (.bl _)
  · cases hf
theorem isNon_ok {x : D} {v : V} {F : Addr → Prop} {H : Hp} (r : Rp K fa F H v x) : decide (v = .non) = x.isNon := by
  cases r <;> rfl
abbrev rIsZ : R2 := fun x y H Q => (y = .non ∧ Q (.bl (decide (x = .non))) H) ∨ ∃ a b : Bool, x = .bl a ∧ y = .bl b ∧ Q (.bl (decide (a = b))) H
abbrev rIsNotZ : R2 := fun x y H Q => (y = .non ∧ Q (.bl (!decide (x = .non))) H) ∨ ∃ a b : Bool, x = .bl a ∧ y = .bl b ∧ Q (.bl (!decide (a = b))) H
theorem op_isZ {X : Cx} : OpR X (compareOp .Is) rIsZ := .or op_isN op_isBl
theorem op_isNotZ {X : Cx} : OpR X (compareOp .IsNot) rIsNotZ := .or op_notN op_notBl
theorem s_is : OpS K fa fIs rIsZ := by
  intro x y e hf F H v u Q T rx ry q
  unfold fIs at hf
  split at hf
  · cases hf; cases ry
    refine .inl ⟨rfl, ?_⟩
    rw [isNon_ok rx]
    exact q _ H (Same.refl H) (.bl _)
  · cases hf; cases rx; cases ry
    rename_i a b
    refine .inr ⟨a, b, rfl, rfl, ?_⟩
    rw [← Bool.beq_eq_decide_eq]
    exact q _ H (Same.refl H) (.bl _)
  · cases hf
theorem s_isNot : OpS K fa fIsNot rIsNotZ := by
  intro x y e hf F H v u Q T rx ry q
  unfold fIsNot at hf
  split at hf
  · cases hf; cases ry
    refine .inl ⟨rfl, ?_⟩
    rw [isNon_ok rx]
    exact q _ H (Same.refl H) (.bl _)
  · cases hf; cases rx; cases ry
    rename_i a b
    refine .inr ⟨a, b, rfl, rfl, ?_⟩
    rw [← Bool.beq_eq_decide_eq]
    exact q _ H (Same.refl H) (.bl _)
  · cases hf
theorem s_neg : UnS K fa fNeg (rU fun i => .int (-i)) := by
  intro x e hf F H v Q T rx q
  unfold fNeg at hf
  split at hf
  · cases hf; cases rx
    exact ⟨_, rfl, q _ H (Same.refl H) (.int _)⟩
  · cases hf
/-! ### subscripts -/
theorem ixN_eq (n : Nat) (i : Int) : RX.ixN n i = L2.ixN n i := rfl
theorem RpL.atI {F : Addr → Prop} {H : Hp} {vs : List V} {ds : List D} {i : Int} {d : D} (r : RpL K fa F H vs ds) (h : atD ds i = some d) : ∃ v, L2.atI vs i = some v ∧ Rp K fa F H v d := by
  unfold atD at h
  unfold L2.atI
  rw [r.length, ← ixN_eq]
  cases e : RX.ixN ds.length i with
  | none => rw [e] at h; cases h
  | some j =>
    rw [e] at h
    obtain ⟨v, h1, h2⟩ := r.get (show ds[j]? = some d from h)
    exact ⟨v, h1, h2⟩
theorem rpl_ints {F : Addr → Prop} {H : Hp} : ∀ ns : List Int, RpL K fa F H (ns.map V.int) (ns.map D.int)
  | [] => .nil
  | n :: ns => .cons (.int n) (rpl_ints ns)
theorem s_ix : OpS K fa fIx (rIx K) := by
  intro x y e hf F H v u Q T rx ry q
  unfold fIx at hf
  split at hf
  · rename_i l i
    cases ry
    cases e1 : atD l i with
    | none => rw [e1] at hf; cases hf
    | some d =>
      rw [e1] at hf
      cases hf
      cases rx with
      | @lst a xs _ f1 s1 r1 =>
        obtain ⟨w, h1, h2⟩ := r1.atI e1
        exact .inl ⟨a, xs, i, w, rfl, rfl, .of s1, h1, q w H (Same.refl H) h2⟩
  · rename_i l i
    cases ry
    cases e1 : atD l i with
    | none => rw [e1] at hf; cases hf
    | some d =>
      rw [e1] at hf
      cases hf
      cases rx with
      | @tup a xs _ s1 r1 =>
        obtain ⟨w, h1, h2⟩ := r1.atI e1
        exact .inr (.inl ⟨a, xs, i, w, rfl, rfl, s1, h1, q w H (Same.refl H) h2⟩)
  · rename_i l i
    cases ry
    cases e1 : atD (l.map .int) i with
    | none => rw [e1] at hf; cases hf
    | some d =>
      rw [e1] at hf
      cases hf
      cases rx with
      | @scr a _ s1 =>
        obtain ⟨w, h1, h2⟩ := (rpl_ints (K := K) (fa := fa) (F := F) (H := H) l).atI e1
        exact .inl ⟨a, _, i, w, rfl, rfl, s1.l, h1, q w H (Same.refl H) h2⟩
  · cases hf
theorem sIx_eq (n d : Nat) (o : Option Int) : RX.sIx n d o = HT.sIx n d o := by
  cases o with
  | none => rfl
  | some i =>
    show (if 0 ≤ i then min i.toNat n else (i + n).toNat) = (if i < 0 then (i + (n : Int)).toNat else min i.toNat n)
    by_cases h : 0 ≤ i
    · rw [if_pos h, if_neg (by omega)]
    · rw [if_neg h, if_pos (by omega)]
theorem RpL.cut {F : Addr → Prop} {H : Hp} {vs : List V} {ds : List D} (r : RpL K fa F H vs ds) (lo hi : Option Int) : RpL K fa F H (cutV vs lo hi) (RX.cut ds lo hi) := by
  unfold cutV RX.cut
  rw [r.length, ← sIx_eq, ← sIx_eq]
  exact (r.drop _).take _
theorem cut_all {ds : List D} {lo hi : Option Int} (h : HT.sIx ds.length 0 lo = 0 ∧ HT.sIx ds.length ds.length hi = ds.length) : RX.cut ds lo hi = ds := by
  unfold RX.cut
  rw [sIx_eq, sIx_eq, h.1, h.2, List.drop_zero, Nat.sub_zero, List.take_length]
abbrev rSlZ (K : PySem.W.Frag) : V → Option Int → Option Int → Hp → VK → Prop := fun x lo hi H Q => rSlA K x lo hi H Q ∨ rSlL K x lo hi H Q
theorem sl_Z {X : Cx} : L2.SlR X (rSlZ X.K) := L2.SlR.or sl_tupA sl_list
/-- a list or a tuple that may be read now -/
theorem s_sl {x : D} {lo hi : Option Int} {e : Ex} (hf : fSl x lo hi = some e) {F : Addr → Prop} {H : Hp} {v : V} {Q : VK} (T : Trk F H) (rx : Rp K fa F H v x) (q : ∀ v' H', Same H H' → NewR K fa F H H' e v' → Q v' H') : rSlZ K v lo hi H Q := by
  unfold fSl at hf
  split at hf
  · cases hf
    cases rx with
    | @lst a xs _ f1 s1 r1 =>
      refine .inr ⟨a, xs, rfl, .of s1, fun p np => ?_⟩
      exact q _ _ (same_new np) ⟨p, _, rfl, np, upd_same, (r1.cut lo hi).ext (Ext.same (F := F) (same_new np) T) _ _⟩
  · cases hf
    cases rx with
    | @tup a xs _ s1 r1 =>
      refine .inl ⟨a, xs, rfl, s1, fun z => ?_, fun z p np => ?_⟩
      · rw [r1.length] at z
        exact q _ H (Same.refl H) (by show Rp K fa F H _ (.tup _); rw [cut_all z]; exact .tup s1 r1)
      · exact q _ _ (same_new np) (.tup (.of upd_same) ((r1.cut lo hi).ext (Ext.same (F := F) (same_new np) T) _ _))
  · cases hf
    rename_i l
    cases rx with
    | @scr a _ s1 =>
      refine .inr ⟨a, _, rfl, s1.l, fun p np => ?_⟩
      exact q _ _ (same_new np) ⟨p, _, rfl, np, upd_same, ((rpl_ints l).cut lo hi).ext (Ext.same (F := F) (same_new np) T) _ _⟩
  · cases hf
end
end RX
set_option Elab.async false
set_option linter.all false
set_option maxRecDepth 100000
set_option maxHeartbeats 4000000
/-! RXf: names read unchanged, subscripts, slices, built-ins, pop, fields of exceptions. -/
namespace RX
open PySem PySem.Spec PyProof.Rows L2
/-- data that may be read now (a slot's own list too) -/
inductive RdR (K : PySem.W.Frag) (fa : Nat → Addr) (F : Addr → Prop) (H : Hp) : V → D → Prop
  | rp {v : V} {x : D} : Rp K fa F H v x → RdR K fa F H v x
  | lst {a : Addr} {xs : List V} {l : List D} : H a = some (.lst xs) → RpL K fa F H xs l → RdR K fa F H (.ref a) (.lst l)
inductive RdL (K : PySem.W.Frag) (fa : Nat → Addr) (F : Addr → Prop) (H : Hp) : List V → List D → Prop
  | nil : RdL K fa F H [] []
  | cons {v : V} {vs : List V} {x : D} {xs : List D} : RdR K fa F H v x → RdL K fa F H vs xs → RdL K fa F H (v :: vs) (x :: xs)
section
variable {K : PySem.W.Frag} {fa : Nat → Addr} {ca : Cc} {W : WX} {C : Calls} {X : Cx} {G : Gh} {F F' : Addr → Prop} {H H' : Hp} {σ : L2.St} {ρ ρ' : Env}
theorem RpL.rd : ∀ {vs : List V} {ds : List D}, RpL K fa F H vs ds → RdL K fa F H vs ds
  | _, _, .nil => .nil
  | _, _, .cons r t => .cons (.rp r) t.rd
/-- .. of a list, a tuple, the script -/
inductive Sq (K : PySem.W.Frag) (fa : Nat → Addr) (F : Addr → Prop) (H : Hp) : V → D → Prop
  | lst {a : Addr} {xs : List V} {l : List D} : SqL K H a xs → RpL K fa F H xs l → Sq K fa F H (.ref a) (.lst l)
  | tup {a : Addr} {xs : List V} {l : List D} : SqT K H a xs → RpL K fa F H xs l → Sq K fa F H (.ref a) (.tup l)
  | scr {a : Addr} {ns : List Int} : SqL K H a (ns.map V.int) → Sq K fa F H (.ref a) (.scr ns)
theorem RdR.lst_inv {v : V} {l : List D} (r : RdR K fa F H v (.lst l)) : ∃ a xs, v = .ref a ∧ H a = some (.lst xs) ∧ RpL K fa F H xs l := by
  cases r with
  | rp r =>
    cases r with
    | lst f s r => exact ⟨_, _, rfl, s, r⟩
  | lst s r => exact ⟨_, _, rfl, s, r⟩
theorem RdR.tup_inv {v : V} {l : List D} (r : RdR K fa F H v (.tup l)) : ∃ a xs, v = .ref a ∧ SqT K H a xs ∧ RpL K fa F H xs l := by
  cases r with
  | rp r =>
    cases r with
    | tup s r => exact ⟨_, _, rfl, s, r⟩
theorem RdR.scr_inv {v : V} {l : List Int} (r : RdR K fa F H v (.scr l)) : ∃ a, v = .ref a ∧ SqL K H a (l.map V.int) := by
  cases r with
  | rp r =>
    cases r with
    | scr s => exact ⟨_, rfl, s.l⟩
theorem RdR.flat {v : V} {x : D} (r : RdR K fa F H v x) (h : ∀ l, x ≠ .lst l) : Rp K fa F H v x := by
  cases r with
  | rp r => exact r
  | lst s r => exact absurd rfl (h _)
/-- a name as it reads -/
theorem SR.look (S : SR K fa ca G F ρ σ H) {i : Nat} {x : D} (h : look ρ i = some x) : ∃ v, σ[i]? = some (some v) ∧ RdR K fa F H v x := by
  unfold RX.look at h
  cases e : ρ[i]? with
  | none => rw [e] at h; cases h
  | some s =>
    rw [e] at h
    have q := S.sl i s e
    generalize σ[i]? = o at q
    cases q with
    | none => cases h
    | val r => cases h; exact ⟨_, rfl, .rp r⟩
    | own h1 h2 h3 h4 => cases h; exact ⟨_, rfl, .lst h1 h3⟩
    | par h1 h2 h3 h4 => cases h; exact ⟨_, rfl, .lst h1 h3⟩
    | gh h1 h2 h3 h4 => cases h; exact ⟨_, rfl, .lst h1 h3⟩
    | exn h1 h2 => cases h
theorem RdR.dp {v : V} {d : D} (r : RdR K fa F H v d) (p : d.plain = true) : Dp K H v d.py := by
  cases r with
  | rp r => exact Rp.dp _ _ r p
  | lst s r => exact .lst (.of s) (RpL.dp _ _ r p)
/-- .. in a name's list, read alone -/
theorem s_inR {x y : D} {e : Ex} (hf : fIn x y = some e) {v u : V} {Q : VK} (rx : Rp K fa F H v x) (ry : RdR K fa F H u y) (q : ∀ v' H', Same H H' → NewR K fa F H H' e v' → Q v' H') : rInP K false v u H Q := by
  unfold fIn at hf
  split at hf
  all_goals first | cases hf; done | skip
  all_goals
    obtain ⟨c, rfl⟩ := nl_get hf
    obtain ⟨p1, p2, hd⟩ := in_ok c
  · refine ⟨_, _, rx.dp _ _ p1, .inr (ry.dp p2), plain_py _, plainL_py _, by rw [depL_py, dep_py]; omega, ?_⟩
    rw [if_neg Bool.false_ne_true, any_py p1 p2]
    exact q _ H (Same.refl H) (.bl _)
  · refine ⟨_, _, rx.dp _ _ p1, .inl (ry.dp p2), plain_py _, plainL_py _, by rw [depL_py, dep_py]; omega, ?_⟩
    rw [if_neg Bool.false_ne_true, any_py p1 p2]
    exact q _ H (Same.refl H) (.bl _)
theorem s_notInR {x y : D} {e : Ex} (hf : fNotIn x y = some e) {v u : V} {Q : VK} (rx : Rp K fa F H v x) (ry : RdR K fa F H u y) (q : ∀ v' H', Same H H' → NewR K fa F H H' e v' → Q v' H') : rInP K true v u H Q := by
  unfold fNotIn at hf
  split at hf
  all_goals first | cases hf; done | skip
  all_goals
    obtain ⟨c, rfl⟩ := nl_get hf
    obtain ⟨p1, p2, hd⟩ := in_ok c
  · refine ⟨_, _, rx.dp _ _ p1, .inr (ry.dp p2), plain_py _, plainL_py _, by rw [depL_py, dep_py]; omega, ?_⟩
    rw [if_pos rfl, any_py p1 p2]
    exact q _ H (Same.refl H) (.bl _)
  · refine ⟨_, _, rx.dp _ _ p1, .inl (ry.dp p2), plain_py _, plainL_py _, by rw [depL_py, dep_py]; omega, ?_⟩
    rw [if_pos rfl, any_py p1 p2]
    exact q _ H (Same.refl H) (.bl _)
/-! ### subscripts, slices -/
theorem s_ixR {x y : D} {e : Ex} (hf : fIx x y = some e) {v u : V} {Q : VK} (rx : RdR K fa F H v x) (ry : Rp K fa F H u y) (q : ∀ v' H', Same H H' → NewR K fa F H H' e v' → Q v' H') : rIx K v u H Q := by
  unfold fIx at hf
  split at hf
  · rename_i l i
    cases ry
    cases e1 : atD l i with
    | none => rw [e1] at hf; cases hf
    | some d =>
      rw [e1] at hf
      cases hf
      obtain ⟨a, xs, rfl, s1, r1⟩ := rx.lst_inv
      obtain ⟨w, h1, h2⟩ := r1.atI e1
      exact .inl ⟨a, xs, i, w, rfl, rfl, .of s1, h1, q w H (Same.refl H) h2⟩
  · rename_i l i
    cases ry
    cases e1 : atD l i with
    | none => rw [e1] at hf; cases hf
    | some d =>
      rw [e1] at hf
      cases hf
      obtain ⟨a, xs, rfl, s1, r1⟩ := rx.tup_inv
      obtain ⟨w, h1, h2⟩ := r1.atI e1
      exact .inr (.inl ⟨a, xs, i, w, rfl, rfl, s1, h1, q w H (Same.refl H) h2⟩)
  · rename_i l i
    cases ry
    cases e1 : atD (l.map .int) i with
    | none => rw [e1] at hf; cases hf
    | some d =>
      rw [e1] at hf
      cases hf
      obtain ⟨a, rfl, s1⟩ := rx.scr_inv
      obtain ⟨w, h1, h2⟩ := (rpl_ints (K := K) (fa := fa) (F := F) (H := H) l).atI e1
      exact .inl ⟨a, _, i, w, rfl, rfl, s1, h1, q w H (Same.refl H) h2⟩
  · cases hf
theorem s_slR {x : D} {lo hi : Option Int} {e : Ex} (hf : fSl x lo hi = some e) {v : V} {Q : VK} (T : Trk F H) (rx : RdR K fa F H v x) (q : ∀ v' H', Same H H' → NewR K fa F H H' e v' → Q v' H') : rSlZ K v lo hi H Q := by
  unfold fSl at hf
  split at hf
  · cases hf
    obtain ⟨a, xs, rfl, s1, r1⟩ := rx.lst_inv
    refine .inr ⟨a, xs, rfl, .of s1, fun p np => ?_⟩
    exact q _ _ (same_new np) ⟨p, _, rfl, np, upd_same, (r1.cut lo hi).ext (Ext.same (F := F) (same_new np) T) _ _⟩
  · cases hf
    obtain ⟨a, xs, rfl, s1, r1⟩ := rx.tup_inv
    refine .inl ⟨a, xs, rfl, s1, fun z => ?_, fun z p np => ?_⟩
    · rw [r1.length] at z
      exact q _ H (Same.refl H) (by show Rp K fa F H _ (.tup _); rw [cut_all z]; exact .tup s1 r1)
    · exact q _ _ (same_new np) (.tup (.of upd_same) ((r1.cut lo hi).ext (Ext.same (F := F) (same_new np) T) _ _))
  · cases hf
    rename_i l
    obtain ⟨a, rfl, s1⟩ := rx.scr_inv
    refine .inr ⟨a, _, rfl, s1, fun p np => ?_⟩
    exact q _ _ (same_new np) ⟨p, _, rfl, np, upd_same, ((rpl_ints l).cut lo hi).ext (Ext.same (F := F) (same_new np) T) _ _⟩
  · cases hf
theorem sim_ix {a b : Expr} {da db : Den} {pos : Pos} (hp : PlainIx b) (ha : SimE fa ca W C X a da) (hb : SimE fa ca W C X b db) : SimE fa ca W C X (.Subscript a b pos) (dOp fIx da db) := by
  refine pe_le (pe_ix ix_seq ha hb hp) fun σ H Q h => ?_
  obtain ⟨G, F, ρ, S, h⟩ := h
  refine ⟨G, F, ρ, S, h.bind.mono fun x ρ1 h1 v F1 H1 S1 E1 r1 => ?_⟩
  obtain ⟨F1, S1, E1', p1⟩ := S1.frz r1
  refine ⟨G, F1, ρ1, S1, (h1.bind.later (E1.trans E1')).mono fun y ρ2 h2 u F2 H2 S2 E2 r2 => ?_⟩
  obtain ⟨F2, S2, E2', p2⟩ := S2.frz r2
  cases e : fIx x.frz y.frz with
  | none => rw [e] at h2; exact h2.elim
  | some z =>
    rw [e] at h2
    exact s_ixR e (.rp (Rp.ext (E2.trans E2') _ _ p1)) p2 fun v' H' sm n => fin_new (S2) (((E1.trans E1').trans E2).trans E2') h2 sm n
theorem sim_ixV {i : Nat} {a b : Expr} {db : Den} {pos : Pos} (hp : PlainIx b) (ha : PE X a (tVar i)) (hb : SimE fa ca W C X b db) : SimE fa ca W C X (.Subscript a b pos) (dIxV i db) := by
  refine pe_le (pe_ix ix_seq ha hb hp) fun σ H Q h => ?_
  obtain ⟨G, F, ρ, S, h⟩ := h
  unfold dIxV at h
  cases e : RX.look ρ i with
  | none => rw [e] at h; exact h.elim
  | some x0 =>
    rw [e] at h
    obtain ⟨v, hv, _⟩ := S.look e
    refine ⟨v, hv, G, F, ρ, S, h.bind.mono fun y ρ2 h2 u F2 H2 S2 E2 r2 => ?_⟩
    obtain ⟨F2, S2, E2', p2⟩ := S2.frz r2
    cases e2 : RX.look ρ2 i with
    | none => rw [e2] at h2; exact h2.elim
    | some x =>
      rw [e2] at h2
      obtain ⟨v', hv', r⟩ := S2.look e2
      rw [hv] at hv'
      cases hv'
      cases e3 : fIx x y.frz with
      | none => simp only [e3] at h2; exact h2.elim
      | some z =>
        simp only [e3] at h2
        exact s_ixR e3 r p2 fun v' H' sm n => fin_new S2 (E2.trans E2') h2 sm n
/-- a slice's part -/
def tSemP (K : PySem.W.Frag) (fa : Nat → Addr) (ca : Cc) (W : WX) (d : Option Den) (C : Calls) : TO := fun σ H Q => ∃ G F ρ, SR K fa ca G F ρ σ H ∧ RPost K fa ca G F H σ W (dPart d C ρ) fun o ρ' => ∀ F' H', SR K fa ca G F' ρ' σ H' → Ext F H F' H' → Q o H'
abbrev SimP (fa : Nat → Addr) (ca : Cc) (W : WX) (C : Calls) (X : Cx) (e : Option Expr) (d : Option Den) : Prop := PO X e (tSemP X.K fa ca W d C)
theorem po_le {X : Cx} {e : Option Expr} {t t' : TO} (h : PO X e t) (i : ∀ σ H Q, t' σ H Q → t σ H Q) : PO X e t' := ⟨fun pins s σ H Q I q => h.run pins s σ H Q I (i _ _ _ q)⟩
theorem sim_pnone : SimP fa ca W C X none none := by
  refine po_le po_none fun σ H Q h => ?_
  obtain ⟨G, F, ρ, S, h⟩ := h
  exact h F H S Ext.refl
theorem asInt_ok {x : D} {i : Int} (h : x.asInt? = some i) {v : V} (r : Rp K fa F H v x) : v = .int i := by
  cases r with
  | int j => cases h; rfl
  | _ => cases h
theorem sim_psome {e : Expr} {d : Den} (he : SimE fa ca W C X e d) : SimP fa ca W C X (some e) (some d) := by
  refine po_le (po_some he) fun σ H Q h => ?_
  obtain ⟨G, F, ρ, S, h⟩ := h
  refine ⟨G, F, ρ, S, RPost.mono (RPost.bind (x := d C ρ) h) fun x ρ1 h1 v F1 H1 S1 E1 r1 => ?_⟩
  obtain ⟨F1, S1, E1', p1⟩ := S1.frz r1
  cases e : x.frz.asInt? with
  | none => rw [e] at h1; exact h1.elim
  | some i =>
    rw [e] at h1
    exact ⟨i, asInt_ok e p1, h1 F1 H1 S1 (E1.trans E1')⟩
theorem sim_sl {a : Expr} {lo hi : Option Expr} {da : Den} {dl dh : Option Den} {p2 pos : Pos} (ha : SimE fa ca W C X a da) (hl : SimP fa ca W C X lo dl) (hh : SimP fa ca W C X hi dh)
    (pe : ∀ {t tl th}, PE X a t → PO X lo tl → PO X hi th → PE X (.Subscript a (.Slice lo hi none p2) pos) (tSl (rSlZ X.K) t tl th)) : SimE fa ca W C X (.Subscript a (.Slice lo hi none p2) pos) (dSl da dl dh) := by
  refine pe_le (pe ha hl hh) fun σ H Q h => ?_
  obtain ⟨G, F, ρ, S, h⟩ := h
  refine ⟨G, F, ρ, S, h.bind.mono fun x ρ1 h1 v F1 H1 S1 E1 r1 => ?_⟩
  obtain ⟨F1, S1, E1', p1⟩ := S1.frz r1
  refine ⟨G, F1, ρ1, S1, (h1.bind.later (E1.trans E1')).mono fun l ρ2 h2 F2 H2 S2 E2 => ?_⟩
  refine ⟨G, F2, ρ2, S2, (h2.bind.later ((E1.trans E1').trans E2)).mono fun u ρ3 h3 F3 H3 S3 E3 => ?_⟩
  cases e : fSl x.frz l u with
  | none => rw [e] at h3; exact h3.elim
  | some z =>
    rw [e] at h3
    exact s_slR e S3.trk (.rp (Rp.ext (E2.trans E3) _ _ p1)) fun v' H' sm n => fin_new S3 (((E1.trans E1').trans E2).trans E3) h3 sm n
theorem sim_slV {i : Nat} {a : Expr} {lo hi : Option Expr} {dl dh : Option Den} {p2 pos : Pos} (ha : PE X a (tVar i)) (hl : SimP fa ca W C X lo dl) (hh : SimP fa ca W C X hi dh)
    (pe : ∀ {t tl th}, PE X a t → PO X lo tl → PO X hi th → PE X (.Subscript a (.Slice lo hi none p2) pos) (tSl (rSlZ X.K) t tl th)) : SimE fa ca W C X (.Subscript a (.Slice lo hi none p2) pos) (dSlV i dl dh) := by
  refine pe_le (pe ha hl hh) fun σ H Q h => ?_
  obtain ⟨G, F, ρ, S, h⟩ := h
  unfold dSlV at h
  cases e : RX.look ρ i with
  | none => rw [e] at h; exact h.elim
  | some x0 =>
    rw [e] at h
    obtain ⟨v, hv, _⟩ := S.look e
    refine ⟨v, hv, G, F, ρ, S, h.bind.mono fun l ρ2 h2 F2 H2 S2 E2 => ?_⟩
    refine ⟨G, F2, ρ2, S2, (h2.bind.later E2).mono fun u ρ3 h3 F3 H3 S3 E3 => ?_⟩
    cases e2 : RX.look ρ3 i with
    | none => rw [e2] at h3; exact h3.elim
    | some x =>
      rw [e2] at h3
      obtain ⟨v', hv', r⟩ := S3.look e2
      rw [hv] at hv'
      cases hv'
      cases e3 : fSl x l u with
      | none => simp only [e3] at h3; exact h3.elim
      | some z =>
        simp only [e3] at h3
        exact s_slR e3 S3.trk r fun v' H' sm n => fin_new S3 (E2.trans E3) h3 sm n
/-! ### built-ins -/
def BfS (K : PySem.W.Frag) (fa : Nat → Addr) (f : Bf) (r : List V → Hp → VK → Prop) : Prop := ∀ (xs : List D) (e : Ex), f xs = some e → ∀ (F : Addr → Prop) (H : Hp) (vs : List V) (Q : VK), Trk F H → RdL K fa F H vs xs →
  (∀ v' H', Same H H' → NewR K fa F H H' e v' → Q v' H') → r vs H Q
theorem sim_b {e : Expr} {es : List Expr} {ds : List Den} {f : Bf} {r : List V → Hp → VK → Prop} (hs : BfS X.K fa f r) (ha : SimA fa ca W C X es ds) (pe : ∀ {t}, PA X es t → PE X e (tCB r t)) : SimE fa ca W C X e (dB f ds) := by
  refine pe_le (pe ha) fun σ H Q h => ?_
  obtain ⟨G, F, ρ, S, h⟩ := h
  refine ⟨G, F, ρ, S, h.bind.mono fun xs ρ1 h1 vs F1 H1 S1 E1 r1 => ?_⟩
  cases e : f xs with
  | none => rw [e] at h1; exact h1.elim
  | some z =>
    rw [e] at h1
    exact hs _ _ e F1 H1 vs Q S1.trk r1.rd fun v' H' sm n => fin_new S1 E1 h1 sm n
theorem sim_b1 {e a : Expr} {i : Nat} {f : Bf} {r : List V → Hp → VK → Prop} (hs : BfS X.K fa f r) (ha : PE X a (tVar i)) (st : starEach [a] X.env = (false, eval a X.env) :: starEach [] X.env) (pe : ∀ {t}, PA X [a] t → PE X e (tCB r t)) : SimE fa ca W C X e (dB1 f i) := by
  refine pe_le (pe (pa_cons ha pa_nil st)) fun σ H Q h => ?_
  obtain ⟨G, F, ρ, S, h⟩ := h
  unfold dB1 at h
  cases e : RX.look ρ i with
  | none => rw [e] at h; exact h.elim
  | some x =>
    rw [e] at h
    obtain ⟨v, hv, r⟩ := S.look e
    cases e1 : f [x] with
    | none => simp only [e1] at h; exact h.elim
    | some z =>
      simp only [e1] at h
      exact ⟨v, hv, hs _ _ e1 F H [v] Q S.trk (.cons r .nil) fun v' H' sm n => fin_new S Ext.refl h sm n⟩
/-! ### pop -/
theorem tyV_lst {a : Addr} {xs : List V} (h : H a = some (.lst xs)) : tyV K "list" (.ref a) H := .inl ⟨rfl, _, .inl (.inl h)⟩
theorem sim_pop {i : Nat} {a : Expr} {apos cpos : Pos} (ha : PE X a (tVar i)) (pe : ∀ {t}, PE X a t → PE X (.Call (.Attribute a "pop" apos) [] [] cpos) (tBM0 X.K "list" rPop t)) : SimE fa ca W C X (.Call (.Attribute a "pop" apos) [] [] cpos) (dPop i) := by
  refine pe_le (pe ha) fun σ H Q h => ?_
  obtain ⟨G, F, ρ, S, h⟩ := h
  have go : ∀ {s : Sl} {l : List D} {mk : List D → Sl}, Mine s l mk → ρ[i]? = some s → (match l[l.length - 1]? with
      | some d => RPost X.K fa ca G F H σ W (.ok (.d d) (ρ.set i (mk l.dropLast))) fun r ρ' => ∀ v F' H', SR X.K fa ca G F' ρ' σ H' → Ext F H F' H' → RpEx X.K fa G F' ρ' σ H' r v → Q v H'
      | none => False) → tBM0 X.K "list" rPop (tVar i) σ H Q := fun {s l mk} M e q => by
    obtain ⟨a, xs, e1, e2, nf, r⟩ := S.mine M e
    cases e3 : l[l.length - 1]? with
    | none => rw [e3] at q; exact q.elim
    | some d =>
      rw [e3] at q
      obtain ⟨v, h1, h2⟩ := r.get e3
      obtain ⟨S1, E1⟩ := S.write M e e1 r.dropLast
      exact ⟨_, e1, tyV_lst e2, a, xs, v, rfl, rfl, e2, by rw [r.length]; exact h1, q v F _ S1 E1 (Rp.ext E1 _ _ h2)⟩
  unfold dPop at h
  cases e : ρ[i]? with
  | none => rw [e] at h; exact h.elim
  | some s =>
    rw [e] at h
    cases s with
    | own l => exact go (.own l) e (by cases e3 : l[l.length - 1]? <;> simp only [e3] at h ⊢ <;> exact h)
    | par l => exact go (.par l) e (by cases e3 : l[l.length - 1]? <;> simp only [e3] at h ⊢ <;> exact h)
    | _ => exact h.elim
theorem seqIx_eq (k : Int) (n : Nat) : RX.ixN n k = seqIndex? k n := by
  unfold RX.ixN seqIndex?
  by_cases h : 0 ≤ k
  · rw [if_pos h]
    simp only [show ¬ k < 0 by omega, if_false, Bool.and_eq_true, decide_eq_true_eq]
    by_cases h2 : k < n
    · rw [if_pos h2, if_pos ⟨h, h2⟩]
    · rw [if_neg h2, if_neg fun z => h2 z.2]
  · rw [if_neg h]
    simp only [show k < 0 by omega, if_true, Bool.and_eq_true, decide_eq_true_eq]
    by_cases h2 : -(n : Int) ≤ k
    · rw [if_pos h2, if_pos ⟨by omega, by omega⟩]
    · rw [if_neg h2, if_neg fun z => h2 (by omega)]
theorem isOwn_mine {s : Option Sl} (h : isOwn s = true) : ∃ t l mk, s = some t ∧ Mine t l mk := by
  cases s with
  | none => cases h
  | some t =>
    cases t with
    | own l => exact ⟨_, l, _, rfl, .own l⟩
    | par l => exact ⟨_, l, _, rfl, .par l⟩
    | _ => cases h
theorem sim_popAt {i : Nat} {a e : Expr} {d : Den} {apos cpos : Pos} (ha : PE X a (tVar i)) (he : SimE fa ca W C X e d) (st : starEach [e] X.env = (false, eval e X.env) :: starEach [] X.env)
    (pe : ∀ {t u}, PE X a t → PA X [e] u → PE X (.Call (.Attribute a "pop" apos) [e] [] cpos) (tBM X.K "list" rPopAt t u)) : SimE fa ca W C X (.Call (.Attribute a "pop" apos) [e] [] cpos) (dPopAt i d) := by
  refine pe_le (pe ha (pa_cons he pa_nil st)) fun σ H Q h => ?_
  obtain ⟨G, F, ρ, S, h⟩ := h
  unfold dPopAt at h
  cases e0 : isOwn ρ[i]? with
  | false => rw [e0] at h; exact h.elim
  | true =>
    rw [e0] at h
    obtain ⟨t, l, mk, et, M⟩ := isOwn_mine e0
    obtain ⟨a0, xs0, ea, eH, _, _⟩ := S.mine M et
    refine ⟨.ref a0, ea, tyV_lst eH, G, F, ρ, S, (RPost.bind (x := d C ρ) h).mono fun y ρ1 h1 v F1 H1 S1 E1 r1 => ?_⟩
    obtain ⟨F1, S1, E1', p1⟩ := S1.frz r1
    cases e1 : y.frz.asInt? with
    | none => rw [e1] at h1; exact h1.elim
    | some k =>
      simp only [e1] at h1
      cases asInt_ok e1 p1
      have go : ∀ {s : Sl} {l : List D} {mk : List D → Sl}, Mine s l mk → ρ1[i]? = some s → (match popAt l k with
          | some (d, m) => RPost X.K fa ca G F H σ W (.ok (.d d) (ρ1.set i (mk m))) fun r ρ' => ∀ v F' H', SR X.K fa ca G F' ρ' σ H' → Ext F H F' H' → RpEx X.K fa G F' ρ' σ H' r v → Q v H'
          | none => False) → rPopAt (.ref a0) [.int k] H1 Q := fun {s l mk} M e q => by
        obtain ⟨a, xs, e1, e2, nf, r⟩ := S1.mine M e
        rw [ea] at e1
        cases e1
        cases e3 : popAt l k with
        | none => rw [e3] at q; exact q.elim
        | some p =>
          obtain ⟨d, m⟩ := p
          rw [e3] at q
          unfold popAt at e3
          split at e3
          · rename_i hk
            cases e4 : RX.ixN l.length k with
            | none => rw [e4] at e3; cases e3
            | some j =>
              rw [e4] at e3
              have e5 : (l[j]?).map (fun d => (d, l.eraseIdx j)) = some (d, m) := e3
              cases e6 : l[j]? with
              | none => rw [e6] at e5; cases e5
              | some d' =>
                rw [e6] at e5
                cases e5
                obtain ⟨v, h1, h2⟩ := r.get e6
                obtain ⟨S2, E2⟩ := S1.write M e ea (r.eraseIdx j)
                refine ⟨a0, xs, k, j, v, rfl, rfl, e2, by have := hk.1; omega, by have := hk.2; omega, by rw [r.length, ← seqIx_eq]; exact e4, h1, ?_⟩
                exact q v F1 _ S2 ((E1.trans E1').trans E2) (Rp.ext E2 _ _ h2)
          · cases e3
      cases e : ρ1[i]? with
      | none => rw [e] at h1; exact h1.elim
      | some s =>
        rw [e] at h1
        cases s with
        | own l => exact go (.own l) e (by cases e3 : popAt l k <;> simp only [e3] at h1 ⊢ <;> exact h1)
        | par l => exact go (.par l) e (by cases e3 : popAt l k <;> simp only [e3] at h1 ⊢ <;> exact h1)
        | _ => exact h1.elim
/-! ### a caught exception's field -/
theorem sim_fld {i : Nat} {a : Addr} {oe : Obj} {cls : Value} {d : Option Addr} {pn : List (Addr × Obj)} {e : Expr} {f : Str} {pos : Pos} (hx : ca.ex = some (i, a, cls, d)) (hc : ∀ c, cls = .ref (ca.ca c) → XfC X.K (ca.ca c) ∧ PySem.W.findIn X.K (.ref (ca.ca c)) f = some none)
    (hz : Zc cls d oe) (hf : ∃ vs, oe.data = .fields vs) (he : PE (X.suite a ((a, oe) :: pn)) e (tVar i)) (hb : attributeBase e f X.env (eval e X.env) = eval e X.env) :
    SimE fa ca W C (X.suite a ((a, oe) :: pn)) (.Attribute e f pos) (dFld i f) := by
  refine ⟨fun pins s σ H Q I h => ?_⟩
  obtain ⟨G, F, ρ, S, h⟩ := h
  unfold dFld at h
  cases e1 : ρ[i]? with
  | none => rw [e1] at h; exact h.elim
  | some s1 =>
    rw [e1] at h
    have q := S.sl i s1 e1
    generalize eo : σ[i]? = o at q
    cases q with
    | exn h1 h2 =>
      rename_i a' c fs cls' d'
      rw [hx] at h1
      cases h1
      obtain ⟨h3, dd, gs, h4, h5, h6⟩ := h2
      cases e2 : fs.lookup f with
      | none => simp only [e2] at h; exact h.elim
      | some x =>
        simp only [e2] at h
        obtain ⟨v, h7, h8⟩ := h6 f x e2
        obtain ⟨T, hno⟩ := hc c h3
        exact (pe_xf T hno hz hf he hb).run pins s σ H Q I ⟨_, eo, rfl, h3, dd, gs, v, h4, h5, h7, h v F H S Ext.refl h8⟩
    | _ => exact h.elim
end
end RX
set_option Elab.async false
set_option linter.all false
set_option maxRecDepth 100000
set_option maxHeartbeats 4000000
/-! RXg: calls of defs. -/
namespace RX
open PySem PySem.Spec PyProof.Rows L2
section
variable (K : PySem.W.Frag) (fa : Nat → Addr)
/-- the arguments as they are handed on -/
inductive ArgL (F : Addr → Prop) (H : Hp) : List V → List Arg → Prop
  | nil : ArgL F H [] []
  | d {v : V} {x : D} {vs : List V} {as : List Arg} : Rp K fa F H v x → ArgL F H vs as → ArgL F H (v :: vs) (.d x :: as)
  | own {a : Addr} {xs : List V} {l : List D} {vs : List V} {as : List Arg} : H a = some (.lst xs) → ¬ F a → RpL K fa F H xs l → ArgL F H vs as → ArgL F H (.ref a :: vs) (.own l :: as)
  | gh {xs : List V} {l : List D} {vs : List V} {as : List Arg} : H (fa GI) = some (.lst xs) → ¬ F (fa GI) → RpL K fa F H xs l → ArgL F H vs as → ArgL F H (.ref (fa GI) :: vs) (.gh l :: as)
/-- the lists as they come back -/
inductive OutL (F : Addr → Prop) (H : Hp) : List V → List Arg → List (List D) → Prop
  | nil : OutL F H [] [] []
  | d {v : V} {x : D} {vs : List V} {as : List Arg} {os : List (List D)} : OutL F H vs as os → OutL F H (v :: vs) (.d x :: as) os
  | own {a : Addr} {xs : List V} {l m : List D} {vs : List V} {as : List Arg} {os : List (List D)} : H a = some (.lst xs) → ¬ F a → RpL K fa F H xs m → OutL F H vs as os → OutL F H (.ref a :: vs) (.own l :: as) (m :: os)
  | gh {xs : List V} {l m : List D} {vs : List V} {as : List Arg} {os : List (List D)} : H (fa GI) = some (.lst xs) → ¬ F (fa GI) → RpL K fa F H xs m → OutL F H vs as os → OutL F H (.ref (fa GI) :: vs) (.gh l :: as) (m :: os)
end
/-- where the lists stand that are handed on to be changed -/
def oA : List V → List Arg → List Addr
  | .ref a :: vs, .own _ :: as => a :: oA vs as
  | .ref a :: vs, .gh _ :: as => a :: oA vs as
  | _ :: vs, _ :: as => oA vs as
  | _, _ => []
structure CPost0 (F : Addr → Prop) (H : Hp) (F' : Addr → Prop) (H' : Hp) (vs : List V) (as : List Arg) : Prop where
  up : ∀ a, F a → F' a
  new : ∀ a, F' a → F a ∨ H a = none
  trk : Trk F' H'
  fr : ∀ a o, H a = some o → a ∉ oA vs as → H' a = some o
structure CPost (K : PySem.W.Frag) (fa : Nat → Addr) (F : Addr → Prop) (H : Hp) (F' : Addr → Prop) (H' : Hp) (vs : List V) (as : List Arg) (os : List (List D)) (r : Ex) (v : V) : Prop extends CPost0 F H F' H' vs as where
  out : OutL K fa F' H' vs as os
  res : match r with
    | .d x => Rp K fa F' H' v x
    | .fresh l => ∃ b xs, v = .ref b ∧ H b = none ∧ ¬ F' b ∧ H' b = some (.lst xs) ∧ RpL K fa F' H' xs l
    | .dkn l g => ∃ a b xs ys, v = .ref a ∧ a ≠ b ∧ (H a = none ∧ H b = none) ∧ (¬ F' a ∧ ¬ F' b) ∧ (H' a = some (.lst xs) ∧ RpL K (fun n => if n = GI then b else fa n) F' H' xs l) ∧ H' b = some (.lst ys) ∧ RpL K fa F' H' ys g
/-- what the def k keeps: what the evaluator says of it -/
def spC0 (K : PySem.W.Frag) (fa : Nat → Addr) (ca : Cc) (C : Calls) (k ng : Nat) : Sp := fun vs H Q E => ∃ (F : Addr → Prop) (as : List Arg), Trk F H ∧ ArgL K fa F H vs as ∧ (oA vs as).Nodup ∧ ngh as = ng ∧ match C k as with
  | .ok r os => ∀ v F' H', CPost K fa F H F' H' vs as os r v → Q v H'
  | .exc c fs => ∀ F' H' cls d, CPost0 F H F' H' vs as → ExnR K fa ca F' H' c fs cls d → E cls d H'
  | .dk l g os => ∀ v F' H', CPost K fa F H F' H' vs as os (.dkn l g) v → Q v H'
  | .stuck => False
/-- .. with what has no value of its own in the text -/
def spC (K : PySem.W.Frag) (fa : Nat → Addr) (ca : Cc) (C : Calls) (k : Nat) : Sp := fun vs H Q E => ∃ gs, spC0 K fa ca C k gs.length (vs ++ gs) H Q E
section
variable {K : PySem.W.Frag} {fa : Nat → Addr} {ca : Cc} {W : WX} {C : Calls} {X : Cx} {G : Gh} {F F' : Addr → Prop} {H H' : Hp} {σ : L2.St} {ρ ρ' : Env}
theorem ArgL.length : ∀ {vs : List V} {as : List Arg}, ArgL K fa F H vs as → vs.length = as.length
  | _, _, .nil => rfl
  | _, _, .d _ t => congrArg (· + 1) t.length
  | _, _, .own _ _ _ t => congrArg (· + 1) t.length
  | _, _, .gh _ _ _ t => congrArg (· + 1) t.length
/-! ### a caller's arguments -/
inductive AvL (K : PySem.W.Frag) (fa : Nat → Addr) (F : Addr → Prop) (H : Hp) (σ : L2.St) : List V → List AV → Prop
  | nil : AvL K fa F H σ [] []
  | d {v : V} {x : D} {vs : List V} {as : List AV} : Rp K fa F H v x → AvL K fa F H σ vs as → AvL K fa F H σ (v :: vs) (.d x :: as)
  | own {v : V} {i : Nat} {vs : List V} {as : List AV} : σ[i]? = some (some v) → AvL K fa F H σ vs as → AvL K fa F H σ (v :: vs) (.own i :: as)
  | gh {v : V} {i : Nat} {vs : List V} {as : List AV} : σ[i]? = some (some v) → AvL K fa F H σ vs as → AvL K fa F H σ (v :: vs) (.gh i :: as)
theorem AvL.ext (e : Ext F H F' H') : ∀ {vs : List V} {as : List AV}, AvL K fa F H σ vs as → AvL K fa F' H' σ vs as
  | _, _, .nil => .nil
  | _, _, .d r t => .d (Rp.ext e _ _ r) (t.ext e)
  | _, _, .own h t => .own h (t.ext e)
  | _, _, .gh h t => .gh h (t.ext e)
theorem AvL.length : ∀ {vs : List V} {as : List AV}, AvL K fa F H σ vs as → vs.length = as.length
  | _, _, .nil => rfl
  | _, _, .d _ t => congrArg (· + 1) t.length
  | _, _, .own _ t => congrArg (· + 1) t.length
  | _, _, .gh _ t => congrArg (· + 1) t.length
def tSemV (K : PySem.W.Frag) (fa : Nat → Addr) (ca : Cc) (W : WX) (as : List AD) (C : Calls) : TA := fun σ H Q => ∃ G F ρ, SR K fa ca G F ρ σ H ∧ RPost K fa ca G F H σ W (argsE as C ρ) fun xs ρ' => ∀ vs F' H', SR K fa ca G F' ρ' σ H' → Ext F H F' H' → AvL K fa F' H' σ vs xs → Q vs H'
abbrev SimV (fa : Nat → Addr) (ca : Cc) (W : WX) (C : Calls) (X : Cx) (es : List Expr) (as : List AD) : Prop := PA X es (tSemV X.K fa ca W as C)
theorem sim_vnil : SimV fa ca W C X [] [] := by
  refine pa_le pa_nil fun σ H Q h => ?_
  obtain ⟨G, F, ρ, S, h⟩ := h
  exact h [] F H S Ext.refl .nil
theorem sim_ve {e : Expr} {es : List Expr} {d : Den} {as : List AD} (he : SimE fa ca W C X e d) (hr : SimV fa ca W C X es as) (hs : starEach (e :: es) X.env = (false, eval e X.env) :: starEach es X.env) : SimV fa ca W C X (e :: es) (.e d :: as) := by
  refine pa_le (pa_cons he hr hs) fun σ H Q h => ?_
  obtain ⟨G, F, ρ, S, h⟩ := h
  refine ⟨G, F, ρ, S, (RPost.bind (x := d C ρ) h).mono fun x ρ1 h1 v F1 H1 S1 E1 r1 => ?_⟩
  obtain ⟨F1, S1, E1', p1⟩ := S1.frz r1
  refine ⟨G, F1, ρ1, S1, (h1.bind.later (E1.trans E1')).mono fun xs ρ2 h2 vs F2 H2 S2 E2 r2 => ?_⟩
  exact h2 _ F2 H2 S2 ((E1.trans E1').trans E2) (.d (Rp.ext E2 _ _ p1) r2)
theorem sim_vv {e : Expr} {es : List Expr} {i : Nat} {as : List AD} (he : PE X e (tVar i)) (hr : SimV fa ca W C X es as) (hs : starEach (e :: es) X.env = (false, eval e X.env) :: starEach es X.env) : SimV fa ca W C X (e :: es) (.v i :: as) := by
  have hv : SimE fa ca W C X e (dVar i) := sim_var he
  refine ⟨fun pos pins s σ H Q I h => ?_⟩
  obtain ⟨G, F, ρ, S, h⟩ := h
  by_cases e0 : isOwn ρ[i]? = true
  · refine (pa_cons he hr hs).run pos pins s σ H Q I ?_
    have h' : RPost X.K fa ca G F H σ W ((argsE as C ρ).bind fun xs ρ2 => .ok (.own i :: xs) ρ2) fun xs ρ' => ∀ vs F' H', SR X.K fa ca G F' ρ' σ H' → Ext F H F' H' → AvL X.K fa F' H' σ vs xs → Q vs H' := by
      have h2 : RPost X.K fa ca G F H σ W (if isOwn ρ[i]? = true then (argsE as C ρ).bind fun xs ρ2 => .ok (.own i :: xs) ρ2 else (dVar i C ρ).bind fun x ρ1 => (argsE as C ρ1).bind fun xs ρ2 => .ok (.d x.frz :: xs) ρ2) _ := h
      rw [if_pos e0] at h2
      exact h2
    obtain ⟨t, l, mk, et, M⟩ := isOwn_mine e0
    obtain ⟨a, xs, ea, _⟩ := S.mine M et
    exact ⟨_, ea, G, F, ρ, S, h'.bind.mono fun xs ρ2 h2 vs F2 H2 S2 E2 r2 => h2 _ F2 H2 S2 E2 (.own ea r2)⟩
  · refine (pa_cons hv hr hs).run pos pins s σ H Q I ?_
    have h' : RPost X.K fa ca G F H σ W ((dVar i C ρ).bind fun x ρ1 => (argsE as C ρ1).bind fun xs ρ2 => .ok (.d x.frz :: xs) ρ2) fun xs ρ' => ∀ vs F' H', SR X.K fa ca G F' ρ' σ H' → Ext F H F' H' → AvL X.K fa F' H' σ vs xs → Q vs H' := by
      have h2 : RPost X.K fa ca G F H σ W (if isOwn ρ[i]? = true then (argsE as C ρ).bind fun xs ρ2 => .ok (.own i :: xs) ρ2 else (dVar i C ρ).bind fun x ρ1 => (argsE as C ρ1).bind fun xs ρ2 => .ok (.d x.frz :: xs) ρ2) _ := h
      rw [if_neg e0] at h2
      exact h2
    refine ⟨G, F, ρ, S, h'.bind.mono fun x ρ1 h1 v F1 H1 S1 E1 r1 => ?_⟩
    obtain ⟨F1, S1, E1', p1⟩ := S1.frz r1
    refine ⟨G, F1, ρ1, S1, (h1.bind.later (E1.trans E1')).mono fun xs ρ2 h2 vs F2 H2 S2 E2 r2 => ?_⟩
    exact h2 _ F2 H2 S2 ((E1.trans E1').trans E2) (.d (Rp.ext E2 _ _ p1) r2)
/-! ### the call itself -/
theorem argOf_own {i : Nat} {x : Arg} (h : argOf ρ (.own i) = some x) : ∃ s l mk, ρ[i]? = some s ∧ Mine s l mk ∧ x = .own l := by
  have h' : (match ρ[i]? with
    | some (.own l) => some (Arg.own l)
    | some (.par l) => some (Arg.own l)
    | _ => none) = some x := h
  cases e : ρ[i]? with
  | none => rw [e] at h'; cases h'
  | some s =>
    rw [e] at h'
    cases s with
    | own l => cases h'; exact ⟨_, l, _, rfl, .own l, rfl⟩
    | par l => cases h'; exact ⟨_, l, _, rfl, .par l, rfl⟩
    | _ => cases h'
theorem argOf_gh {i : Nat} {x : Arg} (h : argOf ρ (.gh i) = some x) : ∃ l, ρ[i]? = some (.gh l) ∧ x = .gh l := by
  have h' : (match ρ[i]? with
    | some (.gh l) => some (Arg.gh l)
    | _ => none) = some x := h
  cases e : ρ[i]? with
  | none => rw [e] at h'; cases h'
  | some s =>
    rw [e] at h'
    cases s with
    | gh l => cases h'; exact ⟨_, rfl, rfl⟩
    | _ => cases h'
theorem argsOf_cons {a : AV} {r : List AV} {xs : List Arg} (h : argsOf ρ (a :: r) = some xs) : ∃ x ys, argOf ρ a = some x ∧ argsOf ρ r = some ys ∧ xs = x :: ys := by
  have h' : ((argOf ρ a).bind fun x => (argsOf ρ r).map fun xs => x :: xs) = some xs := h
  cases e : argOf ρ a with
  | none => rw [e] at h'; cases h'
  | some x =>
    rw [e] at h'
    have h2 : ((argsOf ρ r).map fun xs => x :: xs) = some xs := h'
    cases q : argsOf ρ r with
    | none => rw [q] at h2; cases h2
    | some ys => rw [q] at h2; cases h2; exact ⟨x, ys, rfl, rfl, rfl⟩
theorem Mine.ownA {s : Sl} {l : List D} {mk : List D → Sl} {i : Nat} {a : Addr} (M : Mine s l mk) (e : ρ[i]? = some s) (ea : σ[i]? = some (some (.ref a))) : OwnA ρ σ i a := by
  cases M with
  | own l => exact ⟨.inl ⟨_, e⟩, ea⟩
  | par l => exact ⟨.inr ⟨_, .inl e⟩, ea⟩
  | gh l => exact ⟨.inr ⟨_, .inr e⟩, ea⟩
theorem av_args (S : SR K fa ca G F ρ σ H) {vs : List V} {as : List AV} (A : AvL K fa F H σ vs as) : ∀ {xs : List Arg}, argsOf ρ as = some xs → ArgL K fa F H vs xs := by
  induction A with
  | nil => intro xs e; cases e; exact .nil
  | d r t ih =>
    intro xs e
    obtain ⟨x, ys, e1, e2, rfl⟩ := argsOf_cons e
    cases e1
    exact .d r (ih e2)
  | own h t ih =>
    intro xs e
    obtain ⟨x, ys, e1, e2, rfl⟩ := argsOf_cons e
    obtain ⟨s, l, mk, es, M, rfl⟩ := argOf_own e1
    obtain ⟨a, zs, q1, q2, nf, r⟩ := S.mine M es
    rw [h] at q1
    cases q1
    exact .own q2 nf r (ih e2)
  | gh h t ih =>
    intro xs e
    obtain ⟨x, ys, e1, e2, rfl⟩ := argsOf_cons e
    obtain ⟨l, es, rfl⟩ := argOf_gh e1
    have q := S.sl _ _ es
    rw [h] at q
    cases q with
    | gh h1 h2 h3 h4 => exact .gh h1 h2 h3 (ih e2)
theorem av_own (S : SR K fa ca G F ρ σ H) {vs : List V} {as : List AV} (A : AvL K fa F H σ vs as) : ∀ {xs : List Arg} {a : Addr}, argsOf ρ as = some xs → a ∈ oA vs xs → ∃ i ∈ owns as, OwnA ρ σ i a := by
  induction A with
  | nil => intro xs a e h; cases e; cases h
  | @d v x vs as r t ih =>
    intro xs a e h
    obtain ⟨x, ys, e1, e2, rfl⟩ := argsOf_cons e
    cases e1
    exact ih e2 (by cases v <;> exact h)
  | @own v i vs as hv t ih =>
    intro xs a e h
    obtain ⟨x, ys, e1, e2, rfl⟩ := argsOf_cons e
    obtain ⟨s, l, mk, es, M, rfl⟩ := argOf_own e1
    obtain ⟨b, zs, q1, _, _, _⟩ := S.mine M es
    rw [hv] at q1
    cases q1
    have h2 : a ∈ b :: oA vs ys := h
    rcases List.mem_cons.mp h2 with h3 | h3
    · subst h3
      exact ⟨i, List.mem_cons_self, M.ownA es hv⟩
    · obtain ⟨j, hj, o⟩ := ih e2 h3
      exact ⟨j, List.mem_cons_of_mem _ hj, o⟩
  | @gh v i vs as hv t ih =>
    intro xs a e h
    obtain ⟨x, ys, e1, e2, rfl⟩ := argsOf_cons e
    obtain ⟨l, es, rfl⟩ := argOf_gh e1
    obtain ⟨b, zs, q1, _, _, _⟩ := S.mine (.gh l) es
    rw [hv] at q1
    cases q1
    have h2 : a ∈ b :: oA vs ys := h
    rcases List.mem_cons.mp h2 with h3 | h3
    · subst h3
      exact ⟨i, List.mem_cons_self, (Mine.gh l).ownA es hv⟩
    · obtain ⟨j, hj, o⟩ := ih e2 h3
      exact ⟨j, List.mem_cons_of_mem _ hj, o⟩
theorem av_nodup (S : SR K fa ca G F ρ σ H) {vs : List V} {as : List AV} (A : AvL K fa F H σ vs as) : ∀ {xs : List Arg}, argsOf ρ as = some xs → nodupN (owns as) = true → (oA vs xs).Nodup := by
  induction A with
  | nil => intro xs e _; cases e; exact List.nodup_nil
  | @d v x vs as r t ih =>
    intro xs e n
    obtain ⟨x, ys, e1, e2, rfl⟩ := argsOf_cons e
    cases e1
    have h := ih e2 n
    cases v <;> exact h
  | @own v i vs as hv t ih =>
    intro xs e n
    have n' : (!(owns as).contains i && nodupN (owns as)) = true := n
    rw [Bool.and_eq_true] at n'
    obtain ⟨x, ys, e1, e2, rfl⟩ := argsOf_cons e
    obtain ⟨s, l, mk, es, M, rfl⟩ := argOf_own e1
    obtain ⟨b, zs, q1, _, _, _⟩ := S.mine M es
    rw [hv] at q1
    cases q1
    show (b :: oA vs ys).Nodup
    refine List.nodup_cons.mpr ⟨fun hb => ?_, ih e2 n'.2⟩
    obtain ⟨j, hj, o⟩ := av_own S t e2 hb
    have := S.dis _ _ _ (M.ownA es hv) o
    subst this
    have n1 := n'.1
    rw [Bool.not_eq_true'] at n1
    rw [List.contains_iff_mem.mpr hj] at n1
    cases n1
  | @gh v i vs as hv t ih =>
    intro xs e n
    have n' : (!(owns as).contains i && nodupN (owns as)) = true := n
    rw [Bool.and_eq_true] at n'
    obtain ⟨x, ys, e1, e2, rfl⟩ := argsOf_cons e
    obtain ⟨l, es, rfl⟩ := argOf_gh e1
    obtain ⟨b, zs, q1, _, _, _⟩ := S.mine (.gh l) es
    rw [hv] at q1
    cases q1
    show (b :: oA vs ys).Nodup
    refine List.nodup_cons.mpr ⟨fun hb => ?_, ih e2 n'.2⟩
    obtain ⟨j, hj, o⟩ := av_own S t e2 hb
    have := S.dis _ _ _ ((Mine.gh l).ownA es hv) o
    subst this
    have n1 := n'.1
    rw [Bool.not_eq_true'] at n1
    rw [List.contains_iff_mem.mpr hj] at n1
    cases n1
/-- a slot's list came back -/
inductive Bk : Option Sl → List D → Option Sl → Prop
  | own (l m : List D) : Bk (some (.own l)) m (some (.own m))
  | par (l m : List D) : Bk (some (.par l)) m (some (.par m))
  | gh (l m : List D) : Bk (some (.gh l)) m (some (.gh m))
theorem back_get : ∀ {is : List Nat} {ls : List (List D)} {ρ ρ' : Env}, backTo ρ is ls = some ρ' → nodupN is = true →
    ρ'.length = ρ.length ∧ (∀ j, j ∉ is → ρ'[j]? = ρ[j]?) ∧ ∀ j, j ∈ is → ∃ (k : Nat) (l : List D), is[k]? = some j ∧ ls[k]? = some l ∧ Bk ρ[j]? l ρ'[j]?
  | [], [], ρ, ρ', e, _ => by cases e; exact ⟨rfl, fun _ _ => rfl, fun _ h => nomatch h⟩
  | [], _ :: _, _, _, e, _ => by cases e
  | _ :: _, [], _, _, e, _ => by cases e
  | i :: is, l :: ls, ρ, ρ', e, n => by
    have n' : (!is.contains i && nodupN is) = true := n
    rw [Bool.and_eq_true] at n'
    have ni : i ∉ is := fun h => by
      have n1 := n'.1
      rw [List.contains_iff_mem.mpr h] at n1
      cases n1
    have go : ∀ {s : Sl}, i < ρ.length → Bk ρ[i]? l (some s) → backTo (ρ.set i s) is ls = some ρ' → ρ'.length = ρ.length ∧ (∀ j, j ∉ i :: is → ρ'[j]? = ρ[j]?) ∧ ∀ j, j ∈ i :: is → ∃ (k : Nat) (m : List D), (i :: is)[k]? = some j ∧ (l :: ls)[k]? = some m ∧ Bk ρ[j]? m ρ'[j]? := fun {s} hi b q => by
      obtain ⟨h1, h2, h3⟩ := back_get q n'.2
      refine ⟨by rw [h1, List.length_set], fun j hj => ?_, fun j hj => ?_⟩
      · rw [h2 j fun z => hj (List.mem_cons_of_mem _ z), List.getElem?_set_ne (fun z => hj (by rw [z]; exact List.mem_cons_self) : i ≠ j)]
      · by_cases z : i = j
        · subst z
          refine ⟨0, l, rfl, rfl, ?_⟩
          rw [h2 i ni, List.getElem?_set_self hi]
          exact b
        · rcases List.mem_cons.mp hj with y | y
          · exact absurd y.symm z
          · obtain ⟨k, m, k1, k2, k3⟩ := h3 j y
            rw [List.getElem?_set_ne z] at k3
            exact ⟨k + 1, m, by simpa using k1, by simpa using k2, k3⟩
    have e' : (match ρ[i]? with
      | some (.own _) => backTo (ρ.set i (.own l)) is ls
      | some (.par _) => backTo (ρ.set i (.par l)) is ls
      | some (.gh _) => backTo (ρ.set i (.gh l)) is ls
      | _ => none) = some ρ' := e
    cases es : ρ[i]? with
    | none => rw [es] at e'; cases e'
    | some s =>
      have hi := (List.getElem?_eq_some_iff.mp es).1
      rw [es] at e'
      cases s with
      | own m => exact go hi (by rw [es]; exact .own m l) e'
      | par m => exact go hi (by rw [es]; exact .par m l) e'
      | gh m => exact go hi (by rw [es]; exact .gh m l) e'
      | _ => cases e'
theorem out_get (S : SR K fa ca G F ρ σ H) {F' : Addr → Prop} {H' : Hp} {vs : List V} {as : List AV} (A : AvL K fa F H σ vs as) : ∀ {xs : List Arg} {os : List (List D)}, argsOf ρ as = some xs → OutL K fa F' H' vs xs os →
    ∀ (k : Nat) (i : Nat) (l : List D), (owns as)[k]? = some i → os[k]? = some l → ∃ a zs, σ[i]? = some (some (.ref a)) ∧ H' a = some (.lst zs) ∧ ¬ F' a ∧ RpL K fa F' H' zs l := by
  induction A with
  | nil => intro xs os e _ k i l h _; cases k <;> cases h
  | d r t ih =>
    intro xs os e o k i l h1 h2
    obtain ⟨x, ys, e1, e2, rfl⟩ := argsOf_cons e
    cases e1
    cases o with
    | d o => exact ih e2 o k i l h1 h2
  | own hv t ih =>
    intro xs os e o k i l h1 h2
    obtain ⟨x, ys, e1, e2, rfl⟩ := argsOf_cons e
    obtain ⟨s, l0, mk, es, M, rfl⟩ := argOf_own e1
    cases o with
    | own o1 o2 o3 o4 =>
      cases k with
      | zero =>
        cases h1
        cases h2
        exact ⟨_, _, hv, o1, o2, o3⟩
      | succ k => exact ih e2 o4 k i l (by simpa [owns] using h1) (by simpa using h2)
  | gh hv t ih =>
    intro xs os e o k i l h1 h2
    obtain ⟨x, ys, e1, e2, rfl⟩ := argsOf_cons e
    obtain ⟨l0, es, rfl⟩ := argOf_gh e1
    cases o with
    | gh o1 o2 o3 o4 =>
      cases k with
      | zero =>
        cases h1
        cases h2
        have q := S.sl _ _ es
        rw [hv] at q
        exact ⟨_, _, hv, o1, o2, o3⟩
      | succ k => exact ih e2 o4 k i l (by simpa [owns] using h1) (by simpa using h2)
/-- the state behind a call -/
theorem SR.call (S : SR K fa ca G F ρ σ H) {F' : Addr → Prop} {H' : Hp} {vs : List V} {as : List AV} {xs : List Arg} (hv : AvL K fa F H σ vs as) (ha : argsOf ρ as = some xs) (P : CPost0 F H F' H' vs xs) : Ext F H F' H' := by
  have nF : ∀ a, F a → a ∉ oA vs xs := fun a f h => by
    obtain ⟨i, _, o⟩ := av_own S hv ha h
    exact (S.ownAt o).2 f
  have nL : ∀ a o, H a = some o → (∀ zs, o ≠ .lst zs) → a ∉ oA vs xs := fun a o e d h => by
    obtain ⟨i, _, q⟩ := av_own S hv ha h
    obtain ⟨zs, ez⟩ := (S.ownAt q).1
    rw [e] at ez
    cases ez
    exact d zs rfl
  exact ⟨fun a f => ⟨P.up a f, by obtain ⟨zs, e⟩ := S.trk a f; rw [e, P.fr a _ e (nF a f)]⟩, fun a zs e => P.fr a _ e (nL a _ e fun _ z => by cases z), fun a o u e => P.fr a _ e (nL a _ e fun _ z => by cases z), fun a fs e => P.fr a _ e (nL a _ e fun _ z => by cases z)⟩
theorem SR.back (S : SR K fa ca G F ρ σ H) {F' : Addr → Prop} {H' : Hp} {vs : List V} {as : List AV} {xs : List Arg} {os : List (List D)} (hv : AvL K fa F H σ vs as) (ha : argsOf ρ as = some xs) (P : CPost0 F H F' H' vs xs) (O : OutL K fa F' H' vs xs os)
    (hn : nodupN (owns as) = true) (hb : backTo ρ (owns as) os = some ρ') : SR K fa ca G F' ρ' σ H' := by
  have E := S.call hv ha P
  obtain ⟨b1, b2, b3⟩ := back_get hb hn
  have kind : ∀ j, (∀ l, ρ'[j]? = some (Sl.own l) → ∃ m, ρ[j]? = some (Sl.own m)) ∧ (∀ l, Pr ρ'[j]? l → ∃ m, Pr ρ[j]? m) ∧ (∀ m, Pr ρ[j]? m → ∃ l, Pr ρ'[j]? l) := fun j => by
    by_cases h : j ∈ owns as
    · obtain ⟨k, l, _, _, b⟩ := b3 j h
      generalize e1 : ρ[j]? = o1 at b
      generalize e2 : ρ'[j]? = o2 at b
      cases b with
      | own l m => exact ⟨fun _ _ => ⟨_, e1⟩, fun _ e => (by rw [e2] at e; rcases e with e | e <;> cases e), fun _ e => (by rw [e1] at e; rcases e with e | e <;> cases e)⟩
      | par l m => exact ⟨fun _ e => (by rw [e2] at e; cases e), fun _ _ => ⟨_, .inl e1⟩, fun _ _ => ⟨_, .inl e2⟩⟩
      | gh l m => exact ⟨fun _ e => (by rw [e2] at e; cases e), fun _ _ => ⟨_, .inr e1⟩, fun _ _ => ⟨_, .inr e2⟩⟩
    · have b := b2 j h
      exact ⟨fun l e => ⟨l, b.symm.trans e⟩, fun l e => ⟨l, by rw [← b]; exact e⟩, fun l e => ⟨l, by rw [b]; exact e⟩⟩
  have own : ∀ j a, OwnA ρ' σ j a → OwnA ρ σ j a := fun j a o => by
    obtain ⟨o, e⟩ := o
    refine ⟨?_, e⟩
    rcases o with ⟨l, o⟩ | ⟨l, o⟩
    · exact .inl ((kind j).1 l o)
    · exact .inr ((kind j).2.1 l o)
  have frO : ∀ a zs, H a = some (.lst zs) → ¬ F a → a ∉ oA vs xs → H' a = some (.lst zs) ∧ ¬ F' a := fun a zs e nf na => ⟨P.fr a _ e na, fun f => by
    rcases P.new a f with z | z
    · exact nf z
    · rw [e] at z; cases z⟩
  refine ⟨b1.trans S.len, fun j s e => ?_, fun i j a h1 h2 => S.dis i j a (own _ _ h1) (own _ _ h2), P.trk, fun a o e n => ?_, fun a f => ?_, fun a f => P.up a (S.up a f), fun p hp => ?_, S.gp, fun a o q => ?_⟩
  · by_cases h : j ∈ owns as
    · obtain ⟨k, l, k1, k2, b⟩ := b3 j h
      obtain ⟨a, zs, ea, eh, nf, r⟩ := out_get S hv ha O k j l k1 k2
      rw [e] at b
      generalize eo : ρ[j]? = o at b
      cases b with
      | own m _ =>
        have q := S.sl j _ eo
        rw [ea] at q ⊢
        cases q with
        | own h1 h2 h3 h4 => exact .own eh nf r h4
      | par m _ =>
        have q := S.sl j _ eo
        rw [ea] at q ⊢
        cases q with
        | par h1 h2 h3 h4 => exact .par eh nf r h4
      | gh m _ =>
        have q := S.sl j _ eo
        rw [ea] at q ⊢
        generalize ev : some (some (V.ref a)) = w at q ⊢
        cases q with
        | gh h1 h2 h3 h4 => cases ev; exact .gh eh nf r h4
    · rw [b2 j h] at e
      have q := S.sl j s e
      have nj : ∀ {a : Addr}, OwnA ρ σ j a → a ∉ oA vs xs := fun {a} oj hm => by
        obtain ⟨i, hi, o⟩ := av_own S hv ha hm
        have := S.dis _ _ _ oj o
        subst this
        exact h hi
      generalize eo : σ[j]? = w at q
      cases q with
      | none => exact .none
      | val r => exact .val (Rp.ext E _ _ r)
      | own h1 h2 h3 h4 => exact .own (frO _ _ h1 h2 (nj ⟨.inl ⟨_, e⟩, eo⟩)).1 (frO _ _ h1 h2 (nj ⟨.inl ⟨_, e⟩, eo⟩)).2 (RpL.ext E _ _ h3) h4
      | par h1 h2 h3 h4 => exact .par (frO _ _ h1 h2 (nj ⟨.inr ⟨_, .inl e⟩, eo⟩)).1 (frO _ _ h1 h2 (nj ⟨.inr ⟨_, .inl e⟩, eo⟩)).2 (RpL.ext E _ _ h3) h4
      | gh h1 h2 h3 h4 => exact .gh (frO _ _ h1 h2 (nj ⟨.inr ⟨_, .inr e⟩, eo⟩)).1 (frO _ _ h1 h2 (nj ⟨.inr ⟨_, .inr e⟩, eo⟩)).2 (RpL.ext E _ _ h3) h4
      | exn h1 h2 => exact .exn h1 (h2.ext E)
  · exact P.fr a o (S.fr a o e n) fun hm => by
      obtain ⟨i, hi, q⟩ := av_own S hv ha hm
      obtain ⟨q, eσ⟩ := q
      rcases q with ⟨l, q⟩ | ⟨l, q | q⟩
      · have z := S.sl i _ q
        rw [eσ] at z
        cases z with
        | own h1 h2 h3 h4 => rw [h4] at e; cases e
      · have z := S.sl i _ q
        rw [eσ] at z
        cases z with
        | par h1 h2 h3 h4 => exact n i h4
      · have z := S.sl i _ q
        rw [eσ] at z
        cases z with
        | gh h1 h2 h3 h4 => exact n i h4
  · rcases P.new a f with z | z
    · exact S.new a z
    · exact .inr (S.nfr z)
  · obtain ⟨⟨l, h1⟩, h2⟩ := S.par p hp
    exact ⟨(kind p.1).2.2 l h1, h2⟩
  · obtain ⟨p1, p2, p3⟩ := S.pn a o q
    refine ⟨P.fr a o p1 fun hm => ?_, fun f => ?_, fun i h => p3 i (own _ _ h)⟩
    · obtain ⟨i, _, q⟩ := av_own S hv ha hm
      exact p3 i q
    · rcases P.new a f with z | z
      · exact p2 z
      · rw [p1] at z; cases z
/-- a call's plain result is no deck -/
def WfC (C : Calls) : Prop := ∀ k as l g os, C k as ≠ .ok (.dkn l g) os
/-- how many lists within decks -/
def ngv : List AV → Nat
  | [] => 0
  | .gh _ :: r => ngv r + 1
  | _ :: r => ngv r
theorem ngv_ok : ∀ {as : List AV} {xs : List Arg}, argsOf ρ as = some xs → ngh xs = ngv as
  | [], _, e => by cases e; rfl
  | .d x :: r, _, e => by
    obtain ⟨x, ys, e1, e2, rfl⟩ := argsOf_cons e
    cases e1
    exact (ngv_ok e2 : ngh ys = ngv r)
  | .own i :: r, _, e => by
    obtain ⟨x, ys, e1, e2, rfl⟩ := argsOf_cons e
    obtain ⟨s, l, mk, es, M, rfl⟩ := argOf_own e1
    exact (ngv_ok e2 : ngh ys = ngv r)
  | .gh i :: r, _, e => by
    obtain ⟨x, ys, e1, e2, rfl⟩ := argsOf_cons e
    obtain ⟨l, es, rfl⟩ := argOf_gh e1
    exact congrArg (· + 1) (ngv_ok e2)
theorem argsE_ng : ∀ {as : List AD} {ρ ρ1 : Env} {xs : List AV}, argsE as C ρ = .ok xs ρ1 → ngv xs = 0
  | [], _, _, _, e => by cases e; rfl
  | .v i :: r, ρ, ρ1, xs, e => by
    have e' : (if isOwn ρ[i]? then (argsE r C ρ).bind fun xs ρ2 => .ok (.own i :: xs) ρ2 else (dVar i C ρ).bind fun x ρ1 => (argsE r C ρ1).bind fun xs ρ2 => R.ok (.d x.frz :: xs) ρ2) = .ok xs ρ1 := e
    split at e'
    · cases q : argsE r C ρ with
      | ok ys ρ2 => rw [q] at e'; cases e'; exact (argsE_ng q : ngv ys = 0)
      | exc c fs ρ2 => rw [q] at e'; cases e'
      | stuck => rw [q] at e'; cases e'
    · cases p : dVar i C ρ with
      | ok y ρ3 =>
        rw [p] at e'
        have e' : (argsE r C ρ3).bind (fun xs ρ2 => R.ok (AV.d y.frz :: xs) ρ2) = .ok xs ρ1 := e'
        cases q : argsE r C ρ3 with
        | ok ys ρ2 => rw [q] at e'; cases e'; exact (argsE_ng q : ngv ys = 0)
        | exc c fs ρ2 => rw [q] at e'; cases e'
        | stuck => rw [q] at e'; cases e'
      | exc c fs ρ2 => rw [p] at e'; cases e'
      | stuck => rw [p] at e'; cases e'
  | .e a :: r, ρ, ρ1, xs, e => by
    have e' : ((a C ρ).bind fun x ρ1 => (argsE r C ρ1).bind fun xs ρ2 => R.ok (.d x.frz :: xs) ρ2) = .ok xs ρ1 := e
    cases p : a C ρ with
    | ok y ρ3 =>
      rw [p] at e'
      have e' : (argsE r C ρ3).bind (fun xs ρ2 => R.ok (AV.d y.frz :: xs) ρ2) = .ok xs ρ1 := e'
      cases q : argsE r C ρ3 with
      | ok ys ρ2 => rw [q] at e'; cases e'; exact (argsE_ng q : ngv ys = 0)
      | exc c fs ρ2 => rw [q] at e'; cases e'
      | stuck => rw [q] at e'; cases e'
    | exc c fs ρ2 => rw [p] at e'; cases e'
    | stuck => rw [p] at e'; cases e'
/-- what follows the arguments: the call, and the lists come back -/
theorem call_post {f : Nat} {F0 : Addr → Prop} {H0 : Hp} {vs : List V} {as : List AV} {Q : VK} (hw : WfC C) (S : SR K fa ca G F ρ σ H) (E0 : Ext F0 H0 F H) (A : AvL K fa F H σ vs as)
    (h : RPost K fa ca G F0 H0 σ W (doCall f as C ρ) fun r ρ' => ∀ v F' H', SR K fa ca G F' ρ' σ H' → Ext F0 H0 F' H' → RpEx K fa G F' ρ' σ H' r v → Q v H') : ∃ xs, argsOf ρ as = some xs ∧ spC0 K fa ca C f (ngh xs) vs H Q (WE W σ) := by
  unfold doCall at h
  split at h
  · rename_i hn
    cases ha : argsOf ρ as with
    | none => rw [ha] at h; exact h.elim
    | some xs =>
      rw [ha] at h
      refine ⟨xs, rfl, F, xs, S.trk, av_args S A ha, av_nodup S A ha hn, rfl, ?_⟩
      cases hc : C f xs with
      | stuck => simp only [hc] at h; exact h.elim
      | dk l g os => simp only [hc] at h; exact h.elim
      | exc c fs =>
        simp only [hc] at h
        split at h
        · rename_i ho
          intro F' H' cls d P q
          have E := S.call A ha P
          have n0 : owns as = [] := List.isEmpty_iff.mp ho
          have key : ∀ {vs : List V} {as : List AV}, AvL K fa F H σ vs as → ∀ {xs : List Arg}, argsOf ρ as = some xs → owns as = [] → OutL K fa F' H' vs xs [] := by
            intro vs as A
            induction A with
            | nil => intro xs e _; cases e; exact .nil
            | d r t ih =>
              intro xs e n
              obtain ⟨x, ys, e1, e2, rfl⟩ := argsOf_cons e
              cases e1
              exact .d (ih e2 n)
            | own hv t ih => intro xs e n; cases n
            | gh hv t ih => intro xs e n; cases n
          have SS : SR K fa ca G F' ρ σ H' := S.back (os := []) A ha P (key A ha n0) hn (by rw [n0]; rfl)
          exact h F' H' cls d SS (E0.trans E) q
        · exact h.elim
      | ok r os =>
        simp only [hc] at h
        intro v F' H' P
        cases hb : backTo ρ (owns as) os with
        | none => rw [hb] at h; exact h.elim
        | some ρ' =>
          rw [hb] at h
          have S' := S.back A ha P.toCPost0 P.out hn hb
          refine h v F' H' S' (E0.trans (S.call A ha P.toCPost0)) ?_
          have res := P.res
          cases r with
          | d x => exact res
          | fresh l =>
            obtain ⟨b, zs, rfl, h1, h2, h3, h4⟩ := res
            refine ⟨b, zs, rfl, h3, h4, h2, ⟨S.nfr h1, S.npin h1⟩, fun i o => ?_⟩
            obtain ⟨k1, k2, k3⟩ := back_get hb hn
            have o' : OwnA ρ σ i b := by
              obtain ⟨o, e⟩ := o
              refine ⟨?_, e⟩
              by_cases hm : i ∈ owns as
              · obtain ⟨k, l, _, _, bb⟩ := k3 i hm
                generalize e1 : ρ[i]? = o1 at bb
                generalize e2 : ρ'[i]? = o2 at bb
                cases bb with
                | own l m => exact .inl ⟨_, rfl⟩
                | par l m => exact .inr ⟨_, .inl rfl⟩
                | gh l m => exact .inr ⟨_, .inr rfl⟩
              · have q := k2 i hm
                rw [q] at o
                exact o
            exact S.nown h1 i o'
          | dkn l g => exact (hw _ _ _ _ _ hc).elim
  · exact h.elim
theorem RPost.monoE {α : Type} {x : R α} {ok ok' : α → Env → Prop} (h : RPost K fa ca G F H σ W x ok) (i : ∀ a ρ1, x = .ok a ρ1 → ok a ρ1 → ok' a ρ1) : RPost K fa ca G F H σ W x ok' := by
  cases x with
  | ok a ρ => exact i _ _ rfl h
  | exc c fs ρ => exact h
  | stuck => exact h
theorem plain_post {f : Nat} {F0 : Addr → Prop} {H0 : Hp} {vs : List V} {as : List AV} {Q : VK} (hw : WfC C) (n : ngv as = 0) (S : SR K fa ca G F ρ σ H) (E0 : Ext F0 H0 F H) (A : AvL K fa F H σ vs as)
    (h : RPost K fa ca G F0 H0 σ W (doCall f as C ρ) fun r ρ' => ∀ v F' H', SR K fa ca G F' ρ' σ H' → Ext F0 H0 F' H' → RpEx K fa G F' ρ' σ H' r v → Q v H') : spC K fa ca C f vs H Q (WE W σ) := by
  obtain ⟨xs, e, q⟩ := call_post hw S E0 A h
  rw [ngv_ok e, n] at q
  exact ⟨[], by rw [List.append_nil]; exact q⟩
theorem sim_call {f : Nat} {e : Expr} {es : List Expr} {as : List AD} (hw : WfC C) (ha : SimV fa ca W C X es as) (pe : ∀ {t}, PA X es t → PE X e (tCallS (spC X.K fa ca C f) (WE W) t)) : SimE fa ca W C X e (dCall f as) := by
  refine pe_le (pe ha) fun σ H Q h => ?_
  obtain ⟨G, F, ρ, S, h⟩ := h
  exact ⟨G, F, ρ, S, (RPost.bind (x := argsE as C ρ) h).monoE fun xs ρ1 ex h1 vs F1 H1 S1 E1 r1 => plain_post hw (argsE_ng ex) S1 E1 r1 h1⟩
theorem AvL.at {vs : List V} {as : List AV} (A : AvL K fa F H σ vs as) : ∀ {i : Nat} {a : AV}, as[i]? = some a → ∃ v, vs[i]? = some v ∧ AvL K fa F H σ [v] [a] := by
  induction A with
  | nil => intro i a e; simp at e
  | d r t ih =>
    intro i a e
    cases i with
    | zero => simp at e; subst e; exact ⟨_, rfl, .d r .nil⟩
    | succ i =>
      obtain ⟨v, h1, h2⟩ := ih (show _ = some a by simpa using e)
      exact ⟨v, by simpa using h1, h2⟩
  | own h t ih =>
    intro i a e
    cases i with
    | zero => simp at e; subst e; exact ⟨_, rfl, .own h .nil⟩
    | succ i =>
      obtain ⟨v, h1, h2⟩ := ih (show _ = some a by simpa using e)
      exact ⟨v, by simpa using h1, h2⟩
  | gh h t ih =>
    intro i a e
    cases i with
    | zero => simp at e; subst e; exact ⟨_, rfl, .gh h .nil⟩
    | succ i =>
      obtain ⟨v, h1, h2⟩ := ih (show _ = some a by simpa using e)
      exact ⟨v, by simpa using h1, h2⟩
theorem AvL.cons1 {v : V} {a : AV} {vs : List V} {as : List AV} (h : AvL K fa F H σ [v] [a]) (t : AvL K fa F H σ vs as) : AvL K fa F H σ (v :: vs) (a :: as) := by
  cases h with
  | d r _ => exact .d r t
  | own h _ => exact .own h t
  | gh h _ => exact .gh h t
theorem AvL.snoc {v : V} {i : Nat} {vs : List V} {as : List AV} (h : σ[i]? = some (some v)) (A : AvL K fa F H σ vs as) : AvL K fa F H σ (vs ++ [v]) (as ++ [.gh i]) := by
  induction A with
  | nil => exact .gh h .nil
  | d r t ih => exact .d r ih
  | own k t ih => exact .own k ih
  | gh k t ih => exact .gh k ih
theorem ngv_mem : ∀ {as : List AV}, ngv as = 0 ↔ ∀ a ∈ as, ∀ i, a ≠ .gh i
  | [] => ⟨fun _ a h => (nomatch h), fun _ => rfl⟩
  | .gh i :: r => ⟨fun h => (by cases h), fun h => absurd rfl (h _ List.mem_cons_self i)⟩
  | .d x :: r => ⟨fun h a ha i => by
      rcases List.mem_cons.mp ha with rfl | ha
      · intro z; cases z
      · exact ngv_mem.mp (show ngv r = 0 from h) a ha i, fun h => (show ngv r = 0 from ngv_mem.mpr fun a ha => h a (List.mem_cons_of_mem _ ha))⟩
  | .own x :: r => ⟨fun h a ha i => by
      rcases List.mem_cons.mp ha with rfl | ha
      · intro z; cases z
      · exact ngv_mem.mp (show ngv r = 0 from h) a ha i, fun h => (show ngv r = 0 from ngv_mem.mpr fun a ha => h a (List.mem_cons_of_mem _ ha))⟩
theorem ngv_perm {as : List AV} (h : ngv as = 0) (p : List Nat) : ngv (permL p as) = 0 := ngv_mem.mpr fun a ha => by
  unfold permL at ha
  obtain ⟨i, _, e⟩ := List.mem_filterMap.mp ha
  exact ngv_mem.mp h a (List.mem_of_getElem? e)
theorem ngv_snoc : ∀ {as : List AV} {i : Nat}, ngv (as ++ [.gh i]) = ngv as + 1
  | [], _ => rfl
  | .gh j :: r, i => congrArg (· + 1) (ngv_snoc (as := r) (i := i))
  | .d x :: r, i => ngv_snoc (as := r) (i := i)
  | .own x :: r, i => ngv_snoc (as := r) (i := i)
theorem argsOf_snoc : ∀ {as : List AV} {i : Nat} {xs : List Arg}, argsOf ρ (as ++ [.gh i]) = some xs → ∃ l, ρ[i]? = some (.gh l)
  | [], i, xs, e => by
    obtain ⟨x, ys, e1, e2, rfl⟩ := argsOf_cons e
    obtain ⟨l, es, _⟩ := argOf_gh e1
    exact ⟨l, es⟩
  | a :: r, i, xs, e => by
    obtain ⟨x, ys, e1, e2, rfl⟩ := argsOf_cons (r := r ++ [.gh i]) e
    exact argsOf_snoc (as := r) e2
/-- a call that hands on the list within a deck, too -/
theorem sim_callG {f g : Nat} {e : Expr} {es : List Expr} {as : List AD} (hw : WfC C) (ha : SimV fa ca W C X es as) (pe : ∀ {t}, PA X es t → PE X e (tCallS (spC X.K fa ca C f) (WE W) t)) : SimE fa ca W C X e (dCallG f as g) := by
  refine pe_le (pe ha) fun σ H Q h => ?_
  obtain ⟨G, F, ρ, S, h⟩ := h
  refine ⟨G, F, ρ, S, (RPost.bind (x := argsE as C ρ) h).monoE fun xs ρ1 ex h1 vs F1 H1 S1 E1 r1 => ?_⟩
  have key : ∃ l, ρ1[g]? = some (.gh l) := by
    have h2 := h1
    unfold doCall at h2
    split at h2
    · cases q : argsOf ρ1 (xs ++ [.gh g]) with
      | none => rw [q] at h2; exact h2.elim
      | some ys => exact argsOf_snoc q
    · exact h2.elim
  obtain ⟨l, el⟩ := key
  have q := S1.sl g _ el
  generalize eo : σ[g]? = o at q
  cases q with
  | gh k1 k2 k3 k4 =>
    obtain ⟨ys, e2, q2⟩ := call_post hw S1 E1 (r1.snoc eo) h1
    rw [ngv_ok e2, ngv_snoc, argsE_ng ex] at q2
    exact ⟨[_], q2⟩
theorem AvL.perm {vs : List V} {as : List AV} (A : AvL K fa F H σ vs as) : ∀ p : List Nat, AvL K fa F H σ (permL p vs) (permL p as)
  | [] => .nil
  | i :: p => by
    have ih := A.perm p
    unfold permL at ih ⊢
    rw [List.filterMap_cons, List.filterMap_cons]
    cases e : as[i]? with
    | none =>
      have e2 : vs[i]? = none := by
        rw [List.getElem?_eq_none_iff] at e ⊢
        rw [A.length]; exact e
      rw [e2]; exact ih
    | some a =>
      obtain ⟨v, h1, h2⟩ := A.at e
      rw [h1]; exact h2.cons1 ih
theorem sim_callK {f : Nat} {p : List Nat} {e : Expr} {as : List AD} (hw : WfC C)
    (pe : PE X e (fun σ H Q => tSemV X.K fa ca W as C σ H fun vs H1 => spC X.K fa ca C f (permL p vs) H1 Q (WE W σ))) : SimE fa ca W C X e (dCallK f p as) := by
  refine pe_le pe fun σ H Q h => ?_
  obtain ⟨G, F, ρ, S, h⟩ := h
  exact ⟨G, F, ρ, S, (RPost.bind (x := argsE as C ρ) h).monoE fun xs ρ1 ex h1 vs F1 H1 S1 E1 r1 => plain_post hw (ngv_perm (argsE_ng ex) p) S1 E1 (r1.perm p) h1⟩
theorem sim_callV {i : Nat} {e : Expr} {as : List AD} (hw : WfC C)
    (pe : ∀ {f : Nat}, f ≠ GI → PE X e (fun σ H Q => σ[i]? = some (some (.ref (fa f))) ∧ tSemV X.K fa ca W as C σ H fun vs H1 => spC X.K fa ca C f vs H1 Q (WE W σ))) : SimE fa ca W C X e (dCallV i as) := by
  refine ⟨fun pins s σ H Q I h => ?_⟩
  obtain ⟨G, F, ρ, S, h⟩ := h
  unfold dCallV at h
  cases e1 : ρ[i]? with
  | none => rw [e1] at h; exact h.elim
  | some s1 =>
    rw [e1] at h
    have q := S.sl i s1 e1
    generalize eo : σ[i]? = o at q
    cases q with
    | val r =>
      cases r with
      | fn f =>
        by_cases hf : f < GI
        · simp only [if_pos hf] at h
          exact (pe (f := f) (Nat.ne_of_lt hf)).run pins s σ H Q I ⟨eo, G, F, ρ, S, (RPost.bind (x := argsE as C ρ) h).monoE fun xs ρ1 ex h1 vs F1 H1 S1 E1 r1 => plain_post hw (argsE_ng ex) S1 E1 r1 h1⟩
        · simp only [if_neg hf] at h
          exact h.elim
      | _ => exact h.elim
    | _ => exact h.elim
end
end RX
set_option Elab.async false
set_option linter.all false
set_option maxRecDepth 100000
set_option maxHeartbeats 4000000
/-! RXh: targets, walks, statements. -/
namespace RX
open PySem PySem.Spec PyProof.Rows L2
section
variable {K : PySem.W.Frag} {fa : Nat → Addr} {ca : Cc} {W : WX} {C : Calls} {X : Cx} {G : Gh} {F F' : Addr → Prop} {H H' : Hp} {σ σ' : L2.St} {ρ ρ' : Env}
/-! ### targets -/
def Tg.slots : Tg → List Nat
  | .v i => [i]
  | .t l => l
/-- a target's reading stores what the evaluator stores -/
def TgS (K : PySem.W.Frag) (fa : Nat → Addr) (ca : Cc) (tg : Tg) (g : TG) : Prop := ∀ (G : Gh) (F : Addr → Prop) (H : Hp) (σ : L2.St) (ρ ρ1 : Env) (v : V) (x : D) (Q : L2.St → Hp → Prop), SR K fa ca G F ρ σ H → Rp K fa F H v x → tg.st ρ x = some ρ1 →
  (∀ σ', SR K fa ca G F ρ1 σ' H → (∀ vs, (∀ i ∈ tg.slots, i ∈ vs) → L2.wipe σ' vs = L2.wipe σ vs) → Q σ' H) → g v σ H Q
theorem wipe_set {i : Nat} {o : Option V} : ∀ {vs : List Nat} {σ : L2.St}, i ∈ vs → L2.wipe (σ.set i o) vs = L2.wipe σ vs
  | [], _, h => nomatch h
  | v :: vs, σ, h => by
    show (L2.wipe (σ.set i o) vs).set v none = (L2.wipe σ vs).set v none
    by_cases hm : i ∈ vs
    · rw [wipe_set hm]
    · rcases List.mem_cons.mp h with z | z
      · subst z
        have q : ∀ (vs : List Nat) (σ : L2.St), i ∉ vs → L2.wipe (σ.set i o) vs = (L2.wipe σ vs).set i o := by
          intro vs
          induction vs with
          | nil => intro σ _; rfl
          | cons w ws ih =>
            intro σ hn
            have h1 : i ≠ w := fun z => hn (by rw [z]; exact List.mem_cons_self)
            have h2 : i ∉ ws := fun z => hn (List.mem_cons_of_mem _ z)
            show (L2.wipe (σ.set i o) ws).set w none = ((L2.wipe σ ws).set w none).set i o
            rw [ih σ h2, List.set_comm _ _ h1]
        rw [q vs σ hm, List.set_set]
      · exact absurd z hm
theorem stSl_ok (S : SR K fa ca G F ρ σ H) {i : Nat} {v : V} {r : Ex} {ρ1 : Env} (h : stSl ρ i r.sl = some ρ1) (hr : RpEx K fa G F ρ σ H r v) : SR K fa ca G F ρ1 (σ.set i (some v)) H := by
  unfold stSl at h
  cases e : ρ[i]? with
  | none => rw [e] at h; cases h
  | some s =>
    rw [e] at h
    have hi := (List.getElem?_eq_some_iff.mp e).1
    have go : (∀ l, s ≠ .par l ∧ s ≠ .gh l) → SR K fa ca G F (ρ.set i r.sl) (σ.set i (some v)) H := fun n => S.store hi (fun l z => by rw [e] at z; rcases z with z | z <;> cases z <;> first | exact (n l).1 rfl | exact (n l).2 rfl) hr
    cases s with
    | par l => cases h
    | exn c fs => cases h
    | gh l => cases h
    | none => cases h; exact go fun _ => ⟨nofun, nofun⟩
    | val d => cases h; exact go fun _ => ⟨nofun, nofun⟩
    | own l => cases h; exact go fun _ => ⟨nofun, nofun⟩
theorem tg_v {i : Nat} : TgS K fa ca (.v i) (gName i) := fun G F H σ ρ ρ1 v x Q S r h q => q _ (stSl_ok S (r := .d x) h r) fun vs hv => wipe_set (hv i List.mem_cons_self)
/-- several names -/
def gNames : List Nat → TGs
  | [] => gNil
  | i :: r => gCons (gName i) (gNames r)
theorem stAll_ok : ∀ {l : List Nat} {G : Gh} {F : Addr → Prop} {H : Hp} {σ : L2.St} {ρ ρ1 : Env} {xs : List V} {ds : List D} {Q : L2.St → Hp → Prop}, SR K fa ca G F ρ σ H → RpL K fa F H xs ds → stAll ρ l ds = some ρ1 →
    (∀ σ', SR K fa ca G F ρ1 σ' H → (∀ vs, (∀ i ∈ l, i ∈ vs) → L2.wipe σ' vs = L2.wipe σ vs) → Q σ' H) → xs.length = l.length ∧ gNames l xs σ H Q
  | [], G, F, H, σ, ρ, ρ1, xs, ds, Q, S, r, h, q => by
    cases r with
    | nil => cases h; exact ⟨rfl, rfl, q σ S fun _ _ => rfl⟩
    | cons _ _ => cases h
  | i :: l, G, F, H, σ, ρ, ρ1, xs, ds, Q, S, r, h, q => by
    cases r with
    | nil => cases h
    | @cons v vs d ds r t =>
      have h' : ((stSl ρ i (.val d)).bind fun ρ1 => stAll ρ1 l ds) = some ρ1 := h
      cases e : stSl ρ i (.val d) with
      | none => rw [e] at h'; cases h'
      | some ρ2 =>
        rw [e] at h'
        have S2 := stSl_ok S (r := .d d) e r
        have q' := stAll_ok (Q := Q) S2 t h' fun σ' S' w => q σ' S' fun vs hv => (w vs fun j hj => hv j (List.mem_cons_of_mem _ hj)).trans (wipe_set (hv i List.mem_cons_self))
        exact ⟨congrArg (· + 1) q'.1, v, vs, rfl, q'.2⟩
theorem tg_t {l : List Nat} : TgS K fa ca (.t l) (gTup K l.length (gNames l)) := fun G F H σ ρ ρ1 v x Q S r h q => by
  cases x with
  | tup ds =>
    cases r with
    | @tup a xs _ s r =>
      obtain ⟨h1, h2⟩ := stAll_ok (Q := Q) S r h q
      exact ⟨a, xs, rfl, s, h1, h2⟩
  | _ => cases h
/-! ### walks -/
/-- J yields the items l, whatever goes on -/
def ItR (K : PySem.W.Frag) (fa : Nat → Addr) (F : Addr → Prop) (H : Hp) (J : It) (l : List D) : Prop := ∀ F2 H2, Ext F H F2 H2 → Trk F2 H2 → ∀ i, (∀ x, l[i]? = some x → J.go i H2 ∧ ∀ v H3, J.yld i H2 v H3 → Same H2 H3 ∧ Rp K fa F2 H3 v x) ∧ (i = l.length → J.stop i H2)
def tSemI (K : PySem.W.Frag) (fa : Nat → Addr) (ca : Cc) (W : WX) (it : ID) (C : Calls) : TI := fun σ H R => ∃ G F ρ, SR K fa ca G F ρ σ H ∧ RPost K fa ca G F H σ W (it C ρ) fun l ρ' => ∀ J F' H', SR K fa ca G F' ρ' σ H' → Ext F H F' H' → ItR K fa F' H' J l → R J H'
abbrev SimI (fa : Nat → Addr) (ca : Cc) (W : WX) (C : Calls) (X : Cx) (tg e : Expr) (it : ID) : Prop := PI X tg e (tSemI X.K fa ca W it C)
theorem pi_le {X : Cx} {tg e : Expr} {t t' : TI} (h : PI X tg e t) (i : ∀ σ H R, t' σ H R → t σ H R) : PI X tg e t' := ⟨fun pins s σ H R I q => h.run pins s σ H R I (i _ _ _ q)⟩
def iSeq (K : PySem.W.Frag) (tl : TE) : TI := fun σ H R => tl σ H fun x H1 => ∃ a, x = .ref a ∧ (((∃ xs, SqL K H1 a xs) ∧ R (Itl K a) H1) ∨ ((∃ xs, SqT K H1 a xs) ∧ R (Itt K a) H1))
theorem pi_seq {tg l : Expr} {tl : TE} (hl : PE X l tl) : PI X tg l (iSeq X.K tl) := by
  refine ⟨fun pins s σ H R I h => ?_⟩
  refine thn (hl.run pins s σ H _ I h) fun v s1 ⟨x, H1, I1, r1, q1⟩ => ?_
  obtain ⟨a, e, q⟩ := q1
  subst e
  cases r1
  rcases q with ⟨⟨xs, hq⟩, q⟩ | ⟨⟨xs, hq⟩, q⟩
  · obtain ⟨its, rv, p, hz⟩ := I1.list hq
    refine wpAny_pyIter_list p.isList ?_
    refine ⟨s1.heap.objs.size, [s1.heap.objs.size], _, _, H1, rfl, I1.kept (t' := s1.toks) fun b o e => Heap.get?_push_of_some _ e, turn_list a _, ⟨_, Heap.get?_push_size _ rfl, rfl, rfl⟩, fun b hb => ?_, q⟩
    have e : b = s1.heap.objs.size := by simpa using hb
    subst e
    exact I1.fpOk (Nat.le_refl _) (I1.hok.fresh (Nat.le_refl _))
  · obtain ⟨its, rv, p, hz⟩ := I1.tuple hq
    refine wpAny_pyIter_tuple (show s1.heap.IsTuple a its.toArray from p) ?_
    refine ⟨s1.heap.objs.size, [s1.heap.objs.size], _, _, H1, rfl, I1.kept (t' := s1.toks) fun b o e => Heap.get?_push_of_some _ e, turn_tuple a _, ⟨_, Heap.get?_push_size _ rfl, rfl, rfl⟩, fun b hb => ?_, q⟩
    have e : b = s1.heap.objs.size := by simpa using hb
    subst e
    exact I1.fpOk (Nat.le_refl _) (I1.hok.fresh (Nat.le_refl _))
theorem sqt_inj {a : Addr} {xs ys : List V} (h : SqT K H a xs) (h' : SqT K H a ys) (hk : ∀ o, K.lookup a = some o → H a = none) : xs = ys := by
  rcases h with (h | ⟨o, h⟩) | ⟨o, its, n, k1, k2, k3, k4, k5⟩
  · rcases h' with (h' | ⟨o', h'⟩) | ⟨o', _, _, k, _⟩
    · rw [h] at h'; cases h'; rfl
    · rw [h] at h'; cases h'
    · rw [hk _ k] at h; cases h
  · rcases h' with (h' | ⟨o', h'⟩) | ⟨o', _, _, k, _⟩
    · rw [h] at h'; cases h'
    · rw [h] at h'; cases h'; rfl
    · rw [hk _ k] at h; cases h
  · rcases h' with (h' | ⟨o', h'⟩) | ⟨o', _, _, k, _, q3, _, q5⟩
    · rw [hk _ k1] at h'; cases h'
    · rw [hk _ k1] at h'; cases h'
    · rw [k1] at k; cases k; rw [k3] at q3; cases q3; exact k5.inj q5
theorem itr_list {a : Addr} {xs : List V} {l : List D} (s : H a = some (.lst xs)) (f : F a) (r : RpL K fa F H xs l) : ItR K fa F H (Itl K a) l := fun F2 H2 E T i => by
  have s2 : H2 a = some (.lst xs) := (E.fz a f).2.trans s
  have u : ∀ ys, SqL K H2 a ys → K.lookup a = none → ys = xs := fun ys h hk => by
    rcases h with (h | ⟨o, h⟩) | ⟨o, _, _, k, _⟩
    · rw [s2] at h; cases h; rfl
    · rw [s2] at h; cases h
    · rw [hk] at k; cases k
  refine ⟨fun x hx => ?_, fun e => ⟨xs, .of s2, by rw [e, r.length]; exact Nat.le_refl _⟩⟩
  obtain ⟨v, h1, h2⟩ := r.get hx
  refine ⟨⟨xs, v, .of s2, h1⟩, fun w H3 y => ?_⟩
  obtain ⟨rfl, q⟩ := y
  have := q xs (.of s2)
  rw [h1] at this
  cases this
  exact ⟨Same.refl _, Rp.ext E _ _ h2⟩
theorem itr_scr {a : Addr} {ns : List Int} (s : SqF K H a (ns.map V.int)) : ItR K fa F H (Itl K a) (ns.map D.int) := fun F2 H2 E T i => by
  have s2 : SqL K H2 a (ns.map V.int) := (E.sqf s).l
  have r := rpl_ints (K := K) (fa := fa) (F := F2) (H := H2) ns
  refine ⟨fun x hx => ?_, fun e => ⟨_, s2, by rw [e, r.length]; exact Nat.le_refl _⟩⟩
  obtain ⟨v, h1, h2⟩ := r.get hx
  refine ⟨⟨_, v, s2, h1⟩, fun w H3 y => ?_⟩
  obtain ⟨rfl, q⟩ := y
  have := q _ s2
  rw [h1] at this
  cases this
  exact ⟨Same.refl _, h2⟩
theorem itr_tup {a : Addr} {xs : List V} {l : List D} (s : SqT K H a xs) (r : RpL K fa F H xs l) : ItR K fa F H (Itt K a) l := fun F2 H2 E T i => by
  have s2 : SqT K H2 a xs := E.sqt s
  refine ⟨fun x hx => ?_, fun e => ⟨xs, s2, by rw [e, r.length]; exact Nat.le_refl _⟩⟩
  obtain ⟨v, h1, h2⟩ := r.get hx
  refine ⟨⟨xs, v, s2, h1⟩, fun w H3 y => ?_⟩
  obtain ⟨rfl, q⟩ := y
  have := q xs s2
  rw [h1] at this
  cases this
  exact ⟨Same.refl _, Rp.ext E _ _ h2⟩
theorem sim_iE {tg e : Expr} {d : Den} (he : SimE fa ca W C X e d) : SimI fa ca W C X tg e (iE d) := by
  refine pi_le (pi_seq he) fun σ H R h => ?_
  obtain ⟨G, F, ρ, S, h⟩ := h
  refine ⟨G, F, ρ, S, (RPost.bind (x := d C ρ) h).mono fun x ρ1 h1 v F1 H1 S1 E1 r1 => ?_⟩
  obtain ⟨F1, S1, E1', p1⟩ := S1.frz r1
  cases e : x.frz.items? with
  | none => rw [e] at h1; exact h1.elim
  | some l =>
    rw [e] at h1
    generalize x.frz = y at e p1
    cases y with
    | lst m =>
      cases e
      cases p1 with
      | @lst a xs _ f s r => exact ⟨a, rfl, .inl ⟨⟨xs, .of s⟩, h1 _ F1 H1 S1 (E1.trans E1') (itr_list s f r)⟩⟩
    | tup m =>
      cases e
      cases p1 with
      | @tup a xs _ s r => exact ⟨a, rfl, .inr ⟨⟨xs, s⟩, h1 _ F1 H1 S1 (E1.trans E1') (itr_tup s r)⟩⟩
    | scr m =>
      cases e
      cases p1 with
      | @scr a _ s => exact ⟨a, rfl, .inl ⟨⟨_, s.l⟩, h1 _ F1 H1 S1 (E1.trans E1') (itr_scr s)⟩⟩
    | _ => cases e
theorem rng_get {a b : Int} {i : Nat} {x : D} (h : (rng a b)[i]? = some x) : i < (b - a).toNat ∧ x = .int (a + i) := by
  unfold rng at h
  rw [List.getElem?_map] at h
  by_cases hi : i < (b - a).toNat
  · rw [List.getElem?_range hi] at h
    cases h
    exact ⟨hi, rfl⟩
  · rw [List.getElem?_eq_none (by rw [List.length_range]; omega)] at h
    cases h
theorem rng_len (a b : Int) : (rng a b).length = (b - a).toNat := by unfold rng; rw [List.length_map, List.length_range]
theorem itr_rng {a b : Int} : ItR K fa F H (Itr a (b - a).toNat) (rng a b) := fun F2 H2 E T i => by
  refine ⟨fun x hx => ?_, fun e => by rw [e, rng_len]; exact Nat.le_refl _⟩
  obtain ⟨hi, rfl⟩ := rng_get hx
  refine ⟨hi, fun v H3 y => ?_⟩
  obtain ⟨rfl, rfl⟩ := y
  exact ⟨Same.refl _, .int _⟩
theorem iR1_read {K : PySem.W.Frag} {d : Den} {σ : L2.St} {H : Hp} {R : It → Hp → Prop} (h : tSemI K fa ca W (iR1 d) C σ H R) : iRng1 (tCons (tSem K fa ca W d C) tNil) σ H R := by
  obtain ⟨G, F, ρ, S, h⟩ := h
  refine ⟨G, F, ρ, S, (RPost.bind (x := d C ρ) h).mono fun x ρ1 h1 v F1 H1 S1 E1 r1 => ?_⟩
  obtain ⟨F1, S1, E1', p1⟩ := S1.frz r1
  cases e : x.frz.asInt? with
  | none => rw [e] at h1; exact h1.elim
  | some n =>
    rw [e] at h1
    cases asInt_ok e p1
    by_cases hn : -16777216 < n ∧ n < 16777216
    · simp only [if_pos hn] at h1
      refine ⟨n, rfl, by omega, by omega, h1 _ F1 H1 S1 (E1.trans E1') ?_⟩
      have q := itr_rng (K := K) (fa := fa) (F := F1) (H := H1) (a := 0) (b := n)
      rw [Int.sub_zero] at q
      exact q
    · simp only [if_neg hn] at h1; exact h1.elim
theorem sim_iR1 {tg e a : Expr} {d : Den} (ha : SimE fa ca W C X a d) (st : starEach [a] X.env = (false, eval a X.env) :: starEach [] X.env) (pe : ∀ {t}, PA X [a] t → PI X tg e (iRng1 t)) : SimI fa ca W C X tg e (iR1 d) :=
  pi_le (pe (pa_cons ha pa_nil st)) fun σ H R h => iR1_read h
theorem sim_iR2 {tg e a b : Expr} {da db : Den} (ha : SimE fa ca W C X a da) (hb : SimE fa ca W C X b db) (st : starEach [a, b] X.env = (false, eval a X.env) :: starEach [b] X.env) (st2 : starEach [b] X.env = (false, eval b X.env) :: starEach [] X.env)
    (pe : ∀ {t}, PA X [a, b] t → PI X tg e (iRng2 t)) : SimI fa ca W C X tg e (iR2 da db) := by
  refine pi_le (pe (pa_cons ha (pa_cons hb pa_nil st2) st)) fun σ H R h => ?_
  obtain ⟨G, F, ρ, S, h⟩ := h
  refine ⟨G, F, ρ, S, (RPost.bind (x := da C ρ) h).mono fun x ρ1 h1 v F1 H1 S1 E1 r1 => ?_⟩
  obtain ⟨F1, S1, E1', p1⟩ := S1.frz r1
  refine ⟨G, F1, ρ1, S1, (h1.bind.later (E1.trans E1')).mono fun y ρ2 h2 u F2 H2 S2 E2 r2 => ?_⟩
  obtain ⟨F2, S2, E2', p2⟩ := S2.frz r2
  cases e : x.frz.asInt? with
  | none => rw [e] at h2; exact h2.elim
  | some i =>
    cases e2 : y.frz.asInt? with
    | none => rw [e, e2] at h2; exact h2.elim
    | some j =>
      rw [e, e2] at h2
      cases asInt_ok e p1
      cases asInt_ok e2 p2
      by_cases hn : -16777216 < i ∧ i < 16777216 ∧ -16777216 < j ∧ j < 16777216
      · simp only [if_pos hn] at h2
        exact ⟨i, j, rfl, ⟨by omega, by omega, by omega, by omega⟩, h2 _ F2 H2 S2 (((E1.trans E1').trans E2).trans E2') itr_rng⟩
      · simp only [if_neg hn] at h2; exact h2.elim
/-! zip, of two lists or two tuples -/
theorem zipL_get : ∀ {l m : List D} {i : Nat} {x : D}, (zipL l m)[i]? = some x → ∃ a b, l[i]? = some a ∧ m[i]? = some b ∧ x = .tup [a, b]
  | [], _, i, x, h => by simp [zipL] at h
  | _ :: _, [], i, x, h => by simp [zipL] at h
  | a :: l, b :: m, 0, x, h => by simp [zipL] at h; exact ⟨a, b, rfl, rfl, h.symm⟩
  | a :: l, b :: m, i + 1, x, h => by
    have h' : (zipL l m)[i]? = some x := by simpa [zipL] using h
    obtain ⟨c, d, h1, h2, h3⟩ := zipL_get h'
    exact ⟨c, d, by simpa using h1, by simpa using h2, h3⟩
theorem zipL_len : ∀ l m : List D, (zipL l m).length = min l.length m.length
  | [], m => by simp [zipL]
  | _ :: _, [] => by simp [zipL]
  | a :: l, b :: m => by simp [zipL, zipL_len l m]
theorem itr_zip {a b : Addr} {xs ys : List V} {l m : List D} (s : H a = some (.lst xs)) (f : F a) (r : RpL K fa F H xs l) (s' : H b = some (.lst ys)) (f' : F b) (r' : RpL K fa F H ys m) : ItR K fa F H (Itz K a b) (zipL l m) := fun F2 H2 E T i => by
  have s2 : H2 a = some (.lst xs) := (E.fz a f).2.trans s
  have s3 : H2 b = some (.lst ys) := (E.fz b f').2.trans s'
  refine ⟨fun x hx => ?_, fun e => ⟨xs, ys, .of s2, .of s3, ?_⟩⟩
  · obtain ⟨c, d, h1, h2, rfl⟩ := zipL_get hx
    obtain ⟨v, k1, k2⟩ := r.get h1
    obtain ⟨u, q1, q2⟩ := r'.get h2
    refine ⟨⟨xs, ys, v, u, .of s2, .of s3, k1, q1⟩, fun w H3 y => ?_⟩
    obtain ⟨T', x1, y1, rfl, nT, rfl, g1, g2⟩ := y
    have z1 := g1 xs (.of s2)
    have z2 := g2 ys (.of s3)
    rw [k1] at z1; cases z1
    rw [q1] at z2; cases z2
    have sm : Same H2 (upd H2 T' (.tup [v, u])) := same_new nT
    have E3 := E.trans (Ext.same (F := F2) sm T)
    exact ⟨sm, .tup (.of upd_same) (.cons (Rp.ext E3 _ _ k2) (.cons (Rp.ext E3 _ _ q2) .nil))⟩
  · rw [zipL_len] at e
    rw [r.length, r'.length]
    by_cases h : l.length ≤ m.length
    · exact .inl (by omega)
    · exact .inr (by omega)
theorem itr_zipT {a b : Addr} {xs ys : List V} {l m : List D} (s : SqT K H a xs) (r : RpL K fa F H xs l) (s' : SqT K H b ys) (r' : RpL K fa F H ys m) : ItR K fa F H (RZ.ItzT K a b) (zipL l m) := fun F2 H2 E T i => by
  have s2 : SqT K H2 a xs := E.sqt s
  have s3 : SqT K H2 b ys := E.sqt s'
  refine ⟨fun x hx => ?_, fun e => ⟨xs, ys, s2, s3, ?_⟩⟩
  · obtain ⟨c, d, h1, h2, rfl⟩ := zipL_get hx
    obtain ⟨v, k1, k2⟩ := r.get h1
    obtain ⟨u, q1, q2⟩ := r'.get h2
    refine ⟨⟨xs, ys, v, u, s2, s3, k1, q1⟩, fun w H3 y => ?_⟩
    obtain ⟨T', x1, y1, rfl, nT, rfl, g1, g2⟩ := y
    have z1 := g1 xs s2
    have z2 := g2 ys s3
    rw [k1] at z1; cases z1
    rw [q1] at z2; cases z2
    have sm : Same H2 (upd H2 T' (.tup [v, u])) := same_new nT
    have E3 := E.trans (Ext.same (F := F2) sm T)
    exact ⟨sm, .tup (.of upd_same) (.cons (Rp.ext E3 _ _ k2) (.cons (Rp.ext E3 _ _ q2) .nil))⟩
  · rw [zipL_len] at e
    rw [r.length, r'.length]
    by_cases h : l.length ≤ m.length
    · exact .inl (by omega)
    · exact .inr (by omega)
theorem sim_iZip {tg e a b : Expr} {da db : Den} (ha : SimE fa ca W C X a da) (hb : SimE fa ca W C X b db) (st : starEach [a, b] X.env = (false, eval a X.env) :: starEach [b] X.env) (st2 : starEach [b] X.env = (false, eval b X.env) :: starEach [] X.env)
    (pe : ∀ {t}, PA X [a, b] t → PI X tg e (RZ.iZipA X.K t)) : SimI fa ca W C X tg e (iZip da db) := by
  refine pi_le (pe (pa_cons ha (pa_cons hb pa_nil st2) st)) fun σ H R h => ?_
  obtain ⟨G, F, ρ, S, h⟩ := h
  refine ⟨G, F, ρ, S, (RPost.bind (x := da C ρ) h).mono fun x ρ1 h1 v F1 H1 S1 E1 r1 => ?_⟩
  obtain ⟨F1, S1, E1', p1⟩ := S1.frz r1
  refine ⟨G, F1, ρ1, S1, (h1.bind.later (E1.trans E1')).mono fun y ρ2 h2 u F2 H2 S2 E2 r2 => ?_⟩
  obtain ⟨F2, S2, E2', p2⟩ := S2.frz r2
  have p1 := Rp.ext (E2.trans E2') _ _ p1
  have EE := ((E1.trans E1').trans E2).trans E2'
  generalize x.frz = x0 at h2 p1
  generalize y.frz = y0 at h2 p2
  cases x0 with
  | lst l =>
    cases y0 with
    | lst m =>
      cases p1 with
      | @lst a xs _ f s r =>
        cases p2 with
        | @lst b ys _ f' s' r' => exact ⟨a, b, xs, ys, rfl, .inl ⟨.of s, .of s', h2 _ F2 H2 S2 EE (itr_zip s f r s' f' r')⟩⟩
    | _ => exact h2.elim
  | tup l =>
    cases y0 with
    | tup m =>
      cases p1 with
      | @tup a xs _ s r =>
        cases p2 with
        | @tup b ys _ s' r' => exact ⟨a, b, xs, ys, rfl, .inr ⟨s, s', h2 _ F2 H2 S2 EE (itr_zipT s r s' r')⟩⟩
    | _ => exact h2.elim
  | _ => exact h2.elim
end
end RX
set_option Elab.async false
set_option linter.all false
set_option maxRecDepth 100000
set_option maxHeartbeats 4000000
/-! RXhb: enumerate of a list or a tuple. -/
namespace RX
open PySem PySem.Spec PyProof.Rows L2
theorem meets_enum1 {v : Value} {o : Obj} {H : Heap → Prop} (B : Begins v o H) :
    Meets (Builtin.«enumerate.__new__» ⟨[.type "enumerate", v], []⟩) (fun _ R s => H s.heap ∧
      R (.ok (.ret (.ref (s.heap.push o).objs.size))) { s with heap := (s.heap.push o).push { cls := .type "enumerate", data := .fields #[.none, .bool false, .ref s.heap.objs.size, rawInt 0, .none, .none] } }) :=
  .of_wp fun prog w A R s h => by
    obtain ⟨hp, g, d, tk, os⟩ := s; obtain ⟨h1, h⟩ := h
    have hsub := sub_enumerate
    have q1 : ∀ {A' : Around} {E : Value → Shared → Prop} {Q : Value → Shared → Prop}, Q (.ref hp.objs.size) ⟨hp.push o, g, d, tk, os⟩ → wpAny (model prog w) A' (pyIter v) Q E ⟨hp, g, d, tk, os⟩ :=
      fun q => B.iter prog w _ _ ⟨hp, g, d, tk, os⟩ _ h1 q
    wp_walk using q1
    refine wpAny_stack_any fun st => wpAny_pure ?_
    split
    · rename_i c _ _ _ _ _
      cases (c == Value.type "enumerate")
      · wp_walk using q1
        exact ⟨_, rfl, h⟩
      · wp_walk using q1
        exact ⟨_, rfl, h⟩
    · wp_walk using q1
      exact ⟨_, rfl, h⟩
theorem enum_begins1 {prog : Program} {w : World} {A : Around} {E : Value → Shared → Prop} {s : Shared} {v : Value} {o : Obj} {H : Heap → Prop} {Q : Value → Shared → Prop} (B : Begins v o H) (h1 : H s.heap)
    (h : ∀ h', IsEnum h' (s.heap.objs.size + 1) s.heap.objs.size 0 .none → h'.get? s.heap.objs.size = some o → h'.objs.size = s.heap.objs.size + 2 →
      (∀ b o, s.heap.get? b = some o → h'.get? b = some o) → Q (.ref (s.heap.objs.size + 1)) { s with heap := h' }) :
    wpAny (model prog w) A (call (.type "enumerate") [v]) Q E s := by
  refine callType_new F.called_enumerate (by decide) (F.typeCall_enumerate_1 _) (F.newCall_enumerate_1 _) (fun obj => F.args_object_init_2 obj _) F.entry_enumerate_new
    (meets_enum1 B) ⟨h1, ?_⟩
  have hz : (s.heap.push o).objs.size = s.heap.objs.size + 1 := Heap.size_push ..
  show _ ∧ _
  rw [hz]
  have he : IsEnum ((s.heap.push o).push { cls := .type "enumerate", data := .fields #[.none, .bool false, .ref s.heap.objs.size, rawInt 0, .none, .none] }) (s.heap.objs.size + 1) s.heap.objs.size 0 .none := by
    have := Heap.get?_push_size (s.heap.push o) (o := { cls := .type "enumerate", data := .fields #[.none, .bool false, .ref s.heap.objs.size, rawInt 0, .none, .none] }) rfl
    rw [hz] at this; exact this
  refine ⟨⟨_, he, rfl⟩, h _ he (Heap.get?_push_of_some _ (Heap.get?_push_size _ B.free)) (by rw [Heap.size_push, hz]) fun b o x => Heap.get?_push_of_some _ (Heap.get?_push_of_some _ x)⟩
/-- the tuple at a as it stands at each turn, each item in a new pair -/
def IteT (K : PySem.W.Frag) (a : Addr) : It :=
  ⟨fun i H => ∃ (xs : List V) (x : V), SqT K H a xs ∧ xs[i]? = some x, fun i H v H' => ∃ T x, v = .ref T ∧ H T = none ∧ H' = upd H T (.tup [.int (i : Nat), x]) ∧ ∀ xs, SqT K H a xs → xs[i]? = some x, fun i H => ∃ xs : List V, SqT K H a xs ∧ xs.length ≤ i⟩
theorem turn_enumT {P : Program} {w : World} {K : PySem.W.Frag} {elts : List Expr} {kk : Nat} {tpos : Pos} (a e it : Addr) :
    Turn P w K (.Tuple elts kk tpos) (IteT K a) [e, it] e (fun i h => (∃ old, IsEnum h e it ((i : Nat) : Int) old) ∧ h.IsTupleIter it a i ∧ e ≠ it ∧ a ≠ it ∧ e ≠ a) where
  mem := by simp
  obj := fun i h st b hb => by
    obtain ⟨⟨old, he⟩, ⟨o, ho, hc, hd⟩, _⟩ := st
    have e' : b = e ∨ b = it := by simpa using hb
    rcases e' with z | z
    · rw [z]; exact ⟨_, he, fun v q => nomatch q⟩
    · rw [z]; exact ⟨o, ho, fun v q => by rw [hd] at q; cases q⟩
  keep := fun i h h' st k => let ⟨⟨old, he⟩, hi, hne⟩ := st; ⟨⟨old, k e (by simp) _ he⟩, hi.at fun o q => k it (by simp) o q, hne⟩
  item := by
    intro X hP hw hK hc i pins s σ H E I hf st hg
    subst hP hw hK
    obtain ⟨⟨old, he⟩, hit, hne, hai, hea⟩ := st
    obtain ⟨xs, x, hq, hx⟩ := hg
    obtain ⟨its, rv, p, hz⟩ := I.tuple hq
    obtain ⟨u, hu, ru⟩ := rv.get hx
    have hel : e < s.heap.objs.size := Heap.lt_size he
    have hil : it < s.heap.objs.size := by obtain ⟨_, q, _⟩ := hit; exact Heap.lt_size q
    have hlt : i < its.toArray.size := by
      have : i < its.length := by rcases List.getElem?_eq_some_iff.mp hu with ⟨q, _⟩; exact q
      simpa using this
    refine wpAny_pyNext_enum_itemD (Draws.tuple (prog := X.prog) (w := X.w) (A := X.A.in1) (I.ok.hd hc) it a hai its.toArray) he ⟨hit, show s.heap.IsTuple a its.toArray from p⟩ hlt hne (by simp [hne, hea]) fun y h' tk hy ho hst' hT hsz hk => ?_
    have ey : y = u := by
      have hy' : its.toArray[i]? = some y := hy
      rw [List.getElem?_toArray, hu] at hy'
      cases hy'; rfl
    subst ey
    refine ⟨_, rfl, wpAny_letOwnedTupleGo_enum (s := { s with heap := h', toks := tk + 1 }) ho fun h'' he' sb => ?_⟩
    have hT2 : h''.get? s.heap.objs.size = some { cls := .type "tuple", data := .seq #[.int i tk, y] } := (sb.2 _ (Nat.ne_of_gt hel)).trans hT
    have new : ObjOk X.prog X.w (upd H s.heap.objs.size (.tup [.int (i : Nat), x])) h'' s.heap.objs.size (.tup [.int (i : Nat), x]) :=
      ⟨by show 2 ≤ sizeLine; decide, [.int i tk, y], .cons ⟨_, rfl⟩ (.cons ru .nil), ⟨_, hT2, rfl, _, rfl⟩⟩
    have I1 : Inv X pins σ (upd H s.heap.objs.size (.tup [.int (i : Nat), x])) { s with heap := h'', toks := tk + 1 } :=
      I.turnedNew (ch := [e, it]) (fun b ob hb q => (sb.2 b (fun z => hb (by simp [z]))).trans (hk b ob (fun z => hb (by simp [z])) (fun z => hb (by simp [z])) q)) hf (Nat.le_refl _) new
    refine ⟨.ref s.heap.objs.size, _, I1, rfl, ⟨_, x, rfl, I.hok.fresh (Nat.le_refl _), rfl, fun ys hy => by rw [I.tuple_inj hy hq]; exact hx⟩, ⟨⟨y, ?_⟩, hst'.1.at fun o q => (sb.2 it (Ne.symm hne)).trans q, hne, hai, hea⟩, fun b hb => ?_⟩
    · have e1 : ((i + 1 : Nat) : Int) = (i : Int) + 1 := by omega
      rw [e1]; exact he'
    · have hb' : b < s.heap.objs.size := by
        have e' : b = e ∨ b = it := by simpa using hb
        rcases e' with z | z
        · rw [z]; exact hel
        · rw [z]; exact hil
      rw [upd_ne (Nat.ne_of_lt hb')]
      exact (hf b hb).1
  done := by
    intro X hP hw hK hc i pins s σ H E I hf st hg
    subst hP hw hK
    obtain ⟨⟨old, he⟩, hit, hne, hai, hea⟩ := st
    obtain ⟨xs, hq, hx⟩ := hg
    obtain ⟨its, rv, p, hz⟩ := I.tuple hq
    obtain ⟨f0, f1, f2, f3, f4, f5⟩ := hf it (by simp)
    have hl := rv.length
    have hT : s.TypeIs (.ref e) "enumerate" := ⟨_, he, rfl⟩
    unfold pyNext
    refine wpAny_bind (wpAny_attempt (wpAny_callSpecial?_slot (name := Str.ofString "__next__") hT F.slot_enumerate_next
      (wpAny_call_entry F.slot_enumerate_next hT F.entry_enumerate_next ?_ (F.args_enumerate_next_1 _))))
    show wpAny _ _ (field (.ref e) 2 >>= _) _ _ _
    refine wpAny_bind (wpAny_field he rfl (x := .ref it) rfl ?_)
    refine wpAny_bind (wpAny_nextOf_tuple_end (I.ok.hd hc) hit (show s.heap.IsTuple a its.toArray from p) (by simp; omega) fun h' x he' hx' => ?_)
    obtain ⟨o, ho, hc⟩ := hx'
    refine wpAny_bind (wpAny_isInstance (T := "StopIteration") (b := true) ⟨o, ho, hc⟩ isSubtype_stop ?_)
    exact wpAny_pure ⟨rfl, I.turned (t' := s.toks) (fun b o hb q => he' b o hb q) f0 f1 f3 f4 f5⟩
  self := fun A i s Q E st h => let ⟨⟨_, he⟩, _⟩ := st; wpAny_pyIter_enum he h
def iEnA (K : PySem.W.Frag) (ta : TA) : TI := fun σ H R => ta σ H fun vs H1 => ∃ a xs, vs = [.ref a] ∧ ((SqL K H1 a xs ∧ R (Ite K a) H1) ∨ (SqT K H1 a xs ∧ R (IteT K a) H1))
theorem pi_enumA {X : Cx} {e : Expr} {ta : TA} {p pos tpos : Pos} {elts : List Expr} {kk : Nat} (hg : Gl X "enumerate") (hm : X.mg "enumerate" = none) (ha : PA X [e] ta) (hs : starEach [e] X.env = [(false, eval e X.env)]) :
    PI X (.Tuple elts kk tpos) (.Call (.Name "enumerate" p) [e] [] pos) (iEnA X.K ta) := by
  refine ⟨fun pins s σ H R I h => ?_⟩
  refine Call_ (ld_blt I hg hm boot_enumerate (PyProof.Rows.callWith_type1 (thn (ha.run pos pins s σ H _ I h) fun us s1 ⟨vs, H1, I1, r1, q1⟩ => ?_) hs rfl))
  obtain ⟨a, xs, ex, q⟩ := q1
  subst ex
  cases r1 with
  | cons r rr =>
    cases rr
    cases r
    have fr : ∀ b ∈ [s1.heap.objs.size + 1, s1.heap.objs.size], FpOk X pins H1 b := fun b hb => by
      have e' : b = s1.heap.objs.size + 1 ∨ b = s1.heap.objs.size := by simpa using hb
      have hle : s1.heap.objs.size ≤ b := by
        rcases e' with z | z
        · rw [z]; exact Nat.le_add_right _ _
        · rw [z]; exact Nat.le_refl _
      exact I1.fpOk hle (I1.hok.fresh hle)
    rcases q with ⟨hq, q⟩ | ⟨hq, q⟩
    · obtain ⟨its, rv, p', hz⟩ := I1.list hq
      refine call_enumerate_list p'.isList fun h' he hit hsz hk => wpAny_pyIter_enum he ?_
      have I2 : Inv X pins σ H1 { s1 with heap := h' } := I1.kept (t' := s1.toks) hk
      exact ⟨s1.heap.objs.size + 1, [s1.heap.objs.size + 1, s1.heap.objs.size], _, _, H1, rfl, I2, turn_enum a (s1.heap.objs.size + 1) s1.heap.objs.size, ⟨⟨.none, he⟩, hit, Nat.succ_ne_self _⟩, fr, q⟩
    · obtain ⟨its, rv, p', hz⟩ := I1.tuple hq
      have pt : s1.heap.IsTuple a its.toArray := p'
      have hal : a < s1.heap.objs.size := by obtain ⟨_, q, _⟩ := id pt; exact Heap.lt_size q
      refine enum_begins1 (begins_tuple a its.toArray) pt fun h' he hit hsz hk => wpAny_pyIter_enum he ?_
      have I2 : Inv X pins σ H1 { s1 with heap := h' } := I1.kept (t' := s1.toks) hk
      exact ⟨s1.heap.objs.size + 1, [s1.heap.objs.size + 1, s1.heap.objs.size], _, _, H1, rfl, I2, turn_enumT a (s1.heap.objs.size + 1) s1.heap.objs.size, ⟨⟨.none, he⟩, ⟨_, hit, rfl, rfl⟩, Nat.succ_ne_self _, Nat.ne_of_lt hal, Nat.ne_of_gt (Nat.lt_succ_of_lt hal)⟩, fr, q⟩
section
variable {K : PySem.W.Frag} {fa : Nat → Addr} {ca : Cc} {W : WX} {C : Calls} {X : Cx} {G : Gh} {F F' : Addr → Prop} {H H' : Hp} {σ σ' : L2.St} {ρ ρ' : Env}
theorem enumL_get : ∀ {l : List D} {n i : Nat} {x : D}, (enumL n l)[i]? = some x → ∃ a, l[i]? = some a ∧ x = .tup [.int ((n + i : Nat) : Int), a]
  | [], _, i, x, h => by simp [enumL] at h
  | a :: l, n, 0, x, h => by
    have h' : some (D.tup [.int (n : Int), a]) = some x := h
    cases h'
    exact ⟨a, rfl, rfl⟩
  | a :: l, n, i + 1, x, h => by
    have h' : (enumL (n + 1) l)[i]? = some x := h
    obtain ⟨c, h1, h2⟩ := enumL_get h'
    exact ⟨c, h1, by rw [h2]; congr 4; omega⟩
theorem enumL_len : ∀ (l : List D) (n : Nat), (enumL n l).length = l.length
  | [], _ => rfl
  | a :: l, n => by show (enumL (n + 1) l).length + 1 = l.length + 1; rw [enumL_len]
theorem itr_enum {a : Addr} {xs : List V} {l : List D} (s : ∀ F2 H2, Ext F H F2 H2 → SqL K H2 a xs) (r : RpL K fa F H xs l) : ItR K fa F H (Ite K a) (enumL 0 l) := fun F2 H2 E T i => by
  have s2 := s F2 H2 E
  refine ⟨fun x hx => ?_, fun e => ⟨xs, s2, by rw [enumL_len] at e; rw [e, r.length]; exact Nat.le_refl _⟩⟩
  obtain ⟨c, h1, rfl⟩ := enumL_get hx
  obtain ⟨v, k1, k2⟩ := r.get h1
  refine ⟨⟨xs, v, s2, k1⟩, fun w H3 y => ?_⟩
  obtain ⟨T', x1, rfl, nT, rfl, g1⟩ := y
  have z1 := g1 xs s2
  rw [k1] at z1; cases z1
  have sm : Same H2 (upd H2 T' (.tup [.int (i : Nat), v])) := same_new nT
  have E3 := E.trans (Ext.same (F := F2) sm T)
  exact ⟨sm, .tup (.of upd_same) (.cons (by rw [Nat.zero_add]; exact .int _) (.cons (Rp.ext E3 _ _ k2) .nil))⟩
theorem itr_enumT {a : Addr} {xs : List V} {l : List D} (s : SqT K H a xs) (r : RpL K fa F H xs l) : ItR K fa F H (IteT K a) (enumL 0 l) := fun F2 H2 E T i => by
  have s2 : SqT K H2 a xs := E.sqt s
  refine ⟨fun x hx => ?_, fun e => ⟨xs, s2, by rw [enumL_len] at e; rw [e, r.length]; exact Nat.le_refl _⟩⟩
  obtain ⟨c, h1, rfl⟩ := enumL_get hx
  obtain ⟨v, k1, k2⟩ := r.get h1
  refine ⟨⟨xs, v, s2, k1⟩, fun w H3 y => ?_⟩
  obtain ⟨T', x1, rfl, nT, rfl, g1⟩ := y
  have z1 := g1 xs s2
  rw [k1] at z1; cases z1
  have sm : Same H2 (upd H2 T' (.tup [.int (i : Nat), v])) := same_new nT
  have E3 := E.trans (Ext.same (F := F2) sm T)
  exact ⟨sm, .tup (.of upd_same) (.cons (by rw [Nat.zero_add]; exact .int _) (.cons (Rp.ext E3 _ _ k2) .nil))⟩
theorem sim_iEnum {tg e a : Expr} {d : Den} (ha : SimE fa ca W C X a d) (st : starEach [a] X.env = (false, eval a X.env) :: starEach [] X.env) (pe : ∀ {t}, PA X [a] t → PI X tg e (iEnA X.K t)) : SimI fa ca W C X tg e (RX.iEnum d) := by
  refine pi_le (pe (pa_cons ha pa_nil st)) fun σ H R h => ?_
  obtain ⟨G, F, ρ, S, h⟩ := h
  refine ⟨G, F, ρ, S, (RPost.bind (x := d C ρ) h).mono fun x ρ1 h1 v F1 H1 S1 E1 r1 => ?_⟩
  obtain ⟨F1, S1, E1', p1⟩ := S1.frz r1
  cases e : x.frz.items? with
  | none => rw [e] at h1; exact h1.elim
  | some l =>
    rw [e] at h1
    generalize x.frz = y at e p1
    cases y with
    | lst m =>
      cases e
      cases p1 with
      | @lst a xs _ f s r => exact ⟨a, xs, rfl, .inl ⟨.of s, h1 _ F1 H1 S1 (E1.trans E1') (itr_enum (fun F2 H2 E => .of ((E.fz a f).2.trans s)) r)⟩⟩
    | tup m =>
      cases e
      cases p1 with
      | @tup a xs _ s r => exact ⟨a, xs, rfl, .inr ⟨s, h1 _ F1 H1 S1 (E1.trans E1') (itr_enumT s r)⟩⟩
    | scr m =>
      cases e
      cases p1 with
      | @scr a _ s => exact ⟨a, _, rfl, .inl ⟨s.l, h1 _ F1 H1 S1 (E1.trans E1') (itr_enum (fun F2 H2 E => (E.sqf s).l) (rpl_ints _))⟩⟩
    | _ => cases e
end
end RX
set_option Elab.async false
set_option linter.all false
set_option maxRecDepth 100000
set_option maxHeartbeats 4000000
/-! RXi: comprehensions, statements. -/
namespace RX
open PySem PySem.Spec PyProof.Rows L2
section
variable {K : PySem.W.Frag} {fa : Nat → Addr} {ca : Cc} {W : WX} {C : Calls} {X : Cx} {G : Gh} {F F' : Addr → Prop} {H H' : Hp} {σ σ' : L2.St} {ρ ρ' : Env}
/-! ### comprehensions -/
theorem L2wipe_len (σ : L2.St) (vs : List Nat) : (L2.wipe σ vs).length = σ.length := L2.wipe_length σ vs
theorem wipe_len (ρ : Env) : ∀ vs : List Nat, (RX.wipe ρ vs).length = ρ.length
  | [] => rfl
  | v :: vs => by show ((RX.wipe ρ vs).set v .none).length = _; rw [List.length_set, wipe_len ρ vs]
theorem wipe_get {i : Nat} : ∀ {vs : List Nat}, i ∉ vs → (RX.wipe ρ vs)[i]? = ρ[i]?
  | [], _ => rfl
  | v :: vs, h => by
    show ((RX.wipe ρ vs).set v .none)[i]? = _
    rw [List.getElem?_set_ne fun z => h (by rw [z]; exact List.mem_cons_self), wipe_get fun z => h (List.mem_cons_of_mem _ z)]
theorem wipe_in {i : Nat} {s : Sl} : ∀ {vs : List Nat}, i ∈ vs → (RX.wipe ρ vs)[i]? = some s → s = .none
  | [], h, _ => nomatch h
  | v :: vs, h, e => by
    have e' : ((RX.wipe ρ vs).set v .none)[i]? = some s := e
    by_cases z : v = i
    · subst z
      by_cases hl : v < (RX.wipe ρ vs).length
      · rw [List.getElem?_set_self hl] at e'; cases e'; rfl
      · rw [List.getElem?_eq_none (by rw [List.length_set]; omega)] at e'; cases e'
    · rw [List.getElem?_set_ne z] at e'
      rcases List.mem_cons.mp h with y | y
      · exact absurd y.symm z
      · exact wipe_in y e'
theorem L2wipe_get {i : Nat} : ∀ {vs : List Nat}, i ∉ vs → (L2.wipe σ vs)[i]? = σ[i]?
  | [], _ => rfl
  | v :: vs, h => by
    show ((L2.wipe σ vs).set v none)[i]? = _
    rw [List.getElem?_set_ne fun z => h (by rw [z]; exact List.mem_cons_self), L2wipe_get fun z => h (List.mem_cons_of_mem _ z)]
/-- slots of a block's own names: nothing that may be changed -/
def Free (ρ : Env) (vs : List Nat) : Prop := ∀ i ∈ vs, free1 ρ[i]? = true
theorem free_of {ρ : Env} {vs : List Nat} (h : vs.all (fun v => free1 ρ[v]?) = true) : Free ρ vs := fun i hi => List.all_eq_true.mp h i hi
theorem Free.sl {vs : List Nat} (f : Free ρ vs) {i : Nat} (h : i ∈ vs) {s : Sl} (e : ρ[i]? = some s) : s = .none ∨ ∃ d, s = .val d := by
  have q := f i h
  rw [e] at q
  cases s with
  | none => exact .inl rfl
  | val d => exact .inr ⟨d, rfl⟩
  | own l => cases q
  | par l => cases q
  | exn c fs => cases q
  | gh l => cases q
/-- into a block: its own names forgotten -/
theorem SR.wiped (S : SR K fa ca G F ρ σ H) {vs : List Nat} (f : ∀ i ∈ vs, ∀ l, ¬ Pr ρ[i]? l) (σ2 : L2.St) (hσ : L2.wipe σ2 vs = L2.wipe σ vs) (hl : σ2.length = σ.length) : SR K fa ca G F (RX.wipe ρ vs) σ2 H := by
  have at2 : ∀ i, i ∉ vs → σ2[i]? = σ[i]? := fun i h => by rw [← L2wipe_get (σ := σ2) h, hσ, L2wipe_get h]
  have own : ∀ i a, OwnA (RX.wipe ρ vs) σ2 i a → OwnA ρ σ i a := fun i a o => by
    obtain ⟨o, e⟩ := o
    by_cases h : i ∈ vs
    · rcases o with ⟨l, o⟩ | ⟨l, o | o⟩
      · cases wipe_in h o
      · cases wipe_in h o
      · cases wipe_in h o
    · rw [wipe_get h] at o
      rw [at2 i h] at e
      exact ⟨o, e⟩
  refine ⟨by rw [wipe_len, hl]; exact S.len, fun i s e => ?_, fun i j a h1 h2 => S.dis i j a (own _ _ h1) (own _ _ h2), S.trk, S.fr, S.new, S.up, fun p hp => ?_, S.gp, fun a o q => ⟨(S.pn a o q).1, (S.pn a o q).2.1, fun i h => (S.pn a o q).2.2 i (own _ _ h)⟩⟩
  · by_cases h : i ∈ vs
    · rw [wipe_in h e]; exact .none
    · rw [wipe_get h] at e
      rw [at2 i h]
      exact S.sl i s e
  · obtain ⟨⟨l, h1⟩, h2⟩ := S.par p hp
    have h : p.1 ∉ vs := fun z => f _ z l h1
    exact ⟨⟨l, by rw [wipe_get h]; exact h1⟩, by rw [at2 _ h]; exact h2⟩
theorem unwipe_len {ρ0 : Env} : ∀ {vs : List Nat}, (RX.unwipe ρ0 ρ vs).length = ρ.length
  | [] => rfl
  | v :: vs => by
    show (match ρ0[v]? with | some s => (RX.unwipe ρ0 ρ vs).set v s | none => RX.unwipe ρ0 ρ vs).length = _
    split
    · rw [List.length_set, unwipe_len]
    · exact unwipe_len
theorem unwipe_out {ρ0 : Env} {i : Nat} : ∀ {vs : List Nat}, i ∉ vs → (RX.unwipe ρ0 ρ vs)[i]? = ρ[i]?
  | [], _ => rfl
  | v :: vs, h => by
    have ih : (RX.unwipe ρ0 ρ vs)[i]? = ρ[i]? := unwipe_out fun z => h (List.mem_cons_of_mem _ z)
    show (match ρ0[v]? with | some s => (RX.unwipe ρ0 ρ vs).set v s | none => RX.unwipe ρ0 ρ vs)[i]? = _
    split
    · rw [List.getElem?_set_ne fun z => h (by rw [z]; exact List.mem_cons_self), ih]
    · exact ih
theorem unwipe_in {ρ0 : Env} {i : Nat} (hl : ρ.length = ρ0.length) : ∀ {vs : List Nat}, i ∈ vs → (RX.unwipe ρ0 ρ vs)[i]? = ρ0[i]?
  | [], h => nomatch h
  | v :: vs, h => by
    show (match ρ0[v]? with | some s => (RX.unwipe ρ0 ρ vs).set v s | none => RX.unwipe ρ0 ρ vs)[i]? = _
    by_cases z : v = i
    · subst z
      cases e : ρ0[v]? with
      | some s =>
        have := (List.getElem?_eq_some_iff.mp e).1
        show ((RX.unwipe ρ0 ρ vs).set v s)[v]? = some s
        rw [List.getElem?_set_self (by rw [unwipe_len, hl]; exact this)]
      | none =>
        have := List.getElem?_eq_none_iff.mp e
        show (RX.unwipe ρ0 ρ vs)[v]? = none
        exact List.getElem?_eq_none (by rw [unwipe_len, hl]; exact this)
    · have hm : i ∈ vs := by
        rcases List.mem_cons.mp h with y | y
        · exact absurd y.symm z
        · exact y
      have ih : (RX.unwipe ρ0 ρ vs)[i]? = ρ0[i]? := unwipe_in hl hm
      split
      · rw [List.getElem?_set_ne z, ih]
      · exact ih
/-- out of a block: its own names as they were -/
theorem SR.unwiped {ρ0 : Env} {F0 : Addr → Prop} {H0 : Hp} {vs : List Nat} (S0 : SR K fa ca G F0 ρ0 σ H0) (f : Free ρ0 vs) (S : SR K fa ca G F ρ (L2.wipe σ vs) H) (E : Ext F0 H0 F H) : SR K fa ca G F (RX.unwipe ρ0 ρ vs) σ H := by
  have hl : ρ.length = ρ0.length := by rw [S.len, L2wipe_len, S0.len]
  have own : ∀ i a, OwnA (RX.unwipe ρ0 ρ vs) σ i a → OwnA ρ (L2.wipe σ vs) i a := fun i a o => by
    obtain ⟨o, e⟩ := o
    by_cases h : i ∈ vs
    · rw [unwipe_in hl h] at o
      rcases o with ⟨l, o⟩ | ⟨l, o | o⟩
      · rcases f.sl h o with z | ⟨d, z⟩ <;> cases z
      · rcases f.sl h o with z | ⟨d, z⟩ <;> cases z
      · rcases f.sl h o with z | ⟨d, z⟩ <;> cases z
    · rw [unwipe_out h] at o
      exact ⟨o, by rw [L2wipe_get h]; exact e⟩
  refine ⟨by rw [unwipe_len, hl]; exact S0.len, fun i s e => ?_, fun i j a h1 h2 => S.dis i j a (own _ _ h1) (own _ _ h2), S.trk, S.fr, S.new, S.up, fun p hp => ?_, S.gp, fun a o q => ⟨(S.pn a o q).1, (S.pn a o q).2.1, fun i h => (S.pn a o q).2.2 i (own _ _ h)⟩⟩
  · by_cases h : i ∈ vs
    · rw [unwipe_in hl h] at e
      rcases f.sl h e with z | ⟨d, z⟩
      · rw [z]; exact .none
      · subst z
        have q := S0.sl i _ e
        generalize eo : σ[i]? = o at q
        cases q with
        | val r => exact .val (Rp.ext E _ _ r)
    · rw [unwipe_out h] at e
      have q := S.sl i s e
      rw [L2wipe_get h] at q
      exact q
  · obtain ⟨⟨l, h1⟩, h2⟩ := S.par p hp
    have h : p.1 ∉ vs := fun z => by
      obtain ⟨⟨l', k1⟩, _⟩ := S0.par p hp
      rcases k1 with k1 | k1 <;> rcases f.sl z k1 with y | ⟨d, y⟩ <;> cases y
    exact ⟨⟨l, by rw [unwipe_out h]; exact h1⟩, by rw [L2wipe_get h] at h2; exact h2⟩
abbrev WN : WX := fun _ _ _ _ => False
theorem noExc_post {α : Type} {x : R α} {ok : α → Env → Prop} {σ2 : L2.St} {W2 : WX} (h : RPost K fa ca G F H σ W x.noExc ok) : RPost K fa ca G F H σ2 W2 x ok := by
  cases x with
  | ok a ρ => exact h
  | exc c fs ρ => exact h.elim
  | stuck => exact h.elim
abbrev blkX (X : Cx) (scope : Scope) (s : Shared) (H : Hp) (C : Addr) (cl : List (Str × Addr)) (fp : List Addr) : Cx := X.blk s H scope (compEnvC scope cl C X.env) fp
theorem compL_inv {vs : List Nat} {tg : Tg} {ts : TD} {elt : Den} {x : D} {xs : List D} {zs : List D} {ρE : Env} (e : compL vs tg ts elt C (x :: xs) ρ = .ok zs ρE) :
    ∃ ρ1 b ρ2, tg.st (RX.wipe ρ vs) x = some ρ1 ∧ ts C ρ1 = .ok b ρ2 ∧ (b = false → compL vs tg ts elt C xs ρ2 = .ok zs ρE) ∧ (b = true → ∃ y ρ3 ws, elt C ρ2 = .ok y ρ3 ∧ compL vs tg ts elt C xs ρ3 = .ok ws ρE ∧ zs = y.frz :: ws) := by
  unfold compL at e
  cases e1 : tg.st (RX.wipe ρ vs) x with
  | none => rw [e1] at e; cases e
  | some ρ1 =>
    rw [e1] at e
    cases e2 : ts C ρ1 with
    | exc c fs ρ2 => simp only [e2] at e; cases e
    | stuck => simp only [e2] at e; cases e
    | ok b ρ2 =>
      simp only [e2, R.bind] at e
      refine ⟨ρ1, b, ρ2, rfl, e2, fun hb => ?_, fun hb => ?_⟩
      · subst hb; simpa using e
      · subst hb
        simp only [if_true] at e
        cases e3 : elt C ρ2 with
        | exc c fs ρ3 => simp only [e3] at e; cases e
        | stuck => simp only [e3] at e; cases e
        | ok y ρ3 =>
          simp only [e3] at e
          cases e4 : compL vs tg ts elt C xs ρ3 with
          | exc c fs ρ3 => simp only [e4] at e; cases e
          | stuck => simp only [e4] at e; cases e
          | ok ws ρ4 =>
            simp only [e4] at e
            cases e
            exact ⟨y, ρ3, ws, rfl, e4, rfl⟩
theorem wipe_none {i : Nat} : ∀ {vs : List Nat}, (RX.wipe ρ vs)[i]? = if i ∈ vs ∧ i < ρ.length then some .none else ρ[i]?
  | [] => by simp [RX.wipe]
  | v :: vs => by
    show ((RX.wipe ρ vs).set v .none)[i]? = _
    by_cases z : v = i
    · subst z
      by_cases hl : v < ρ.length
      · rw [List.getElem?_set_self (by rw [wipe_len]; exact hl), if_pos ⟨List.mem_cons_self, hl⟩]
      · rw [List.getElem?_eq_none (by rw [List.length_set, wipe_len]; omega), if_neg fun q => hl q.2, List.getElem?_eq_none (by omega)]
    · rw [List.getElem?_set_ne z, wipe_none]
      by_cases hm : i ∈ vs
      · by_cases hl : i < ρ.length
        · rw [if_pos ⟨hm, hl⟩, if_pos ⟨List.mem_cons_of_mem _ hm, hl⟩]
        · rw [if_neg fun q => hl q.2, if_neg fun q => hl q.2]
      · rw [if_neg fun q => hm q.1, if_neg fun q => ?_]
        rcases List.mem_cons.mp q.1 with y | y
        · exact z y.symm
        · exact hm y
theorem wipe_wipe (vs : List Nat) : RX.wipe (RX.wipe ρ vs) vs = RX.wipe ρ vs := by
  apply List.ext_getElem?
  intro i
  rw [wipe_none, wipe_none, wipe_len]
  by_cases h : i ∈ vs ∧ i < ρ.length
  · rw [if_pos h, if_pos h]
  · rw [if_neg h, if_neg h]
theorem L2wipe_none {i : Nat} : ∀ {vs : List Nat}, (L2.wipe σ vs)[i]? = if i ∈ vs ∧ i < σ.length then some none else σ[i]?
  | [] => by simp [L2.wipe]
  | v :: vs => by
    show ((L2.wipe σ vs).set v none)[i]? = _
    by_cases z : v = i
    · subst z
      by_cases hl : v < σ.length
      · rw [List.getElem?_set_self (by rw [L2wipe_len]; exact hl), if_pos ⟨List.mem_cons_self, hl⟩]
      · rw [List.getElem?_eq_none (by rw [List.length_set, L2wipe_len]; omega), if_neg fun q => hl q.2, List.getElem?_eq_none (by omega)]
    · rw [List.getElem?_set_ne z, L2wipe_none]
      by_cases hm : i ∈ vs
      · by_cases hl : i < σ.length
        · rw [if_pos ⟨hm, hl⟩, if_pos ⟨List.mem_cons_of_mem _ hm, hl⟩]
        · rw [if_neg fun q => hl q.2, if_neg fun q => hl q.2]
      · rw [if_neg fun q => hm q.1, if_neg fun q => ?_]
        rcases List.mem_cons.mp q.1 with y | y
        · exact z y.symm
        · exact hm y
theorem L2wipe_wipe (vs : List Nat) : L2.wipe (L2.wipe σ vs) vs = L2.wipe σ vs := by
  apply List.ext_getElem?
  intro i
  rw [L2wipe_none, L2wipe_none, L2wipe_len]
  by_cases h : i ∈ vs ∧ i < σ.length
  · rw [if_pos h, if_pos h]
  · rw [if_neg h, if_neg h]
theorem compL_wipe {vs : List Nat} {tg : Tg} {ts : TD} {elt : Den} : ∀ {l : List D}, compL vs tg ts elt C l (RX.wipe ρ vs) = compL vs tg ts elt C l ρ
  | [] => by show R.ok [] (RX.wipe (RX.wipe ρ vs) vs) = R.ok [] (RX.wipe ρ vs); rw [wipe_wipe]
  | x :: xs => by unfold compL; rw [wipe_wipe]
/-! a list that is being made -/
abbrev Gh.at (G : Gh) (D : Addr) (acc : List V) : Gh := { G with pin := upd G.pin D (.lst acc) }
theorem SR.pinNew (S : SR K fa ca G F ρ σ H) {D : Addr} (h : H D = none) (acc : List V) : SR K fa ca (G.at D acc) F ρ σ (upd H D (.lst acc)) := by
  have S1 := S.same (same_new (o := .lst acc) h)
  refine ⟨S1.len, fun i s e => ?_, S1.dis, S1.trk, S1.fr, S1.new, S1.up, S1.par, S1.gp, fun a o q => ?_⟩
  · have z := S1.sl i s e
    generalize σ[i]? = w at z
    cases z with
    | none => exact .none
    | val r => exact .val r
    | own h1 h2 h3 h4 => exact .own h1 h2 h3 h4
    | par h1 h2 h3 h4 => exact .par h1 h2 h3 h4
    | gh h1 h2 h3 h4 => exact .gh h1 h2 h3 h4
    | exn h1 h2 => exact .exn h1 h2
  · by_cases hz : a = D
    · have q' : upd G.pin D (.lst acc) a = some o := q
      rw [hz, upd_same] at q'
      cases q'
      rw [hz]
      exact ⟨upd_same, S.nF h, fun i => S.nown h i⟩
    · have q' : upd G.pin D (.lst acc) a = some o := q
      rw [upd_ne hz] at q'
      exact S1.pn a o q'
theorem SR.pinAt {D : Addr} {acc : List V} (S : SR K fa ca (G.at D acc) F ρ σ H) : H D = some (.lst acc) ∧ ¬ F D ∧ ∀ i, ¬ OwnA ρ σ i D := S.pn D (.lst acc) upd_same
theorem SR.pinUpd {D : Addr} {acc new : List V} (S : SR K fa ca (G.at D acc) F ρ σ H) (h0 : G.H0 D = none) : SR K fa ca (G.at D new) F ρ σ (upd H D (.lst new)) ∧ Ext F H F (upd H D (.lst new)) := by
  obtain ⟨p1, p2, p3⟩ := S.pinAt
  have ne : ∀ {b : Addr} {o : HO}, H b = some o → (∀ zs, o ≠ .lst zs) → b ≠ D := fun {b o} q d z => by subst z; rw [p1] at q; cases q; exact d _ rfl
  have E : Ext F H F (upd H D (.lst new)) := ⟨fun b f => ⟨f, upd_ne fun z => p2 (z ▸ f)⟩, fun b zs q => by rw [upd_ne (ne q fun _ z => by cases z)]; exact q, fun b o u q => by rw [upd_ne (ne q fun _ z => by cases z)]; exact q, fun b fs q => by rw [upd_ne (ne q fun _ z => by cases z)]; exact q⟩
  refine ⟨⟨S.len, fun i s e => ?_, S.dis, fun a f => ?_, fun a o e n => ?_, S.new, S.up, S.par, S.gp, fun a o q => ?_⟩, E⟩
  · have z := S.sl i s e
    generalize eo : σ[i]? = w at z
    cases z with
    | none => exact .none
    | val r => exact .val (Rp.ext E _ _ r)
    | own h1 h2 h3 h4 => exact .own (by rw [upd_ne fun z => p3 i ⟨.inl ⟨_, e⟩, by rw [← z]; exact eo⟩]; exact h1) h2 (RpL.ext E _ _ h3) h4
    | par h1 h2 h3 h4 => exact .par (by rw [upd_ne fun z => p3 i ⟨.inr ⟨_, .inl e⟩, by rw [← z]; exact eo⟩]; exact h1) h2 (RpL.ext E _ _ h3) h4
    | gh h1 h2 h3 h4 => exact .gh (by rw [upd_ne fun z => p3 i ⟨.inr ⟨_, .inr e⟩, by rw [← z]; exact eo⟩]; exact h1) h2 (RpL.ext E _ _ h3) h4
    | exn h1 h2 => exact .exn h1 (h2.ext E)
  · obtain ⟨zs, q⟩ := S.trk a f
    exact ⟨zs, by rw [(E.fz a f).2]; exact q⟩
  · have e' : G.H0 a = some o := e
    rw [upd_ne fun z => by rw [z, h0] at e'; cases e']
    exact S.fr a o e n
  · have q' : upd G.pin D (.lst new) a = some o := q
    by_cases hz : a = D
    · rw [hz, upd_same] at q'
      cases q'
      rw [hz]
      exact ⟨upd_same, p2, p3⟩
    · rw [upd_ne hz] at q'
      have := S.pn a o (by show upd G.pin D (.lst acc) a = some o; rw [upd_ne hz]; exact q')
      exact ⟨by rw [upd_ne hz]; exact this.1, this.2⟩
theorem SR.unpin {D : Addr} {acc : List V} (S : SR K fa ca (G.at D acc) F ρ σ H) (hp : G.pin D = none) : SR K fa ca G F ρ σ H := by
  refine ⟨S.len, fun i s e => ?_, S.dis, S.trk, S.fr, S.new, S.up, S.par, S.gp, fun a o q => ?_⟩
  · have z := S.sl i s e
    generalize σ[i]? = w at z
    cases z with
    | none => exact .none
    | val r => exact .val r
    | own h1 h2 h3 h4 => exact .own h1 h2 h3 h4
    | par h1 h2 h3 h4 => exact .par h1 h2 h3 h4
    | gh h1 h2 h3 h4 => exact .gh h1 h2 h3 h4
    | exn h1 h2 => exact .exn h1 h2
  · exact S.pn a o (by show upd G.pin D (.lst acc) a = some o; rw [upd_ne fun z => by rw [z, hp] at q; cases q]; exact q)
/-- the reading of a comprehension, from what its parts do -/
theorem lc_read {vs : List Nat} {g : TG} {tt : TT} {te : TE} {tg : Tg} {ts : TD} {elt : Den} {J : It} {l : List D} {F1 : Addr → Prop} {H1 : Hp} {ρ1 ρE : Env} {ys : List D} {Qd : Addr → Hp → Prop}
    (hg : TgS K fa ca tg g) (hsl : ∀ i ∈ tg.slots, i ∈ vs) (ht : ∀ σ H Q, tSemT K fa ca WN ts C σ H Q → tt σ H Q) (he : ∀ σ H Q, tSem K fa ca WN elt C σ H Q → te σ H Q)
    (S1 : SR K fa ca G F1 ρ1 (L2.wipe σ vs) H1) (IT : ItR K fa F1 H1 J l) (hl : l.length < LIM) (h : compL vs tg ts elt C l ρ1 = .ok ys ρE)
    (q : ∀ D F' H' acc, SR K fa ca G F' ρE (L2.wipe σ vs) H' → Ext F1 H1 F' H' → H1 D = none → H' D = some (.lst acc) → RpL K fa F' H' acc ys → ¬ F' D → (∀ i, ¬ OwnA ρE (L2.wipe σ vs) i D) → Qd D H') :
    ∀ D, H1 D = none → ∃ W : Nat → Nat → Hp → Prop, (∃ m, W 0 m (upd H1 D (.lst []))) ∧ ∀ i m H, W i m H →
      (J.stop i H ∧ Qd D H) ∨ (J.go i H ∧ ∃ Nx : Hp → Prop, (∀ H', Nx H' → ∃ m', m' < m ∧ W (i + 1) m' H') ∧ ∀ x H', J.yld i H x H' → g x (L2.wipe σ vs) H' fun σ2 H2 => L2.wipe σ2 vs = L2.wipe σ vs ∧ tt σ2 H2 fun b H3 =>
        if b = true then te σ2 H3 fun y H4 => ∃ acc, H4 D = some (.lst acc) ∧ acc.length < sizeLine ∧ Nx (upd H4 D (.lst (acc ++ [y]))) else Nx H3) := by
  intro D hD
  have h0 := S1.nfr hD
  have hp := S1.npin hD
  refine ⟨fun i m H => m = l.length - i ∧ i ≤ l.length ∧ ∃ F ρ acc pre zs, SR K fa ca (G.at D acc) F ρ (L2.wipe σ vs) H ∧ Ext F1 H1 F H ∧ RpL K fa F H acc pre ∧ acc.length ≤ i ∧ compL vs tg ts elt C (l.drop i) ρ = .ok zs ρE ∧ ys = pre ++ zs,
    ⟨l.length, rfl, Nat.zero_le _, F1, ρ1, [], [], ys, S1.pinNew hD [], S1.ext (same_new hD), .nil, Nat.zero_le _, by rw [List.drop_zero]; exact h, rfl⟩, fun i m H w => ?_⟩
  obtain ⟨rfl, hi, F, ρ, acc, pre, zs, S, E, r, hacc, e, hys⟩ := w
  have nopar : ∀ {G3 : Gh} {F3 : Addr → Prop} {ρ3 : Env} {σ3 : L2.St} {H3 : Hp}, G3.pars = G.pars → SR K fa ca G3 F3 ρ3 σ3 H3 → ∀ j ∈ vs, ∀ l', ¬ Pr ρ3[j]? l' := fun {G3 F3 ρ3 σ3 H3} hG S3 j hj l' z => by
    have key : ∀ a, (j, a) ∈ G3.pars → False := fun a h4 => by
      rw [hG] at h4
      have n := (S1.par _ h4).2
      rw [L2wipe_none] at n
      by_cases hh : j < σ.length
      · rw [if_pos ⟨hj, hh⟩] at n; cases n
      · rw [if_neg fun q => hh q.2, List.getElem?_eq_none (by omega)] at n; cases n
    rcases z with z | z
    · have k := S3.sl j _ z
      generalize σ3[j]? = w at k
      cases k with
      | par h1 h2 h3 h4 => exact key _ h4
    · have k := S3.sl j _ z
      generalize σ3[j]? = w at k
      cases k with
      | gh h1 h2 h3 h4 => exact key _ h4
  by_cases hlt : i < l.length
  · have hx : l[i]? = some l[i] := List.getElem?_eq_getElem hlt
    rw [List.drop_eq_getElem_cons hlt] at e
    obtain ⟨ρ1', b, ρ2, e1, e2, eF, eT⟩ := compL_inv e
    obtain ⟨go, yld⟩ := (IT F H E S.trk i).1 _ hx
    refine .inr ⟨go, fun H' => ∃ F ρ acc pre zs', SR K fa ca (G.at D acc) F ρ (L2.wipe σ vs) H' ∧ Ext F1 H1 F H' ∧ RpL K fa F H' acc pre ∧ acc.length ≤ i + 1 ∧ compL vs tg ts elt C (l.drop (i + 1)) ρ = .ok zs' ρE ∧ ys = pre ++ zs', fun H' n => ?_, fun v H' y => ?_⟩
    · exact ⟨l.length - (i + 1), by omega, rfl, hlt, n⟩
    · obtain ⟨sm, rv⟩ := yld v H' y
      have S' := S.same sm
      have E' := E.trans (S.ext sm)
      have Sw : SR K fa ca (G.at D acc) F (RX.wipe ρ vs) (L2.wipe σ vs) H' := S'.wiped (nopar (G3 := G.at D acc) rfl S') (L2.wipe σ vs) rfl rfl
      refine hg _ _ _ _ _ _ _ _ _ Sw rv e1 fun σ2 S2 hw => ⟨(hw vs hsl).trans (L2wipe_wipe vs), ?_⟩
      have hw2 : L2.wipe σ2 vs = L2.wipe σ vs := (hw vs hsl).trans (L2wipe_wipe vs)
      have back : ∀ {F3 : Addr → Prop} {ρ3 : Env} {H3 : Hp} {acc' : List V}, SR K fa ca (G.at D acc') F3 ρ3 σ2 H3 → SR K fa ca (G.at D acc') F3 (RX.wipe ρ3 vs) (L2.wipe σ vs) H3 := fun {F3 ρ3 H3 acc'} S3 =>
        S3.wiped (nopar (G3 := G.at D acc') rfl S3) (L2.wipe σ vs) (by rw [L2wipe_wipe, hw2]) (by rw [← hw2, L2wipe_len])
      refine ht _ _ _ ⟨_, F, ρ1', S2, ?_⟩
      rw [e2]
      intro F3 H3 S3 E3
      cases b with
      | false =>
        rw [if_neg Bool.false_ne_true]
        exact ⟨F3, RX.wipe ρ2 vs, acc, pre, zs, back S3, E'.trans E3, RpL.ext ((S.ext sm).trans E3) _ _ r, by omega, by rw [compL_wipe]; exact eF rfl, hys⟩
      | true =>
        rw [if_pos rfl]
        obtain ⟨y, ρ3, ws, e3, e4, rfl⟩ := eT rfl
        refine he _ _ _ ⟨_, F3, ρ2, S3, ?_⟩
        rw [e3]
        intro v4 F4 H4 S4 E4 r4
        obtain ⟨F5, S5, E5, p5⟩ := S4.frz r4
        obtain ⟨k1, k2, k3⟩ := S5.pinAt
        refine ⟨acc, k1, by rw [sizeLine_eq]; have : l.length < 16777216 := hl; omega, ?_⟩
        obtain ⟨S6, E6⟩ := S5.pinUpd (new := acc ++ [v4]) h0
        have EE := ((E3.trans E4).trans E5).trans E6
        exact ⟨F5, RX.wipe ρ3 vs, acc ++ [v4], pre ++ [y.frz], ws, back S6, E'.trans EE, (RpL.ext ((S.ext sm).trans EE) _ _ r).append (.cons (Rp.ext E6 _ _ p5) .nil), by simp; omega, by rw [compL_wipe]; exact e4, by rw [hys]; simp⟩
  · have hi' : i = l.length := by omega
    subst hi'
    rw [List.drop_length] at e
    have e' : R.ok [] (RX.wipe ρ vs) = R.ok zs ρE := e
    cases e'
    obtain ⟨k1, k2, k3⟩ := S.pinAt
    rw [List.append_nil] at hys
    subst hys
    have Sw : SR K fa ca (G.at D acc) F (RX.wipe ρ vs) (L2.wipe σ vs) H := S.wiped (nopar (G3 := G.at D acc) rfl S) (L2.wipe σ vs) rfl rfl
    refine .inl ⟨(IT F H E S.trk _).2 rfl, q D F H acc (Sw.unpin hp) E hD k1 r k2 Sw.pinAt.2.2⟩
end
end RX
set_option Elab.async false
set_option linter.all false
set_option maxRecDepth 100000
set_option maxHeartbeats 4000000
/-! RXj: comprehensions as values, statements. -/
namespace RX
open PySem PySem.Spec PyProof.Rows L2
section
variable {K : PySem.W.Frag} {fa : Nat → Addr} {ca : Cc} {W : WX} {C : Calls} {X : Cx} {G : Gh} {F F' : Addr → Prop} {H H' : Hp} {σ σ' : L2.St} {ρ ρ' : Env}
theorem own_unwiped {ρ0 : Env} {F0 : Addr → Prop} {H0 : Hp} {vs : List Nat} (S0 : SR K fa ca G F0 ρ0 σ H0) (f : Free ρ0 vs) (S : SR K fa ca G F ρ (L2.wipe σ vs) H) {i : Nat} {a : Addr} (o : OwnA (RX.unwipe ρ0 ρ vs) σ i a) : OwnA ρ (L2.wipe σ vs) i a := by
  have hl : ρ.length = ρ0.length := by rw [S.len, L2wipe_len, S0.len]
  obtain ⟨o, e⟩ := o
  by_cases h : i ∈ vs
  · rw [unwipe_in hl h] at o
    rcases o with ⟨l, o⟩ | ⟨l, o | o⟩
    · rcases f.sl h o with z | ⟨d, z⟩ <;> cases z
    · rcases f.sl h o with z | ⟨d, z⟩ <;> cases z
    · rcases f.sl h o with z | ⟨d, z⟩ <;> cases z
  · rw [unwipe_out h] at o
    exact ⟨o, by rw [L2wipe_get h]; exact e⟩
theorem Free.nopar {vs : List Nat} (f : Free ρ vs) : ∀ i ∈ vs, ∀ l, ¬ Pr ρ[i]? l := fun i hi l z => by
  rcases z with z | z <;> rcases f.sl hi z with y | ⟨d, y⟩ <;> cases y
theorem comp_read {vs : List Nat} {g : TG} {tt : TT} {te : TE} {tg : Tg} {ts : TD} {elt : Den} {it : ID} (hg : TgS K fa ca tg g) (hsl : ∀ i ∈ tg.slots, i ∈ vs) (ht : ∀ σ H Q, tSemT K fa ca WN ts C σ H Q → tt σ H Q) (he : ∀ σ H Q, tSem K fa ca WN elt C σ H Q → te σ H Q)
    {Q : VK} (h : tSem K fa ca W (dComp vs it tg ts elt) C σ H Q) : tLc (tSemI K fa ca W it C) g tt te vs σ H Q := by
  obtain ⟨G, F, ρ, S, h⟩ := h
  refine ⟨G, F, ρ, S, (RPost.bind (x := it C ρ) h).mono fun l ρ1 h1 J F1 H1 S1 E1 IT => ?_⟩
  split at h1
  · rename_i hc
    have fr := free_of hc.2
    cases e : compL vs tg ts elt C l (RX.wipe ρ1 vs) with
    | exc c fs ρ2 => rw [e] at h1; exact h1.elim
    | stuck => rw [e] at h1; exact h1.elim
    | ok ys ρ2 =>
      rw [e] at h1
      refine lc_read (Qd := fun D H => Q (.ref D) H) hg hsl ht he (S1.wiped fr.nopar (L2.wipe σ vs) (L2wipe_wipe vs) (L2wipe_len σ vs)) IT hc.1 e fun D F' H' acc S' E' hD hD' r nf no => ?_
      refine h1 _ F' H' (S1.unwiped fr S' E') (E1.trans E') ⟨D, acc, rfl, hD', r, nf, ⟨S1.nfr hD, S1.npin hD⟩, fun i o => no i (own_unwiped S1 fr S' o)⟩
  · exact h1.elim
/-! ### statements -/
/-- what is wanted of a statement's end -/
def RpRet0 : True := trivial
/-- what a body hands back: a new deck, too -/
def RpRet (K : PySem.W.Frag) (fa : Nat → Addr) (G : Gh) (F : Addr → Prop) (ρ : Env) (σ : L2.St) (H : Hp) : Ex → V → Prop
  | .d x, v => RpEx K fa G F ρ σ H (.d x) v
  | .fresh l, v => RpEx K fa G F ρ σ H (.fresh l) v
  | .dkn l g, v => ∃ a b xs ys, v = .ref a ∧ a ≠ b ∧ (G.H0 a = none ∧ G.H0 b = none) ∧ (¬ F a ∧ ¬ F b) ∧ (H a = some (.lst xs) ∧ RpL K (fun n => if n = GI then b else fa n) F H xs l) ∧ H b = some (.lst ys) ∧ RpL K fa F H ys g
theorem RpEx.ret {K : PySem.W.Frag} {fa : Nat → Addr} {G : Gh} {F : Addr → Prop} {ρ : Env} {σ : L2.St} {H : Hp} {r : Ex} {v : V} (h : RpEx K fa G F ρ σ H r v) : RpRet K fa G F ρ σ H r v := by
  cases r with
  | d x => exact h
  | fresh l => exact h
  | dkn l g => exact h.elim
def OPost (K : PySem.W.Frag) (fa : Nat → Addr) (ca : Cc) (G : Gh) (F : Addr → Prop) (H : Hp) (W : WX) (D : Ends) (o : Out) : Prop := match o with
  | .next ρ => ∀ F' σ' H', SR K fa ca G F' ρ σ' H' → Ext F H F' H' → D.nx σ' H'
  | .brk ρ => ∀ F' σ' H', SR K fa ca G F' ρ σ' H' → Ext F H F' H' → D.bk σ' H'
  | .cont ρ => ∀ F' σ' H', SR K fa ca G F' ρ σ' H' → Ext F H F' H' → D.ct σ' H'
  | .ret r ρ => ∀ v F' σ' H', SR K fa ca G F' ρ σ' H' → Ext F H F' H' → RpRet K fa G F' ρ σ' H' r v → D.rt v H'
  | .exc c fs ρ => ∀ F' σ' H' cls d, SR K fa ca G F' ρ σ' H' → Ext F H F' H' → ExnR K fa ca F' H' c fs cls d → W cls d σ' H'
  | .stuck => False
def tSemS (K : PySem.W.Frag) (fa : Nat → Addr) (ca : Cc) (W : WX) (b : DS) (C : Calls) : TS := fun D σ H => ∃ G F ρ, SR K fa ca G F ρ σ H ∧ OPost K fa ca G F H W D (b C ρ)
abbrev SimS (fa : Nat → Addr) (ca : Cc) (W : WX) (C : Calls) (X : Cx) (s : Stmt) (b : DS) : Prop := PS X s (tSemS X.K fa ca W b C)
abbrev SimB (fa : Nat → Addr) (ca : Cc) (W : WX) (C : Calls) (X : Cx) (s : List Stmt) (b : DS) : Prop := PSs X s (tSemS X.K fa ca W b C)
theorem ps_le {X : Cx} {s : Stmt} {t t' : TS} (h : PS X s t) (i : ∀ D σ H, t' D σ H → t D σ H) : PS X s t' := ⟨fun pins s σ H D I q => h.run pins s σ H D I (i _ _ _ q)⟩
theorem pss_le {X : Cx} {s : List Stmt} {t t' : TS} (h : PSs X s t) (i : ∀ D σ H, t' D σ H → t D σ H) : PSs X s t' := ⟨fun pins s σ H D I q => h.run pins s σ H D I (i _ _ _ q)⟩
theorem OPost.later {D : Ends} {o : Out} (h : OPost K fa ca G F H W D o) (e : Ext F H F' H') : OPost K fa ca G F' H' W D o := by
  cases o with
  | next ρ => exact fun F2 σ' H2 S E => h F2 σ' H2 S (e.trans E)
  | brk ρ => exact fun F2 σ' H2 S E => h F2 σ' H2 S (e.trans E)
  | cont ρ => exact fun F2 σ' H2 S E => h F2 σ' H2 S (e.trans E)
  | ret r ρ => exact fun v F2 σ' H2 S E => h v F2 σ' H2 S (e.trans E)
  | exc c fs ρ => exact fun F2 σ' H2 cls d S E => h F2 σ' H2 cls d S (e.trans E)
  | stuck => exact h
theorem OPost.out {α : Type} {x : R α} {f : α → Env → Out} {D : Ends} (h : OPost K fa ca G F H W D (x.out f)) : RPost K fa ca G F H σ W x fun a ρ1 => OPost K fa ca G F H W D (f a ρ1) := by
  cases x with
  | ok a ρ => exact h
  | exc c fs ρ => exact fun F' H' cls d S E q => h F' σ H' cls d S E q
  | stuck => exact h
theorem sim_pass {pos : Pos} : SimS fa ca W C X (.Pass pos) sPass := ps_le ps_pass fun D σ H ⟨G, F, ρ, S, h⟩ => h F σ H S Ext.refl
theorem sim_brk {pos : Pos} : SimS fa ca W C X (.Break pos) sBrk := ps_le ps_break fun D σ H ⟨G, F, ρ, S, h⟩ => h F σ H S Ext.refl
theorem sim_cont {pos : Pos} : SimS fa ca W C X (.Continue pos) sCont := ps_le ps_continue fun D σ H ⟨G, F, ρ, S, h⟩ => h F σ H S Ext.refl
theorem sim_set {i : Nat} {s : Stmt} {a : Den} {t : TE} (ht : ∀ σ H Q, tSem X.K fa ca W a C σ H Q → t σ H Q) (pe : PS X s (tAsg t (gName i))) : SimS fa ca W C X s (sSet i a) := by
  refine ps_le pe fun D σ H h => ?_
  obtain ⟨G, F, ρ, S, h⟩ := h
  refine ht _ _ _ ⟨G, F, ρ, S, (OPost.out (x := a C ρ) h).mono fun x ρ1 h1 v F1 H1 S1 E1 r1 => ?_⟩
  cases e : stSl ρ1 i x.sl with
  | none => rw [e] at h1; exact h1.elim
  | some ρ2 => rw [e] at h1; exact h1 F1 _ H1 (stSl_ok S1 e r1) E1
theorem sim_unp {l : List Nat} {s : Stmt} {a : Den} {t : TE} (ht : ∀ σ H Q, tSem X.K fa ca W a C σ H Q → t σ H Q) (pe : PS X s (tAsg t (gTup X.K l.length (gNames l)))) : SimS fa ca W C X s (sUnp l a) := by
  refine ps_le pe fun D σ H h => ?_
  obtain ⟨G, F, ρ, S, h⟩ := h
  refine ht _ _ _ ⟨G, F, ρ, S, (OPost.out (x := a C ρ) h).mono fun x ρ1 h1 v F1 H1 S1 E1 r1 => ?_⟩
  obtain ⟨F1, S1, E1', p1⟩ := S1.frz r1
  cases e : (Tg.t l).st ρ1 x.frz with
  | none => rw [e] at h1; exact h1.elim
  | some ρ2 => rw [e] at h1; exact tg_t (ca := ca) _ _ _ _ _ _ _ _ _ S1 p1 e fun σ' S2 _ => h1 F1 σ' H1 S2 (E1.trans E1')
theorem sim_par {i j : Nat} {s : Stmt} {a b : Expr} {da db : Den} (ha : SimA fa ca W C X [a, b] [da, db]) (pe : ∀ {t}, PA X [a, b] t → PS X s (tPar i j t)) : SimS fa ca W C X s (sPar i j da db) := by
  refine ps_le (pe ha) fun D σ H h => ?_
  obtain ⟨G, F, ρ, S, h⟩ := h
  refine ⟨G, F, ρ, S, (OPost.out (x := dAll [da, db] C ρ) h).mono fun xs ρ1 h1 vs F1 H1 S1 E1 r1 => ?_⟩
  cases e : stAll ρ1 [i, j] xs with
  | none => rw [e] at h1; exact h1.elim
  | some ρ2 =>
    rw [e] at h1
    obtain ⟨q1, q2⟩ := stAll_ok (Q := fun σ' H' => ∃ v w, vs = [v, w] ∧ σ' = (σ.set i (some v)).set j (some w) → D.nx σ' H') S1 r1 e fun σ' S2 _ => ⟨.non, .non, fun _ => h1 F1 σ' H1 S2 E1⟩
    obtain ⟨v, r, rfl, w, r2, e2, e3, _⟩ := q2
    subst e2
    subst e3
    refine ⟨v, w, rfl, ?_⟩
    have e' : ((stSl ρ1 i (.val (xs.getD 0 .non))).bind fun ρ3 => (stSl ρ3 j (.val (xs.getD 1 .non))).bind fun ρ4 => some ρ4) = some ρ2 := by
      cases r1 with
      | cons p t =>
        cases t with
        | cons p' t' =>
          cases t'
          exact e
    cases r1 with
    | @cons _ _ x _ p t =>
      cases t with
      | @cons _ _ y _ p' t' =>
        cases t'
        cases e1 : stSl ρ1 i (.val x) with
        | none =>
          have : stAll ρ1 [i, j] [x, y] = none := by show (stSl ρ1 i (.val x)).bind _ = none; rw [e1]; rfl
          rw [this] at e; cases e
        | some ρ3 =>
          have e4 : stAll ρ1 [i, j] [x, y] = (stSl ρ3 j (.val y)).bind fun ρ4 => some ρ4 := by show (stSl ρ1 i (.val x)).bind _ = _; rw [e1]; rfl
          rw [e4] at e
          cases e5 : stSl ρ3 j (.val y) with
          | none => rw [e5] at e; cases e
          | some ρ4 =>
            rw [e5] at e
            cases e
            have S3 := stSl_ok S1 (r := .d x) e1 p
            exact h1 F1 _ H1 (stSl_ok S3 (r := .d y) e5 p') E1
theorem sim_expr {s : Stmt} {a : Den} {t : TE} (ht : ∀ σ H Q, tSem X.K fa ca W a C σ H Q → t σ H Q) (pe : PS X s (tDrop t)) : SimS fa ca W C X s (sExpr a) := by
  refine ps_le pe fun D σ H h => ?_
  obtain ⟨G, F, ρ, S, h⟩ := h
  exact ht _ _ _ ⟨G, F, ρ, S, (OPost.out (x := a C ρ) h).mono fun x ρ1 h1 v F1 H1 S1 E1 r1 => h1 F1 σ H1 S1 E1⟩
theorem sim_ret {e : Expr} {a : Den} {pos : Pos} (he : SimE fa ca W C X e a) : SimS fa ca W C X (.Return (some e) pos) (sRet a) := by
  refine ps_le (ps_ret he) fun D σ H h => ?_
  obtain ⟨G, F, ρ, S, h⟩ := h
  exact ⟨G, F, ρ, S, (OPost.out (x := a C ρ) h).mono fun x ρ1 h1 v F1 H1 S1 E1 r1 => h1 v F1 σ H1 S1 E1 r1.ret⟩
theorem sim_retN {pos : Pos} : SimS fa ca W C X (.Return none pos) sRetN := ps_le ps_retN fun D σ H ⟨G, F, ρ, S, h⟩ => h .non F σ H S Ext.refl .non
theorem sim_retV {i : Nat} {e : Expr} {pos : Pos} (he : PE X e (tVar i)) : SimS fa ca W C X (.Return (some e) pos) (sRetV i) := by
  refine ps_le (ps_ret he) fun D σ H h => ?_
  obtain ⟨G, F, ρ, S, h⟩ := h
  unfold sRetV at h
  cases e : ρ[i]? with
  | none => rw [e] at h; exact h.elim
  | some s =>
    rw [e] at h
    have q := S.sl i s e
    generalize eo : σ[i]? = o at q
    cases q with
    | val r => exact ⟨_, eo, h _ F σ H S Ext.refl r⟩
    | @own a xs l h1 h2 h3 h4 =>
      have hp : ∀ l, ¬ Pr ρ[i]? l := fun l z => by rw [e] at z; rcases z with z | z <;> cases z
      have S1 := S.drop i hp
      refine ⟨_, eo, h _ F σ H S1 Ext.refl ⟨a, xs, rfl, h1, h3, h2, ⟨h4, ?_⟩, fun j o => ?_⟩⟩
      · cases ep : G.pin a with
        | none => rfl
        | some o => exact absurd ⟨.inl ⟨_, e⟩, eo⟩ ((S.pn a o ep).2.2 i)
      · have hi := (List.getElem?_eq_some_iff.mp e).1
        by_cases z : i = j
        · subst z
          obtain ⟨o, _⟩ := o
          rw [List.getElem?_set_self hi] at o
          rcases o with ⟨l, o⟩ | ⟨l, o | o⟩ <;> cases o
        · exact z (S.dis _ _ _ ⟨.inl ⟨_, e⟩, eo⟩ (o.of_set z))
    | _ => exact h.elim
theorem sim_ifS {c : Expr} {a b : List Stmt} {t : TD} {da db : DS} {pos : Pos} (hc : SimT fa ca W C X c t) (ha : SimB fa ca W C X a da) (hb : SimB fa ca W C X b db) : SimS fa ca W C X (.If c a b pos) (sIf t da db) := by
  refine ps_le (ps_if hc ha hb) fun D σ H h => ?_
  obtain ⟨G, F, ρ, S, h⟩ := h
  refine ⟨G, F, ρ, S, (OPost.out (x := t C ρ) h).mono fun k ρ1 h1 F1 H1 S1 E1 => ?_⟩
  cases k with
  | true => rw [if_pos rfl] at h1 ⊢; exact ⟨G, F1, ρ1, S1, h1.later E1⟩
  | false => rw [if_neg Bool.false_ne_true] at h1 ⊢; exact ⟨G, F1, ρ1, S1, h1.later E1⟩
theorem OPost.seq {D : Ends} {o : Out} {f : Env → Out} {nx : L2.St → Hp → Prop} (h : OPost K fa ca G F H W D (o.bind f)) (n : ∀ ρ1, (∀ F' σ' H', SR K fa ca G F' ρ1 σ' H' → Ext F H F' H' → OPost K fa ca G F' H' W D (f ρ1)) → ∀ F' σ' H', SR K fa ca G F' ρ1 σ' H' → Ext F H F' H' → nx σ' H') :
    OPost K fa ca G F H W { D with nx := nx } o := by
  cases o with
  | next ρ1 => exact n ρ1 fun F' σ' H' S E => OPost.later h E
  | brk ρ => exact h
  | cont ρ => exact h
  | ret r ρ => exact h
  | exc c fs ρ => exact h
  | stuck => exact h
theorem sim_bnil : SimB fa ca W C X [] sPass := pss_le pss_nil fun D σ H ⟨G, F, ρ, S, h⟩ => h F σ H S Ext.refl
theorem sim_bone {s : Stmt} {a : DS} (ha : SimS fa ca W C X s a) : SimB fa ca W C X [s] a := pss_one ha
theorem sim_bcons {s : Stmt} {r : List Stmt} {a b : DS} (ha : SimS fa ca W C X s a) (hb : SimB fa ca W C X r b) : SimB fa ca W C X (s :: r) (sSeq a b) := by
  refine pss_le (pss_cons ha hb) fun D σ H h => ?_
  obtain ⟨G, F, ρ, S, h⟩ := h
  exact ⟨G, F, ρ, S, OPost.seq h fun ρ1 n F' σ' H' S' E => ⟨G, F', ρ1, S', n F' σ' H' S' E⟩⟩
/-! ### loops -/
theorem sim_forG {Z : TI → Prop} {tg it : Expr} {body : List Stmt} {T : Tg} {g : TG} {di : ID} {db : DS} {pos : Pos} (hg : TgS X.K fa ca T g) (hi : Z (tSemI X.K fa ca W di C)) (hb : SimB fa ca W C X body db) (pe : ∀ {wi tb}, Z wi → PSs X body tb → PS X (.For tg it body [] pos) (tFor wi g tb)) :
    SimS fa ca W C X (.For tg it body [] pos) (sFor T di db) := by
  refine ps_le (pe hi hb) fun D σ H h => ?_
  obtain ⟨G, F, ρ, S, h⟩ := h
  refine ⟨G, F, ρ, S, (OPost.out (x := di C ρ) h).mono fun l ρ1 h1 J F1 H1 S1 E1 IT => ?_⟩
  refine ⟨fun i m σ H => m = l.length - i ∧ i ≤ l.length ∧ ∃ F ρ, SR X.K fa ca G F ρ σ H ∧ Ext F1 H1 F H ∧ OPost X.K fa ca G F H W D (forL T db C (l.drop i) ρ), ⟨l.length, rfl, Nat.zero_le _, F1, ρ1, S1, Ext.refl, by rw [List.drop_zero]; exact h1.later E1⟩, fun i m σ H w => ?_⟩
  obtain ⟨rfl, hle, F, ρ, S, E, h⟩ := w
  by_cases hlt : i < l.length
  · have hx : l[i]? = some l[i] := List.getElem?_eq_getElem hlt
    rw [List.drop_eq_getElem_cons hlt] at h
    obtain ⟨go, yld⟩ := (IT F H E S.trk i).1 _ hx
    unfold forL at h
    cases e1 : T.st ρ l[i] with
    | none => rw [e1] at h; exact h.elim
    | some ρ2 =>
      rw [e1] at h
      refine .inr ⟨go, fun σ' H' => ∃ F ρ, SR X.K fa ca G F ρ σ' H' ∧ Ext F1 H1 F H' ∧ OPost X.K fa ca G F H' W D (forL T db C (l.drop (i + 1)) ρ), fun σ' H' n => ⟨l.length - (i + 1), by omega, rfl, hlt, n⟩, fun v H' y => ?_⟩
      obtain ⟨sm, rv⟩ := yld v H' y
      have S' := S.same sm
      have E' := E.trans (S.ext sm)
      refine hg _ _ _ _ _ _ _ _ _ S' rv e1 fun σ2 S2 _ => ⟨G, F, ρ2, S2, ?_⟩
      have h' := OPost.later h (S.ext sm)
      cases e2 : db C ρ2 with
      | next ρ3 => simp only [e2] at h'; exact fun F3 σ3 H3 S3 E3 => ⟨F3, ρ3, S3, E'.trans E3, h'.later E3⟩
      | cont ρ3 => simp only [e2] at h'; exact fun F3 σ3 H3 S3 E3 => ⟨F3, ρ3, S3, E'.trans E3, h'.later E3⟩
      | brk ρ3 => simp only [e2] at h'; exact fun F3 σ3 H3 S3 E3 => h' F3 σ3 H3 S3 E3
      | ret r ρ3 => simp only [e2] at h'; exact h'
      | exc c fs ρ3 => simp only [e2] at h'; exact h'
      | stuck => simp only [e2] at h'; exact h'.elim
  · have hi' : i = l.length := by omega
    subst hi'
    rw [List.drop_length] at h
    exact .inl ⟨(IT F H E S.trk _).2 rfl, h F σ H S Ext.refl⟩
theorem sim_for {tg it : Expr} {body : List Stmt} {T : Tg} {g : TG} {di : ID} {db : DS} {pos : Pos} (hg : TgS X.K fa ca T g) (hi : SimI fa ca W C X tg it di) (hb : SimB fa ca W C X body db) (pe : ∀ {wi tb}, PI X tg it wi → PSs X body tb → PS X (.For tg it body [] pos) (tFor wi g tb)) :
    SimS fa ca W C X (.For tg it body [] pos) (sFor T di db) := sim_forG (Z := PI X tg it) hg hi hb pe
theorem sim_while {c : Expr} {body : List Stmt} {t : TD} {db : DS} {pos : Pos} (hc : SimT fa ca W C X c t) (hb : SimB fa ca W C X body db) (pe : ∀ {tc tb}, PT X c tc → PSs X body tb → PS X (.While c body [] pos) (tWhile tc tb)) : SimS fa ca W C X (.While c body [] pos) (sWhile t db) := by
  refine ps_le (pe hc hb) fun D σ H h => ?_
  obtain ⟨G, F, ρ, S, h⟩ := h
  have h0 : ∃ n, OPost X.K fa ca G F H W D (whileL t db C n ρ) := by
    unfold sWhile at h
    split at h
    · exact ⟨_, h⟩
    · exact h.elim
  obtain ⟨n0, h0⟩ := h0
  refine ⟨fun m σ H => ∃ F ρ, SR X.K fa ca G F ρ σ H ∧ OPost X.K fa ca G F H W D (whileL t db C m ρ), ⟨n0, F, ρ, S, h0⟩, fun m σ H w => ?_⟩
  obtain ⟨F, ρ, S, h⟩ := w
  cases m with
  | zero => exact h.elim
  | succ m =>
    unfold whileL at h
    refine ⟨G, F, ρ, S, (OPost.out (x := t C ρ) h).mono fun k ρ1 h1 F1 H1 S1 E1 => ?_⟩
    cases k with
    | false => rw [if_neg Bool.false_ne_true] at h1 ⊢; exact h1 F1 σ H1 S1 E1
    | true =>
      rw [if_pos rfl] at h1 ⊢
      refine ⟨fun σ' H' => ∃ F ρ, SR X.K fa ca G F ρ σ' H' ∧ OPost X.K fa ca G F H' W D (whileL t db C m ρ), fun σ' H' n => ⟨m, Nat.lt_succ_self m, n⟩, G, F1, ρ1, S1, ?_⟩
      have h' := OPost.later h1 E1
      cases e2 : db C ρ1 with
      | next ρ3 => simp only [e2] at h'; exact fun F3 σ3 H3 S3 E3 => ⟨F3, ρ3, S3, h'.later E3⟩
      | cont ρ3 => simp only [e2] at h'; exact fun F3 σ3 H3 S3 E3 => ⟨F3, ρ3, S3, h'.later E3⟩
      | brk ρ3 => simp only [e2] at h'; exact fun F3 σ3 H3 S3 E3 => h' F3 σ3 H3 S3 E3
      | ret r ρ3 => simp only [e2] at h'; exact h'
      | exc c fs ρ3 => simp only [e2] at h'; exact h'
      | stuck => simp only [e2] at h'; exact h'.elim
end
end RX
set_option Elab.async false
set_option linter.all false
set_option maxRecDepth 100000
set_option maxHeartbeats 4000000
/-! RXjb: comprehensions of two fors. -/
namespace RX
open PySem PySem.Spec PyProof.Rows L2
section
variable {K : PySem.W.Frag} {fa : Nat → Addr} {ca : Cc} {W : WX} {C : Calls} {X : Cx} {G : Gh} {F F' : Addr → Prop} {H H' : Hp} {σ σ' : L2.St} {ρ ρ' : Env}
theorem L2wipe_sub {vs vs1 : List Nat} (h : ∀ i ∈ vs1, i ∈ vs) : L2.wipe (L2.wipe σ vs1) vs = L2.wipe σ vs := by
  apply List.ext_getElem?
  intro i
  have e1 := L2wipe_none (σ := L2.wipe σ vs1) (vs := vs) (i := i)
  have e2 := L2wipe_none (σ := σ) (vs := vs) (i := i)
  have e3 := L2wipe_none (σ := σ) (vs := vs1) (i := i)
  have e4 := L2wipe_len σ vs1
  rw [e1, e2, e4]
  by_cases hi : i ∈ vs ∧ i < σ.length
  · rw [if_pos hi, if_pos hi]
  · rw [if_neg hi, if_neg hi, e3]
    by_cases hj : i ∈ vs1 ∧ i < σ.length
    · exact absurd ⟨h i hj.1, hj.2⟩ hi
    · rw [if_neg hj]
theorem comp2L_wipe {vs vs1 : List Nat} {tg tg1 : Tg} {ts ts1 : TD} {it1 : ID} {elt : Den} : ∀ {l : List D}, comp2L vs vs1 tg ts it1 tg1 ts1 elt C l (RX.wipe ρ vs) = comp2L vs vs1 tg ts it1 tg1 ts1 elt C l ρ
  | [] => by show R.ok [] (RX.wipe (RX.wipe ρ vs) vs) = R.ok [] (RX.wipe ρ vs); rw [wipe_wipe]
  | x :: xs => by unfold comp2L; rw [wipe_wipe]
theorem comp2L_inv {vs vs1 : List Nat} {tg tg1 : Tg} {ts ts1 : TD} {it1 : ID} {elt : Den} {x : D} {xs : List D} {zs : List D} {ρE : Env} (e : comp2L vs vs1 tg ts it1 tg1 ts1 elt C (x :: xs) ρ = .ok zs ρE) :
    ∃ ρ1 b ρ2, tg.st (RX.wipe ρ vs) x = some ρ1 ∧ ts C ρ1 = .ok b ρ2 ∧ (b = false → comp2L vs vs1 tg ts it1 tg1 ts1 elt C xs ρ2 = .ok zs ρE) ∧
      (b = true → ∃ l ρ3 ys ρ4 ws, it1 C ρ2 = .ok l ρ3 ∧ l.length < 4096 ∧ compL vs1 tg1 ts1 elt C l ρ3 = .ok ys ρ4 ∧ comp2L vs vs1 tg ts it1 tg1 ts1 elt C xs ρ4 = .ok ws ρE ∧ zs = ys ++ ws) := by
  unfold comp2L at e
  cases e1 : tg.st (RX.wipe ρ vs) x with
  | none => rw [e1] at e; cases e
  | some ρ1 =>
    rw [e1] at e
    cases e2 : ts C ρ1 with
    | exc c fs ρ2 => simp only [e2] at e; cases e
    | stuck => simp only [e2] at e; cases e
    | ok b ρ2 =>
      simp only [e2, R.bind] at e
      refine ⟨ρ1, b, ρ2, rfl, e2, fun hb => ?_, fun hb => ?_⟩
      · subst hb; simpa using e
      · subst hb
        simp only [if_true] at e
        cases e3 : it1 C ρ2 with
        | exc c fs ρ3 => simp only [e3] at e; cases e
        | stuck => simp only [e3] at e; cases e
        | ok l ρ3 =>
          simp only [e3] at e
          by_cases hl : l.length < 4096
          · rw [if_pos hl] at e
            cases e4 : compL vs1 tg1 ts1 elt C l ρ3 with
            | exc c fs ρ3 => simp only [e4] at e; cases e
            | stuck => simp only [e4] at e; cases e
            | ok ys ρ4 =>
              simp only [e4] at e
              cases e5 : comp2L vs vs1 tg ts it1 tg1 ts1 elt C xs ρ4 with
              | exc c fs ρ3 => simp only [e5] at e; cases e
              | stuck => simp only [e5] at e; cases e
              | ok ws ρ5 =>
                simp only [e5] at e
                cases e
                exact ⟨l, ρ3, ys, ρ4, ws, rfl, hl, e4, e5, rfl⟩
          · rw [if_neg hl] at e; cases e
theorem lc2_read {vs vs1 : List Nat} {g g1 : TG} {tt tt1 : TT} {te : TE} {wi1 : TI} {tg tg1 : Tg} {ts ts1 : TD} {it1 : ID} {elt : Den} {J : It} {l : List D} {F1 : Addr → Prop} {H1 : Hp} {ρ1 ρE : Env} {ys : List D} {Qd : Addr → Hp → Prop}
    (hg : TgS K fa ca tg g) (hg1 : TgS K fa ca tg1 g1) (hsl : ∀ i ∈ tg.slots, i ∈ vs) (hsl1 : ∀ i ∈ tg1.slots, i ∈ vs1) (hv : ∀ i ∈ vs1, i ∈ vs) (ht : ∀ σ H Q, tSemT K fa ca WN ts C σ H Q → tt σ H Q) (hi1 : ∀ σ H R, tSemI K fa ca WN it1 C σ H R → wi1 σ H R)
    (ht1 : ∀ σ H Q, tSemT K fa ca WN ts1 C σ H Q → tt1 σ H Q) (he : ∀ σ H Q, tSem K fa ca WN elt C σ H Q → te σ H Q)
    (S1 : SR K fa ca G F1 ρ1 (L2.wipe σ vs) H1) (IT : ItR K fa F1 H1 J l) (hl : l.length < 4096) (h : comp2L vs vs1 tg ts it1 tg1 ts1 elt C l ρ1 = .ok ys ρE)
    (q : ∀ D F' H' acc, SR K fa ca G F' ρE (L2.wipe σ vs) H' → Ext F1 H1 F' H' → H1 D = none → H' D = some (.lst acc) → RpL K fa F' H' acc ys → ¬ F' D → (∀ i, ¬ OwnA ρE (L2.wipe σ vs) i D) → Qd D H') :
    ∀ D, H1 D = none → ∃ W : Nat → Nat → Hp → Prop, (∃ m, W 0 m (upd H1 D (.lst []))) ∧ ∀ i m H, W i m H →
      (J.stop i H ∧ Qd D H) ∨ (J.go i H ∧ ∃ Nx : Hp → Prop, (∀ H', Nx H' → ∃ m', m' < m ∧ W (i + 1) m' H') ∧ ∀ x H', J.yld i H x H' → g x (L2.wipe σ vs) H' fun σ2 H2 => L2.wipe σ2 vs = L2.wipe σ vs ∧ tt σ2 H2 fun b H3 =>
        if b = true then wi1 σ2 H3 fun J1 H4 => ∃ W1 : Nat → Nat → Hp → Prop, (∃ m, W1 0 m H4) ∧ ∀ j k H, W1 j k H →
          (J1.stop j H ∧ Nx H) ∨ (J1.go j H ∧ ∃ Nx1 : Hp → Prop, (∀ H', Nx1 H' → ∃ k', k' < k ∧ W1 (j + 1) k' H') ∧ ∀ x H', J1.yld j H x H' → g1 x (L2.wipe σ2 vs1) H' fun σ3 H5 => L2.wipe σ3 vs1 = L2.wipe σ2 vs1 ∧ tt1 σ3 H5 fun b H6 =>
            if b = true then te σ3 H6 fun y H7 => ∃ acc, H7 D = some (.lst acc) ∧ acc.length < sizeLine ∧ Nx1 (upd H7 D (.lst (acc ++ [y]))) else Nx1 H6)
        else Nx H3) := by
  intro D hD
  have h0 := S1.nfr hD
  have hp := S1.npin hD
  refine ⟨fun i m H => m = l.length - i ∧ i ≤ l.length ∧ ∃ F ρ acc pre zs, SR K fa ca (G.at D acc) F ρ (L2.wipe σ vs) H ∧ Ext F1 H1 F H ∧ RpL K fa F H acc pre ∧ acc.length ≤ 4096 * i ∧ comp2L vs vs1 tg ts it1 tg1 ts1 elt C (l.drop i) ρ = .ok zs ρE ∧ ys = pre ++ zs,
    ⟨l.length, rfl, Nat.zero_le _, F1, ρ1, [], [], ys, S1.pinNew hD [], S1.ext (same_new hD), .nil, Nat.zero_le _, by rw [List.drop_zero]; exact h, rfl⟩, fun i m H w => ?_⟩
  obtain ⟨rfl, hi, F, ρ, acc, pre, zs, S, E, r, hacc, e, hys⟩ := w
  have nopar : ∀ {G3 : Gh} {F3 : Addr → Prop} {ρ3 : Env} {σ3 : L2.St} {H3 : Hp}, G3.pars = G.pars → SR K fa ca G3 F3 ρ3 σ3 H3 → ∀ j ∈ vs, ∀ l', ¬ Pr ρ3[j]? l' := fun {G3 F3 ρ3 σ3 H3} hG S3 j hj l' z => by
    have key : ∀ a, (j, a) ∈ G3.pars → False := fun a h4 => by
      rw [hG] at h4
      have n := (S1.par _ h4).2
      rw [L2wipe_none] at n
      by_cases hh : j < σ.length
      · rw [if_pos ⟨hj, hh⟩] at n; cases n
      · rw [if_neg fun q => hh q.2, List.getElem?_eq_none (by omega)] at n; cases n
    rcases z with z | z
    · have k := S3.sl j _ z
      generalize σ3[j]? = w at k
      cases k with
      | par h1 h2 h3 h4 => exact key _ h4
    · have k := S3.sl j _ z
      generalize σ3[j]? = w at k
      cases k with
      | gh h1 h2 h3 h4 => exact key _ h4
  by_cases hlt : i < l.length
  · have hx : l[i]? = some l[i] := List.getElem?_eq_getElem hlt
    rw [List.drop_eq_getElem_cons hlt] at e
    obtain ⟨ρ1', b, ρ2, e1, e2, eF, eT⟩ := comp2L_inv e
    obtain ⟨go, yld⟩ := (IT F H E S.trk i).1 _ hx
    refine .inr ⟨go, fun H' => ∃ F ρ acc pre zs', SR K fa ca (G.at D acc) F ρ (L2.wipe σ vs) H' ∧ Ext F1 H1 F H' ∧ RpL K fa F H' acc pre ∧ acc.length ≤ 4096 * (i + 1) ∧ comp2L vs vs1 tg ts it1 tg1 ts1 elt C (l.drop (i + 1)) ρ = .ok zs' ρE ∧ ys = pre ++ zs', fun H' n => ?_, fun v H' y => ?_⟩
    · exact ⟨l.length - (i + 1), by omega, rfl, hlt, n⟩
    · obtain ⟨sm, rv⟩ := yld v H' y
      have S' := S.same sm
      have E' := E.trans (S.ext sm)
      have Sw : SR K fa ca (G.at D acc) F (RX.wipe ρ vs) (L2.wipe σ vs) H' := S'.wiped (nopar (G3 := G.at D acc) rfl S') (L2.wipe σ vs) rfl rfl
      refine hg _ _ _ _ _ _ _ _ _ Sw rv e1 fun σ2 S2 hw => ⟨(hw vs hsl).trans (L2wipe_wipe vs), ?_⟩
      have hw2 : L2.wipe σ2 vs = L2.wipe σ vs := (hw vs hsl).trans (L2wipe_wipe vs)
      have back : ∀ {F3 : Addr → Prop} {ρ3 : Env} {H3 : Hp} {acc' : List V}, SR K fa ca (G.at D acc') F3 ρ3 σ2 H3 → SR K fa ca (G.at D acc') F3 (RX.wipe ρ3 vs) (L2.wipe σ vs) H3 := fun {F3 ρ3 H3 acc'} S3 =>
        S3.wiped (nopar (G3 := G.at D acc') rfl S3) (L2.wipe σ vs) (by rw [L2wipe_wipe, hw2]) (by rw [← hw2, L2wipe_len])
      have back1 : ∀ {F3 : Addr → Prop} {ρ3 : Env} {H3 : Hp} {acc' : List V}, SR K fa ca (G.at D acc') F3 ρ3 (L2.wipe σ2 vs1) H3 → SR K fa ca (G.at D acc') F3 (RX.wipe ρ3 vs) (L2.wipe σ vs) H3 := fun {F3 ρ3 H3 acc'} S3 =>
        S3.wiped (nopar (G3 := G.at D acc') rfl S3) (L2.wipe σ vs) (by rw [L2wipe_wipe, L2wipe_sub hv, hw2]) (by have q := congrArg List.length hw2; rw [L2wipe_len, L2wipe_len] at q; rw [L2wipe_len, L2wipe_len]; exact q.symm)
      refine ht _ _ _ ⟨_, F, ρ1', S2, ?_⟩
      rw [e2]
      intro F3 H3 S3 E3
      cases b with
      | false =>
        rw [if_neg Bool.false_ne_true]
        exact ⟨F3, RX.wipe ρ2 vs, acc, pre, zs, back S3, E'.trans E3, RpL.ext ((S.ext sm).trans E3) _ _ r, by omega, by rw [comp2L_wipe]; exact eF rfl, hys⟩
      | true =>
        rw [if_pos rfl]
        obtain ⟨l1, ρ3, zs1, ρ4, ws, e3, hl1, e4, e5, rfl⟩ := eT rfl
        refine hi1 _ _ _ ⟨_, F3, ρ2, S3, ?_⟩
        rw [e3]
        intro J1 F4 H4 S4 E4 IT1
        have EB := (S.ext sm).trans (E3.trans E4)
        have r4 := RpL.ext EB _ _ r
        have Sw1 : SR K fa ca (G.at D acc) F4 (RX.wipe ρ3 vs1) (L2.wipe σ2 vs1) H4 := S4.wiped (fun j hj => nopar (G3 := G.at D acc) rfl S4 j (hv j hj)) (L2.wipe σ2 vs1) (L2wipe_wipe vs1) (L2wipe_len σ2 vs1)
        refine ⟨fun j k H => k = l1.length - j ∧ j ≤ l1.length ∧ ∃ F ρ acc pre zs2, SR K fa ca (G.at D acc) F ρ (L2.wipe σ2 vs1) H ∧ Ext F4 H4 F H ∧ RpL K fa F H acc pre ∧ acc.length ≤ 4096 * i + j ∧ compL vs1 tg1 ts1 elt C (l1.drop j) ρ = .ok zs2 ρ4 ∧ ys = pre ++ (zs2 ++ ws),
          ⟨l1.length, rfl, Nat.zero_le _, F4, RX.wipe ρ3 vs1, acc, pre, zs1, Sw1, Ext.refl, r4, by omega, by rw [List.drop_zero, compL_wipe]; exact e4, hys⟩, fun j k H w => ?_⟩
        obtain ⟨rfl, hj, F5, ρ5, acc5, pre5, zs5, S5, E5, r5, hacc5, e6, hys5⟩ := w
        by_cases hlt1 : j < l1.length
        · have hx1 : l1[j]? = some l1[j] := List.getElem?_eq_getElem hlt1
          rw [List.drop_eq_getElem_cons hlt1] at e6
          obtain ⟨ρ6, b1, ρ7, f1, f2, fF, fT⟩ := compL_inv e6
          obtain ⟨go1, yld1⟩ := (IT1 F5 H E5 S5.trk j).1 _ hx1
          refine .inr ⟨go1, fun H' => ∃ F ρ acc pre zs2, SR K fa ca (G.at D acc) F ρ (L2.wipe σ2 vs1) H' ∧ Ext F4 H4 F H' ∧ RpL K fa F H' acc pre ∧ acc.length ≤ 4096 * i + (j + 1) ∧ compL vs1 tg1 ts1 elt C (l1.drop (j + 1)) ρ = .ok zs2 ρ4 ∧ ys = pre ++ (zs2 ++ ws), fun H' n => ?_, fun v1 H6 y1 => ?_⟩
          · exact ⟨l1.length - (j + 1), by omega, rfl, hlt1, n⟩
          · obtain ⟨sm1, rv1⟩ := yld1 v1 H6 y1
            have S6 := S5.same sm1
            have E6 := E5.trans (S5.ext sm1)
            have Sw6 : SR K fa ca (G.at D acc5) F5 (RX.wipe ρ5 vs1) (L2.wipe σ2 vs1) H6 := S6.wiped (fun j hj => nopar (G3 := G.at D acc5) rfl S6 j (hv j hj)) (L2.wipe σ2 vs1) rfl rfl
            refine hg1 _ _ _ _ _ _ _ _ _ Sw6 rv1 f1 fun σ3 S7 hw7 => ⟨(hw7 vs1 hsl1).trans (L2wipe_wipe vs1), ?_⟩
            have hw3 : L2.wipe σ3 vs1 = L2.wipe σ2 vs1 := (hw7 vs1 hsl1).trans (L2wipe_wipe vs1)
            have back3 : ∀ {F3 : Addr → Prop} {ρ3 : Env} {H3 : Hp} {acc' : List V}, SR K fa ca (G.at D acc') F3 ρ3 σ3 H3 → SR K fa ca (G.at D acc') F3 (RX.wipe ρ3 vs1) (L2.wipe σ2 vs1) H3 := fun {F3 ρ3 H3 acc'} S3 =>
              S3.wiped (fun j hj => nopar (G3 := G.at D acc') rfl S3 j (hv j hj)) (L2.wipe σ2 vs1) (by rw [L2wipe_wipe, hw3]) (by rw [← hw3, L2wipe_len])
            refine ht1 _ _ _ ⟨_, F5, ρ6, S7, ?_⟩
            rw [f2]
            intro F8 H8 S8 E8
            cases b1 with
            | false =>
              rw [if_neg Bool.false_ne_true]
              exact ⟨F8, RX.wipe ρ7 vs1, acc5, pre5, zs5, back3 S8, E6.trans E8, RpL.ext ((S5.ext sm1).trans E8) _ _ r5, by omega, by rw [compL_wipe]; exact fF rfl, hys5⟩
            | true =>
              rw [if_pos rfl]
              obtain ⟨y, ρ8, ws5, f3, f4, rfl⟩ := fT rfl
              refine he _ _ _ ⟨_, F8, ρ7, S8, ?_⟩
              rw [f3]
              intro v9 F9 H9 S9 E9 r9
              obtain ⟨F10, S10, E10, p10⟩ := S9.frz r9
              obtain ⟨k1, k2, k3⟩ := S10.pinAt
              refine ⟨acc5, k1, by rw [sizeLine_eq]; omega, ?_⟩
              obtain ⟨S11, E11⟩ := S10.pinUpd (new := acc5 ++ [v9]) h0
              have EE := ((E8.trans E9).trans E10).trans E11
              exact ⟨F10, RX.wipe ρ8 vs1, acc5 ++ [v9], pre5 ++ [y.frz], ws5, back3 S11, E6.trans EE, (RpL.ext ((S5.ext sm1).trans EE) _ _ r5).append (.cons (Rp.ext E11 _ _ p10) .nil), by simp; omega, by rw [compL_wipe]; exact f4, by rw [hys5]; simp⟩
        · have hj' : j = l1.length := by omega
          subst hj'
          rw [List.drop_length] at e6
          have e6' : R.ok [] (RX.wipe ρ5 vs1) = R.ok zs5 ρ4 := e6
          cases e6'
          have Sw5 : SR K fa ca (G.at D acc5) F5 (RX.wipe ρ5 vs1) (L2.wipe σ2 vs1) H := S5.wiped (fun j hj => nopar (G3 := G.at D acc5) rfl S5 j (hv j hj)) (L2.wipe σ2 vs1) rfl rfl
          exact .inl ⟨(IT1 F5 H E5 S5.trk _).2 rfl, F5, RX.wipe (RX.wipe ρ5 vs1) vs, acc5, pre5, ws, back1 Sw5, (E'.trans (E3.trans E4)).trans E5, r5, by omega, by rw [comp2L_wipe]; exact e5, by rw [hys5]; rfl⟩
  · have hi' : i = l.length := by omega
    subst hi'
    rw [List.drop_length] at e
    have e' : R.ok [] (RX.wipe ρ vs) = R.ok zs ρE := e
    cases e'
    obtain ⟨k1, k2, k3⟩ := S.pinAt
    rw [List.append_nil] at hys
    subst hys
    have Sw : SR K fa ca (G.at D acc) F (RX.wipe ρ vs) (L2.wipe σ vs) H := S.wiped (nopar (G3 := G.at D acc) rfl S) (L2.wipe σ vs) rfl rfl
    refine .inl ⟨(IT F H E S.trk _).2 rfl, q D F H acc (Sw.unpin hp) E hD k1 r k2 Sw.pinAt.2.2⟩
theorem comp2_read {vs vs1 : List Nat} {g g1 : TG} {tt tt1 : TT} {te : TE} {wi1 : TI} {tg tg1 : Tg} {ts ts1 : TD} {elt : Den} {it it1 : ID} (hg : TgS K fa ca tg g) (hg1 : TgS K fa ca tg1 g1) (hsl : ∀ i ∈ tg.slots, i ∈ vs) (hsl1 : ∀ i ∈ tg1.slots, i ∈ vs1) (hv : ∀ i ∈ vs1, i ∈ vs)
    (ht : ∀ σ H Q, tSemT K fa ca WN ts C σ H Q → tt σ H Q) (hi1 : ∀ σ H R, tSemI K fa ca WN it1 C σ H R → wi1 σ H R) (ht1 : ∀ σ H Q, tSemT K fa ca WN ts1 C σ H Q → tt1 σ H Q) (he : ∀ σ H Q, tSem K fa ca WN elt C σ H Q → te σ H Q)
    {Q : VK} (h : tSem K fa ca W (dComp2 vs vs1 it tg ts it1 tg1 ts1 elt) C σ H Q) : tLc2 (tSemI K fa ca W it C) g tt wi1 g1 tt1 te vs vs1 σ H Q := by
  obtain ⟨G, F, ρ, S, h⟩ := h
  refine ⟨G, F, ρ, S, (RPost.bind (x := it C ρ) h).mono fun l ρ1 h1 J F1 H1 S1 E1 IT => ?_⟩
  split at h1
  · rename_i hc
    have fr := free_of hc.2
    cases e : comp2L vs vs1 tg ts it1 tg1 ts1 elt C l (RX.wipe ρ1 vs) with
    | exc c fs ρ2 => rw [e] at h1; exact h1.elim
    | stuck => rw [e] at h1; exact h1.elim
    | ok ys ρ2 =>
      rw [e] at h1
      refine lc2_read (Qd := fun D H => Q (.ref D) H) hg hg1 hsl hsl1 hv ht hi1 ht1 he (S1.wiped fr.nopar (L2.wipe σ vs) (L2wipe_wipe vs) (L2wipe_len σ vs)) IT hc.1 e fun D F' H' acc S' E' hD hD' r nf no => ?_
      refine h1 _ F' H' (S1.unwiped fr S' E') (E1.trans E') ⟨D, acc, rfl, hD', r, nf, ⟨S1.nfr hD, S1.npin hD⟩, fun i o => no i (own_unwiped S1 fr S' o)⟩
  · exact h1.elim
end
end RX
set_option Elab.async false
set_option linter.all false
set_option maxRecDepth 100000
set_option maxHeartbeats 4000000
/-! RXk: append, x[k] = e, raise, try. -/
namespace RX
open PySem PySem.Spec PyProof.Rows L2
section
variable {K : PySem.W.Frag} {fa : Nat → Addr} {ca : Cc} {W : WX} {C : Calls} {X : Cx} {G : Gh} {F F' : Addr → Prop} {H H' : Hp} {σ σ' : L2.St} {ρ ρ' : Env}
theorem sim_app {i : Nat} {a e : Expr} {d : Den} {s : Stmt} (ha : PE X a (tVar i)) (he : SimE fa ca W C X e d) (st : starEach [e] X.env = (false, eval e X.env) :: starEach [] X.env)
    (pe : ∀ {t u}, PE X a t → PA X [e] u → PS X s (tDrop (tBM X.K "list" rAppend t u))) : SimS fa ca W C X s (sApp i d) := by
  refine ps_le (pe ha (pa_cons he pa_nil st)) fun Dn σ H h => ?_
  obtain ⟨G, F, ρ, S, h⟩ := h
  unfold sApp at h
  cases e0 : isOwn ρ[i]? with
  | false => rw [e0] at h; exact h.elim
  | true =>
    rw [e0] at h
    obtain ⟨t, l, mk, et, M⟩ := isOwn_mine e0
    obtain ⟨a0, xs0, ea, eH, _, _⟩ := S.mine M et
    refine ⟨.ref a0, ea, tyV_lst eH, G, F, ρ, S, (OPost.out (x := d C ρ) h).mono fun y ρ1 h1 v F1 H1 S1 E1 r1 => ?_⟩
    obtain ⟨F1, S1, E1', p1⟩ := S1.frz r1
    have go : ∀ {s : Sl} {l : List D} {mk : List D → Sl}, Mine s l mk → ρ1[i]? = some s → OPost X.K fa ca G F H W Dn (if l.length < LIM then .next (ρ1.set i (mk (l ++ [y.frz]))) else .stuck) → rAppend (.ref a0) [v] H1 (fun _ H1 => Dn.nx σ H1) := fun {s l mk} M e q => by
      obtain ⟨a, xs, e1, e2, nf, r⟩ := S1.mine M e
      rw [ea] at e1
      cases e1
      by_cases hl : l.length < LIM
      · rw [if_pos hl] at q
        have hl' : xs.length < LIM := by rw [r.length]; exact hl
        obtain ⟨S2, E2⟩ := S1.write M e ea (r.append (.cons p1 .nil))
        exact ⟨a0, xs, v, rfl, rfl, e2, by rw [lim_eq]; exact hl', q F1 σ _ S2 ((E1.trans E1').trans E2)⟩
      · rw [if_neg hl] at q; exact q.elim
    cases e : ρ1[i]? with
    | none => rw [e] at h1; exact h1.elim
    | some s =>
      rw [e] at h1
      cases s with
      | own l => exact go (.own l) e h1
      | par l => exact go (.par l) e h1
      | _ => exact h1.elim
theorem sim_put {i : Nat} {s : Stmt} {a k e : Expr} {dk d : Den} {p : Pos} (ha : PE X a (tVar i)) (hk : SimE fa ca W C X k dk) (he : SimE fa ca W C X e d) (pe : ∀ {t u v}, PE X e t → PE X a u → PE X k v → PS X s (tAsg t (gSub u v rSetL))) : SimS fa ca W C X s (sPut i dk d) := by
  refine ps_le (pe he ha hk) fun Dn σ H h => ?_
  obtain ⟨G, F, ρ, S, h⟩ := h
  refine ⟨G, F, ρ, S, (OPost.out (x := d C ρ) h).mono fun y ρ1 h1 v F1 H1 S1 E1 r1 => ?_⟩
  obtain ⟨F1, S1, E1', p1⟩ := S1.frz r1
  cases e0 : isOwn ρ1[i]? with
  | false => rw [e0] at h1; exact h1.elim
  | true =>
    rw [e0] at h1
    obtain ⟨t, l, mk, et, M⟩ := isOwn_mine e0
    obtain ⟨a0, xs0, ea, eH, _, _⟩ := S1.mine M et
    refine ⟨.ref a0, ea, G, F1, ρ1, S1, ((OPost.out (x := dk C ρ1) h1).later (E1.trans E1')).mono fun z ρ2 h2 w F2 H2 S2 E2 r2 => ?_⟩
    obtain ⟨F2, S2, E2', p2⟩ := S2.frz r2
    cases e1 : z.frz.asInt? with
    | none => simp only [e1] at h2; exact h2.elim
    | some j =>
      simp only [e1] at h2
      cases asInt_ok e1 p2
      have go : ∀ {s : Sl} {l : List D} {mk : List D → Sl}, Mine s l mk → ρ2[i]? = some s → OPost X.K fa ca G F H W Dn (match putAt l j y.frz with
          | some m => .next (ρ2.set i (mk m))
          | none => .stuck) → rSetL (.ref a0) (.int j) v H2 (fun H3 => Dn.nx σ H3) := fun {s l mk} M e q => by
        obtain ⟨a, xs, e1, e2, nf, r⟩ := S2.mine M e
        rw [ea] at e1
        cases e1
        unfold putAt at q
        cases e3 : RX.ixN l.length j with
        | none => rw [e3] at q; exact q.elim
        | some k =>
          rw [e3] at q
          obtain ⟨S3, E3⟩ := S2.write M e ea (RpL.set (Rp.ext (E2.trans E2') _ _ p1) k r)
          exact ⟨a0, xs, j, k, rfl, rfl, e2, by rw [r.length]; exact e3, q F2 σ _ S3 ((((E1.trans E1').trans E2).trans E2').trans E3)⟩
      cases e : ρ2[i]? with
      | none => rw [e] at h2; exact h2.elim
      | some s =>
        rw [e] at h2
        cases s with
        | own l => exact go (.own l) e h2
        | par l => exact go (.par l) e h2
        | _ => exact h2.elim
/-! ### raise -/
/-- the promise of an __init__ that keeps its arguments in its fields -/
def spI (fl : List Str) (c : Addr) : Sp := fun vs H Q _ => ∃ (a : Addr) (ys : List V), vs = .ref a :: ys ∧ ys.length = fl.length ∧ H a = some (exo a c none) ∧ ∀ d, H d = none → d ≠ a → Q .non (upd (upd H d (exd d (fl.zip ys).reverse)) a (exo a c (some d)))
theorem lookup_zip {K : PySem.W.Frag} {fa : Nat → Addr} {F : Addr → Prop} {H : Hp} {f : Str} : ∀ {fl : List Str} {xs : List D} {vs : List V} {x : D}, RpL K fa F H vs xs → (fl.zip xs).lookup f = some x → ∃ v, (fl.zip vs).lookup f = some v ∧ Rp K fa F H v x
  | [], _, _, _, _, h => by cases h
  | g :: fl, [], _, _, _, h => by cases h
  | g :: fl, x :: xs, _, y, .cons (v := v) (vs := vs) p r, h => by
    have h' : (match f == g with | true => some x | false => (fl.zip xs).lookup f) = some y := h
    show ∃ w, (match f == g with | true => some v | false => (fl.zip vs).lookup f) = some w ∧ _
    cases e : f == g with
    | true => rw [e] at h'; cases h'; exact ⟨v, rfl, p⟩
    | false => rw [e] at h'; exact lookup_zip r h'
theorem lookup_notin {α : Type} {f : Str} : ∀ {l : List (Str × α)}, f ∉ l.map (·.1) → l.lookup f = none
  | [], _ => rfl
  | (g, y) :: l, h => by
    show (match f == g with | true => some y | false => l.lookup f) = none
    have e : (f == g) = false := by
      cases z : f == g with
      | false => rfl
      | true => exact absurd (by rw [eq_of_beq z]; exact List.mem_cons_self) h
    rw [e]
    exact lookup_notin fun z => h (List.mem_cons_of_mem _ z)
theorem lookup_snoc {α : Type} {f g : Str} {y : α} : ∀ {l : List (Str × α)}, (l ++ [(g, y)]).lookup f = (match l.lookup f with | some v => some v | none => if f = g then some y else none)
  | [] => by
    show (match f == g with | true => some y | false => none) = if f = g then some y else none
    cases z : f == g with
    | true => rw [if_pos (eq_of_beq z)]
    | false => rw [if_neg (by intro e; rw [e] at z; simp at z)]
  | (k, v) :: l => by
    show (match f == k with | true => some v | false => (l ++ [(g, y)]).lookup f) = (match (match f == k with | true => some v | false => l.lookup f) with | some v => some v | none => _)
    cases f == k with
    | true => rfl
    | false => exact lookup_snoc
theorem lookup_rev {α : Type} {f : Str} : ∀ {l : List (Str × α)}, (l.map (·.1)).Nodup → l.reverse.lookup f = l.lookup f
  | [], _ => rfl
  | (g, y) :: l, h => by
    have h1 : g ∉ l.map (·.1) := (List.nodup_cons.mp h).1
    have h2 := (List.nodup_cons.mp h).2
    rw [List.reverse_cons, lookup_snoc, lookup_rev h2]
    show _ = (match f == g with | true => some y | false => l.lookup f)
    cases z : f == g with
    | true =>
      have e := eq_of_beq z
      subst e
      rw [lookup_notin h1]
      show (if f = f then some y else none) = some y
      rw [if_pos rfl]
    | false =>
      have ne : f ≠ g := fun e => by rw [e] at z; simp at z
      cases l.lookup f with
      | some v => rfl
      | none => show (if f = g then some y else none) = none; rw [if_neg ne]
theorem zip_fst {α : Type} : ∀ {fl : List Str} {ys : List α}, ys.length = fl.length → (fl.zip ys).map (·.1) = fl
  | [], _, _ => rfl
  | f :: fl, [], h => by cases h
  | f :: fl, y :: ys, h => by
    show f :: (fl.zip ys).map (·.1) = f :: fl
    rw [zip_fst (by simpa using h)]
theorem sim_raise {c : Nat} {fl : List Str} {es : List Expr} {ds : List Den} {e : Expr} {pos : Pos} (hc : X.calm = true) (tk : L2N.Takes X W) (nd : fl.Nodup) (hl : fl.length ≤ 900) (ha : SimA fa ca W C X es ds)
    (pe : ∀ {t}, PA X es t → L2N.PMk X e (tMkO (ca.ca c) (spI fl (ca.ca c)) [] t)) : SimS fa ca W C X (.Raise (some e) none pos) (sRaise c fl ds) := by
  refine ps_le (L2N.ps_raise hc tk (pe ha)) fun D σ H h => ?_
  obtain ⟨G, F, ρ, S, h⟩ := h
  refine ⟨G, F, ρ, S, (OPost.out (x := dAll ds C ρ) h).mono fun xs ρ1 h1 vs F1 H1 S1 E1 r1 => ?_⟩
  by_cases hx : xs.length = fl.length
  · rw [if_pos hx] at h1
    have hv : vs.length = fl.length := by rw [r1.length]; exact hx
    refine ⟨by omega, fun a ha => ⟨a, vs, by rw [List.append_nil], hv, upd_same, fun d hd dne => ⟨rfl, d, (fl.zip vs).reverse, upd_same, ?_, ?_, ?_⟩⟩⟩
    · rw [upd_ne dne, upd_same]
    · rw [upd_ne dne] at hd; exact hd
    · have hd' : H1 d = none := by rw [upd_ne dne] at hd; exact hd
      have eh : upd (L2.del (upd (upd (upd H1 a (exo a (ca.ca c) none)) d (exd d (fl.zip vs).reverse)) a (exo a (ca.ca c) (some d))) a) d (.xd (fl.zip vs).reverse) = upd H1 d (.xd (fl.zip vs).reverse) := by
        funext b
        by_cases h1 : b = d
        · subst h1; rw [upd_same, upd_same]
        · rw [upd_ne h1, upd_ne h1]
          by_cases h2 : b = a
          · subst h2; rw [del_same, ha]
          · rw [del_ne h2, upd_ne h2, upd_ne h1, upd_ne h2]
      rw [eh]
      have sm : Same H1 (upd H1 d (.xd (fl.zip vs).reverse)) := same_new hd'
      refine h1 F1 σ _ _ _ (S1.same sm) (E1.trans (S1.ext sm)) ⟨rfl, d, _, rfl, upd_same, fun f x hf => ?_⟩
      obtain ⟨v, q1, q2⟩ := lookup_zip r1 hf
      exact ⟨v, by rw [lookup_rev (by rw [zip_fst hv]; exact nd)]; exact q1, Rp.ext (S1.ext sm) _ _ q2⟩
  · rw [if_neg hx] at h1; exact h1.elim
/-! ### try -/
abbrev Cc.in (ca : Cc) (i : Nat) (a : Addr) (cls : Value) (d : Option Addr) : Cc := { ca with ex := some (i, a, cls, d) }
theorem OwnA.of_exn {i j : Nat} {c : Nat} {fs : List (Str × D)} {a b : Addr} (hi : i < ρ.length) (q : OwnA (ρ.set i (.exn c fs)) (σ.set i (some (.ref b))) j a) : i ≠ j ∧ OwnA ρ σ j a := by
  have z : i ≠ j := fun z => by
    subst z
    obtain ⟨q, _⟩ := q
    rw [List.getElem?_set_self hi] at q
    rcases q with ⟨l, q⟩ | ⟨l, q | q⟩ <;> cases q
  obtain ⟨q, e⟩ := q
  rw [List.getElem?_set_ne z] at q e
  exact ⟨z, q, e⟩
/-- into the suite -/
theorem SR.suiteIn (S : SR K fa ca G F ρ σ H) (hex : ca.ex = none) {i : Nat} {a : Addr} {c : Nat} {fs : List (Str × D)} {cls : Value} {d : Option Addr} {ρ1 : Env} (e : stSl ρ i (.exn c fs) = some ρ1) (x : ExnR K fa ca F H c fs cls d) : SR K fa (ca.in i a cls d) G F ρ1 (σ.set i (some (.ref a))) H := by
  unfold stSl at e
  cases e0 : ρ[i]? with
  | none => rw [e0] at e; cases e
  | some s0 =>
    rw [e0] at e
    have hi : i < ρ.length := (List.getElem?_eq_some_iff.mp e0).1
    have hs : i < σ.length := by rw [← S.len]; exact hi
    have np : ∀ l, s0 ≠ .par l := fun l z => by subst z; cases e
    have e1 : ρ1 = ρ.set i (.exn c fs) := by
      cases s0 with
      | par l => exact absurd rfl (np l)
      | gh l => cases e
      | exn c2 fs2 => cases e
      | none => cases e; rfl
      | val d => cases e; rfl
      | own l => cases e; rfl
    subst e1
    refine ⟨by rw [List.length_set, List.length_set]; exact S.len, fun j s q => ?_, fun j k b h1 h2 => S.dis j k b (h1.of_exn hi).2 (h2.of_exn hi).2, S.trk, S.fr, S.new, S.up, fun p hp => ?_, S.gp, fun b o q => ⟨(S.pn b o q).1, (S.pn b o q).2.1, fun j h => (S.pn b o q).2.2 j (h.of_exn hi).2⟩⟩
    · by_cases z : i = j
      · subst z
        rw [List.getElem?_set_self hi] at q
        cases q
        rw [List.getElem?_set_self hs]
        exact .exn rfl x
      · rw [List.getElem?_set_ne z] at q ⊢
        have y := S.sl j s q
        generalize σ[j]? = o at y
        cases y with
        | none => exact .none
        | val r => exact .val r
        | own h1 h2 h3 h4 => exact .own h1 h2 h3 h4
        | par h1 h2 h3 h4 => exact .par h1 h2 h3 h4
        | gh h1 h2 h3 h4 => exact .gh h1 h2 h3 h4
        | exn h1 h2 => rw [hex] at h1; cases h1
    · obtain ⟨⟨l, h1⟩, h2⟩ := S.par p hp
      have z : i ≠ p.1 := fun z => by
        rw [← z, e0] at h1
        rcases h1 with h1 | h1
        · cases h1
          exact np l rfl
        · cases h1
          cases e
      exact ⟨⟨l, by rw [List.getElem?_set_ne z]; exact h1⟩, by rw [List.getElem?_set_ne z]; exact h2⟩
theorem own_none {i j : Nat} {a : Addr} (h : OwnA (ρ.set i .none) (σ.set i none) j a) : OwnA ρ σ j a := by
  obtain ⟨h, e⟩ := h
  by_cases z : i = j
  · subst z
    by_cases hl : i < ρ.length
    · rw [List.getElem?_set_self hl] at h
      rcases h with ⟨l, h⟩ | ⟨l, h | h⟩ <;> cases h
    · rw [List.getElem?_eq_none (by rw [List.length_set]; omega)] at h
      rcases h with ⟨l, h⟩ | ⟨l, h | h⟩ <;> cases h
  · rw [List.getElem?_set_ne z] at h e; exact ⟨h, e⟩
/-- out of the suite -/
theorem SR.suiteOut {i : Nat} {a : Addr} {cls : Value} {d : Option Addr} (S : SR K fa (ca.in i a cls d) G F ρ σ H) (np : ∀ p ∈ G.pars, p.1 ≠ i) : SR K fa ca G F (ρ.set i .none) (σ.set i none) H := by
  refine ⟨by rw [List.length_set, List.length_set]; exact S.len, fun j s q => ?_, fun j k b h1 h2 => S.dis j k b (own_none h1) (own_none h2), S.trk, S.fr, S.new, S.up, fun p hp => ?_, S.gp, fun b o q => ⟨(S.pn b o q).1, (S.pn b o q).2.1, fun j h => (S.pn b o q).2.2 j (own_none h)⟩⟩
  · by_cases z : i = j
    · subst z
      by_cases hl : i < ρ.length
      · rw [List.getElem?_set_self hl] at q; cases q; exact .none
      · rw [List.getElem?_eq_none (by rw [List.length_set]; omega)] at q; cases q
    · rw [List.getElem?_set_ne z] at q ⊢
      have y := S.sl j s q
      generalize σ[j]? = o at y
      cases y with
      | none => exact .none
      | val r => exact .val r
      | own h1 h2 h3 h4 => exact .own h1 h2 h3 h4
      | par h1 h2 h3 h4 => exact .par h1 h2 h3 h4
      | gh h1 h2 h3 h4 => exact .gh h1 h2 h3 h4
      | exn h1 h2 =>
        have h1' : some (i, a, cls, d) = some (j, _, _, _) := h1
        cases h1'
        exact absurd rfl z
  · obtain ⟨⟨l, h1⟩, h2⟩ := S.par p hp
    have z : i ≠ p.1 := fun z => np p hp z.symm
    exact ⟨⟨l, by rw [List.getElem?_set_ne z]; exact h1⟩, by rw [List.getElem?_set_ne z]; exact h2⟩
theorem RpRet.out {i : Nat} {r : Ex} {v : V} (h : RpRet K fa G F ρ σ H r v) : RpRet K fa G F (ρ.set i .none) (σ.set i none) H r v := by
  cases r with
  | d x => exact h
  | dkn l g => exact h
  | fresh l =>
    obtain ⟨b, xs, h0, h1, h2, h3, h4, h5⟩ := h
    exact ⟨b, xs, h0, h1, h2, h3, h4, fun j o => h5 j (own_none o)⟩
theorem sim_try {i : Nat} {cv : Value} {m : Nat → Bool} {s : Stmt} {body suite : List Stmt} {db dh : DS} (hex : ca.ex = none) (hx : ∀ c, PySem.W.exmOne X.K (.ref (ca.ca c)) cv = some (m c))
    (pe : ∀ {tb : WX → TS} {ts : Addr → Value → Option Addr → TS}, (∀ (W : WX) (pn : List (Addr × Obj)) (xe : Value → Shared → Prop), L2N.Takes (X.tr pn xe) W → PassesOwn (model X.prog X.w) X.A X.env xe → PSs (X.tr pn xe) body (tb W)) →
      (∀ (a : Addr) (oe : Obj) (cls : Value) (d : Option Addr) (pn : List (Addr × Obj)), L2N.Zn cls d oe → (∃ vs, oe.data = .fields vs) → PSs (X.suite a ((a, oe) :: pn)) suite (ts a cls d)) → PS X s (fun D σ H => tb (wAs X.K cv i ts W D) D σ H))
    (hb : ∀ (W : WX) (pn : List (Addr × Obj)) (xe : Value → Shared → Prop), L2N.Takes (X.tr pn xe) W → PassesOwn (model X.prog X.w) X.A X.env xe → SimB fa ca W C (X.tr pn xe) body db)
    (hs : ∀ (a : Addr) (oe : Obj) (cls : Value) (d : Option Addr) (pn : List (Addr × Obj)), L2N.Zn cls d oe → (∃ vs, oe.data = .fields vs) → SimB fa (ca.in i a cls d) WN C (X.suite a ((a, oe) :: pn)) suite dh) :
    SimS fa ca W C X s (sTry db [⟨m, some i, dh⟩]) := by
  refine ps_le (pe (tb := fun W => tSemS X.K fa ca W db C) (ts := fun a cls d => tSemS X.K fa (ca.in i a cls d) WN dh C) hb hs) fun D σ H h => ?_
  obtain ⟨G, F, ρ, S, h⟩ := h
  refine ⟨G, F, ρ, S, ?_⟩
  unfold sTry at h
  cases e : db C ρ with
  | next ρ1 => rw [e] at h; exact h
  | brk ρ1 => rw [e] at h; exact h
  | cont ρ1 => rw [e] at h; exact h
  | ret r ρ1 => rw [e] at h; exact h
  | stuck => rw [e] at h; exact h.elim
  | exc c fs ρ1 =>
    rw [e] at h
    refine fun F1 σ1 H1 cls d S1 E1 x => ⟨m c, by rw [x.1]; exact hx c, fun hm a na => ?_, fun hm => ?_⟩
    · have h : OPost X.K fa ca G F H W D (handle C c fs ρ1 [⟨m, some i, dh⟩]) := h
      unfold handle at h
      rw [if_pos hm] at h
      cases e1 : stSl ρ1 i (.exn c fs) with
      | none => simp only [e1] at h; exact h.elim
      | some ρ2 =>
        simp only [e1] at h
        have S2 := S1.suiteIn hex (a := a) e1 x
        have np : ∀ p ∈ G.pars, p.1 ≠ i := fun p hp z => by
          obtain ⟨⟨l, h1⟩, _⟩ := S1.par p hp
          rw [z] at h1
          unfold stSl at e1
          rcases h1 with h1 | h1 <;> rw [h1] at e1 <;> cases e1
        refine ⟨G, F1, ρ2, S2, ?_⟩
        have h := h.later E1
        cases e2 : dh C ρ2 with
        | next ρ3 => rw [e2] at h; exact fun F3 σ3 H3 S3 E3 => h F3 _ H3 (S3.suiteOut np) E3
        | brk ρ3 => rw [e2] at h; exact fun F3 σ3 H3 S3 E3 => h F3 _ H3 (S3.suiteOut np) E3
        | cont ρ3 => rw [e2] at h; exact fun F3 σ3 H3 S3 E3 => h F3 _ H3 (S3.suiteOut np) E3
        | ret r ρ3 => rw [e2] at h; exact fun v F3 σ3 H3 S3 E3 r3 => h v F3 _ H3 (S3.suiteOut np) E3 r3.out
        | exc c2 fs2 ρ3 => rw [e2] at h; exact h.elim
        | stuck => rw [e2] at h; exact h.elim
    · have h : OPost X.K fa ca G F H W D (handle C c fs ρ1 [⟨m, some i, dh⟩]) := h
      unfold handle at h
      rw [if_neg (show ¬ m c = true by rw [hm]; exact Bool.false_ne_true)] at h
      exact h F1 σ1 H1 cls d S1 E1 x
/-- C(e, ..): an exception of an own class, its context None -/
theorem pmk_oexN {CX : CXT} {x : Str} {e : Expr} {es : List Expr} {ta : TA} {p pos : Pos} {D fI : Addr} {k : Nat} {fd : FuncData} {ps : List Str} {sp : Sp} (T : OexC X.K D)
    (iC : PySem.W.findIn X.K (.ref D) "__init__" = some (some (.ref fI)))
    (tI : PySem.W.typeIn X.K (.ref fI) = some (.type "function")) (F1 : FnOk X.prog X.w X.K X.mg X.base CX k fI fd ps sp) (hr : Room (k + 1) X.A) (hb : Binds X.K fd ps [])
    (hx : Passes CX X (fun _ _ _ => False)) (hg : Gl X x) (hm : X.mg x = some (.ref D)) (ha : PA X (e :: es) ta) (hdb : (x == ("__debug__" : Str)) = false)
    (he : starEach (e :: es) X.env = (false, eval e X.env) :: starEach es X.env) (hpl : (PySem.backTo pos (starEach es X.env)).any (·.1) = false) :
    L2N.PMk X (.Call (.Name x p) (e :: es) [] pos) (tMkO D sp [] ta) := by
  intro pins s σ H Q I h
  obtain ⟨nm, q, N, bs, bm, sn, sub, ab, col, dd, k0, k1, k2, k3, k5, hC, hbm⟩ := T.cls
  refine wpAny_Call_Name_kw (ld_glob I hg hm ?_ hdb)
  have args := ha.run pos pins s σ H _ I h
  refine PySem.W.callWith_K (h₀ := X.base) I.ok.mod.kin T.kC (thn args ?_) he hpl
  intro us s1 h1
  obtain ⟨vs, H1, I1, r1, hz, q1⟩ := h1
  refine ⟨I1.kIn, ?_⟩
  show wpAny _ _ (PySem.call (.ref D) us) _ _ _
  obtain ⟨hp, gs, dr, tk, os⟩ := s1
  generalize hL : hp.objs.size = L at *
  have up1 : hp.objs.size ≤ L + 1 := by omega
  have new : H1 (L + 1) = none := I1.hok.fresh up1
  have hq := q1 (L + 1) new
  rw [List.append_nil] at hq
  have kk : ∀ b o, hp.get? b = some o → ((hp.push (PySem.W.kdv_tup us)).push (PySem.HandSPX.excO D L)).get? b = some o := fun b o e1 => by
    exact Heap.get?_push_of_some _ (Heap.get?_push_of_some _ e1)
  have here : ((hp.push (PySem.W.kdv_tup us)).push (PySem.HandSPX.excO D L)).get? (L + 1) = some (PySem.HandSPX.excO D L) := by subst hL; heap_get
  have J : Inv X pins σ (upd H1 (L + 1) (exo (L + 1) D none)) ⟨(hp.push (PySem.W.kdv_tup us)).push (PySem.HandSPX.excO D L), gs, dr, tk, os⟩ := by
    refine I1.laid (t' := tk) (a := L + 1) (o := exo (L + 1) D none) (h' := (hp.push (PySem.W.kdv_tup us)).push (PySem.HandSPX.excO D L)) kk up1 ?_
    exact exo_ok here
  have rv2 : Vals (V.ref (L + 1) :: vs) (Value.ref (L + 1) :: us) := .cons rfl r1
  have len2 : (Value.ref (L + 1) :: us).length = ps.length := by rw [← rv2.length]; exact F1.len _ _ _ _ hq
  have hb2 := hb _ (Value.ref (L + 1) :: us) J.kIn (by rw [List.append_nil]; exact len2)
  rw [List.append_nil] at hb2
  have few : us.length ≤ sizeLine := by
    have e1 := Paired.length r1
    rw [sizeLine_eq]; omega
  have run := F1.run _ X.stack _ _ ⟨Value.ref (L + 1) :: us, []⟩ (Value.ref (L + 1) :: us) _ _ (fun _ _ _ => False) (hr.make D us []) (J.env0.make D us []) hb2 rv2 hq
  subst hL
  refine wpAny_call (PySem.HandSPX.call_own F.excBase_ValueError (fun Y => PySem.HandSPX.refsVE_contains Y bm hbm) (I1.kIn _ _ hC) (PySem.W.looks_findIn I1.kIn iC)
    (fun self => PySem.W.bind_fn I1.kIn self tI) few (codeAny_mono run ?_))
  intro r s' hq'
  cases r with
  | error er => exact hx pins σ _ _ er s' J hq'
  | ok fl =>
    cases fl with
    | next => exact hq'.elim
    | brk => exact hq'.elim
    | cont => exact hq'.elim
    | ret u =>
      obtain ⟨v, H2, os2, bare2, un2, hok2, rv, ev, d, fs, ea, ed, hd1, q2⟩ := hq'
      subst ev
      obtain ⟨h2, g2, d2, t2, os'⟩ := s'
      obtain ⟨t0, G, J2, kG, ge, hoe, na⟩ := mk_end0 (d2 := d2) (t2 := t2) I1 up1 kk un2 hok2 os2 bare2 ea ed hd1
      refine ⟨rv, hp.objs.size + 1, _, _, ⟨G, g2, d2, t2, os'⟩, _, .ref D, some d, rfl, J2, kG, ge, hoe, ⟨rfl, rfl, fun vs hv => ?_⟩, rfl, rfl, na, rfl, bare2, raises_own T.exC T.tyC, q2⟩
      cases hv; rfl
end
end RX
set_option Elab.async false
set_option linter.all false
set_option maxRecDepth 100000
set_option maxHeartbeats 4000000
/-! RXka: isinstance of a caught exception with fields. -/
namespace RX
open PySem PySem.Spec PyProof.Rows L2
/-- isinstance(e, c), e the exception with fields that the suite holds -/
def rIsEd (K : PySem.W.Frag) (D a dd : Addr) : List V → Hp → VK → Prop := fun xs H Q => ∃ (c : V) (cv : Value) (b : Bool) (fs : List (Str × V)), xs = [.ref a, c] ∧ (∀ u, RelV c u → u = cv) ∧ PySem.W.kitOne K (.ref D) cv = some b ∧ H dd = some (.xd fs) ∧ Q (.bl b) H
theorem call_isEd {X : Cx} {a D dd : Addr} {oe : Obj} {pn : List (Addr × Obj)} (C : L2.ExcC X.K D) (hz : Zc (.ref D) (some dd) oe) (hf : ∃ vs, oe.data = .fields vs) : CallR (X.suite a ((a, oe) :: pn)) (.builtin "isinstance") (rIsEd X.K D a dd) := by
  intro pins s σ H xs us Q I r h
  obtain ⟨c, cv, b, fs, rfl, hcv, e, hd, q⟩ := h
  cases r with
  | cons rx rr =>
    cases rr with
    | cons rt rr =>
      cases rr
      cases rx
      have ec := hcv _ rt
      subst ec
      obtain ⟨hget, _⟩ := I.pin (a, oe) (List.mem_append.mpr (.inl List.mem_cons_self))
      obtain ⟨vs, hv⟩ := hf
      have hx : ObjOk X.prog X.w H s.heap dd (.xd fs) := I.hok dd _ hd
      obtain ⟨mA, hns, hr⟩ := hx
      obtain ⟨od, ho, hl⟩ := lookIn_ns hns
      have J : PySem.W.InstAt s.heap a oe D (some od) := ⟨hget, hz.1, by unfold PySem.W.notCls; rw [hv] <;> rfl, by rw [hz.2]; exact ho⟩
      have hcl : (PySem.W.clsIn X.K D).isSome = true := by
        obtain ⟨cd, hc, _⟩ := PySem.W.any_some C.hd
        rw [hc]; rfl
      exact PySem.W.kia_one (PySem.W.kitx_exc hcl C.hg C.hk C.hs C.ha C.hn C.ht C.hm) I.kIn J e (fun z => nomatch z) fun tk => ⟨.bl b, H, I.kept (t' := tk) fun _ _ z => z, rfl, q⟩
def dIsE (i : Nat) (m : Nat → Bool) : Den := fun _ ρ => match ρ[i]? with
  | some (.exn c _) => .ok (.d (.bl (m c))) ρ
  | _ => .stuck
section
variable {K : PySem.W.Frag} {fa : Nat → Addr} {ca : Cc} {W : WX} {C : Calls} {X : Cx}
theorem sim_isE {i : Nat} {a : Addr} {oe : Obj} {cls : Value} {d : Option Addr} {pn : List (Addr × Obj)} {f : Expr} {es : List Expr} {pos : Pos} {m : Nat → Bool} {v : V} {cv : Value} (hx : ca.ex = some (i, a, cls, d))
    (hc : ∀ c, cls = .ref (ca.ca c) → L2.ExcC X.K (ca.ca c) ∧ PySem.W.kitOne X.K (.ref (ca.ca c)) cv = some (m c)) (hcv : ∀ u, RelV v u → u = cv)
    (hz : Zc cls d oe) (hf : ∃ vs, oe.data = .fields vs) (ha : PA (X.suite a ((a, oe) :: pn)) es (tCons (tVar i) (tCons (tC v) tNil)))
    (pc : ∀ {r : List V → Hp → VK → Prop}, CallR (X.suite a ((a, oe) :: pn)) (.builtin "isinstance") r → ∀ {t}, PA (X.suite a ((a, oe) :: pn)) es t → PE (X.suite a ((a, oe) :: pn)) (.Call f es [] pos) (tCB r t)) :
    SimE fa ca W C (X.suite a ((a, oe) :: pn)) (.Call f es [] pos) (dIsE i m) := by
  refine ⟨fun pins s σ H Q I h => ?_⟩
  obtain ⟨G, F, ρ, S, h⟩ := h
  unfold dIsE at h
  cases e1 : ρ[i]? with
  | none => rw [e1] at h; exact h.elim
  | some s1 =>
    rw [e1] at h
    have q := S.sl i s1 e1
    generalize eo : σ[i]? = o at q
    cases q with
    | exn h1 h2 =>
      rename_i a' c fs cls' d'
      rw [hx] at h1
      cases h1
      obtain ⟨h3, dd, gs, h4, h5, h6⟩ := h2
      obtain ⟨T, hk⟩ := hc c h3
      subst h3 h4
      exact (pc (call_isEd T hz hf) ha).run pins s σ H Q I ⟨_, eo, v, cv, m c, gs, rfl, hcv, hk, h5, h (.bl (m c)) F H S Ext.refl (.bl _)⟩
    | _ => exact h.elim
end
end RX
set_option Elab.async false
set_option linter.all false
set_option maxRecDepth 100000
set_option maxHeartbeats 4000000
/-! RXkb: decks. A name that holds the list within a deck: what is read of it, put into it, popped from it. -/
namespace RX
open PySem PySem.Spec PyProof.Rows L2
/-- the slot i names the list that the slot g keeps -/
def isAl (ρ : Env) (i g : Nat) : Bool := match ρ[i]?, ρ[g]? with
  | some (.val (.fn k)), some (.gh _) => k == GI
  | _, _ => false
def dB1A (f : Bf) (i g : Nat) : Den := fun C ρ => if isAl ρ i g = true then dB1 f g C ρ else .stuck
def dIxA (i g : Nat) (e : Den) : Den := fun C ρ => if isAl ρ i g = true then dIxV g e C ρ else .stuck
def tAl (i g : Nat) : TD := fun _ ρ => if isAl ρ i g = true then (match ρ[g]? with
  | some (.gh l) => .ok (!l.isEmpty) ρ
  | _ => .stuck) else .stuck
def dPopA (i g : Nat) (e : Den) : Den := fun C ρ => if isAl ρ i g = true then (e C ρ).bind fun y ρ1 => match y.frz.asInt? with
    | none => .stuck
    | some k => (match ρ1[g]? with
      | some (.gh l) => (match popAt l k with
        | some (d, m) => .ok (.d d) (ρ1.set g (.gh m))
        | none => .stuck)
      | _ => .stuck) else .stuck
def sPutA (i g : Nat) (k e : Den) : DS := fun C ρ => (e C ρ).out fun y ρ1 => if isAl ρ1 i g = true then (k C ρ1).out fun z ρ2 => match z.frz.asInt? with
    | none => .stuck
    | some j => (match ρ2[g]? with
      | some (.gh l) => (match putAt l j y.frz with
        | some m => .next (ρ2.set g (.gh m))
        | none => .stuck)
      | _ => .stuck) else .stuck
section
variable {K : PySem.W.Frag} {fa : Nat → Addr} {ca : Cc} {W : WX} {C : Calls} {X : Cx} {G : Gh} {F F' : Addr → Prop} {H H' : Hp} {σ : L2.St} {ρ ρ' : Env}
theorem SR.alias (S : SR K fa ca G F ρ σ H) {i g : Nat} (h : isAl ρ i g = true) : ∃ l ys, ρ[g]? = some (.gh l) ∧ σ[i]? = some (some (.ref (fa GI))) ∧ σ[g]? = some (some (.ref (fa GI))) ∧ H (fa GI) = some (.lst ys) ∧ ¬ F (fa GI) ∧ RpL K fa F H ys l := by
  unfold isAl at h
  split at h
  · rename_i k l e1 e2
    have q1 := S.sl i _ e1
    generalize eo : σ[i]? = o at q1
    cases q1 with
    | val r =>
      cases r with
      | fn k =>
        cases eq_of_beq h
        have q2 := S.sl g _ e2
        generalize eg : σ[g]? = o2 at q2
        cases q2 with
        | gh h1 h2 h3 h4 => exact ⟨l, _, e2, rfl, rfl, h1, h2, h3⟩
  · cases h
theorem sim_b1A {e a : Expr} {i g : Nat} {f : Bf} {r : List V → Hp → VK → Prop} (hs : BfS X.K fa f r) (ha : PE X a (tVar i)) (st : starEach [a] X.env = (false, eval a X.env) :: starEach [] X.env) (pe : ∀ {t}, PA X [a] t → PE X e (tCB r t)) : SimE fa ca W C X e (dB1A f i g) := by
  refine pe_le (pe (pa_cons ha pa_nil st)) fun σ H Q h => ?_
  obtain ⟨G, F, ρ, S, h⟩ := h
  unfold dB1A at h
  by_cases hal : isAl ρ i g = true
  · rw [if_pos hal] at h
    obtain ⟨l, ys, _, ei, eg, _⟩ := S.alias hal
    unfold dB1 at h
    cases e : RX.look ρ g with
    | none => rw [e] at h; exact h.elim
    | some x =>
      rw [e] at h
      obtain ⟨v, hv, r⟩ := S.look e
      rw [eg] at hv
      cases hv
      cases e1 : f [x] with
      | none => simp only [e1] at h; exact h.elim
      | some z =>
        simp only [e1] at h
        exact ⟨_, ei, hs _ _ e1 F H [_] Q S.trk (.cons r .nil) fun v' H' sm n => fin_new S Ext.refl h sm n⟩
  · rw [if_neg hal] at h; exact h.elim
theorem sim_ixA {i g : Nat} {a b : Expr} {db : Den} {pos : Pos} (hp : PlainIx b) (ha : PE X a (tVar i)) (hb : SimE fa ca W C X b db) : SimE fa ca W C X (.Subscript a b pos) (dIxA i g db) := by
  refine pe_le (pe_ix ix_seq ha hb hp) fun σ H Q h => ?_
  obtain ⟨G, F, ρ, S, h⟩ := h
  unfold dIxA at h
  by_cases hal : isAl ρ i g = true
  · rw [if_pos hal] at h
    obtain ⟨l, ys, _, ei, eg, _⟩ := S.alias hal
    unfold dIxV at h
    cases e : RX.look ρ g with
    | none => rw [e] at h; exact h.elim
    | some x0 =>
      rw [e] at h
      refine ⟨_, ei, G, F, ρ, S, h.bind.mono fun y ρ2 h2 u F2 H2 S2 E2 r2 => ?_⟩
      obtain ⟨F2, S2, E2', p2⟩ := S2.frz r2
      cases e2 : RX.look ρ2 g with
      | none => rw [e2] at h2; exact h2.elim
      | some x =>
        rw [e2] at h2
        obtain ⟨v', hv', r⟩ := S2.look e2
        rw [eg] at hv'
        cases hv'
        cases e3 : fIx x y.frz with
        | none => simp only [e3] at h2; exact h2.elim
        | some z =>
          simp only [e3] at h2
          exact s_ixR e3 r p2 fun v' H' sm n => fin_new S2 (E2.trans E2') h2 sm n
  · rw [if_neg hal] at h; exact h.elim
theorem sim_popA {i g : Nat} {a e : Expr} {d : Den} {apos cpos : Pos} (ha : PE X a (tVar i)) (he : SimE fa ca W C X e d) (st : starEach [e] X.env = (false, eval e X.env) :: starEach [] X.env)
    (pe : ∀ {t u}, PE X a t → PA X [e] u → PE X (.Call (.Attribute a "pop" apos) [e] [] cpos) (tBM X.K "list" rPopAt t u)) : SimE fa ca W C X (.Call (.Attribute a "pop" apos) [e] [] cpos) (dPopA i g d) := by
  refine pe_le (pe ha (pa_cons he pa_nil st)) fun σ H Q h => ?_
  obtain ⟨G, F, ρ, S, h⟩ := h
  unfold dPopA at h
  by_cases hal : isAl ρ i g = true
  · rw [if_pos hal] at h
    obtain ⟨l0, ys, eg, ei, egs, eH, nf0, _⟩ := S.alias hal
    refine ⟨.ref (fa GI), ei, tyV_lst eH, G, F, ρ, S, (RPost.bind (x := d C ρ) h).mono fun y ρ1 h1 v F1 H1 S1 E1 r1 => ?_⟩
    obtain ⟨F1, S1, E1', p1⟩ := S1.frz r1
    cases e1 : y.frz.asInt? with
    | none => rw [e1] at h1; exact h1.elim
    | some k =>
      simp only [e1] at h1
      cases asInt_ok e1 p1
      cases e2 : ρ1[g]? with
      | none => rw [e2] at h1; exact h1.elim
      | some s =>
        rw [e2] at h1
        cases s with
        | gh l =>
          obtain ⟨a, xs, q1, q2, nf, r⟩ := S1.mine (.gh l) e2
          rw [egs] at q1
          cases q1
          cases e3 : popAt l k with
          | none => simp only [e3] at h1; exact h1.elim
          | some p =>
            obtain ⟨x, m⟩ := p
            simp only [e3] at h1
            unfold popAt at e3
            split at e3
            · rename_i hk
              cases e4 : RX.ixN l.length k with
              | none => rw [e4] at e3; cases e3
              | some j =>
                rw [e4] at e3
                have e5 : (l[j]?).map (fun d => (d, l.eraseIdx j)) = some (x, m) := e3
                cases e6 : l[j]? with
                | none => rw [e6] at e5; cases e5
                | some d' =>
                  rw [e6] at e5
                  cases e5
                  obtain ⟨v, k1, k2⟩ := r.get e6
                  obtain ⟨S2, E2⟩ := S1.write (.gh l) e2 egs (r.eraseIdx j)
                  refine ⟨fa GI, xs, k, j, v, rfl, rfl, q2, by have := hk.1; omega, by have := hk.2; omega, by rw [r.length, ← seqIx_eq]; exact e4, k1, ?_⟩
                  exact h1 v F1 _ S2 ((E1.trans E1').trans E2) (Rp.ext E2 _ _ k2)
            · cases e3
        | _ => exact h1.elim
  · rw [if_neg hal] at h; exact h.elim
theorem sim_putA {i g : Nat} {s : Stmt} {a k e : Expr} {dk d : Den} {p : Pos} (ha : PE X a (tVar i)) (hk : SimE fa ca W C X k dk) (he : SimE fa ca W C X e d) (pe : ∀ {t u v}, PE X e t → PE X a u → PE X k v → PS X s (tAsg t (gSub u v rSetL))) : SimS fa ca W C X s (sPutA i g dk d) := by
  refine ps_le (pe he ha hk) fun Dn σ H h => ?_
  obtain ⟨G, F, ρ, S, h⟩ := h
  refine ⟨G, F, ρ, S, (OPost.out (x := d C ρ) h).mono fun y ρ1 h1 v F1 H1 S1 E1 r1 => ?_⟩
  obtain ⟨F1, S1, E1', p1⟩ := S1.frz r1
  by_cases hal : isAl ρ1 i g = true
  · rw [if_pos hal] at h1
    obtain ⟨l0, ys, eg, ei, egs, eH, nf0, _⟩ := S1.alias hal
    refine ⟨.ref (fa GI), ei, G, F1, ρ1, S1, ((OPost.out (x := dk C ρ1) h1).later (E1.trans E1')).mono fun z ρ2 h2 w F2 H2 S2 E2 r2 => ?_⟩
    obtain ⟨F2, S2, E2', p2⟩ := S2.frz r2
    cases e1 : z.frz.asInt? with
    | none => simp only [e1] at h2; exact h2.elim
    | some j =>
      simp only [e1] at h2
      cases asInt_ok e1 p2
      cases e2 : ρ2[g]? with
      | none => rw [e2] at h2; exact h2.elim
      | some s =>
        rw [e2] at h2
        cases s with
        | gh l =>
          obtain ⟨a, xs, q1, q2, nf, r⟩ := S2.mine (.gh l) e2
          rw [egs] at q1
          cases q1
          simp only at h2
          unfold putAt at h2
          cases e3 : RX.ixN l.length j with
          | none => rw [e3] at h2; exact h2.elim
          | some k =>
            rw [e3] at h2
            obtain ⟨S3, E3⟩ := S2.write (.gh l) e2 egs (RpL.set (Rp.ext (E2.trans E2') _ _ p1) k r)
            exact ⟨fa GI, xs, j, k, rfl, rfl, q2, by rw [r.length]; exact e3, h2 F2 σ _ S3 ((((E1.trans E1').trans E2).trans E2').trans E3)⟩
        | _ => exact h2.elim
  · rw [if_neg hal] at h1; exact h1.elim
theorem sim_tAl {i g : Nat} {e : Expr} (ha : PE X e (tVar i)) (pt : ∀ {t}, PE X e t → PT X e (fun σ H Q => t σ H fun x H1 => ∃ k, TruV X.K x H1 k ∧ Q k H1)) : SimT fa ca W C X e (tAl i g) := by
  refine pt_le (pt ha) fun σ H Q h => ?_
  obtain ⟨G, F, ρ, S, h⟩ := h
  unfold tAl at h
  by_cases hal : isAl ρ i g = true
  · rw [if_pos hal] at h
    obtain ⟨l, ys, eg, ei, egs, eH, nf, r⟩ := S.alias hal
    rw [eg] at h
    refine ⟨_, ei, !l.isEmpty, .inl ⟨_, .of eH, ?_⟩, h F H S Ext.refl⟩
    cases r <;> rfl
  · rw [if_neg hal] at h; exact h.elim
end
/-! ### a deck made -/
mutual
def D.noG : D → Bool
  | .fn k => k != GI
  | .tup l => noGL l
  | .lst l => noGL l
  | _ => true
def noGL : List D → Bool
  | [] => true
  | d :: r => d.noG && noGL r
end
section
variable {K : PySem.W.Frag} {fa fa' : Nat → Addr} {F : Addr → Prop} {H : Hp}
mutual
theorem Rp.noG (e : ∀ n, n ≠ GI → fa' n = fa n) : ∀ (d : D) (v : V), d.noG = true → Rp K fa F H v d → Rp K fa' F H v d
  | .non, _, _, h => by cases h; exact .non
  | .bl b, _, _, h => by cases h; exact .bl b
  | .int i, _, _, h => by cases h; exact .int i
  | .str x, _, _, h => by cases h; exact .str x
  | .tup ds, _, g, h => by
    cases h with
    | tup s r => exact .tup s (RpL.noG e ds _ g r)
  | .lst ds, _, g, h => by
    cases h with
    | lst f s r => exact .lst f s (RpL.noG e ds _ g r)
  | .fn k, _, g, h => by
    cases h
    have n : k ≠ GI := fun z => by
      have g : (k != GI) = true := g
      rw [z] at g
      simp at g
    rw [← e k n]
    exact .fn k
  | .ty n, _, _, h => by cases h; exact .ty n
  | .scr l, _, _, h => by
    cases h with
    | scr s => exact .scr s
theorem RpL.noG (e : ∀ n, n ≠ GI → fa' n = fa n) : ∀ (ds : List D) (vs : List V), noGL ds = true → RpL K fa F H vs ds → RpL K fa' F H vs ds
  | [], _, _, h => by cases h; exact .nil
  | d :: ds, _, g, h => by
    obtain ⟨g1, g2⟩ := Bool.and_eq_true_iff.mp (show (d.noG && noGL ds) = true from g)
    cases h with
    | cons r t => exact .cons (Rp.noG e d _ g1 r) (RpL.noG e ds _ g2 t)
end
end
/-- the items of a deck: the list within it under its number -/
def dkD : AV → D
  | .d x => x
  | _ => .fn GI
def dkN : AV → Bool
  | .d x => x.noG
  | .own _ => true
  | .gh _ => false
/-- return [.., x, ..]: x a list of the body's own, kept within the deck -/
def sRetDk (as : List AD) : DS := fun C ρ => (argsE as C ρ).out fun xs ρ1 => match owns xs with
  | [i] => (match ρ1[i]? with
    | some (.own l) => if xs.all dkN = true ∧ xs.length ≤ 1000 then .ret (.dkn (xs.map dkD) l) (ρ1.set i .none) else .stuck
    | _ => .stuck)
  | _ => .stuck
section
variable {K : PySem.W.Frag} {fa : Nat → Addr} {ca : Cc} {W : WX} {C : Calls} {X : Cx} {G : Gh} {F F' : Addr → Prop} {H H' : Hp} {σ : L2.St} {ρ ρ' : Env}
theorem dk_items {b : Addr} {i : Nat} (hb : σ[i]? = some (some (.ref b))) {vs : List V} {as : List AV} (A : AvL K fa F H σ vs as) : (∀ j ∈ owns as, j = i) → as.all dkN = true → RpL K (fun n => if n = GI then b else fa n) F H vs (as.map dkD) := by
  induction A with
  | nil => intro _ _; exact .nil
  | d r t ih =>
    intro ho hn
    obtain ⟨h1, h2⟩ := Bool.and_eq_true_iff.mp (List.all_cons ▸ hn)
    exact .cons (Rp.noG (fun n z => if_neg z) _ _ h1 r) (ih ho h2)
  | own k t ih =>
    intro ho hn
    obtain ⟨_, h2⟩ := Bool.and_eq_true_iff.mp (List.all_cons ▸ hn)
    have z := ho _ List.mem_cons_self
    rw [z, hb] at k
    cases k
    have q : Rp K (fun n => if n = GI then b else fa n) F H (.ref ((fun n => if n = GI then b else fa n) GI)) (.fn GI) := .fn GI
    rw [show (fun n => if n = GI then b else fa n) GI = b from if_pos rfl] at q
    exact .cons q (ih (fun j hj => ho j (List.mem_cons_of_mem _ hj)) h2)
  | gh k t ih =>
    intro ho hn
    obtain ⟨h1, _⟩ := Bool.and_eq_true_iff.mp (List.all_cons ▸ hn)
    cases h1
theorem sim_retDk {es : List Expr} {as : List AD} {pos pos2 : Pos} (h : SimV fa ca W C X es as) : SimS fa ca W C X (.Return (some (.List es pos)) pos2) (sRetDk as) := by
  refine ps_le (ps_ret (pe_lst h)) fun D σ H h => ?_
  obtain ⟨G, F, ρ, S, h⟩ := h
  refine ⟨G, F, ρ, S, (OPost.out (x := argsE as C ρ) h).mono fun xs ρ1 h1 vs F1 H1 S1 E1 r1 => ?_⟩
  cases eo : owns xs with
  | nil => simp only [eo] at h1; exact h1.elim
  | cons i r0 =>
    cases r0 with
    | cons j r0 => simp only [eo] at h1; exact h1.elim
    | nil =>
      simp only [eo] at h1
      cases e : ρ1[i]? with
      | none => simp only [e] at h1; exact h1.elim
      | some s0 =>
        simp only [e] at h1
        cases s0 with
        | own l =>
          simp only at h1
          by_cases hc : xs.all dkN = true ∧ xs.length ≤ 1000
          · rw [if_pos hc] at h1
            refine ⟨by rw [r1.length, sizeLine_eq]; have := hc.2; omega, fun p np => ?_⟩
            have q := S1.sl i _ e
            generalize ev : σ[i]? = o at q
            cases q with
            | @own b ys l k1 k2 k3 k4 =>
              have sm : Same H1 (upd H1 p (.lst vs)) := same_new np
              have E2 := S1.ext sm
              have S2 := (S1.same sm).drop i (fun l z => by rw [e] at z; rcases z with z | z <;> cases z)
              have ne : p ≠ b := fun z => by rw [z, k1] at np; cases np
              have items := dk_items ev r1 (fun j hj => by rw [eo] at hj; exact List.mem_singleton.mp hj) hc.1
              exact h1 (.ref p) F1 σ _ S2 (E1.trans E2) ⟨p, b, vs, ys, rfl, ne, ⟨S1.nfr np, k4⟩, ⟨S1.nF np, k2⟩, ⟨upd_same, RpL.ext E2 _ _ items⟩, by rw [upd_ne fun z => ne z.symm]; exact k1, RpL.ext E2 _ _ k3⟩
          · rw [if_neg hc] at h1; exact h1.elim
        | _ => exact h1.elim
end
end RX
set_option Elab.async false
set_option linter.all false
set_option maxRecDepth 100000
set_option maxHeartbeats 4000000
/-! RXkc: x = f(..), f a def that makes a deck, and what follows it in the body. -/
namespace RX
open PySem PySem.Spec PyProof.Rows L2
/-- a slot that no deck's list is seen from -/
def calmS : Sl → Bool
  | .none => true
  | .val d => d.noG
  | _ => false
/-- the body's end, its names forgotten -/
def endD : Out → Out
  | .ret (.d x) ρ => if x.noG = true then .ret (.d x) (ρ.map fun _ => .none) else .stuck
  | _ => .stuck
def sSeqD (i g f : Nat) (as : List AD) (d : DS) : DS := fun C ρ => (argsE as C ρ).out fun xs ρ1 => match owns xs, argsOf ρ1 xs with
  | [], some ys => (match C f ys with
    | .dk l gl [] => if i ≠ g ∧ i < ρ1.length ∧ g < ρ1.length ∧ ρ1.all calmS = true ∧ noGL gl = true then endD (d C ((ρ1.set i (.own l)).set g (.gh gl))) else .stuck
    | _ => .stuck)
  | _, _ => .stuck
section
variable {K : PySem.W.Frag} {fa : Nat → Addr} {ca : Cc} {W : WX} {C : Calls} {X : Cx} {G : Gh} {F F' : Addr → Prop} {H H' : Hp} {σ : L2.St} {ρ ρ' : Env}
theorem inv_hidset {pins : List (Addr × Obj)} {s : Shared} {g : Nat} {x : Str} {w : Option V} (hx : X.N[g]? = some x) (hv : ¬ Vis X.env.scope x) (I : Inv X pins σ H s) : Inv X pins (σ.set g w) H s := by
  refine ⟨I.ok, I.os, I.bare, I.base, ?_, I.cell, I.free, I.freeC, I.pin, I.hok, by rw [List.length_set]; exact I.len⟩
  obtain ⟨m, h1, h2⟩ := I.loc
  refine ⟨m, h1, fun i y v hy hσ hvis => ?_⟩
  by_cases z : g = i
  · subst z
    rw [hx] at hy
    cases hy
    exact absurd hvis hv
  · rw [List.getElem?_set_ne z] at hσ
    exact h2 i y v hy hσ hvis
abbrev updF (fa : Nat → Addr) (b : Addr) : Nat → Addr := fun n => if n = GI then b else fa n
theorem pss_deck {body : List Stmt} {t : Addr → TS} (h : ∀ b, PSs X body (t b)) : PSs X body (fun D σ H => ∃ b g x, X.N[g]? = some x ∧ ¬ Vis X.env.scope x ∧ t b D (σ.set g (some (.ref b))) H) := ⟨fun pins s σ H D I q => by
  obtain ⟨b, g, x, h1, h2, q⟩ := q
  exact (h b).run pins s _ H D (inv_hidset h1 h2 I) q⟩
theorem owns_nil : ∀ {as : List AV}, owns as = [] → ngv as = 0
  | [], _ => rfl
  | .d x :: r, h => owns_nil (as := r) h
  | .own i :: r, h => by cases h
  | .gh i :: r, h => by cases h
theorem calm_own (h : ρ.all calmS = true) {i : Nat} {a : Addr} : ¬ OwnA ρ σ i a := fun o => by
  obtain ⟨o, _⟩ := o
  rcases o with ⟨l, o⟩ | ⟨l, o | o⟩ <;> exact absurd (List.all_eq_true.mp h _ (List.mem_of_getElem? o)) (by simp [calmS])
/-- the state from there on -/
theorem SR.deck (S : SR K fa ca G F ρ σ H) {i g : Nat} {a b : Addr} {xs ys : List V} {l gl : List D} (hg : i ≠ g) (hi : i < ρ.length) (hgl : g < ρ.length) (hc : ρ.all calmS = true) (hn : noGL gl = true) (ab : a ≠ b) (h0 : G.H0 a = none ∧ G.H0 b = none) (hp : G.pin a = none ∧ G.pin b = none) (hF : ¬ F a ∧ ¬ F b)
    (hA : H a = some (.lst xs)) (rA : RpL K (updF fa b) F H xs l) (hB : H b = some (.lst ys)) (rB : RpL K fa F H ys gl) :
    SR K (updF fa b) ca ⟨upd G.H0 b (.lst ys), G.F0, [(g, b)], G.pin⟩ F ((ρ.set i (.own l)).set g (.gh gl)) ((σ.set i (some (.ref a))).set g (some (.ref b))) H := by
  have eGI : updF fa b GI = b := if_pos rfl
  have hiσ : i < σ.length := by rw [← S.len]; exact hi
  have hgσ : g < σ.length := by rw [← S.len]; exact hgl
  have at' : ∀ j, j ≠ i → j ≠ g → ((ρ.set i (.own l)).set g (.gh gl))[j]? = ρ[j]? ∧ ((σ.set i (some (V.ref a))).set g (some (.ref b)))[j]? = σ[j]? := fun j h1 h2 => by
    rw [List.getElem?_set_ne h2.symm, List.getElem?_set_ne h1.symm, List.getElem?_set_ne h2.symm, List.getElem?_set_ne h1.symm]
    exact ⟨rfl, rfl⟩
  have atg : ((ρ.set i (.own l)).set g (.gh gl))[g]? = some (.gh gl) ∧ ((σ.set i (some (V.ref a))).set g (some (.ref b)))[g]? = some (some (.ref b)) := by
    rw [List.getElem?_set_self (by rw [List.length_set]; exact hgl), List.getElem?_set_self (by rw [List.length_set]; exact hgσ)]
    exact ⟨rfl, rfl⟩
  have ati : ((ρ.set i (.own l)).set g (.gh gl))[i]? = some (.own l) ∧ ((σ.set i (some (V.ref a))).set g (some (.ref b)))[i]? = some (some (.ref a)) := by
    rw [List.getElem?_set_ne hg.symm, List.getElem?_set_self hi, List.getElem?_set_ne hg.symm, List.getElem?_set_self hiσ]
    exact ⟨rfl, rfl⟩
  have own : ∀ j x, OwnA ((ρ.set i (.own l)).set g (.gh gl)) ((σ.set i (some (V.ref a))).set g (some (.ref b))) j x → j = i ∧ x = a ∨ j = g ∧ x = b := fun j x o => by
    by_cases z1 : j = i
    · subst z1
      obtain ⟨_, e⟩ := o
      rw [ati.2] at e
      cases e
      exact .inl ⟨rfl, rfl⟩
    · by_cases z2 : j = g
      · subst z2
        obtain ⟨_, e⟩ := o
        rw [atg.2] at e
        cases e
        exact .inr ⟨rfl, rfl⟩
      · obtain ⟨o, e⟩ := o
        rw [(at' j z1 z2).1] at o
        rw [(at' j z1 z2).2] at e
        exact absurd ⟨o, e⟩ (calm_own hc)
  have H0b : ∀ x, x ≠ b → upd G.H0 b (.lst ys) x = G.H0 x := fun x z => upd_ne z
  have pars : G.pars = [] := by
    cases e : G.pars with
    | nil => rfl
    | cons p r =>
      obtain ⟨⟨m, h1⟩, h2⟩ := S.par p (by rw [e]; exact List.mem_cons_self)
      exact absurd ⟨.inr ⟨m, h1⟩, h2⟩ (calm_own hc (σ := σ) (i := p.1) (a := p.2))
  refine ⟨by rw [List.length_set, List.length_set, List.length_set, List.length_set]; exact S.len, fun j s e => ?_, fun j k x h1 h2 => ?_, S.trk, fun x o e n => ?_, fun x f => ?_, S.up, fun p hm => ?_, fun p hm => ?_, fun x o q => ⟨(S.pn x o q).1, (S.pn x o q).2.1, fun j h => ?_⟩⟩
  · by_cases z1 : j = i
    · subst z1
      rw [ati.1] at e
      cases e
      rw [ati.2]
      exact .own hA hF.1 rA (by show upd G.H0 b (.lst ys) a = none; rw [H0b a ab]; exact h0.1)
    · by_cases z2 : j = g
      · subst z2
        rw [atg.1] at e
        cases e
        rw [atg.2, ← eGI]
        refine .gh (by rw [eGI]; exact hB) (by rw [eGI]; exact hF.2) ?_ ?_
        · exact RpL.noG (fun n z => if_neg z) _ _ hn rB
        · show (j, updF fa b GI) ∈ [(j, b)]
          rw [eGI]
          exact List.mem_singleton.mpr rfl
      · rw [(at' j z1 z2).1] at e
        rw [(at' j z1 z2).2]
        have q := S.sl j s e
        have c := List.all_eq_true.mp hc s (List.mem_of_getElem? e)
        generalize σ[j]? = o at q
        cases q with
        | none => exact .none
        | val r => exact .val (Rp.noG (fun n z => if_neg z) _ _ c r)
        | own => cases c
        | par => cases c
        | gh => cases c
        | exn => cases c
  · rcases own j x h1 with ⟨z1, y1⟩ | ⟨z1, y1⟩ <;> rcases own k x h2 with ⟨z2, y2⟩ | ⟨z2, y2⟩
    · rw [z1, z2]
    · exact absurd (y1.symm.trans y2) ab
    · exact absurd (y2.symm.trans y1) ab
    · rw [z1, z2]
  · by_cases z : x = b
    · exact absurd (show (g, x) ∈ [(g, b)] by rw [z]; exact List.mem_singleton.mpr rfl) (n g)
    · have e' : G.H0 x = some o := by rw [← H0b x z]; exact e
      exact S.fr x o e' fun j hj => by rw [pars] at hj; cases hj
  · rcases S.new x f with z | z
    · exact .inl z
    · have y : x ≠ b := fun y => hF.2 (y ▸ f)
      exact .inr (by show upd G.H0 b (.lst ys) x = none; rw [H0b x y]; exact z)
  · cases List.mem_singleton.mp hm
    exact ⟨⟨gl, .inr atg.1⟩, atg.2⟩
  · cases List.mem_singleton.mp hm
    exact ⟨_, upd_same⟩
  · rcases own j x h with ⟨_, y⟩ | ⟨_, y⟩
    · rw [y, hp.1] at q; cases q
    · rw [y, hp.2] at q; cases q
/-- .. and back, at the body's end -/
theorem SR.undeck {b : Addr} {ys : List V} {g : Nat} (S : SR K (updF fa b) ca ⟨upd G.H0 b (.lst ys), G.F0, [(g, b)], G.pin⟩ F ρ σ H) (hb : G.H0 b = none) (hp : G.pars = []) : SR K fa ca G F (ρ.map fun _ => .none) σ H := by
  have no : ∀ j x, ¬ OwnA (ρ.map fun _ => Sl.none) σ j x := fun j x o => by
    obtain ⟨o, _⟩ := o
    rw [List.getElem?_map] at o
    cases e : ρ[j]? with
    | none => rw [e] at o; rcases o with ⟨l, o⟩ | ⟨l, o | o⟩ <;> cases o
    | some s => rw [e] at o; rcases o with ⟨l, o⟩ | ⟨l, o | o⟩ <;> cases o
  refine ⟨by rw [List.length_map]; exact S.len, fun j s e => ?_, fun j k x h1 h2 => absurd h1 (no j x), S.trk, fun x o e n => ?_, fun x f => ?_, S.up, fun p hm => (by rw [hp] at hm; cases hm), fun p hm => (by rw [hp] at hm; cases hm), fun x o q => ⟨(S.pn x o q).1, (S.pn x o q).2.1, fun j h => no j x h⟩⟩
  · rw [List.getElem?_map] at e
    cases e2 : ρ[j]? with
    | none => rw [e2] at e; cases e
    | some t => rw [e2] at e; cases e; exact .none
  · have z : x ≠ b := fun z => by rw [z, hb] at e; cases e
    exact S.fr x o (by show upd G.H0 b (.lst ys) x = some o; rw [upd_ne z]; exact e) fun j hj => z (by cases List.mem_singleton.mp hj; rfl)
  · rcases S.new x f with z | z
    · exact .inl z
    · have z' : upd G.H0 b (.lst ys) x = none := z
      have y : x ≠ b := fun y => by rw [y, upd_same] at z'; cases z'
      rw [upd_ne y] at z'
      exact .inr z'
theorem sim_seqD {i g f : Nat} {e : Expr} {es : List Expr} {as : List AD} {s : Stmt} {rest : List Stmt} {d : DS} {x : Str} (hx : X.N[g]? = some x) (hv : ¬ Vis X.env.scope x) (ha : SimV fa ca W C X es as) (pe : ∀ {t}, PA X es t → PE X e (tCallS (spC X.K fa ca C f) (WE W) t))
    (ps : ∀ {t}, PE X e t → PS X s (tAsg t (gName i))) (hr : ∀ b, PSs X rest (tSemS X.K (updF fa b) ca W d C)) : SimB fa ca W C X (s :: rest) (sSeqD i g f as d) := by
  refine pss_le (pss_cons (ps (pe ha)) (pss_deck hr)) fun D σ H h => ?_
  obtain ⟨G, F, ρ, S, h⟩ := h
  refine ⟨G, F, ρ, S, (OPost.out (x := argsE as C ρ) h).mono fun xs ρ1 h1 vs F1 H1 S1 E1 r1 => ?_⟩
  cases eo : owns xs with
  | cons j r0 => simp only [eo] at h1; exact h1.elim
  | nil =>
    cases ea : argsOf ρ1 xs with
    | none => simp only [eo, ea] at h1; exact h1.elim
    | some ys =>
      simp only [eo, ea] at h1
      cases ec : C f ys with
      | ok r os => simp only [ec] at h1; exact h1.elim
      | exc c fs => simp only [ec] at h1; exact h1.elim
      | stuck => simp only [ec] at h1; exact h1.elim
      | dk l gl os =>
        cases os with
        | cons o r0 => simp only [ec] at h1; exact h1.elim
        | nil =>
          simp only [ec] at h1
          by_cases hc : i ≠ g ∧ i < ρ1.length ∧ g < ρ1.length ∧ ρ1.all calmS = true ∧ noGL gl = true
          · rw [if_pos hc] at h1
            obtain ⟨c1, c2, c3, c4, c5⟩ := hc
            have hn : nodupN (owns xs) = true := by rw [eo]; rfl
            refine ⟨[], F1, ys, S1.trk, by rw [List.append_nil]; exact av_args S1 r1 ea, by rw [List.append_nil]; exact av_nodup S1 r1 ea hn, by rw [ngv_ok ea, owns_nil eo]; rfl, ?_⟩
            rw [ec]
            intro v F' H' P
            rw [List.append_nil] at P
            obtain ⟨a, b, zs, us, rfl, ab, ⟨n1, n2⟩, nF, ⟨k1, k2⟩, k3, k4⟩ := P.res
            have S2 : SR X.K fa ca G F' ρ1 σ H' := S1.back r1 ea P.toCPost0 P.out hn (by rw [eo]; rfl)
            have E2 := S1.call r1 ea P.toCPost0
            have S3 := S2.deck (i := i) (g := g) c1 c2 c3 c4 c5 ab ⟨S1.nfr n1, S1.nfr n2⟩ ⟨S1.npin n1, S1.npin n2⟩ nF k1 k2 k3 k4
            have pars : G.pars = [] := by
              cases e : G.pars with
              | nil => rfl
              | cons p r =>
                obtain ⟨⟨m, q1⟩, q2⟩ := S1.par p (by rw [e]; exact List.mem_cons_self)
                exact absurd ⟨.inr ⟨m, q1⟩, q2⟩ (calm_own c4 (σ := σ) (i := p.1) (a := p.2))
            refine ⟨b, g, x, hx, hv, _, F', _, S3, ?_⟩
            cases ed : d C ((ρ1.set i (.own l)).set g (.gh gl)) with
            | ret r ρ2 =>
              rw [ed] at h1
              cases r with
              | d y =>
                by_cases ny : y.noG = true
                · have h1 : OPost X.K fa ca G F H W D (if y.noG = true then .ret (.d y) (ρ2.map fun _ => .none) else .stuck) := h1
                  rw [if_pos ny] at h1
                  intro v F2 σ2 H2 S4 E4 r4
                  exact h1 v F2 σ2 H2 (S4.undeck (S1.nfr n2) pars) ((E1.trans E2).trans E4) (Rp.noG (fun n z => (if_neg z).symm) _ _ ny r4)
                · have h1 : OPost X.K fa ca G F H W D (if y.noG = true then .ret (.d y) (ρ2.map fun _ => .none) else .stuck) := h1
                  rw [if_neg ny] at h1
                  exact h1.elim
              | fresh l => exact h1.elim
              | dkn l g => exact h1.elim
            | next ρ2 => rw [ed] at h1; exact h1.elim
            | brk ρ2 => rw [ed] at h1; exact h1.elim
            | cont ρ2 => rw [ed] at h1; exact h1.elim
            | stuck => rw [ed] at h1; exact h1.elim
            | exc c fs ρ2 => rw [ed] at h1; exact h1.elim
          · rw [if_neg hc] at h1; exact h1.elim
end
end RX
set_option Elab.async false
set_option linter.all false
set_option maxRecDepth 100000
set_option maxHeartbeats 4000000
/-! RXl: built-ins of data. -/
namespace RX
open PySem PySem.Spec PyProof.Rows L2
def intsOf : List D → Option (List Int)
  | [] => some []
  | .int i :: r => (intsOf r).map fun l => i :: l
  | _ => none
def blsOf : List D → Option (List Bool)
  | [] => some []
  | .bl b :: r => (blsOf r).map fun l => b :: l
  | _ => none
def maxI : List Int → Int → Int
  | [], m => m
  | x :: r, m => maxI r (if m < x then x else m)
def minI : List Int → Int → Int
  | [], m => m
  | x :: r, m => minI r (if x < m then x else m)
def bLen : Bf
  | [.lst l] => some (.d (.int l.length))
  | [.tup l] => some (.d (.int l.length))
  | [.scr l] => some (.d (.int l.length))
  | [.str s] => if s.length ≤ LIM then some (.d (.int s.length)) else none
  | _ => none
def bAbs : Bf
  | [.int i] => some (.d (.int (if i < 0 then -i else i)))
  | _ => none
def bInt : Bf
  | [.int i] => some (.d (.int i))
  | [.bl b] => some (.d (.int (if b then 1 else 0)))
  | _ => none
def bBool : Bf
  | [.int i] => some (.d (.bl (i != 0)))
  | [.bl b] => some (.d (.bl b))
  | _ => none
def bTup : Bf
  | [.lst l] => some (.d (.tup l))
  | [.tup l] => some (.d (.tup l))
  | [.scr l] => some (.d (.tup (l.map .int)))
  | _ => none
def bLst : Bf
  | [.lst l] => some (.fresh l)
  | [.tup l] => some (.fresh l)
  | [.scr l] => some (.fresh (l.map .int))
  | _ => none
def bMax : Bf
  | [.int i, .int j] => some (.d (.int (if j > i then j else i)))
  | [.lst l] => match intsOf l with
    | some (n :: ns) => some (.d (.int (maxI ns n)))
    | _ => none
  | _ => none
def bMin : Bf
  | [.int i, .int j] => some (.d (.int (if j < i then j else i)))
  | [.lst l] => match intsOf l with
    | some (n :: ns) => some (.d (.int (minI ns n)))
    | _ => none
  | _ => none
def bSum : Bf
  | [.lst l] => (intsOf l).map fun ns => .d (.int ns.sum)
  | _ => none
def bAll : Bf
  | [.lst l] => (blsOf l).map fun bs => .d (.bl (bs.all id))
  | _ => none
def bAny : Bf
  | [.lst l] => (blsOf l).map fun bs => .d (.bl (bs.any id))
  | _ => none
def bGcd : Bf
  | [.int i, .int j] => some (.d (.int ((Nat.gcd i.natAbs j.natAbs : Nat) : Int)))
  | _ => none
inductive Ty5 where
  | int | bool | str | tuple | list
def Ty5.nm : Ty5 → String
  | .int => "int" | .bool => "bool" | .str => "str" | .tuple => "tuple" | .list => "list"
/-- isinstance(x, T) -/
def isT : D → Ty5 → Option Bool
  | .non, _ => some false
  | .bl _, .bool => some true
  | .bl _, .int => some true
  | .bl _, _ => some false
  | .int _, .int => some true
  | .int _, _ => some false
  | .str _, .str => some true
  | .str _, _ => some false
  | .tup _, .tuple => some true
  | .tup _, _ => some false
  | .lst _, .list => some true
  | .lst _, _ => some false
  | _, _ => none
def bIsi (t : Ty5) : Bf
  | [x] => (isT x t).map fun b => .d (.bl b)
  | _ => none
section
variable {K : PySem.W.Frag} {fa : Nat → Addr} {F : Addr → Prop} {H : Hp} {X : Cx}
theorem RdL.one {vs : List V} {x : D} (r : RdL K fa F H vs [x]) : ∃ v, vs = [v] ∧ RdR K fa F H v x := by
  cases r with
  | cons r t => cases t; exact ⟨_, rfl, r⟩
theorem RdL.two {vs : List V} {x y : D} (r : RdL K fa F H vs [x, y]) : ∃ v u, vs = [v, u] ∧ RdR K fa F H v x ∧ RdR K fa F H u y := by
  cases r with
  | cons r t =>
    obtain ⟨u, rfl, r2⟩ := t.one
    exact ⟨_, u, rfl, r, r2⟩
theorem RdR.int_inv {v : V} {i : Int} (r : RdR K fa F H v (.int i)) : v = .int i := by
  cases r with
  | rp r => cases r; rfl
theorem RdR.bl_inv {v : V} {i : Bool} (r : RdR K fa F H v (.bl i)) : v = .bl i := by
  cases r with
  | rp r => cases r; rfl
theorem RdR.str_inv {v : V} {i : Str} (r : RdR K fa F H v (.str i)) : v = .str i := by
  cases r with
  | rp r => cases r; rfl
theorem rpl_intsOf : ∀ {l : List D} {ns : List Int} {xs : List V}, intsOf l = some ns → RpL K fa F H xs l → xs = ns.map V.int
  | [], ns, xs, e, r => by cases e; cases r; rfl
  | d :: l, ns, xs, e, r => by
    cases r with
    | cons p t =>
      cases d with
      | int i =>
        have e' : (intsOf l).map (fun l => i :: l) = some ns := e
        cases e1 : intsOf l with
        | none => rw [e1] at e'; cases e'
        | some ms =>
          rw [e1] at e'
          cases e'
          cases p
          rw [rpl_intsOf e1 t]
          rfl
      | _ => cases e
theorem rpl_blsOf : ∀ {l : List D} {ns : List Bool} {xs : List V}, blsOf l = some ns → RpL K fa F H xs l → xs = ns.map V.bl
  | [], ns, xs, e, r => by cases e; cases r; rfl
  | d :: l, ns, xs, e, r => by
    cases r with
    | cons p t =>
      cases d with
      | bl i =>
        have e' : (blsOf l).map (fun l => i :: l) = some ns := e
        cases e1 : blsOf l with
        | none => rw [e1] at e'; cases e'
        | some ms =>
          rw [e1] at e'
          cases e'
          cases p
          rw [rpl_blsOf e1 t]
          rfl
      | _ => cases e
theorem maxI_mem : ∀ {l : List Int} {m : Int}, maxI l m = m ∨ maxI l m ∈ l
  | [], m => .inl rfl
  | x :: r, m => by
    show maxI r (if m < x then x else m) = m ∨ _
    by_cases h : m < x
    · rw [if_pos h]
      rcases maxI_mem (l := r) (m := x) with e | e
      · exact .inr (by show maxI r (if m < x then x else m) ∈ _; rw [if_pos h, e]; exact List.mem_cons_self)
      · exact .inr (by show maxI r (if m < x then x else m) ∈ _; rw [if_pos h]; exact List.mem_cons_of_mem _ e)
    · rw [if_neg h]
      rcases maxI_mem (l := r) (m := m) with e | e
      · exact .inl e
      · exact .inr (by show maxI r (if m < x then x else m) ∈ _; rw [if_neg h]; exact List.mem_cons_of_mem _ e)
theorem maxI_ge : ∀ {l : List Int} {m : Int}, m ≤ maxI l m ∧ ∀ y ∈ l, y ≤ maxI l m
  | [], m => ⟨Int.le_refl _, fun y h => nomatch h⟩
  | x :: r, m => by
    obtain ⟨h1, h2⟩ := maxI_ge (l := r) (m := if m < x then x else m)
    show m ≤ maxI r (if m < x then x else m) ∧ ∀ y ∈ x :: r, y ≤ maxI r (if m < x then x else m)
    by_cases h : m < x
    · rw [if_pos h] at h1 h2 ⊢
      refine ⟨by omega, fun y hy => ?_⟩
      rcases List.mem_cons.mp hy with rfl | hy
      · exact h1
      · exact h2 y hy
    · rw [if_neg h] at h1 h2 ⊢
      refine ⟨h1, fun y hy => ?_⟩
      rcases List.mem_cons.mp hy with rfl | hy
      · omega
      · exact h2 y hy
theorem minI_mem : ∀ {l : List Int} {m : Int}, minI l m = m ∨ minI l m ∈ l
  | [], m => .inl rfl
  | x :: r, m => by
    show minI r (if x < m then x else m) = m ∨ _
    by_cases h : x < m
    · rw [if_pos h]
      rcases minI_mem (l := r) (m := x) with e | e
      · exact .inr (by show minI r (if x < m then x else m) ∈ _; rw [if_pos h, e]; exact List.mem_cons_self)
      · exact .inr (by show minI r (if x < m then x else m) ∈ _; rw [if_pos h]; exact List.mem_cons_of_mem _ e)
    · rw [if_neg h]
      rcases minI_mem (l := r) (m := m) with e | e
      · exact .inl e
      · exact .inr (by show minI r (if x < m then x else m) ∈ _; rw [if_neg h]; exact List.mem_cons_of_mem _ e)
theorem minI_le : ∀ {l : List Int} {m : Int}, minI l m ≤ m ∧ ∀ y ∈ l, minI l m ≤ y
  | [], m => ⟨Int.le_refl _, fun y h => nomatch h⟩
  | x :: r, m => by
    obtain ⟨h1, h2⟩ := minI_le (l := r) (m := if x < m then x else m)
    show minI r (if x < m then x else m) ≤ m ∧ ∀ y ∈ x :: r, minI r (if x < m then x else m) ≤ y
    by_cases h : x < m
    · rw [if_pos h] at h1 h2 ⊢
      refine ⟨by omega, fun y hy => ?_⟩
      rcases List.mem_cons.mp hy with rfl | hy
      · exact h1
      · exact h2 y hy
    · rw [if_neg h] at h1 h2 ⊢
      refine ⟨h1, fun y hy => ?_⟩
      rcases List.mem_cons.mp hy with rfl | hy
      · omega
      · exact h2 y hy
abbrev RB := List V → Hp → VK → Prop
/-- a list's or a tuple's length -/
theorem bf_len : BfS K fa bLen (fun xs H Q => ∃ x n, xs = [x] ∧ LenV K x H n ∧ Q (.int n) H) := fun xs e h F H vs Q T rr q => by
  unfold bLen at h
  split at h
  · cases h
    obtain ⟨v, rfl, r⟩ := rr.one
    obtain ⟨a, xs, rfl, s, r⟩ := r.lst_inv
    exact ⟨_, _, rfl, .inl ⟨xs, .of s, rfl⟩, q _ H (Same.refl H) (by rw [r.length]; exact .int _)⟩
  · cases h
    obtain ⟨v, rfl, r⟩ := rr.one
    obtain ⟨a, xs, rfl, s, r⟩ := r.tup_inv
    exact ⟨_, _, rfl, .inr ⟨xs, s, rfl⟩, q _ H (Same.refl H) (by rw [r.length]; exact .int _)⟩
  · cases h
    obtain ⟨v, rfl, r⟩ := rr.one
    obtain ⟨a, rfl, s⟩ := r.scr_inv
    exact ⟨_, _, rfl, .inl ⟨_, s, rfl⟩, q _ H (Same.refl H) (by rw [List.length_map]; exact .int _)⟩
  · split at h
    · rename_i hl
      cases h
      obtain ⟨v, rfl, r⟩ := rr.one
      cases r.str_inv
      exact ⟨_, _, rfl, ⟨by rw [lim_eq]; exact hl, rfl⟩, q _ H (Same.refl H) (.int _)⟩
    · cases h
  · cases h
theorem bf_abs : BfS K fa bAbs (fun xs H Q => ∃ i, xs = [.int i] ∧ Q (.int (if i < 0 then -i else i)) H) := fun xs e h F H vs Q T rr q => by
  unfold bAbs at h
  split at h
  · cases h
    obtain ⟨v, rfl, r⟩ := rr.one
    cases r.int_inv
    exact ⟨_, rfl, q _ H (Same.refl H) (.int _)⟩
  · cases h
theorem bf_int : BfS K fa bInt (fun xs H Q => (∃ i, xs = [.int i] ∧ Q (.int i) H) ∨ ∃ k, xs = [.bl k] ∧ Q (.int (if k then 1 else 0)) H) := fun xs e h F H vs Q T rr q => by
  unfold bInt at h
  split at h
  · cases h
    obtain ⟨v, rfl, r⟩ := rr.one
    cases r.int_inv
    exact .inl ⟨_, rfl, q _ H (Same.refl H) (.int _)⟩
  · cases h
    obtain ⟨v, rfl, r⟩ := rr.one
    cases r.bl_inv
    exact .inr ⟨_, rfl, q _ H (Same.refl H) (.int _)⟩
  · cases h
theorem bf_bool : BfS K fa bBool (fun xs H Q => (∃ i, xs = [.int i] ∧ Q (.bl (i != 0)) H) ∨ ∃ k, xs = [.bl k] ∧ Q (.bl k) H) := fun xs e h F H vs Q T rr q => by
  unfold bBool at h
  split at h
  · cases h
    obtain ⟨v, rfl, r⟩ := rr.one
    cases r.int_inv
    exact .inl ⟨_, rfl, q _ H (Same.refl H) (.bl _)⟩
  · cases h
    obtain ⟨v, rfl, r⟩ := rr.one
    cases r.bl_inv
    exact .inr ⟨_, rfl, q _ H (Same.refl H) (.bl _)⟩
  · cases h
theorem bf_tup : BfS K fa bTup (fun xs H Q => ∃ p ys, xs = [.ref p] ∧ ((SqL K H p ys ∧ ∀ l, H l = none → Q (.ref l) (upd H l (.tup ys))) ∨ (SqT K H p ys ∧ Q (.ref p) H))) := fun xs e h F H vs Q T rr q => by
  unfold bTup at h
  split at h
  · cases h
    obtain ⟨v, rfl, r⟩ := rr.one
    obtain ⟨a, xs, rfl, s, r⟩ := r.lst_inv
    exact ⟨_, _, rfl, .inl ⟨.of s, fun p np => q _ _ (same_new np) (.tup (.of upd_same) (RpL.ext (Ext.same (F := F) (same_new np) T) _ _ r))⟩⟩
  · cases h
    obtain ⟨v, rfl, r⟩ := rr.one
    obtain ⟨a, xs, rfl, s, r⟩ := r.tup_inv
    exact ⟨_, _, rfl, .inr ⟨s, q _ H (Same.refl H) (.tup s r)⟩⟩
  · cases h
    obtain ⟨v, rfl, r⟩ := rr.one
    obtain ⟨a, rfl, s⟩ := r.scr_inv
    exact ⟨_, _, rfl, .inl ⟨s, fun p np => q _ _ (same_new np) (.tup (.of upd_same) (rpl_ints _))⟩⟩
  · cases h
theorem bf_lst : BfS K fa bLst (fun xs H Q => ∃ p ys, xs = [.ref p] ∧ (SqL K H p ys ∨ SqT K H p ys) ∧ ∀ l, H l = none → Q (.ref l) (upd H l (.lst ys))) := fun xs e h F H vs Q T rr q => by
  unfold bLst at h
  split at h
  · cases h
    obtain ⟨v, rfl, r⟩ := rr.one
    obtain ⟨a, xs, rfl, s, r⟩ := r.lst_inv
    exact ⟨_, _, rfl, .inl (.of s), fun p np => q _ _ (same_new np) ⟨p, _, rfl, np, upd_same, RpL.ext (Ext.same (F := F) (same_new np) T) _ _ r⟩⟩
  · cases h
    obtain ⟨v, rfl, r⟩ := rr.one
    obtain ⟨a, xs, rfl, s, r⟩ := r.tup_inv
    exact ⟨_, _, rfl, .inr s, fun p np => q _ _ (same_new np) ⟨p, _, rfl, np, upd_same, RpL.ext (Ext.same (F := F) (same_new np) T) _ _ r⟩⟩
  · cases h
    obtain ⟨v, rfl, r⟩ := rr.one
    obtain ⟨a, rfl, s⟩ := r.scr_inv
    exact ⟨_, _, rfl, .inl s, fun p np => q _ _ (same_new np) ⟨p, _, rfl, np, upd_same, rpl_ints _⟩⟩
  · cases h
theorem bf_max : BfS K fa bMax (fun xs H Q => (∃ i j, xs = [.int i, .int j] ∧ Q (.int (if j > i then j else i)) H) ∨ rMax K xs H Q) := fun xs e h F H vs Q T rr q => by
  unfold bMax at h
  split at h
  · cases h
    obtain ⟨v, u, rfl, r1, r2⟩ := rr.two
    cases r1.int_inv
    cases r2.int_inv
    exact .inl ⟨_, _, rfl, q _ H (Same.refl H) (.int _)⟩
  · split at h
    · rename_i n ns en
      cases h
      obtain ⟨v, rfl, r⟩ := rr.one
      obtain ⟨a, xs, rfl, s, r⟩ := r.lst_inv
      rw [rpl_intsOf en r] at s
      refine .inr ⟨a, n :: ns, rfl, .of s, Nat.succ_pos _, fun m hm hy => ?_⟩
      have e1 : m = maxI ns n := by
        obtain ⟨g1, g2⟩ := maxI_ge (l := ns) (m := n)
        have u1 : m ≤ maxI ns n := by
          rcases List.mem_cons.mp hm with rfl | hm
          · exact g1
          · exact g2 _ hm
        have u2 : maxI ns n ≤ m := by
          rcases maxI_mem (l := ns) (m := n) with e | e
          · rw [e]; exact hy _ List.mem_cons_self
          · exact hy _ (List.mem_cons_of_mem _ e)
        omega
      rw [e1]
      exact q _ H (Same.refl H) (.int _)
    · cases h
  · cases h
theorem bf_min : BfS K fa bMin (fun xs H Q => (∃ i j, xs = [.int i, .int j] ∧ Q (.int (if j < i then j else i)) H) ∨ rMin K xs H Q) := fun xs e h F H vs Q T rr q => by
  unfold bMin at h
  split at h
  · cases h
    obtain ⟨v, u, rfl, r1, r2⟩ := rr.two
    cases r1.int_inv
    cases r2.int_inv
    exact .inl ⟨_, _, rfl, q _ H (Same.refl H) (.int _)⟩
  · split at h
    · rename_i n ns en
      cases h
      obtain ⟨v, rfl, r⟩ := rr.one
      obtain ⟨a, xs, rfl, s, r⟩ := r.lst_inv
      rw [rpl_intsOf en r] at s
      refine .inr ⟨a, n :: ns, rfl, .of s, Nat.succ_pos _, fun m hm hy => ?_⟩
      have e1 : m = minI ns n := by
        obtain ⟨g1, g2⟩ := minI_le (l := ns) (m := n)
        have u1 : minI ns n ≤ m := by
          rcases List.mem_cons.mp hm with rfl | hm
          · exact g1
          · exact g2 _ hm
        have u2 : m ≤ minI ns n := by
          rcases minI_mem (l := ns) (m := n) with e | e
          · rw [e]; exact hy _ List.mem_cons_self
          · exact hy _ (List.mem_cons_of_mem _ e)
        omega
      rw [e1]
      exact q _ H (Same.refl H) (.int _)
    · cases h
  · cases h
theorem bf_sum : BfS K fa bSum (rSum K) := fun xs e h F H vs Q T rr q => by
  unfold bSum at h
  split at h
  · rename_i l
    cases en : intsOf l with
    | none => rw [en] at h; cases h
    | some ns =>
      rw [en] at h
      cases h
      obtain ⟨v, rfl, r⟩ := rr.one
      obtain ⟨a, xs, rfl, s, r⟩ := r.lst_inv
      rw [rpl_intsOf en r] at s
      exact ⟨a, ns, rfl, .of s, q _ H (Same.refl H) (.int _)⟩
  · cases h
theorem bf_all : BfS K fa bAll (rAll K) := fun xs e h F H vs Q T rr q => by
  unfold bAll at h
  split at h
  · rename_i l
    cases en : blsOf l with
    | none => rw [en] at h; cases h
    | some ns =>
      rw [en] at h
      cases h
      obtain ⟨v, rfl, r⟩ := rr.one
      obtain ⟨a, xs, rfl, s, r⟩ := r.lst_inv
      rw [rpl_blsOf en r] at s
      exact ⟨a, ns, rfl, .of s, q _ H (Same.refl H) (.bl _)⟩
  · cases h
theorem bf_any : BfS K fa bAny (rAny K) := fun xs e h F H vs Q T rr q => by
  unfold bAny at h
  split at h
  · rename_i l
    cases en : blsOf l with
    | none => rw [en] at h; cases h
    | some ns =>
      rw [en] at h
      cases h
      obtain ⟨v, rfl, r⟩ := rr.one
      obtain ⟨a, xs, rfl, s, r⟩ := r.lst_inv
      rw [rpl_blsOf en r] at s
      exact ⟨a, ns, rfl, .of s, q _ H (Same.refl H) (.bl _)⟩
  · cases h
theorem bf_gcd : BfS K fa bGcd rGcd := fun xs e h F H vs Q T rr q => by
  unfold bGcd at h
  split at h
  · cases h
    obtain ⟨v, u, rfl, r1, r2⟩ := rr.two
    cases r1.int_inv
    cases r2.int_inv
    exact ⟨_, _, rfl, q _ H (Same.refl H) (.int _)⟩
  · cases h
/-! isinstance -/
def dTy : D → String
  | .non => "NoneType"
  | .bl _ => "bool"
  | .int _ => "int"
  | .str _ => "str"
  | .tup _ => "tuple"
  | .lst _ => "list"
  | _ => ""
theorem tyx_of {v : V} {x : D} {t : Ty5} {b : Bool} (h : isT x t = some b) (r : RdR K fa F H v x) : TyX K H v (.type (dTy x)) := by
  cases r with
  | rp r =>
    cases r with
    | non => exact .base .non
    | bl b => exact .base (.bl b)
    | int i => exact .base (.int i)
    | str s => exact .base (.str s)
    | tup s r =>
      rcases s with (s | ⟨o, s⟩) | ⟨o, its, n, k1, k2, k3, k4, k5⟩
      · exact .base (.tup s)
      · exact .fTuple s
      · exact .kTuple k1 k2
    | lst f s r => exact .base (.lst s)
    | _ => cases h
  | lst s r => exact .base (.lst s)
theorem kit_isT {x : D} {t : Ty5} {b : Bool} (h : isT x t = some b) : PySem.W.kitOne K (.type (dTy x)) (.type t.nm) = some b := by
  cases x <;> cases t <;> cases h <;> exact kit_ty (by simp only [dTy, Ty5.nm]; decide +kernel)
theorem bf_isi {t : Ty5} : BfS K fa (bIsi t) (fun vs H Q => rIsi K (vs ++ [.ty t.nm]) H Q) := fun xs e h F H vs Q T rr q => by
  unfold bIsi at h
  split at h
  · rename_i x
    cases en : isT x t with
    | none => rw [en] at h; cases h
    | some b =>
      rw [en] at h
      cases h
      obtain ⟨v, rfl, r⟩ := rr.one
      exact ⟨v, .ty t.nm, _, _, b, rfl, .ty _, tyx_of en r, kit_isT en, q _ H (Same.refl H) (.bl _)⟩
  · cases h
end
end RX
set_option Elab.async false
set_option linter.all false
set_option maxRecDepth 100000
set_option maxHeartbeats 4000000
/-! RXlb: list(range(..)), sorted of numbers. -/
namespace RX
open PySem PySem.Spec PyProof.Rows L2
/-- list(range(a)) -/
def dLR1 (a : Den) : Den := fun C ρ => (a C ρ).bind fun x ρ1 => match x.frz.asInt? with
  | some n => if -16777216 < n ∧ n < 16777216 then .ok (.fresh (rng 0 n)) ρ1 else .stuck
  | none => .stuck
/-- list(range(a, b)) -/
def dLR2 (a b : Den) : Den := fun C ρ => (a C ρ).bind fun x ρ1 => (b C ρ1).bind fun y ρ2 => match x.frz.asInt?, y.frz.asInt? with
  | some i, some j => if -8388608 < i ∧ i < 8388608 ∧ -8388608 < j ∧ j < 8388608 then .ok (.fresh (rng i j)) ρ2 else .stuck
  | _, _ => .stuck
def insI (x : Int) : List Int → List Int
  | [] => [x]
  | y :: r => if x ≤ y then x :: y :: r else y :: insI x r
def srtI : List Int → List Int
  | [] => []
  | x :: r => insI x (srtI r)
/-- sorted, of a list of numbers -/
def bSrt : Bf
  | [.lst l] => (intsOf l).map fun ns => .fresh ((srtI ns).map .int)
  | _ => none
theorem insI_perm {x : Int} : ∀ {l : List Int}, (insI x l).Perm (x :: l)
  | [] => .refl _
  | y :: r => by
    unfold insI
    split
    · exact .refl _
    · exact (List.Perm.cons y insI_perm).trans (.swap x y r)
theorem srtI_perm : ∀ {l : List Int}, (srtI l).Perm l
  | [] => .refl _
  | x :: r => insI_perm.trans (.cons x srtI_perm)
theorem insI_mem {x z : Int} {l : List Int} (h : z ∈ insI x l) : z = x ∨ z ∈ l := List.mem_cons.mp (insI_perm.mem_iff.mp h)
theorem insI_pw {x : Int} : ∀ {l : List Int}, l.Pairwise (· ≤ ·) → (insI x l).Pairwise (· ≤ ·)
  | [], _ => .cons (fun _ h => (nomatch h)) .nil
  | y :: r, h => by
    unfold insI
    cases h with
    | cons h1 h2 =>
      split
      · rename_i hx
        exact .cons (fun z hz => by
          rcases List.mem_cons.mp hz with rfl | hz
          · exact hx
          · exact Int.le_trans hx (h1 z hz)) (.cons h1 h2)
      · rename_i hx
        exact .cons (fun z hz => by
          rcases insI_mem hz with rfl | hz
          · omega
          · exact h1 z hz) (insI_pw h2)
theorem srtI_pw : ∀ {l : List Int}, (srtI l).Pairwise (· ≤ ·)
  | [] => .nil
  | _ :: _ => insI_pw srtI_pw
theorem sorted_one : ∀ {l m : List Int}, l.Perm m → l.Pairwise (· ≤ ·) → m.Pairwise (· ≤ ·) → l = m
  | [], m, p, _, _ => by rw [List.nil_perm.mp p]
  | x :: l, [], p, _, _ => by cases List.perm_nil.mp p
  | x :: l, y :: m, p, h1, h2 => by
    cases h1 with
    | cons a1 b1 =>
      cases h2 with
      | cons a2 b2 =>
        have hx : x ∈ y :: m := p.mem_iff.mp List.mem_cons_self
        have hy : y ∈ x :: l := p.mem_iff.mpr List.mem_cons_self
        have e : x = y := by
          rcases List.mem_cons.mp hx with e | hx
          · exact e
          · rcases List.mem_cons.mp hy with e | hy
            · exact e.symm
            · have := a1 y hy
              have := a2 x hx
              omega
        subst e
        rw [sorted_one p.cons_inv b1 b2]
section
variable {fa : Nat → Addr} {ca : Cc} {W : WX} {C : Calls} {X : Cx} {F : Addr → Prop} {H : Hp} {K : PySem.W.Frag}
theorem rgV_rp {a b : Int} : RpL K fa F H (rgV a b) (rng a b) := by
  have e1 : rgV a b = ((List.range (b - a).toNat).map fun (i : Nat) => a + (i : Int)).map V.int := by unfold rgV; rw [List.map_map]; rfl
  have e2 : rng a b = ((List.range (b - a).toNat).map fun (i : Nat) => a + (i : Int)).map D.int := by unfold rng; rw [List.map_map]; rfl
  rw [e1, e2]
  exact rpl_ints _
theorem sim_lr1 {a e : Expr} {d : Den} (ha : SimE fa ca W C X a d) (pe : ∀ {t}, PE X a t → PE X e (tLstRg (tRg1 t))) : SimE fa ca W C X e (dLR1 d) := by
  refine pe_le (pe ha) fun σ H Q h => ?_
  obtain ⟨G, F, ρ, S, h⟩ := h
  refine ⟨G, F, ρ, S, h.bind.mono fun x ρ1 h1 v F1 H1 S1 E1 r1 => ?_⟩
  obtain ⟨F1, S1, E1', p1⟩ := S1.frz r1
  cases e : x.frz.asInt? with
  | none => rw [e] at h1; exact h1.elim
  | some n =>
    rw [e] at h1
    cases asInt_ok e p1
    by_cases hn : -16777216 < n ∧ n < 16777216
    · simp only [if_pos hn] at h1
      refine ⟨n, rfl, ⟨by omega, by omega, by omega, by omega, by omega⟩, fun q nq => ?_⟩
      exact fin_new S1 (E1.trans E1') h1 (same_new nq) ⟨q, _, rfl, nq, upd_same, rgV_rp⟩
    · simp only [if_neg hn] at h1; exact h1.elim
theorem sim_lr2 {a b e : Expr} {da db : Den} (ha : SimE fa ca W C X a da) (hb : SimE fa ca W C X b db) (pe : ∀ {t u}, PE X a t → PE X b u → PE X e (tLstRg (tRg2 t u))) : SimE fa ca W C X e (dLR2 da db) := by
  refine pe_le (pe ha hb) fun σ H Q h => ?_
  obtain ⟨G, F, ρ, S, h⟩ := h
  refine ⟨G, F, ρ, S, h.bind.mono fun x ρ1 h1 v F1 H1 S1 E1 r1 => ?_⟩
  obtain ⟨F1, S1, E1', p1⟩ := S1.frz r1
  refine ⟨G, F1, ρ1, S1, (h1.bind.later (E1.trans E1')).mono fun y ρ2 h2 u F2 H2 S2 E2 r2 => ?_⟩
  obtain ⟨F2, S2, E2', p2⟩ := S2.frz r2
  cases e : x.frz.asInt? with
  | none => rw [e] at h2; exact h2.elim
  | some i =>
    cases e2 : y.frz.asInt? with
    | none => rw [e, e2] at h2; exact h2.elim
    | some j =>
      rw [e, e2] at h2
      cases asInt_ok e p1
      cases asInt_ok e2 p2
      by_cases hn : -8388608 < i ∧ i < 8388608 ∧ -8388608 < j ∧ j < 8388608
      · simp only [if_pos hn] at h2
        refine ⟨i, j, rfl, rfl, ⟨by omega, by omega, by omega, by omega, by omega⟩, fun q nq => ?_⟩
        exact fin_new S2 (((E1.trans E1').trans E2).trans E2') h2 (same_new nq) ⟨q, _, rfl, nq, upd_same, rgV_rp⟩
      · simp only [if_neg hn] at h2; exact h2.elim
theorem bf_srt : BfS K fa bSrt (rSortedI K) := fun xs e h F H vs Q T rr q => by
  unfold bSrt at h
  split at h
  · rename_i l
    cases en : intsOf l with
    | none => rw [en] at h; cases h
    | some ns =>
      rw [en] at h
      cases h
      obtain ⟨v, rfl, r⟩ := rr.one
      obtain ⟨a, xs, rfl, s, r⟩ := r.lst_inv
      rw [rpl_intsOf en r] at s
      refine ⟨a, ns, rfl, .of s, fun ns' p pm pw np => ?_⟩
      rw [sorted_one (pm.trans srtI_perm.symm) pw srtI_pw]
      exact q _ _ (same_new np) ⟨p, _, rfl, np, upd_same, rpl_ints _⟩
  · cases h
end
end RX
set_option Elab.async false
set_option linter.all false
set_option maxRecDepth 100000
set_option maxHeartbeats 4000000
/-! RXlc: x.extend(e) with a list that is new; try: .. except C: return a constant. -/
namespace RX
open PySem PySem.Spec PyProof.Rows L2
/-- x.extend(e), e a new list -/
def sExt (i : Nat) (e : Den) : DS := fun C ρ => match isOwn ρ[i]? with
  | false => .stuck
  | true => (e C ρ).out fun y ρ1 => match y with
    | .fresh z => (match ρ1[i]? with
      | some (.own l) => if l.length + z.length ≤ LIM then .next (ρ1.set i (.own (l ++ z))) else .stuck
      | some (.par l) => if l.length + z.length ≤ LIM then .next (ρ1.set i (.par (l ++ z))) else .stuck
      | _ => .stuck)
    | _ => .stuck
/-- a name's truth, unchanged -/
def tTv (i : Nat) : TD := fun _ ρ => match RX.look ρ i with
  | some x => (match truth x with
    | some b => .ok b ρ
    | none => .stuck)
  | none => .stuck
/-- a, b, c = x, y, z -/
def sPar3 (i j k : Nat) (a b c : Den) : DS := fun C ρ => (dAll [a, b, c] C ρ).out fun xs ρ1 => match stAll ρ1 [i, j, k] xs with
  | some ρ2 => .next ρ2
  | none => .stuck
/-- try: b except (one of the classes m): return x -/
def sTryC (b : DS) (m : Nat → Bool) (x : D) : DS := fun C ρ => match b C ρ with
  | .exc c fs ρ1 => if m c = true then .ret (.d x) ρ1 else .exc c fs ρ1
  | o => o
section
variable {K : PySem.W.Frag} {fa : Nat → Addr} {ca : Cc} {W : WX} {C : Calls} {X : Cx} {G : Gh} {F F' : Addr → Prop} {H H' : Hp} {σ σ' : L2.St} {ρ ρ' : Env}
theorem sim_ext {i : Nat} {a e : Expr} {d : Den} {s : Stmt} (ha : PE X a (tVar i)) (he : SimE fa ca W C X e d) (st : starEach [e] X.env = (false, eval e X.env) :: starEach [] X.env)
    (pe : ∀ {t u}, PE X a t → PA X [e] u → PS X s (tDrop (tBM X.K "list" rExtend t u))) : SimS fa ca W C X s (sExt i d) := by
  refine ps_le (pe ha (pa_cons he pa_nil st)) fun Dn σ H h => ?_
  obtain ⟨G, F, ρ, S, h⟩ := h
  unfold sExt at h
  cases e0 : isOwn ρ[i]? with
  | false => rw [e0] at h; exact h.elim
  | true =>
    rw [e0] at h
    obtain ⟨t, l, mk, et, M⟩ := isOwn_mine e0
    obtain ⟨a0, xs0, ea, eH, _, _⟩ := S.mine M et
    refine ⟨.ref a0, ea, tyV_lst eH, G, F, ρ, S, (OPost.out (x := d C ρ) h).mono fun y ρ1 h1 v F1 H1 S1 E1 r1 => ?_⟩
    cases y with
    | d x => exact h1.elim
    | dkn l g => exact h1.elim
    | fresh z =>
      obtain ⟨b, zs, rfl, hb, rz, _, _, _⟩ := r1
      have go : ∀ {s : Sl} {l : List D} {mk : List D → Sl}, Mine s l mk → ρ1[i]? = some s → OPost X.K fa ca G F H W Dn (if l.length + z.length ≤ LIM then .next (ρ1.set i (mk (l ++ z))) else .stuck) → rExtend (.ref a0) [.ref b] H1 (fun _ H1 => Dn.nx σ H1) := fun {s l mk} M e q => by
        obtain ⟨a, xs, e1, e2, nf, r⟩ := S1.mine M e
        rw [ea] at e1
        cases e1
        by_cases hl : l.length + z.length ≤ LIM
        · rw [if_pos hl] at q
          have hl' : xs.length + zs.length ≤ LIM := by rw [r.length, rz.length]; exact hl
          obtain ⟨S2, E2⟩ := S1.write M e ea (r.append rz)
          exact ⟨a0, b, xs, zs, rfl, rfl, e2, hb, by rw [lim_eq]; exact hl', q F1 σ _ S2 (E1.trans E2)⟩
        · rw [if_neg hl] at q; exact q.elim
      cases e : ρ1[i]? with
      | none => simp only [e] at h1; exact h1.elim
      | some s =>
        simp only [e] at h1
        cases s with
        | own l => exact go (.own l) e h1
        | par l => exact go (.par l) e h1
        | _ => exact h1.elim
theorem sim_tryC {cv : Value} {m : Nat → Bool} {s : Stmt} {body suite : List Stmt} {db : DS} {x : D} {v : V} (hv : ∀ F H, Rp X.K fa F H v x) (hx : ∀ c, PySem.W.exmOne X.K (.ref (ca.ca c)) cv = some (m c))
    (pe : ∀ {tb : WX → TS} {ts : Addr → Value → Option Addr → TS}, (∀ (W : WX) (pn : List (Addr × Obj)) (xe : Value → Shared → Prop), L2N.Takes (X.tr pn xe) W → PassesOwn (model X.prog X.w) X.A X.env xe → PSs (X.tr pn xe) body (tb W)) →
      (∀ (a : Addr) (oe : Obj) (cls : Value) (d : Option Addr) (pn : List (Addr × Obj)), L2N.Zn cls d oe → (∃ vs, oe.data = .fields vs) → PSs (X.suite a ((a, oe) :: pn)) suite (ts a cls d)) → PS X s (fun D σ H => tb (wMany X.K W D [(cv, ts)]) D σ H))
    (hb : ∀ (W : WX) (pn : List (Addr × Obj)) (xe : Value → Shared → Prop), L2N.Takes (X.tr pn xe) W → PassesOwn (model X.prog X.w) X.A X.env xe → SimB fa ca W C (X.tr pn xe) body db)
    (hs : ∀ (a : Addr) (oe : Obj) (cls : Value) (d : Option Addr) (pn : List (Addr × Obj)), L2N.Zn cls d oe → (∃ vs, oe.data = .fields vs) → PSs (X.suite a ((a, oe) :: pn)) suite (fun D _ H => D.rt v H)) :
    SimS fa ca W C X s (sTryC db m x) := by
  refine ps_le (pe (tb := fun W => tSemS X.K fa ca W db C) (ts := fun a cls d D _ H => D.rt v H) hb hs) fun D σ H h => ?_
  obtain ⟨G, F, ρ, S, h⟩ := h
  refine ⟨G, F, ρ, S, ?_⟩
  unfold sTryC at h
  cases e : db C ρ with
  | next ρ1 => rw [e] at h; exact h
  | brk ρ1 => rw [e] at h; exact h
  | cont ρ1 => rw [e] at h; exact h
  | ret r ρ1 => rw [e] at h; exact h
  | stuck => rw [e] at h; exact h.elim
  | exc c fs ρ1 =>
    rw [e] at h
    refine fun F1 σ1 H1 cls d S1 E1 x => ⟨m c, by rw [x.1]; exact hx c, fun hm a na => ?_, fun hm => ?_⟩
    · simp only [if_pos hm] at h
      exact h v F1 σ1 H1 S1 E1 (hv F1 H1)
    · simp only [if_neg (show ¬ m c = true by rw [hm]; exact Bool.false_ne_true)] at h
      exact h F1 σ1 H1 cls d S1 E1 x
theorem sim_tTv {i : Nat} {e : Expr} (ha : PE X e (tVar i)) (pt : ∀ {t}, PE X e t → PT X e (fun σ H Q => t σ H fun x H1 => ∃ k, TruV X.K x H1 k ∧ Q k H1)) : SimT fa ca W C X e (tTv i) := by
  refine pt_le (pt ha) fun σ H Q h => ?_
  obtain ⟨G, F, ρ, S, h⟩ := h
  unfold tTv at h
  cases e : RX.look ρ i with
  | none => rw [e] at h; exact h.elim
  | some x =>
    rw [e] at h
    obtain ⟨v, hv, r⟩ := S.look e
    cases e1 : truth x with
    | none => simp only [e1] at h; exact h.elim
    | some k =>
      simp only [e1] at h
      cases r with
      | rp p => exact ⟨v, hv, k, truth_ok e1 p, h F H S Ext.refl⟩
      | @lst a xs l eH r =>
        refine ⟨_, hv, k, .inl ⟨_, .of eH, ?_⟩, h F H S Ext.refl⟩
        have e2 : some (!l.isEmpty) = some k := e1
        cases e2
        cases r <;> rfl
theorem sim_par3 {i j k : Nat} {s : Stmt} {a b c : Expr} {da db dc : Den} (ha : SimA fa ca W C X [a, b, c] [da, db, dc]) (pe : ∀ {t}, PA X [a, b, c] t → PS X s (tPar3 i j k t)) : SimS fa ca W C X s (sPar3 i j k da db dc) := by
  refine ps_le (pe ha) fun D σ H h => ?_
  obtain ⟨G, F, ρ, S, h⟩ := h
  refine ⟨G, F, ρ, S, (OPost.out (x := dAll [da, db, dc] C ρ) h).mono fun xs ρ1 h1 vs F1 H1 S1 E1 r1 => ?_⟩
  cases e : stAll ρ1 [i, j, k] xs with
  | none => rw [e] at h1; exact h1.elim
  | some ρ2 =>
    rw [e] at h1
    obtain ⟨q1, q2⟩ := stAll_ok (Q := fun σ' H' => D.nx σ' H') S1 r1 e fun σ' S2 _ => h1 F1 σ' H1 S2 E1
    obtain ⟨u, r, rfl, v, r2, rfl, w, r3, rfl, rfl, q⟩ := q2
    exact ⟨u, v, w, rfl, q⟩
end
end RX
set_option Elab.async false
set_option linter.all false
set_option maxRecDepth 100000
set_option maxHeartbeats 4000000
/-! RXld: several except clauses, each with a name for the exception. -/
namespace L2N
open PySem PySem.Spec PyProof.Rows L2
/-- what the clauses wish of an exception, one clause behind the other -/
def wRow (K : PySem.W.Frag) (Wz : WX) (D : Ends) : List (Value × Nat × (Addr → Value → Option Addr → TS)) → WX
  | [] => Wz
  | (v, j, t) :: l => wAs K v j t (wRow K Wz D l) D
inductive Row (X : Cx) : List ExceptHandler → List (Value × Nat × (Addr → Value → Option Addr → TS)) → Prop
  | nil : Row X [] []
  | cons {y nm : Str} {v : Value} {j : Nat} {t : Addr → Value → Option Addr → TS} {z : Stmt} {zs : List Stmt} {p1 p2 : Pos} {hl : List ExceptHandler} {l : List (Value × Nat × (Addr → Value → Option Addr → TS))} (hy : Names X y v) (hj : X.N[j]? = some nm)
      (hk : X.env.kindOf nm = some .local)
      (hz : ∀ (a : Addr) (ob : Obj) (kl : Value) (dd : Option Addr) (pn : List (Addr × Obj)), Zn kl dd ob → (∃ w, ob.data = .fields w) → PSs (X.suite a ((a, ob) :: pn)) (z :: zs) (t a kl dd)) (rest : Row X hl l) :
      Row X (.ExceptHandler (some (.Name y p1)) (some nm) (z :: zs) p2 :: hl) ((v, j, t) :: l)
section
variable {X : Cx} {bd : List Stmt} {g₀ : ExceptHandler} {gs : List ExceptHandler} {l : List (Value × Nat × (Addr → Value → Option Addr → TS))} {pp : Pos} {tb : WX → TS} {Wz : WX}
theorem ps_try_row (st : X.stack = X.env :: X.outer) (fr : X.env.frame = some X.env.locals) (nd : X.N.Nodup) (tk : Takes X Wz)
    (hb : ∀ (W : WX) (pn : List (Addr × Obj)) (xe : Value → Shared → Prop), Takes (X.tr pn xe) W → PassesOwn (model X.prog X.w) X.A X.env xe → PSs (X.tr pn xe) bd (tb W))
    (hr : Row X (g₀ :: gs) l) : PS X (.Try bd (g₀ :: gs) [] [] pp) (fun D σ H => tb (wRow X.K Wz D l) D σ H) := by
  refine ⟨fun ps sh σ H D I0 w0 => ?_⟩
  have okX := I0.ok
  have fs : X.A.frames = some (X.env :: X.outer) := by rw [okX.frames, st]
  refine wpAny_Try_except ?_
  have body := (hb (wRow X.K Wz D l) (X.pn ++ ps) (fun e t₁ => wpAny (model X.prog X.w) X.A (noteFrame e X.env) (fun _ t₂ => wpAny (model X.prog X.w) X.A (setFlight e none) (fun _ t₃ =>
    wpAny (model X.prog X.w) X.A (handleBy e X.env (g₀ :: gs)) (SP X ps D) X.xe t₃) X.xe t₂) X.xe t₁) (fun u sB cat => ?_) PassesOwn.looking).run [] sh σ H D (I0.toTry _) w0
  · refine wpAny_mono body (fun fl sE endd => ?_) (fun _ _ z => z)
    cases fl with
    | ret u =>
      obtain ⟨vv, σE, HE, iE, rE, qE⟩ := endd
      exact ⟨vv, σE, HE, iE.ofTry okX, rE, qE⟩
    | cont =>
      obtain ⟨σE, HE, iE, qE⟩ := endd
      exact ⟨σE, HE, iE.ofTry okX, qE⟩
    | brk =>
      obtain ⟨σE, HE, iE, qE⟩ := endd
      exact ⟨σE, HE, iE.ofTry okX, qE⟩
    | next =>
      obtain ⟨σE, HE, iE, qE⟩ := endd
      exact wpAny_execs_nil ⟨σE, HE, iE.ofTry okX, qE⟩
  · obtain ⟨ea, bs, sA, pz, σ1, H1, kl, dd, rfl, iT, bw, u1, sk, ea0, oo, gg, wish⟩ := cat
    have i1 : Inv X ps σ1 H1 sA := iT.ofTry okX
    have sk1 : Sky bs (X.env :: X.outer) ea (Zn kl dd) X.env.locals sB.heap := by rw [← st]; exact sk
    show wpAny (model X.prog X.w) X.A (noteFrame (.ref ea) X.env) _ _ _
    refine Sky.land Zn.steady fs fr sk1 fun hp2 f2 u2 => ?_
    have i2 : Inv X ps σ1 H1 { sB with heap := hp2 } := i1.landed bw f2.1 (u1.trans u2) oo gg
    obtain ⟨ob2, ws2, at2, z2, d2⟩ := f2.there
    have out2 : ea ∉ frs (X.env :: X.outer) := fun hm => by
      obtain ⟨_, ob', at', no⟩ := f2.2.2.1.mem hm
      rw [at2] at at'
      cases at'
      exact no _ d2
    have ne1 : ea ≠ X.env.locals := fun z => out2 (List.mem_filterMap.mpr ⟨X.env, List.mem_cons_self, by rw [fr, z]⟩)
    have ne2 : ea ∉ X.fs := fun hm => by
      obtain ⟨e1, in1, at1⟩ := List.mem_filterMap.mp hm
      exact out2 (List.mem_filterMap.mpr ⟨e1, List.mem_cons_of_mem _ in1, at1⟩)
    have iS := i2.suite at2 d2 ea0 ne1 ne2
    have each : ∀ {hl : List ExceptHandler} {ll : List (Value × Nat × (Addr → Value → Option Addr → TS))}, Row X hl ll → wRow X.K Wz D ll kl dd σ1 H1 →
        wpAny (model X.prog X.w) X.A (handleBy (.ref ea) X.env hl) (SP X ps D) X.xe { sB with heap := hp2 } := by
      intro hl ll hk
      induction hk with
      | nil =>
        intro ww
        refine wpAny_handleBy_nil ?_
        obtain ⟨_, _, _, ob, ws, tb0, _, _, at0, _, d0, nx, _⟩ := id f2
        unfold PySem.passOn
        refine wpAny_bind (wpAny_field at0 d0 nx ?_)
        rw [if_neg (show ¬ ((Value.ref tb0 == Value.none) = true) by simp)]
        have go : wpAny (model X.prog X.w) X.A (setFlight (.ref ea) X.env.frame) (fun _ s5 => wpAny (model X.prog X.w) X.A (throw (.ref ea) : Sem Flow) (SP X ps D) X.xe s5) X.xe { sB with heap := hp2 } := by
          rw [fr]
          refine HandSPX.setFlight_upZ f2 fun hp3 held u3 => wpAny_throw (tk _ _ ?_)
          exact ⟨ea, bs, sA, ps, σ1, H1, kl, dd, rfl, i1, bw, (u1.trans u2).trans u3, .inr (.inr (by rw [st]; exact held)), ea0, oo, gg, ww⟩
        first
          | exact wpAny_bind (wpAny_pure (wpAny_bind go))
          | exact wpAny_bind go
      | @cons y nm v j t z zs p1 p2 hl2 l2 hy hj hkd hz rest ih =>
        intro ww
        obtain ⟨yn, te, onY, onN⟩ := ww
        refine wpAny_handleBy_cons (codeAny_handlers_test ?_) (by intro q; cases q)
        have see : PySem.W.Looks (model X.prog X.w) hp2 (typeOf (.ref ea)) kl := fun _ _ _ _ kp q => wpAny_typeOf_ref (kp _ _ at2) (by rw [z2.1]; exact q)
        have match1 := PySem.W.exm_one (M := model X.prog X.w) (i2.kIn) see te
        have name1 : ∀ {Q : Value → Shared → Prop} {E : Value → Shared → Prop}, Q v { sB with heap := hp2 } → wpAny (model X.prog X.w) (X.A.mark (some (.ref ea))) (eval (.Name y p1) X.env) Q E { sB with heap := hp2 } := fun {Q E} q => by
          obtain ⟨gy, dy, my | ⟨my, by', ny⟩⟩ := hy
          · exact ld_glob (X := X.suite ea ((ea, ob2) :: (X.pn ++ ps))) iS gy my q dy
          · exact ld_blt (X := X.suite ea ((ea, ob2) :: (X.pn ++ ps))) iS gy my by' q ny dy
        refine name1 (match1.here ?_)
        cases yn with
        | false =>
          show wpAny _ X.A (handleBy (.ref ea) X.env hl2) _ _ _
          exact ih (onN rfl)
        | true =>
          refine codeAny_handlers_suite_as ?_
          refine HandSPX.lands_againZ f2 fun hp3 f3 u3 => ?_
          have i3 : Inv X ps σ1 H1 { sB with heap := hp3 } := i1.landed bw f3.1 ((u1.trans u2).trans u3) oo gg
          obtain ⟨ob3, ws3, at3, z3, d3⟩ := f3.there
          have iS3 := i3.suite at3 d3 ea0 ne1 ne2
          refine store_ok (X := X.suite ea ((ea, ob3) :: (X.pn ++ ps))) (v := .ref ea) iS3 nd hj (.inl hkd) rfl (fun s5 iS5 => ?_) (.inr hkd)
          have gone : ∀ {σ6 : St} {H6 : Hp} {s6 : Shared} {Q : Shared → Prop}, Inv (X.suite ea ((ea, ob3) :: (X.pn ++ ps))) [] σ6 H6 s6 → (∀ s7, Inv X ps (σ6.set j none) H6 s7 → Q s7) →
              wpAny (model X.prog X.w) X.A (do bindName X.env nm .none; unbindBehindTheSuite X.env nm p2) (fun _ s7 => Q s7) X.xe s6 := fun {_ _ _ _} iU q => gone_ok (iU.unsuite okX) nd hj hkd q
          refine wpAny_mono ((hz ea ob3 kl dd (X.pn ++ ps) z3 ⟨_, d3⟩).run [] s5 _ H1 _ iS5 (onY rfl ea ea0)) (fun fl s6 endd => ?_) (fun _ _ z => False.elim z)
          cases fl with
          | ret u =>
            obtain ⟨v6, σ6, H6, i6, r6, q6⟩ := endd
            exact gone i6 fun _ i7 => ⟨_, _, _, i7, r6, q6⟩
          | cont =>
            obtain ⟨σ6, H6, i6, q6⟩ := endd
            exact gone i6 fun _ i7 => ⟨_, _, i7, q6⟩
          | brk =>
            obtain ⟨σ6, H6, i6, q6⟩ := endd
            exact gone i6 fun _ i7 => ⟨_, _, i7, q6⟩
          | next =>
            obtain ⟨σ6, H6, i6, q6⟩ := endd
            exact gone i6 fun _ i7 => ⟨_, _, i7, q6⟩
    exact each hr wish
end
end L2N

namespace RX
open PySem PySem.Spec PyProof.Rows L2
section
variable {K : PySem.W.Frag} {fa : Nat → Addr} {ca : Cc} {W : WX} {C : Calls} {X : Cx} {G : Gh} {F F' : Addr → Prop} {H H' : Hp} {σ σ' : L2.St} {ρ ρ' : Env}
theorem handle_cons {C : Calls} {c : Nat} {fs : List (Str × D)} {ρ : Env} {h : Hd} {r : List Hd} : handle C c fs ρ (h :: r) = if h.cs c = true then handle C c fs ρ [h] else handle C c fs ρ r := by
  unfold handle
  by_cases e : h.cs c = true
  · rw [if_pos e, if_pos e, if_pos e]
  · rw [if_neg e, if_neg e]
    cases r <;> rfl
theorem suite_go {i : Nat} {c : Nat} {fs : List (Str × D)} {ρ1 : Env} {mm : Nat → Bool} {dh : DS} {D : Ends} {F1 : Addr → Prop} {σ1 : L2.St} {H1 : Hp} {cls : Value} {d : Option Addr} (hex : ca.ex = none) (hm : mm c = true)
    (h : OPost X.K fa ca G F H W D (handle C c fs ρ1 [⟨mm, some i, dh⟩])) (S1 : SR X.K fa ca G F1 ρ1 σ1 H1) (E1 : Ext F H F1 H1) (x : ExnR X.K fa ca F1 H1 c fs cls d) (a : Addr) :
    tSemS X.K fa (ca.in i a cls d) WN dh C { nx := fun σ' H' => D.nx (σ'.set i none) H', rt := D.rt, bk := fun σ' H' => D.bk (σ'.set i none) H', ct := fun σ' H' => D.ct (σ'.set i none) H' } (σ1.set i (some (.ref a))) H1 := by
  unfold handle at h
  rw [if_pos hm] at h
  cases e1 : stSl ρ1 i (.exn c fs) with
  | none => simp only [e1] at h; exact h.elim
  | some ρ2 =>
    simp only [e1] at h
    have S2 := S1.suiteIn hex (a := a) e1 x
    have np : ∀ p ∈ G.pars, p.1 ≠ i := fun p hp z => by
      obtain ⟨⟨l, h1⟩, _⟩ := S1.par p hp
      rw [z] at h1
      unfold stSl at e1
      rcases h1 with h1 | h1 <;> rw [h1] at e1 <;> cases e1
    refine ⟨G, F1, ρ2, S2, ?_⟩
    have h := h.later E1
    cases e2 : dh C ρ2 with
    | next ρ3 => rw [e2] at h; exact fun F3 σ3 H3 S3 E3 => h F3 _ H3 (S3.suiteOut np) E3
    | brk ρ3 => rw [e2] at h; exact fun F3 σ3 H3 S3 E3 => h F3 _ H3 (S3.suiteOut np) E3
    | cont ρ3 => rw [e2] at h; exact fun F3 σ3 H3 S3 E3 => h F3 _ H3 (S3.suiteOut np) E3
    | ret r ρ3 => rw [e2] at h; exact fun v F3 σ3 H3 S3 E3 r3 => h v F3 _ H3 (S3.suiteOut np) E3 r3.out
    | exc c2 fs2 ρ3 => rw [e2] at h; exact h.elim
    | stuck => rw [e2] at h; exact h.elim
/-- two clauses, each with a name -/
theorem sim_try2 {i j : Nat} {cv cw : Value} {m m' : Nat → Bool} {s : Stmt} {body s1 s2 : List Stmt} {db d1 d2 : DS} (hex : ca.ex = none) (hx : ∀ c, PySem.W.exmOne X.K (.ref (ca.ca c)) cv = some (m c)) (hy : ∀ c, PySem.W.exmOne X.K (.ref (ca.ca c)) cw = some (m' c))
    (pe : ∀ {tb : WX → TS} {t1 t2 : Addr → Value → Option Addr → TS}, (∀ (W : WX) (pn : List (Addr × Obj)) (xe : Value → Shared → Prop), L2N.Takes (X.tr pn xe) W → PassesOwn (model X.prog X.w) X.A X.env xe → PSs (X.tr pn xe) body (tb W)) →
      (∀ (a : Addr) (oe : Obj) (cls : Value) (d : Option Addr) (pn : List (Addr × Obj)), L2N.Zn cls d oe → (∃ vs, oe.data = .fields vs) → PSs (X.suite a ((a, oe) :: pn)) s1 (t1 a cls d)) →
      (∀ (a : Addr) (oe : Obj) (cls : Value) (d : Option Addr) (pn : List (Addr × Obj)), L2N.Zn cls d oe → (∃ vs, oe.data = .fields vs) → PSs (X.suite a ((a, oe) :: pn)) s2 (t2 a cls d)) → PS X s (fun D σ H => tb (wAs X.K cv i t1 (wAs X.K cw j t2 W D) D) D σ H))
    (hb : ∀ (W : WX) (pn : List (Addr × Obj)) (xe : Value → Shared → Prop), L2N.Takes (X.tr pn xe) W → PassesOwn (model X.prog X.w) X.A X.env xe → SimB fa ca W C (X.tr pn xe) body db)
    (h1 : ∀ (a : Addr) (oe : Obj) (cls : Value) (d : Option Addr) (pn : List (Addr × Obj)), L2N.Zn cls d oe → (∃ vs, oe.data = .fields vs) → SimB fa (ca.in i a cls d) WN C (X.suite a ((a, oe) :: pn)) s1 d1)
    (h2 : ∀ (a : Addr) (oe : Obj) (cls : Value) (d : Option Addr) (pn : List (Addr × Obj)), L2N.Zn cls d oe → (∃ vs, oe.data = .fields vs) → SimB fa (ca.in j a cls d) WN C (X.suite a ((a, oe) :: pn)) s2 d2) :
    SimS fa ca W C X s (sTry db [⟨m, some i, d1⟩, ⟨m', some j, d2⟩]) := by
  refine ps_le (pe (tb := fun W => tSemS X.K fa ca W db C) (t1 := fun a cls d => tSemS X.K fa (ca.in i a cls d) WN d1 C) (t2 := fun a cls d => tSemS X.K fa (ca.in j a cls d) WN d2 C) hb h1 h2) fun D σ H h => ?_
  obtain ⟨G, F, ρ, S, h⟩ := h
  refine ⟨G, F, ρ, S, ?_⟩
  unfold sTry at h
  cases e : db C ρ with
  | next ρ1 => rw [e] at h; exact h
  | brk ρ1 => rw [e] at h; exact h
  | cont ρ1 => rw [e] at h; exact h
  | ret r ρ1 => rw [e] at h; exact h
  | stuck => rw [e] at h; exact h.elim
  | exc c fs ρ1 =>
    rw [e] at h
    have h : OPost X.K fa ca G F H W D (handle C c fs ρ1 [⟨m, some i, d1⟩, ⟨m', some j, d2⟩]) := h
    rw [handle_cons] at h
    refine fun F1 σ1 H1 cls d S1 E1 x => ⟨m c, by rw [x.1]; exact hx c, fun hm a na => ?_, fun hm => ⟨m' c, by rw [x.1]; exact hy c, fun hm' a na => ?_, fun hm' => ?_⟩⟩
    · rw [if_pos hm] at h
      exact suite_go hex hm h S1 E1 x a
    · rw [if_neg (show ¬ m c = true by rw [hm]; exact Bool.false_ne_true)] at h
      exact suite_go hex hm' h S1 E1 x a
    · rw [if_neg (show ¬ m c = true by rw [hm]; exact Bool.false_ne_true)] at h
      unfold handle at h
      rw [if_neg (show ¬ m' c = true by rw [hm']; exact Bool.false_ne_true)] at h
      exact h F1 σ1 H1 cls d S1 E1 x
end
end RX
set_option Elab.async false
set_option linter.all false
set_option maxRecDepth 100000
set_option maxHeartbeats 4000000
/-! RXm: what a body's context is known to be; rules under it. -/
namespace RX
open PySem PySem.Spec PyProof.Rows L2
/-! ### the text's names -/
structure FnI where
  ix : Nat
  ps : List Str
  kw : List (List Str × List Nat)
/-- of the module: its defs, its classes (place, fields), its except clauses' classes, the fields that are read, the built-in names that nothing hides, functions of modules, constants -/
structure Mi where
  fns : List (Str × FnI)
  cls : List (Str × Nat × List Str)
  exm : List (Str × (Nat → Bool))
  flds : List Str
  free : List Str
  bfun : List (Str × String)
  cst : List (Str × D)
  isx : List (Str × (Nat → Bool))
  hfn : List (Str × Nat × List Str)
  dck : List Str := []
  als : List Str := []
  fz : List Str := []
/-- the hidden name of the list within a deck -/
def gNm : Str := "#deck"
def isN (l : List Str) : Expr → Bool
  | .Name x _ => l.contains x
  | _ => false
/-- a def's callee -/
structure FnG (fa : Nat → Addr) (C : Calls) (lv : Nat) (ca : Nat → Addr) (P : Program) (w : World) (K : PySem.W.Frag) (mg : Str → Option Value) (base : Heap) (f : Nat) (fd : FuncData) (ps : List Str) : Prop where
  ok : FnOk P w K mg base (L2N.CX P w) (lv + 2) (fa f) fd ps (spC K fa ⟨ca, none⟩ C f)
  kp : PySem.W.keepIn K (.ref (fa f)) = true
  bd : Binds K fd ps []
/-- .. where an exception is handled -/
structure FnGH (fa : Nat → Addr) (C : Calls) (lv : Nat) (ca : Nat → Addr) (P : Program) (w : World) (K : PySem.W.Frag) (mg : Str → Option Value) (base : Heap) (f : Nat) (fd : FuncData) (ps : List Str) : Prop where
  ok : L2H.FnH P w K mg base (L2N.CX P w) (lv + 2) (fa f) fd ps (spC K fa ⟨ca, none⟩ C f)
  kp : PySem.W.keepIn K (.ref (fa f)) = true
  bd : Binds K fd ps []
structure ClG (lv : Nat) (ca : Nat → Addr) (P : Program) (w : World) (K : PySem.W.Frag) (mg : Str → Option Value) (base : Heap) (c : Nat) (fl : List Str) : Prop where
  T : OexC K (ca c)
  init : ∃ (fI : Addr) (fd : FuncData) (ps : List Str), PySem.W.findIn K (.ref (ca c)) "__init__" = some (some (.ref fI)) ∧ PySem.W.typeIn K (.ref fI) = some (.type "function") ∧ FnOk P w K mg base (L2N.CX P w) 1 fI fd ps (spI fl (ca c)) ∧ Binds K fd ps []
  nd : fl.Nodup
  ln : fl.length ≤ 900
structure GM (I : Mi) (fa : Nat → Addr) (C : Calls) (lv : Nat) (ca : Nat → Addr) (P : Program) (w : World) (K : PySem.W.Frag) (mg : Str → Option Value) (base : Heap) : Prop where
  wf : WfC C
  free : ∀ x, I.free.contains x = true → mg x = none
  fns : ∀ x f, I.fns.lookup x = some f → mg x = some (.ref (fa f.ix)) ∧ ∃ fd, FnG fa C lv ca P w K mg base f.ix fd f.ps ∧
    ∀ ks p, f.kw.lookup ks = some p → ∀ (s : Shared) (ws : List Value), K.In s.heap → ws.length = ks.length → BindsTo s fd ⟨[], ks.zip ws⟩ (f.ps.zip (permL p ws))
  all : ∀ f, f ≠ GI → ∃ fd ps, FnG fa C lv ca P w K mg base f fd ps
  cls : ∀ x c fl, I.cls.lookup x = some (c, fl) → mg x = some (.ref (ca c)) ∧ ClG lv ca P w K mg base c fl
  exm : ∀ x m, I.exm.lookup x = some m → ∃ A, mg x = some (.ref A) ∧ ∀ c, PySem.W.exmOne K (.ref (ca c)) (.ref A) = some (m c)
  xf : ∀ c, XfC K (ca c) ∧ ∀ f, I.flds.contains f = true → PySem.W.findIn K (.ref (ca c)) f = some none
  bfun : ∀ x id, I.bfun.lookup x = some id → mg x = some (.builtin id)
  cst : ∀ x d, I.cst.lookup x = some d → ∃ (u : Value) (v : V), mg x = some u ∧ RelV v u ∧ ∀ (fa : Nat → Addr) F H, Rp K fa F H v d
  isx : ∀ y m, I.isx.lookup y = some m → ∃ (cv : Value) (v : V), (mg y = some cv ∨ mg y = none ∧ bootBuiltins y = some cv) ∧ RelV v cv ∧ (∀ u, RelV v u → u = cv) ∧ ∀ c, L2.ExcC K (ca c) ∧ PySem.W.kitOne K (.ref (ca c)) cv = some (m c)
  hfn : ∀ x f ps, I.hfn.lookup x = some (f, ps) → mg x = some (.ref (fa f)) ∧ ∃ fd, FnGH fa C lv ca P w K mg base f fd ps
/-- a place in the text: its scope, the cells that may be stored, the slot of the exception that a suite holds -/
structure Pl where
  sc : Scope
  fn : Str → Bool
  hot : Option Nat
/-- a body's context: hot, in a suite, tells the slot of the exception -/
structure Gx (I : Mi) (N : List Str) (l : Pl) (fa : Nat → Addr) (C : Calls) (lv : Nat) (ca : Cc) (W : WX) (X : Cx) : Prop where
  m : GM I fa C lv ca.ca X.prog X.w X.K X.mg X.base
  mf : ∀ fa' : Nat → Addr, (∀ n, n ≠ GI → fa' n = fa n) → GM I fa' C lv ca.ca X.prog X.w X.K X.mg X.base
  hsc : X.env.scope = l.sc
  hfn : X.fn = l.fn
  hN : X.N = N
  nd : List.Nodup N
  un : X.A.units + 200 < cLine
  calm : l.hot = none → X.calm = true
  room : l.hot = none → Room (lv + 2) X.A
  ex : l.hot = none → ca.ex = none
  tk : L2N.Takes X W
  hx : ∀ i, l.hot = some i → L2H.HotC X ∧ L2H.RoomH (lv + 2) X.A ∧ (i < N.length → ∃ (a : Addr) (oe : Obj) (cls : Value) (d : Option Addr) (pn : List (Addr × Obj)) (X0 : Cx), X = X0.suite a ((a, oe) :: pn) ∧ ca.ex = some (i, a, cls, d) ∧ L2N.Zn cls d oe ∧ ∃ vs, oe.data = .fields vs)
/-- .. of a statement -/
structure Gs (I : Mi) (N : List Str) (l : Pl) (fa : Nat → Addr) (C : Calls) (lv : Nat) (ca : Cc) (W : WX) (X : Cx) : Prop where
  g : Gx I N l fa C lv ca W X
  own : (∀ i, l.hot = some i → N.length ≤ i) → PassesOwn (model X.prog X.w) X.A X.env X.xe
  stk : l.hot = none → X.stack = X.env :: X.outer ∧ X.env.frame = some X.env.locals
  kd : l.sc.kind = .function
section
variable {I : Mi} {N : List Str} {sc : Scope} {fn : Str → Bool} {l : Pl} {fa : Nat → Addr} {C : Calls} {lv : Nat} {ca : Cc} {W : WX} {X : Cx}
theorem takes_no {X : Cx} : L2N.Takes X WN := fun u s' x => by
  obtain ⟨a, B, sI, pins, σ, H, cls, d, e, I, nb, up, sky, na, os, ag, w⟩ := x
  exact w.elim
/-- into a comprehension -/
theorem Gx.blk (g : Gx I N ⟨sc, fn, none⟩ fa C lv ca W X) (scope : Scope) (s : Shared) (H : Hp) (Cd : Addr) (cl : List (Str × Addr)) (fp : List Addr) : Gx I N ⟨relS scope sc, fun x => scope.names.lookup x == some .cell, none⟩ fa C lv ca WN (X.blk s H scope (compEnvC scope cl Cd X.env) fp) :=
  ⟨g.m, g.mf, by show relS scope X.env.scope = _; rw [g.hsc], rfl, g.hN, g.nd, g.un, g.calm, g.room, g.ex, takes_no, fun i z => by cases z⟩
/-- into a try's body -/
theorem Gs.tr (g : Gs I N ⟨sc, fn, none⟩ fa C lv ca W X) {W' : WX} {pn : List (Addr × Obj)} {xe : Value → Shared → Prop} (tk : L2N.Takes (X.tr pn xe) W') (po : PassesOwn (model X.prog X.w) X.A X.env xe) : Gs I N ⟨sc, fn, none⟩ fa C lv ca W' (X.tr pn xe) :=
  ⟨⟨g.g.m, g.g.mf, g.g.hsc, g.g.hfn, g.g.hN, g.g.nd, g.g.un, g.g.calm, g.g.room, g.g.ex, tk, fun i z => by cases z⟩, fun _ => po, g.stk, g.kd⟩
/-- into an except suite -/
theorem Gs.suite (g : Gs I N ⟨sc, fn, none⟩ fa C lv ca W X) {i : Nat} (hi : i < N.length) {a : Addr} {oe : Obj} {cls : Value} {d : Option Addr} {pn : List (Addr × Obj)} (hz : L2N.Zn cls d oe) (hf : ∃ vs, oe.data = .fields vs) : Gs I N ⟨sc, fn, some i⟩ fa C lv (ca.in i a cls d) WN (X.suite a ((a, oe) :: pn)) := by
  have hot : L2H.HotC (X.suite a ((a, oe) :: pn)) := by
    obtain ⟨vs, hv⟩ := hf
    exact ⟨(a, oe), ⟨rfl, vs, hv, hz.2.2 vs hv⟩, List.mem_cons_self⟩
  have room : L2H.RoomH (lv + 2) (X.suite a ((a, oe) :: pn)).A := ⟨(g.g.room rfl).dp, (g.g.room rfl).un⟩
  exact ⟨⟨g.g.m, g.g.mf, g.g.hsc, g.g.hfn, g.g.hN, g.g.nd, g.g.un, (fun z => by cases z), (fun z => by cases z), (fun z => by cases z), takes_no, fun j z => by cases z; exact ⟨hot, room, fun _ => ⟨a, oe, cls, d, pn, X, rfl, rfl, hz, hf⟩⟩⟩, (fun z => absurd (z i rfl) (by omega)), (fun z => by cases z), g.kd⟩
/-! ### names -/
def ixOf : List Str → Str → Option Nat
  | [], _ => none
  | y :: r, x => if (y == x) = true then some 0 else (ixOf r x).map (· + 1)
theorem ixOf_ok : ∀ {N : List Str} {x : Str} {i : Nat}, ixOf N x = some i → N[i]? = some x
  | [], _, _, h => by cases h
  | y :: r, x, i, h => by
    unfold ixOf at h
    by_cases e : (y == x) = true
    · rw [if_pos e] at h
      cases h
      rw [eq_of_beq e]
      rfl
    · rw [if_neg e] at h
      cases e1 : ixOf r x with
      | none => rw [e1] at h; cases h
      | some j =>
        rw [e1] at h
        cases h
        have ih : r[j]? = some x := ixOf_ok e1
        simpa using ih
def okN (x : Str) : Bool := !(x == ("__debug__" : Str)) && (!(x == ("__classdict__" : Str)) && !(x == ("__name__" : Str)))
theorem okN_d {x : Str} (h : okN x = true) : (x == ("__debug__" : Str)) = false := by
  unfold okN at h
  cases e : (x == ("__debug__" : Str)) with
  | false => rfl
  | true => rw [e] at h; cases h
theorem okN_c {x : Str} (h : okN x = true) : (x == ("__classdict__" : Str)) = false := by
  unfold okN at h
  cases e : (x == ("__classdict__" : Str)) with
  | false => rfl
  | true => rw [e, Bool.not_true, Bool.false_and, Bool.and_false] at h; cases h
theorem okN_n {x : Str} (h : okN x = true) : x ≠ "__name__" := fun z => by
  unfold okN at h
  have e : (x == ("__name__" : Str)) = true := by rw [z]; exact beq_self_eq_true _
  rw [e, Bool.not_true, Bool.and_false, Bool.and_false] at h
  cases h
def kd (sc : Scope) (x : Str) : Option NameKind := sc.names.lookup x
def visB (sc : Scope) (x : Str) : Bool := match kd sc x with
  | some .local => true
  | some .cell => true
  | some .free => true
  | _ => false
def locB (sc : Scope) (x : Str) : Bool := match kd sc x with
  | some .local => true
  | some .cell => true
  | _ => false
def lclB (sc : Scope) (x : Str) : Bool := match kd sc x with
  | some .local => true
  | _ => false
def glB (sc : Scope) (x : Str) : Bool := match kd sc x with
  | some .globalImplicit => true
  | _ => false
theorem visB_ok {x : Str} (h : visB sc x = true) : Vis sc x := by
  unfold visB at h
  split at h
  · rename_i e; exact .inl e
  · rename_i e; exact .inr (.inl e)
  · rename_i e; exact .inr (.inr e)
  · cases h
theorem locB_ok {x : Str} (h : locB sc x = true) : Loc sc x := by
  unfold locB at h
  split at h
  · rename_i e; exact .inl e
  · rename_i e; exact .inr e
  · cases h
theorem lclB_ok {x : Str} (h : lclB sc x = true) : sc.names.lookup x = some .local := by
  unfold lclB at h
  split at h
  · rename_i e; exact e
  · cases h
theorem glB_ok {x : Str} (h : glB sc x = true) : sc.names.lookup x = some .globalImplicit := by
  unfold glB at h
  split at h
  · rename_i e; exact e
  · cases h
theorem Gx.gl (g : Gx I N l fa C lv ca W X) {x : Str} (h : glB l.sc x = true) : Gl X x := by
  show X.env.scope.names.lookup x = _
  rw [g.hsc]; exact glB_ok h
theorem Gx.ix (g : Gx I N l fa C lv ca W X) {x : Str} {i : Nat} (h : N[i]? = some x) : X.N[i]? = some x := by rw [g.hN]; exact h
theorem Gx.ndX (g : Gx I N l fa C lv ca W X) : X.N.Nodup := by rw [g.hN]; exact g.nd
theorem Gx.var (g : Gx I N l fa C lv ca W X) {x : Str} {i : Nat} {pos : Pos} (h : N[i]? = some x) (hv : visB l.sc x = true) (ok : okN x = true) : PE X (.Name x pos) (tVar i) :=
  pe_var (g.ix h) (by rw [g.hsc]; exact visB_ok hv) (okN_d ok) (okN_c ok)
/-! ### lists without a star -/
def nst : Expr → Bool
  | .Starred _ _ => false
  | _ => true
theorem star_cons {e : Expr} {es : List Expr} {env : PySem.Env} (h : nst e = true) : starEach (e :: es) env = (false, eval e env) :: starEach es env := by
  cases e <;> first | rfl | cases h
theorem star_plain {pos : Pos} {env : PySem.Env} : ∀ {es : List Expr}, es.all nst = true → (PySem.backTo pos (starEach es env)).any (·.1) = false
  | [], _ => rfl
  | e :: es, h => by
    obtain ⟨h1, h2⟩ := Bool.and_eq_true_iff.mp (show (nst e && es.all nst) = true from h)
    rw [star_cons h1]
    have ih : (PySem.backTo pos (starEach es env)).any (·.1) = false := star_plain h2
    unfold PySem.backTo at ih ⊢
    rw [List.map_cons, List.any_cons, ih]
    rfl
/-! ### tests -/
def tCmpB (f : Op2) (a b : Den) : TD := fun C ρ => (a C ρ).bind fun x ρ1 => (b C ρ1).bind fun y ρ2 => match f x.frz y.frz with
  | some (.d (.bl k)) => .ok k ρ2
  | _ => .stuck
/-- a op b op' c, as a test -/
def tChnB (f g : Op2) (a b c : Den) : TD := fun C ρ => (a C ρ).bind fun x ρ1 => (b C ρ1).bind fun y ρ2 => match f x.frz y.frz with
  | some (.d (.bl true)) => (c C ρ2).bind fun z ρ3 => (match g y.frz z.frz with
    | some (.d (.bl k)) => .ok k ρ3
    | _ => .stuck)
  | some (.d (.bl false)) => .ok false ρ2
  | _ => .stuck
theorem sim_tcmp {op : CmpOp} {a b : Expr} {da db : Den} {f : Op2} {r : R2} {pos : Pos} (ho : OpR X (compareOp op) r) (hs : OpS X.K fa f r) (hm : behindInMarks op b = false) (ha : SimE fa ca W C X a da) (hb : SimE fa ca W C X b db) :
    SimT fa ca W C X (.Compare a [op] [b] pos) (tCmpB f da db) := by
  refine pt_le (pt_cmpR ho ha hb hm) fun σ H Q h => ?_
  obtain ⟨G, F, ρ, S, h⟩ := h
  refine ⟨G, F, ρ, S, (RPost.bind (x := da C ρ) h).mono fun x ρ1 h1 v F1 H1 S1 E1 r1 => ?_⟩
  obtain ⟨F1, S1, E1', p1⟩ := S1.frz r1
  refine ⟨G, F1, ρ1, S1, ((RPost.bind (x := db C ρ1) h1).later (E1.trans E1')).mono fun y ρ2 h2 u F2 H2 S2 E2 r2 => ?_⟩
  obtain ⟨F2, S2, E2', p2⟩ := S2.frz r2
  cases e : f x.frz y.frz with
  | none => rw [e] at h2; exact h2.elim
  | some z =>
    rw [e] at h2
    refine hs _ _ _ e F2 H2 v u _ S2.trk (Rp.ext (E2.trans E2') _ _ p1) p2 fun v' H' sm n => ?_
    cases z with
    | fresh l => exact h2.elim
    | dkn l g => exact h2.elim
    | d z =>
      cases z with
      | bl k =>
        have n' : Rp X.K fa F2 H' v' (.bl k) := n
        cases n'
        exact ⟨k, rfl, h2 F2 H' (S2.same sm) ((((E1.trans E1').trans E2).trans E2').trans (S2.ext sm))⟩
      | _ => exact h2.elim
theorem sim_tchn {op op' : CmpOp} {a b c : Expr} {da db dc : Den} {f g : Op2} {r r' : R2} {pos : Pos} (ho : OpR X (compareOp op) r) (ho' : OpR X (compareOp op') r') (hs : OpS X.K fa f r) (hs' : OpS X.K fa g r') (hm : lastMarks [op, op'] [b, c] = false)
    (ha : SimE fa ca W C X a da) (hb : SimE fa ca W C X b db) (hc : SimE fa ca W C X c dc) : SimT fa ca W C X (.Compare a [op, op'] [b, c] pos) (tChnB f g da db dc) := by
  refine pt_le (pt_chain ho ho' ha hb hc hm) fun σ H Q h => ?_
  obtain ⟨G, F, ρ, S, h⟩ := h
  refine ⟨G, F, ρ, S, (RPost.bind (x := da C ρ) h).mono fun x ρ1 h1 v F1 H1 S1 E1 r1 => ?_⟩
  obtain ⟨F1, S1, E1', p1⟩ := S1.frz r1
  refine ⟨G, F1, ρ1, S1, ((RPost.bind (x := db C ρ1) h1).later (E1.trans E1')).mono fun y ρ2 h2 u F2 H2 S2 E2 r2 => ?_⟩
  obtain ⟨F2, S2, E2', p2⟩ := S2.frz r2
  cases e : f x.frz y.frz with
  | none => rw [e] at h2; exact h2.elim
  | some z =>
    rw [e] at h2
    refine hs _ _ _ e F2 H2 v u _ S2.trk (Rp.ext (E2.trans E2') _ _ p1) p2 fun v' H' sm n => ?_
    have E12 := ((E1.trans E1').trans E2).trans E2'
    cases z with
    | fresh l => exact h2.elim
    | dkn l g => exact h2.elim
    | d z =>
      cases z with
      | bl k =>
        have n' : Rp X.K fa F2 H' v' (.bl k) := n
        cases n'
        refine ⟨k, rfl, ?_⟩
        have S3 := S2.same sm
        have E3 := E12.trans (S2.ext sm)
        cases k with
        | false =>
          rw [if_neg Bool.false_ne_true]
          exact ⟨false, rfl, h2 F2 H' S3 E3⟩
        | true =>
          rw [if_pos rfl]
          refine ⟨G, F2, ρ2, S3, ((RPost.bind (x := dc C ρ2) h2).later E3).mono fun w ρ3 h3 t F3 H3 S4 E4 r3 => ?_⟩
          obtain ⟨F3, S4, E4', p3⟩ := S4.frz r3
          cases e3 : g y.frz w.frz with
          | none => rw [e3] at h3; exact h3.elim
          | some z3 =>
            rw [e3] at h3
            refine hs' _ _ _ e3 F3 H3 u t _ S4.trk (Rp.ext (((S2.ext sm).trans E4).trans E4') _ _ p2) p3 fun v3 H4 sm3 n3 => ?_
            cases z3 with
            | fresh l => exact h3.elim
            | dkn l g => exact h3.elim
            | d z3 =>
              cases z3 with
              | bl k3 =>
                have n3' : Rp X.K fa F3 H4 v3 (.bl k3) := n3
                cases n3'
                exact ⟨k3, rfl, h3 F3 H4 (S4.same sm3) (((E3.trans E4).trans E4').trans (S4.ext sm3))⟩
              | _ => exact h3.elim
      | _ => exact h2.elim
/-! ### e in x, x a name: the list is read, no more -/
def tInV (f : Op2) (a : Den) (i : Nat) : TD := fun C ρ => (a C ρ).bind fun x ρ1 => match RX.look ρ1 i with
  | some y => (match f x.frz y with
    | some (.d (.bl k)) => .ok k ρ1
    | _ => .stuck)
  | none => .stuck
/-- what such a test asks of its operator -/
def OpSR (K : PySem.W.Frag) (fa : Nat → Addr) (f : Op2) (r : R2) : Prop := ∀ (x y : D) (e : Ex), f x y = some e → ∀ (F : Addr → Prop) (H : Hp) (v u : V) (Q : VK), Rp K fa F H v x → RdR K fa F H u y → (∀ v' H', Same H H' → NewR K fa F H H' e v' → Q v' H') → r v u H Q
theorem sim_tin {op : CmpOp} {a b : Expr} {da : Den} {i : Nat} {f : Op2} {r : R2} {pos : Pos} (ho : OpR X (compareOp op) r) (hs : OpSR X.K fa f r) (hm : behindInMarks op b = false) (ha : SimE fa ca W C X a da) (hb : PE X b (tVar i)) :
    SimT fa ca W C X (.Compare a [op] [b] pos) (tInV f da i) := by
  refine pt_le (pt_cmpR ho ha hb hm) fun σ H Q h => ?_
  obtain ⟨G, F, ρ, S, h⟩ := h
  refine ⟨G, F, ρ, S, (RPost.bind (x := da C ρ) h).mono fun x ρ1 h1 v F1 H1 S1 E1 r1 => ?_⟩
  obtain ⟨F1, S1, E1', p1⟩ := S1.frz r1
  cases el : RX.look ρ1 i with
  | none => simp only [el] at h1; exact h1.elim
  | some y =>
    simp only [el] at h1
    obtain ⟨u, hu, ry⟩ := S1.look el
    cases e : f x.frz y with
    | none => simp only [e] at h1; exact h1.elim
    | some z =>
      simp only [e] at h1
      refine ⟨u, hu, hs _ _ _ e F1 H1 v u _ p1 ry fun v' H' sm n => ?_⟩
      cases z with
      | fresh l => exact h1.elim
      | dkn l g => exact h1.elim
      | d z =>
        cases z with
        | bl k =>
          have n' : Rp X.K fa F1 H' v' (.bl k) := n
          cases n'
          exact ⟨k, rfl, h1 F1 H' (S1.same sm) ((E1.trans E1').trans (S1.ext sm))⟩
        | _ => exact h1.elim
/-! ### isinstance -/
theorem dB_one {f : Bf} {d : Den} {ρ : Env} : dB f [d] C ρ = ((d C ρ).bind fun x ρ1 => match f [x.frz] with | some r => .ok r ρ1 | none => .stuck) := by
  show ((d C ρ).bind fun x ρ1 => R.ok [x.frz] ρ1).bind _ = _
  cases d C ρ <;> rfl
theorem sim_isi {e c : Expr} {d : Den} {t : Ty5} (he : SimE fa ca W C X e d) (pe : ∀ {t'}, PE X e t' → PE X c (tCB (rIsi X.K) (tCons t' (tCons (tC (.ty t.nm)) tNil)))) : SimE fa ca W C X c (dB (bIsi t) [d]) := by
  refine pe_le (pe he) fun σ H Q h => ?_
  obtain ⟨G, F, ρ, S, h⟩ := h
  rw [dB_one] at h
  refine ⟨G, F, ρ, S, (RPost.bind (x := d C ρ) h).mono fun x ρ1 h1 v F1 H1 S1 E1 r1 => ?_⟩
  obtain ⟨F1, S1, E1', p1⟩ := S1.frz r1
  cases e1 : bIsi t [x.frz] with
  | none => simp only [e1] at h1; exact h1.elim
  | some z =>
    simp only [e1] at h1
    exact bf_isi _ _ e1 F1 H1 [v] Q S1.trk (.cons (.rp p1) .nil) fun v' H' sm n => fin_new S1 (E1.trans E1') h1 sm n
theorem sim_isi1 {e c : Expr} {i : Nat} {t : Ty5} (he : PE X e (tVar i)) (pe : ∀ {t'}, PE X e t' → PE X c (tCB (rIsi X.K) (tCons t' (tCons (tC (.ty t.nm)) tNil)))) : SimE fa ca W C X c (dB1 (bIsi t) i) := by
  refine pe_le (pe he) fun σ H Q h => ?_
  obtain ⟨G, F, ρ, S, h⟩ := h
  unfold dB1 at h
  cases e : RX.look ρ i with
  | none => rw [e] at h; exact h.elim
  | some x =>
    rw [e] at h
    obtain ⟨v, hv, r⟩ := S.look e
    cases e1 : bIsi t [x] with
    | none => simp only [e1] at h; exact h.elim
    | some z =>
      simp only [e1] at h
      exact ⟨v, hv, bf_isi _ _ e1 F H [v] Q S.trk (.cons r .nil) fun v' H' sm n => fin_new S Ext.refl h sm n⟩
/-! ### two names from two values -/
theorem par_sw {x y : Str} {a b : Expr} {px py pt pt2 : Pos} {kt k2 : Nat} {env : PySem.Env} (hk : env.scope.kind = .function) (hx : env.scope.names.lookup x = some .local) (hy : env.scope.names.lookup y = some .local) (hl : (py.line == px.line) = true) (hxy : (x == y) = false)
    (na : nst a = true) (nb : nst b = true) (h1 : (foldedForSure 8 a && foldedForSure 8 b) = false) (h2 : (constantsAlone 8 a && constantsAlone 8 b) = false) :
    swappedStores [.Tuple [.Name x px, .Name y py] kt pt] (.Tuple [a, b] k2 pt2) env = pure (some [x, y]) := by
  have kx : env.kindOf x = some .local := hx
  have ky : env.kindOf y = some .local := hy
  have hb : env.blockKind = .function := by unfold Env.blockKind; rw [hk]; rfl
  have hs : ([a, b].any fun | .Starred .. => true | _ => false) = false := by
    have f : ∀ {e : Expr}, nst e = true → (match e with | .Starred .. => true | _ => false) = false := fun {e} h => by cases e <;> first | rfl | cases h
    rw [List.any_cons, List.any_cons, List.any_nil, f na, f nb]
    rfl
  have hall : [a, b].all (foldedForSure 8) = false := by rw [List.all_cons, List.all_cons, List.all_nil, Bool.and_true]; exact h1
  have hall2 : [a, b].all (constantsAlone 8) = false := by rw [List.all_cons, List.all_cons, List.all_nil, Bool.and_true]; exact h2
  have hyx : (y == x) = false := by
    cases z : y == x with
    | false => rfl
    | true => rw [eq_of_beq z] at hxy; simp at hxy
  have hl' : py.line = px.line := eq_of_beq hl
  unfold swappedStores
  simp [hb, hall, hall2, kx, ky, Expr.pos, hl']
  split
  · cases na
  · split
    · cases nb
    · simp [List.eraseDups, List.eraseDupsBy, List.eraseDupsBy.loop, hxy, hyx]
theorem par_sw3 {x y z : Str} {a b c : Expr} {px py pz pt pt2 : Pos} {kt k2 : Nat} {env : PySem.Env} (hk : env.scope.kind = .function) (hx : env.scope.names.lookup x = some .local) (hy : env.scope.names.lookup y = some .local) (hz : env.scope.names.lookup z = some .local) (hl : (py.line == px.line) = true) (hm : (pz.line == px.line) = true) (hxy : (x == y) = false) (hxz : (x == z) = false) (hyz : (y == z) = false)
    (na : nst a = true) (nb : nst b = true) (nc : nst c = true) (h1 : (foldedForSure 8 a && foldedForSure 8 b && foldedForSure 8 c) = false) (h2 : (constantsAlone 8 a && constantsAlone 8 b && constantsAlone 8 c) = false) :
    swappedStores [.Tuple [.Name x px, .Name y py, .Name z pz] kt pt] (.Tuple [a, b, c] k2 pt2) env = pure (some [x, y, z]) := by
  have kx : env.kindOf x = some .local := hx
  have ky : env.kindOf y = some .local := hy
  have kz : env.kindOf z = some .local := hz
  have hb : env.blockKind = .function := by unfold Env.blockKind; rw [hk]; rfl
  have hall : [a, b, c].all (foldedForSure 8) = false := by rw [List.all_cons, List.all_cons, List.all_cons, List.all_nil, Bool.and_true, ← Bool.and_assoc]; exact h1
  have hall2 : [a, b, c].all (constantsAlone 8) = false := by rw [List.all_cons, List.all_cons, List.all_cons, List.all_nil, Bool.and_true, ← Bool.and_assoc]; exact h2
  have cm : ∀ {u v : Str}, (u == v) = false → (v == u) = false := fun {u v} h => by
    cases z : v == u with
    | false => rfl
    | true => rw [eq_of_beq z] at h; simp at h
  have hyx := cm hxy
  have hzx := cm hxz
  have hzy := cm hyz
  have hl' : py.line = px.line := eq_of_beq hl
  have hm' : pz.line = px.line := eq_of_beq hm
  unfold swappedStores
  simp [hb, hall, hall2, kx, ky, kz, Expr.pos, hl', hm']
  split
  · cases na
  · split
    · cases nb
    · split
      · cases nc
      · simp [List.eraseDups, List.eraseDupsBy, List.eraseDupsBy.loop, hxy, hyx, hxz, hzx, hyz, hzy]
end
end RX
set_option Elab.async false
set_option linter.all false
set_option maxRecDepth 100000
set_option maxHeartbeats 4000000
/-! RXn: a text's expressions turned into the evaluator's, with the proof. -/
namespace RX
open PySem PySem.Spec PyProof.Rows L2
section
variable (I : Mi) (N : List Str) (l : Pl)
def CE (e : Expr) (d : Den) : Prop := ∀ {fa : Nat → Addr} {C : Calls} {lv : Nat} {ca : Cc} {W : WX} {X : Cx}, Gx I N l fa C lv ca W X → SimE fa ca W C X e d
def CT (e : Expr) (d : TD) : Prop := ∀ {fa : Nat → Addr} {C : Calls} {lv : Nat} {ca : Cc} {W : WX} {X : Cx}, Gx I N l fa C lv ca W X → SimT fa ca W C X e d
def CW (e : Expr) (d : TD) : Prop := ∀ {fa : Nat → Addr} {C : Calls} {lv : Nat} {ca : Cc} {W : WX} {X : Cx}, Gx I N l fa C lv ca W X → SimW fa ca W C X e d
def CA (es : List Expr) (d : List Den) : Prop := ∀ {fa : Nat → Addr} {C : Calls} {lv : Nat} {ca : Cc} {W : WX} {X : Cx}, Gx I N l fa C lv ca W X → SimA fa ca W C X es d
def CV (es : List Expr) (d : List AD) : Prop := ∀ {fa : Nat → Addr} {C : Calls} {lv : Nat} {ca : Cc} {W : WX} {X : Cx}, Gx I N l fa C lv ca W X → SimV fa ca W C X es d
def CI (tg e : Expr) (d : ID) : Prop := ∀ {fa : Nat → Addr} {C : Calls} {lv : Nat} {ca : Cc} {W : WX} {X : Cx}, Gx I N l fa C lv ca W X → SimI fa ca W C X tg e d
def CP (e : Option Expr) (d : Option Den) : Prop := ∀ {fa : Nat → Addr} {C : Calls} {lv : Nat} {ca : Cc} {W : WX} {X : Cx}, Gx I N l fa C lv ca W X → SimP fa ca W C X e d
def CN (e : Expr) (i : Nat) : Prop := ∀ {fa : Nat → Addr} {C : Calls} {lv : Nat} {ca : Cc} {W : WX} {X : Cx}, Gx I N l fa C lv ca W X → PE X e (tVar i)
abbrev OE (e : Expr) := Option {d : Den // CE I N l e d}
abbrev OT (e : Expr) := Option {d : TD // CT I N l e d}
abbrev OI (tg e : Expr) := Option {d : ID // CI I N l tg e d}
abbrev OA (es : List Expr) := Option {d : List Den // CA I N l es d ∧ es.all nst = true ∧ d.length = es.length}
abbrev OV (es : List Expr) := Option {d : List AD // CV I N l es d ∧ es.all nst = true}
end
/-- the four compilers, one level of depth below -/
structure Cmp (I : Mi) (N : List Str) where
  E : ∀ l e, OE I N l e
  T : ∀ l e, OT I N l e
section
variable {I : Mi} {N : List Str} {l : Pl}
/-! ### names, constants -/
def cVar (e : Expr) : Option {i : Nat // CN I N l e i} := match e with
  | .Name x pos => match h : ixOf N x with
    | some i => if h2 : visB l.sc x = true then if h3 : okN x = true then some ⟨i, fun g => g.var (ixOf_ok h) h2 h3⟩ else none else none
    | none => none
  | _ => none
def cCon (v : Const) (k : Nat) (pos : Pos) : OE I N l (.Constant v k pos) := match v with
  | .int i => some ⟨dC (.int i), fun g => sim_c pe_int fun _ _ => .int i⟩
  | .bool b => some ⟨dC (.bl b), fun g => sim_c pe_bl fun _ _ => .bl b⟩
  | .none => some ⟨dC .non, fun g => sim_c pe_non fun _ _ => .non⟩
  | .str x => some ⟨dC (.str x), fun g => sim_c pe_str fun _ _ => .str x⟩
  | _ => none
def cGlo (x : Str) (pos : Pos) : OE I N l (.Name x pos) :=
  if h : glB l.sc x = true then if h3 : okN x = true then match e : I.fns.lookup x with
    | some f => some ⟨dC (.fn f.ix), fun {fa} {C lv ca W X} g => sim_c (v := .ref (fa f.ix)) (pe_glob (g.gl h) (g.m.fns x f e).1 rfl (okN_d h3)) fun _ _ => .fn _⟩
    | none => match e : I.cst.lookup x with
      | some d => some ⟨dC d, fun {fa} {C lv ca W X} g => by
          obtain ⟨u, v, h1, h2, h4⟩ := g.m.cst x d e
          exact sim_c (pe_glob (g.gl h) h1 h2 (okN_d h3)) (h4 _)⟩
      | none => none
  else none else none
def cName (x : Str) (pos : Pos) : OE I N l (.Name x pos) := match (cVar (.Name x pos) : Option {i : Nat // CN I N l (.Name x pos) i}) with
  | some i => some ⟨dVar i.1, fun g => sim_var (i.2 g)⟩
  | none => cGlo x pos
/-! ### lists of expressions -/
def cAll (E : ∀ e, OE I N l e) : ∀ es, OA I N l es
  | [] => some ⟨[], fun g => sim_nil, rfl, rfl⟩
  | e :: es => match E e, cAll E es with
    | some d, some ds => if h : nst e = true then some ⟨d.1 :: ds.1, fun g => sim_cons (d.2 g) (ds.2.1 g) (star_cons h), by rw [List.all_cons, h, ds.2.2.1]; rfl, by rw [List.length_cons, List.length_cons, ds.2.2.2]⟩ else none
    | _, _ => none
def cArg (E : ∀ e, OE I N l e) : ∀ es, OV I N l es
  | [] => some ⟨[], fun g => sim_vnil, rfl⟩
  | e :: es => match cArg E es with
    | some ds => if h : nst e = true then match (cVar e : Option {i : Nat // CN I N l e i}) with
      | some i => some ⟨.v i.1 :: ds.1, fun g => sim_vv (i.2 g) (ds.2.1 g) (star_cons h), by rw [List.all_cons, h, ds.2.2]; rfl⟩
      | none => match E e with
        | some d => some ⟨.e d.1 :: ds.1, fun g => sim_ve (d.2 g) (ds.2.1 g) (star_cons h), by rw [List.all_cons, h, ds.2.2]; rfl⟩
        | none => none
      else none
    | none => none
/-- arguments as values: a name's own list is known to others from then on -/
def cArgE (E : ∀ e, OE I N l e) : ∀ es, OV I N l es
  | [] => some ⟨[], fun g => sim_vnil, rfl⟩
  | e :: es => match cArgE E es with
    | some ds => if h : nst e = true then match E e with
        | some d => some ⟨.e d.1 :: ds.1, fun g => sim_ve (d.2 g) (ds.2.1 g) (star_cons h), by rw [List.all_cons, h, ds.2.2]; rfl⟩
        | none => none
      else none
    | none => none
/-! ### operators -/
abbrev BopC (op : Operator) := {f : Op2 // ∀ (X : Cx) (fa : Nat → Addr), ∃ r, OpR X (binaryOp op) r ∧ OpS X.K fa f r}
def bop : ∀ op, Option (BopC op)
  | .Add => some ⟨fAdd, fun X fa => ⟨_, op_addZ, s_add⟩⟩
  | .Sub => some ⟨fSub, fun X fa => ⟨_, op_sub, s_sub⟩⟩
  | .Mult => some ⟨fMul, fun X fa => ⟨_, op_mulZZ, s_mul⟩⟩
  | .FloorDiv => some ⟨fDiv, fun X fa => ⟨_, op_fdivZ, s_div⟩⟩
  | .Mod => some ⟨fMod, fun X fa => ⟨_, op_modN, s_mod⟩⟩
  | .Pow => some ⟨fPow, fun X fa => ⟨_, op_pow, s_pow⟩⟩
  | .LShift => some ⟨fShl, fun X fa => ⟨_, op_shl, s_shl⟩⟩
  | .RShift => some ⟨fShr, fun X fa => ⟨_, op_shr, s_shr⟩⟩
  | .BitAnd => some ⟨fAnd, fun X fa => ⟨_, op_and, s_and⟩⟩
  | .BitOr => some ⟨fOr, fun X fa => ⟨_, L2.op_or, s_or⟩⟩
  | _ => none
abbrev CopC (op : CmpOp) := {f : Op2 // ∀ (X : Cx) (fa : Nat → Addr), X.A.units + 200 < cLine → ∃ r, OpR X (compareOp op) r ∧ OpS X.K fa f r}
def cop : ∀ op, Option (CopC op)
  | .Eq => some ⟨fEq, fun X fa h => ⟨_, op_eqP (by omega), s_eq⟩⟩
  | .NotEq => some ⟨fNe, fun X fa h => ⟨_, op_neP (by omega), s_ne⟩⟩
  | .Lt => some ⟨fLt, fun X fa h => ⟨_, op_lt, s_lt⟩⟩
  | .LtE => some ⟨fLe, fun X fa h => ⟨_, op_le, s_le⟩⟩
  | .Gt => some ⟨fGt, fun X fa h => ⟨_, op_gt, s_gt⟩⟩
  | .GtE => some ⟨fGe, fun X fa h => ⟨_, op_ge, s_ge⟩⟩
  | .Is => some ⟨fIs, fun X fa h => ⟨_, op_isZ, s_is⟩⟩
  | .IsNot => some ⟨fIsNot, fun X fa h => ⟨_, op_isNotZ, s_isNot⟩⟩
  | .In => some ⟨fIn, fun X fa h => ⟨_, op_inP (by omega), s_in⟩⟩
  | .NotIn => some ⟨fNotIn, fun X fa h => ⟨_, op_ninP (by omega), s_notIn⟩⟩
abbrev CopV (op : CmpOp) := {f : Op2 // ∀ (X : Cx) (fa : Nat → Addr), X.A.units + 200 < cLine → ∃ r, OpR X (compareOp op) r ∧ OpSR X.K fa f r}
def copV : ∀ op, Option (CopV op)
  | .In => some ⟨fIn, fun X fa h => ⟨_, op_inP (by omega), fun x y e hf F H v u Q rx ry q => s_inR hf rx ry q⟩⟩
  | .NotIn => some ⟨fNotIn, fun X fa h => ⟨_, op_ninP (by omega), fun x y e hf F H v u Q rx ry q => s_notInR hf rx ry q⟩⟩
  | _ => none
/-- no set display -/
def nset : Expr → Bool
  | .Set _ _ _ => false
  | _ => true
theorem nset_ok {e : Expr} {op : CmpOp} (h : nset e = true) : behindInMarks op e = false := by
  cases e <;> first | rfl | cases h
theorem nset_last {op op' : CmpOp} {b c : Expr} (h : nset c = true) : lastMarks [op, op'] [b, c] = false := nset_ok h
def cBin (E : ∀ e, OE I N l e) (a : Expr) (op : Operator) (b : Expr) (pos : Pos) : OE I N l (.BinOp a op b pos) := match E a, E b, bop op with
  | some da, some db, some f => some ⟨dOp f.1 da.1 db.1, fun {fa} {C lv ca W X} g => by
      obtain ⟨r, h1, h2⟩ := f.2 X fa
      exact sim_op h1 h2 (da.2 g) (db.2 g)⟩
  | _, _, _ => none
def cUn (E : ∀ e, OE I N l e) (op : UnaryOp) (a : Expr) (pos : Pos) : OE I N l (.UnaryOp op a pos) := match op with
  | .Not => match E a with
    | some d => some ⟨dNot d.1, fun g => sim_not (d.2 g)⟩
    | none => none
  | .USub => match E a with
    | some d => some ⟨dUn fNeg d.1, fun g => sim_un un_neg s_neg (d.2 g) fun h => pe_un un_neg h⟩
    | none => none
  | _ => none
def cCmp (E : ∀ e, OE I N l e) (a : Expr) (ops : List CmpOp) (bs : List Expr) (pos : Pos) : OE I N l (.Compare a ops bs pos) := match ops, bs with
  | [op], [b] => match E a, E b, cop op with
    | some da, some db, some f => if hb : nset b = true then some ⟨dOp f.1 da.1 db.1, fun {fa} {C lv ca W X} g => by
        obtain ⟨r, h1, h2⟩ := f.2 X fa g.un
        exact sim_cmp h1 h2 (nset_ok hb) (da.2 g) (db.2 g)⟩ else none
    | _, _, _ => none
  | [op, op'], [b, c] => match E a, E b, E c, cop op, cop op' with
    | some da, some db, some dc, some f, some f' => if hb : nset c = true then some ⟨dChain f.1 f'.1 da.1 db.1 dc.1, fun {fa} {C lv ca W X} g => by
        obtain ⟨r, h1, h2⟩ := f.2 X fa g.un
        obtain ⟨r', h1', h2'⟩ := f'.2 X fa g.un
        exact sim_chain h1 h1' h2 h2' (fun ha hb' hc => pe_chain h1 h1' ha hb' hc (nset_last hb)) (da.2 g) (db.2 g) (dc.2 g)⟩ else none
    | _, _, _, _, _ => none
  | _, _ => none
def cTCm1 (E : ∀ e, OE I N l e) (a : Expr) (op : CmpOp) (b : Expr) (pos : Pos) : OT I N l (.Compare a [op] [b] pos) := match E a, E b, cop op with
    | some da, some db, some f => if hb : nset b = true then some ⟨tCmpB f.1 da.1 db.1, fun {fa} {C lv ca W X} g => by
        obtain ⟨r, h1, h2⟩ := f.2 X fa g.un
        exact sim_tcmp h1 h2 (nset_ok hb) (da.2 g) (db.2 g)⟩ else none
    | _, _, _ => none
def cTCmp (E : ∀ e, OE I N l e) (a : Expr) (ops : List CmpOp) (bs : List Expr) (pos : Pos) : OT I N l (.Compare a ops bs pos) := match ops, bs with
  | [op], [b] => match E a, (cVar b : Option {i : Nat // CN I N l b i}), copV op with
    | some da, some i, some f => if hb : nset b = true then some ⟨tInV f.1 da.1 i.1, fun {fa} {C lv ca W X} g => by
        obtain ⟨r, h1, h2⟩ := f.2 X fa g.un
        exact sim_tin h1 h2 (nset_ok hb) (da.2 g) (i.2 g)⟩ else none
    | _, _, _ => cTCm1 E a op b pos
  | [op, op'], [b, c] => match E a, E b, E c, cop op, cop op' with
    | some da, some db, some dc, some f, some f' => if hb : nset c = true then some ⟨tChnB f.1 f'.1 da.1 db.1 dc.1, fun {fa} {C lv ca W X} g => by
        obtain ⟨r, h1, h2⟩ := f.2 X fa g.un
        obtain ⟨r', h1', h2'⟩ := f'.2 X fa g.un
        exact sim_tchn h1 h1' h2 h2' (nset_last hb) (da.2 g) (db.2 g) (dc.2 g)⟩ else none
    | _, _, _, _, _ => none
  | _, _ => none
def cAnd (E : ∀ e, OE I N l e) (pos : Pos) : ∀ es, OE I N l (.BoolOp .And es pos)
  | [] => none
  | [a] => match E a with
    | some d => some ⟨d.1, fun g => pe_one (d.2 g)⟩
    | none => none
  | a :: b :: r => match E a, cAnd E pos (b :: r) with
    | some d, some ds => some ⟨dAnd d.1 ds.1, fun g => sim_and (d.2 g) (ds.2 g)⟩
    | _, _ => none
def cOr (E : ∀ e, OE I N l e) (pos : Pos) : ∀ es, OE I N l (.BoolOp .Or es pos)
  | [] => none
  | [a] => match E a with
    | some d => some ⟨d.1, fun g => pe_one (d.2 g)⟩
    | none => none
  | a :: b :: r => match E a, cOr E pos (b :: r) with
    | some d, some ds => some ⟨dOr d.1 ds.1, fun g => sim_or (d.2 g) (ds.2 g)⟩
    | _, _ => none
def cTAnd (T : ∀ e, OT I N l e) (pos : Pos) : ∀ es, Option {d : TD // CW I N l (.BoolOp .And es pos) d}
  | [] => none
  | [a] => match T a with
    | some d => some ⟨d.1, fun g => pw_and1 (d.2 g)⟩
    | none => none
  | a :: b :: r => match T a, cTAnd T pos (b :: r) with
    | some d, some ds => some ⟨tAnd d.1 ds.1, fun g => sim_tAnd (d.2 g) (ds.2 g)⟩
    | _, _ => none
def cTOr (T : ∀ e, OT I N l e) (pos : Pos) : ∀ es, Option {d : TD // CW I N l (.BoolOp .Or es pos) d}
  | [] => none
  | [a] => match T a with
    | some d => some ⟨d.1, fun g => pw_or1 (d.2 g)⟩
    | none => none
  | a :: b :: r => match T a, cTOr T pos (b :: r) with
    | some d, some ds => some ⟨tOr d.1 ds.1, fun g => sim_tOr (d.2 g) (ds.2 g)⟩
    | _, _ => none
/-! ### subscripts -/
def nslice : Expr → Bool
  | .Slice _ _ _ _ => false
  | _ => true
theorem nslice_ok {e : Expr} (h : nslice e = true) : PlainIx e := by
  intro o i
  cases e <;> first | rfl | cases h
def cPart (E : ∀ e, OE I N l e) : ∀ e, Option {d : Option Den // CP I N l e d}
  | none => some ⟨none, fun g => sim_pnone⟩
  | some e => match E e with
    | some d => some ⟨some d.1, fun g => sim_psome (d.2 g)⟩
    | none => none
def cIx (E : ∀ e, OE I N l e) (a b : Expr) (pos : Pos) : OE I N l (.Subscript a b pos) :=
  if h : nslice b = true then match E b with
    | some db => match (cVar a : Option {i : Nat // CN I N l a i}) with
      | some i => match (if isN I.als a then ixOf N gNm else none) with
        | some gi => some ⟨dIxA i.1 gi db.1, fun g => sim_ixA (nslice_ok h) (i.2 g) (db.2 g)⟩
        | none => some ⟨dIxV i.1 db.1, fun g => sim_ixV (nslice_ok h) (i.2 g) (db.2 g)⟩
      | none => match E a with
        | some da => some ⟨dOp fIx da.1 db.1, fun g => sim_ix (nslice_ok h) (da.2 g) (db.2 g)⟩
        | none => none
    | none => none
  else none
def cSub (E : ∀ e, OE I N l e) (a b : Expr) (pos : Pos) : OE I N l (.Subscript a b pos) := match b with
  | .Slice lo hi none p2 => match cPart E lo, cPart E hi with
    | some dl, some dh => match (cVar a : Option {i : Nat // CN I N l a i}) with
      | some i => some ⟨dSlV i.1 dl.1 dh.1, fun g => sim_slV (i.2 g) (dl.2 g) (dh.2 g) fun h1 h2 h3 => pe_slice sl_Z h1 h2 h3⟩
      | none => match E a with
        | some da => some ⟨dSl da.1 dl.1 dh.1, fun g => sim_sl (da.2 g) (dl.2 g) (dh.2 g) fun h1 h2 h3 => pe_slice sl_Z h1 h2 h3⟩
        | none => none
    | _, _ => none
  | b => cIx E a b pos
/-! ### tests -/
def cTru (E : ∀ e, OE I N l e) (e : Expr) (he : ∀ (env : PySem.Env) (whole : Sem Value), isTrue e env whole = (do let v ← whole; standAt e.pos; holding [v] (truthy v))) : OT I N l e := match (if isN I.als e then ixOf N gNm else none), (cVar e : Option {i : Nat // CN I N l e i}) with
  | some gi, some i => some ⟨tAl i.1 gi, fun {fa} {C lv ca W X} g => sim_tAl (i.2 g) fun h => pt_truth h (he X.env)⟩
  | none, some i => some ⟨tTv i.1, fun {fa} {C lv ca W X} g => sim_tTv (i.2 g) fun h => pt_truth h (he X.env)⟩
  | _, _ => match E e with
  | some d => some ⟨tE d.1, fun {fa} {C lv ca W X} g => sim_tE (d.2 g) fun h => pt_truth h (he X.env)⟩
  | none => none
def cTest (E : ∀ e, OE I N l e) (T : ∀ e, OT I N l e) (e : Expr) : OT I N l e := match e with
  | .BoolOp .And es pos => match cTAnd T pos es with
    | some d => some ⟨d.1, fun g => (d.2 g).pt⟩
    | none => none
  | .BoolOp .Or es pos => match cTOr T pos es with
    | some d => some ⟨d.1, fun g => (d.2 g).pt⟩
    | none => none
  | .UnaryOp .Not a pos => match T a with
    | some d => some ⟨tNot d.1, fun g => sim_tNot (d.2 g)⟩
    | none => none
  | .Compare a ops bs pos => cTCmp E a ops bs pos
  | .Name x p => cTru E (.Name x p) fun _ _ => rfl
  | .Call f as kws p => cTru E (.Call f as kws p) fun _ _ => rfl
  | .Constant v k p => cTru E (.Constant v k p) fun _ _ => rfl
  | .Subscript a b p => cTru E (.Subscript a b p) fun _ _ => rfl
  | .BinOp a op b p => cTru E (.BinOp a op b p) fun _ _ => rfl
  | _ => none
end
end RX
set_option Elab.async false
set_option linter.all false
set_option maxRecDepth 100000
set_option maxHeartbeats 4000000
/-! RXo: calls, walks, comprehensions. -/
namespace RX
open PySem PySem.Spec PyProof.Rows L2
section
variable {K : PySem.W.Frag} {fa : Nat → Addr} {ca : Cc} {W : WX} {C : Calls} {X : Cx} {G : Gh} {F F' : Addr → Prop} {H H' : Hp} {σ : L2.St} {ρ ρ' : Env}
/-! ### keywords -/
abbrev SimK (fa : Nat → Addr) (ca : Cc) (W : WX) (C : Calls) (X : Cx) (kws : List Keyword) (as : List AD) : Prop := PK X kws (tSemV X.K fa ca W as C)
theorem pk_le {X : Cx} {es : List Keyword} {t t' : TA} (h : PK X es t) (i : ∀ σ H Q, t' σ H Q → t σ H Q) : PK X es t' := ⟨fun pos pins s σ H Q I q => h.run pos pins s σ H Q I (i _ _ _ q)⟩
theorem sim_knil : SimK fa ca W C X [] [] := by
  refine pk_le pk_nil fun σ H Q h => ?_
  obtain ⟨G, F, ρ, S, h⟩ := h
  exact h [] F H S Ext.refl .nil
theorem sim_ke {nm : Option Str} {kpos : Pos} {e : Expr} {es : List Keyword} {d : Den} {as : List AD} (he : SimE fa ca W C X e d) (hr : SimK fa ca W C X es as) : SimK fa ca W C X (⟨nm, e, kpos⟩ :: es) (.e d :: as) := by
  refine pk_le (pk_cons he hr) fun σ H Q h => ?_
  obtain ⟨G, F, ρ, S, h⟩ := h
  refine ⟨G, F, ρ, S, (RPost.bind (x := d C ρ) h).mono fun x ρ1 h1 v F1 H1 S1 E1 r1 => ?_⟩
  obtain ⟨F1, S1, E1', p1⟩ := S1.frz r1
  refine ⟨G, F1, ρ1, S1, (h1.bind.later (E1.trans E1')).mono fun xs ρ2 h2 vs F2 H2 S2 E2 r2 => ?_⟩
  exact h2 _ F2 H2 S2 ((E1.trans E1').trans E2) (.d (Rp.ext E2 _ _ p1) r2)
theorem sim_kv {nm : Option Str} {kpos : Pos} {e : Expr} {es : List Keyword} {i : Nat} {as : List AD} (he : PE X e (tVar i)) (hr : SimK fa ca W C X es as) : SimK fa ca W C X (⟨nm, e, kpos⟩ :: es) (.v i :: as) := by
  have hv : SimE fa ca W C X e (dVar i) := sim_var he
  refine ⟨fun pos pins s σ H Q I h => ?_⟩
  obtain ⟨G, F, ρ, S, h⟩ := h
  by_cases e0 : isOwn ρ[i]? = true
  · refine (pk_cons he hr).run pos pins s σ H Q I ?_
    have h' : RPost X.K fa ca G F H σ W ((argsE as C ρ).bind fun xs ρ2 => .ok (.own i :: xs) ρ2) fun xs ρ' => ∀ vs F' H', SR X.K fa ca G F' ρ' σ H' → Ext F H F' H' → AvL X.K fa F' H' σ vs xs → Q vs H' := by
      have h2 : RPost X.K fa ca G F H σ W (if isOwn ρ[i]? = true then (argsE as C ρ).bind fun xs ρ2 => .ok (.own i :: xs) ρ2 else (dVar i C ρ).bind fun x ρ1 => (argsE as C ρ1).bind fun xs ρ2 => .ok (.d x.frz :: xs) ρ2) _ := h
      rw [if_pos e0] at h2
      exact h2
    obtain ⟨t, l, mk, et, M⟩ := isOwn_mine e0
    obtain ⟨a, xs, ea, _⟩ := S.mine M et
    exact ⟨_, ea, G, F, ρ, S, h'.bind.mono fun xs ρ2 h2 vs F2 H2 S2 E2 r2 => h2 _ F2 H2 S2 E2 (.own ea r2)⟩
  · refine (pk_cons hv hr).run pos pins s σ H Q I ?_
    have h' : RPost X.K fa ca G F H σ W ((dVar i C ρ).bind fun x ρ1 => (argsE as C ρ1).bind fun xs ρ2 => .ok (.d x.frz :: xs) ρ2) fun xs ρ' => ∀ vs F' H', SR X.K fa ca G F' ρ' σ H' → Ext F H F' H' → AvL X.K fa F' H' σ vs xs → Q vs H' := by
      have h2 : RPost X.K fa ca G F H σ W (if isOwn ρ[i]? = true then (argsE as C ρ).bind fun xs ρ2 => .ok (.own i :: xs) ρ2 else (dVar i C ρ).bind fun x ρ1 => (argsE as C ρ1).bind fun xs ρ2 => .ok (.d x.frz :: xs) ρ2) _ := h
      rw [if_neg e0] at h2
      exact h2
    refine ⟨G, F, ρ, S, h'.bind.mono fun x ρ1 h1 v F1 H1 S1 E1 r1 => ?_⟩
    obtain ⟨F1, S1, E1', p1⟩ := S1.frz r1
    refine ⟨G, F1, ρ1, S1, (h1.bind.later (E1.trans E1')).mono fun xs ρ2 h2 vs F2 H2 S2 E2 r2 => ?_⟩
    exact h2 _ F2 H2 S2 ((E1.trans E1').trans E2) (.d (Rp.ext E2 _ _ p1) r2)
def kwNm : List Keyword → Option (List Str)
  | [] => some []
  | ⟨some n, _, _⟩ :: r => (kwNm r).map fun l => n :: l
  | ⟨none, _, _⟩ :: _ => none
theorem kw_ok {pos : Pos} {env : PySem.Env} : ∀ {kws : List Keyword} {ks : List Str}, kwNm kws = some ks →
    (backToKw pos (keywordEach kws env)).all (·.1.isSome) = true ∧ (backToKw pos (keywordEach kws env)).filterMap (·.1) = ks ∧ (backToKw pos (keywordEach kws env)).any (·.1.isNone) = false
  | [], ks, h => by cases h; exact ⟨rfl, rfl, rfl⟩
  | ⟨none, _, _⟩ :: _, ks, h => by cases h
  | ⟨some n, e, p⟩ :: r, ks, h => by
    have h' : (kwNm r).map (fun l => n :: l) = some ks := h
    cases e1 : kwNm r with
    | none => rw [e1] at h'; cases h'
    | some l =>
      rw [e1] at h'
      cases h'
      obtain ⟨h1, h2, h3⟩ := kw_ok (pos := pos) (env := env) e1
      unfold backToKw at h1 h2 h3 ⊢
      show (List.map _ ((some n, eval e env) :: keywordEach r env)).all _ = true ∧ _ ∧ _
      refine ⟨?_, ?_, ?_⟩
      · rw [List.map_cons, List.all_cons, h1]; rfl
      · show List.filterMap _ (List.map _ ((some n, eval e env) :: keywordEach r env)) = n :: l
        rw [List.map_cons, List.filterMap_cons]
        show n :: _ = n :: l
        rw [h2]
      · show List.any (List.map _ ((some n, eval e env) :: keywordEach r env)) _ = false
        rw [List.map_cons, List.any_cons, h3]; rfl
theorem vals_perm {vs : List V} {us : List Value} (r : Vals vs us) : ∀ p : List Nat, Vals (permL p vs) (permL p us)
  | [] => .nil
  | i :: p => by
    have ih := vals_perm r p
    unfold permL at ih ⊢
    rw [List.filterMap_cons, List.filterMap_cons]
    cases e : vs[i]? with
    | none =>
      have e2 : us[i]? = none := by
        rw [List.getElem?_eq_none_iff] at e ⊢
        rw [← r.length]; exact e
      rw [e2]; exact ih
    | some v =>
      obtain ⟨u, h1, h2⟩ := r.get e
      rw [h1]; exact .cons h2 ih
/-! ### the calls' rules -/
section
variable {CX : CXT} {k : Nat} {f : Addr} {fd : FuncData} {ps ks : List Str} {sp : Sp} {E : L2.St → XK} {x : Str} {p pos : Pos} {e : Expr} {es : List Expr} {kws : List Keyword} {t tk : TA}
theorem pe_callS0 (F : FnOk X.prog X.w X.K X.mg X.base CX k f fd ps sp) (hr : Room k X.A) (hg : Gl X x) (hm : X.mg x = some (.ref f)) (hk : PySem.W.keepIn X.K (.ref f) = true) (hb : Binds X.K fd ps []) (hx : ∀ σ, PassesAt CX X σ (E σ))
    (hdb : (x == ("__debug__" : Str)) = false) : PE X (.Call (.Name x p) [] [] pos) (tCallS sp E tNil) := by
  refine ⟨fun pins s σ H Q I h => ?_⟩
  refine wpAny_Call_Name_kw (ld_glob I hg hm ?_ hdb)
  exact PySem.W.callWith_K0 I.kIn hk (run_fnS (us := []) F hr hb (hx σ) I .nil h)
theorem pe_callV1 {i : Nat} (F : FnOk X.prog X.w X.K X.mg X.base CX k f fd ps sp) (hr : Room k X.A) (hv : PE X (.Name x p) (tVar i)) (hk : PySem.W.keepIn X.K (.ref f) = true) (hb : Binds X.K fd ps []) (hx : ∀ σ, PassesAt CX X σ (E σ))
    (ha : PA X (e :: es) t) (he : starEach (e :: es) X.env = (false, eval e X.env) :: starEach es X.env) (hpl : (PySem.backTo pos (starEach es X.env)).any (·.1) = false) :
    PE X (.Call (.Name x p) (e :: es) [] pos) (fun σ H Q => σ[i]? = some (some (.ref f)) ∧ t σ H fun vs H1 => sp vs H1 Q (E σ)) := by
  refine ⟨fun pins s σ H Q I h => ?_⟩
  obtain ⟨e1, h⟩ := h
  refine wpAny_Call_Name_kw (thn (hv.run pins s σ H (fun v H' => v = .ref f ∧ H' = H) I ⟨_, e1, rfl, rfl⟩) fun u s1 ⟨x, H1, I1, r1, q1, q2⟩ => ?_)
  subst q1 q2
  obtain rfl : u = Value.ref f := r1
  refine PySem.W.callWith_K (h₀ := X.base) I.ok.mod.kin hk (thn (ha.run pos pins s1 σ _ _ I1 h) fun us s2 ⟨vs, H2, I2, r, q⟩ => ⟨I2.kIn, ?_⟩) he hpl
  exact run_fnS F hr hb (hx σ) I2 r q
theorem pe_callKS {pm : List Nat} (F : FnOk X.prog X.w X.K X.mg X.base CX k f fd ps sp) (hr : Room k X.A) (hg : Gl X x) (hm : X.mg x = some (.ref f)) (hk : PySem.W.keepIn X.K (.ref f) = true)
    (hb : ∀ (s : Shared) (ws : List Value), X.K.In s.heap → ws.length = ks.length → BindsTo s fd ⟨[], ks.zip ws⟩ (ps.zip (permL pm ws))) (hx : ∀ σ, PassesAt CX X σ (E σ)) (hkw : PK X kws tk) (hn : kwNm kws = some ks) (hl : kws.length = ks.length)
    (hlen : ∀ σ H Q, tk σ H Q → tk σ H fun vs H1 => vs.length = ks.length ∧ Q vs H1) (hdb : (x == ("__debug__" : Str)) = false) : PE X (.Call (.Name x p) [] kws pos) (fun σ H Q => tk σ H fun vs H1 => sp (permL pm vs) H1 Q (E σ)) := by
  refine ⟨fun pins s σ H Q I h => ?_⟩
  obtain ⟨h1, h2, h3⟩ := kw_ok (pos := pos) (env := X.env) hn
  refine wpAny_Call_Name_kw (ld_glob I hg hm ?_ hdb)
  refine PySem.W.callWith_KW0 (h₀ := X.base) I.ok.mod.kin hk h1 (thn (hkw.run pos pins s σ H _ I (hlen _ _ _ h)) fun ws s1 ⟨vs, H1, I1, r, hvl, q⟩ => ⟨I1.kIn, ?_⟩) h3
  rw [h2]
  have hw : ws.length = ks.length := by rw [← r.length]; exact hvl
  refine wpAny_call (codeAny_mono (F.run X.A X.stack s1 H1 ⟨[], ks.zip ws⟩ (permL pm ws) (permL pm vs) Q (E σ) hr I1.env0 (hb s1 ws I1.kIn hw) (vals_perm r pm) q) fun r s' hq => ?_)
  cases r with
  | error e => exact hx σ pins H1 s1 e s' I1 hq
  | ok fl =>
    cases fl with
    | ret u => exact I1.after hq
    | next => exact False.elim hq
    | brk => exact False.elim hq
    | cont => exact False.elim hq
end
theorem sim_call0 {f : Nat} {e : Expr} (hw : WfC C) (pe : PE X e (tCallS (spC X.K fa ca C f) (WE W) tNil)) : SimE fa ca W C X e (dCall f []) := by
  refine pe_le pe fun σ H Q h => ?_
  obtain ⟨G, F, ρ, S, h⟩ := h
  exact plain_post hw rfl S Ext.refl .nil h
theorem avl_len {σ : L2.St} {vs : List V} {as : List AV} (h : AvL K fa F H σ vs as) : vs.length = as.length := h.length
theorem argsE_len {as : List AD} : ∀ {C : Calls} {ρ ρ1 : Env} {xs : List AV}, argsE as C ρ = .ok xs ρ1 → xs.length = as.length := by
  induction as with
  | nil => intro C ρ ρ1 xs h; cases h; rfl
  | cons a r ih =>
    intro C ρ ρ1 xs h
    cases a with
    | v i =>
      have h' : (if isOwn ρ[i]? = true then (argsE r C ρ).bind fun xs ρ2 => .ok (.own i :: xs) ρ2 else (dVar i C ρ).bind fun x ρ1 => (argsE r C ρ1).bind fun xs ρ2 => .ok (.d x.frz :: xs) ρ2) = R.ok xs ρ1 := h
      by_cases e0 : isOwn ρ[i]? = true
      · rw [if_pos e0] at h'
        cases e : argsE r C ρ with
        | ok ys ρ2 => rw [e] at h'; cases h'; rw [List.length_cons, List.length_cons, ih e]
        | exc c fs ρ2 => rw [e] at h'; cases h'
        | stuck => rw [e] at h'; cases h'
      · rw [if_neg e0] at h'
        cases e1 : dVar i C ρ with
        | exc c fs ρ2 => rw [e1] at h'; cases h'
        | stuck => rw [e1] at h'; cases h'
        | ok y ρ3 =>
          rw [e1] at h'
          have h' : (argsE r C ρ3).bind (fun xs ρ2 => R.ok (AV.d y.frz :: xs) ρ2) = R.ok xs ρ1 := h'
          cases e : argsE r C ρ3 with
          | ok ys ρ2 => rw [e] at h'; cases h'; rw [List.length_cons, List.length_cons, ih e]
          | exc c fs ρ2 => rw [e] at h'; cases h'
          | stuck => rw [e] at h'; cases h'
    | e d =>
      have h' : ((d C ρ).bind fun x ρ1 => (argsE r C ρ1).bind fun xs ρ2 => R.ok (AV.d x.frz :: xs) ρ2) = R.ok xs ρ1 := h
      cases e1 : d C ρ with
      | exc c fs ρ2 => rw [e1] at h'; cases h'
      | stuck => rw [e1] at h'; cases h'
      | ok y ρ3 =>
        rw [e1] at h'
        have h' : (argsE r C ρ3).bind (fun xs ρ2 => R.ok (AV.d y.frz :: xs) ρ2) = R.ok xs ρ1 := h'
        cases e : argsE r C ρ3 with
        | ok ys ρ2 => rw [e] at h'; cases h'; rw [List.length_cons, List.length_cons, ih e]
        | exc c fs ρ2 => rw [e] at h'; cases h'
        | stuck => rw [e] at h'; cases h'
theorem semV_len {as : List AD} {n : Nat} (hn : as.length = n) : ∀ σ H Q, tSemV K fa ca W as C σ H Q → tSemV K fa ca W as C σ H fun vs H1 => vs.length = n ∧ Q vs H1 := fun σ H Q h => by
  obtain ⟨G, F, ρ, S, h⟩ := h
  refine ⟨G, F, ρ, S, ?_⟩
  cases e : argsE as C ρ with
  | stuck => rw [e] at h; exact h.elim
  | exc c fs ρ1 => rw [e] at h; exact h
  | ok xs ρ1 => rw [e] at h; exact fun vs F' H' S' E' r => ⟨by rw [r.length, argsE_len e, hn], h vs F' H' S' E' r⟩
end
section
variable {I : Mi} {N : List Str} {l : Pl}
/-! ### built-ins -/
structure BI where
  nm : Str
  f : Bf
  any : Bool
  ok : ∀ {fa : Nat → Addr} {X : Cx} {e : Expr} {es : List Expr} {p pos : Pos}, (any = false → X.calm = true) → Gl X nm → X.mg nm = none → starEach (e :: es) X.env = (false, eval e X.env) :: starEach es X.env → (PySem.backTo pos (starEach es X.env)).any (·.1) = false →
    ∃ r, BfS X.K fa f r ∧ ∀ {t}, PA X (e :: es) t → PE X (.Call (.Name nm p) (e :: es) [] pos) (tCB r t)
def bis : List BI := [
  ⟨"len", bLen, true, fun _ hg hm he hp => ⟨_, bf_len, fun ha => pe_callB call_len hg hm boot_len ha (by decide +kernel) (by decide +kernel) he hp⟩⟩,
  ⟨"abs", bAbs, true, fun _ hg hm he hp => ⟨_, bf_abs, fun ha => pe_callB call_abs hg hm boot_abs ha (by decide +kernel) (by decide +kernel) he hp⟩⟩,
  ⟨"int", bInt, true, fun _ hg hm he hp => ⟨_, bf_int, fun ha => pe_callTy call_int1 hg hm boot_int ha (by decide +kernel) (by decide +kernel) he hp⟩⟩,
  ⟨"all", bAll, false, fun hc hg hm he hp => ⟨_, bf_all, fun ha => pe_callB (cr_all (hc rfl)) hg hm boot_all ha (by decide +kernel) (by decide +kernel) he hp⟩⟩,
  ⟨"tuple", bTup, true, fun _ hg hm he hp => ⟨_, bf_tup, fun ha => pe_callTy call_tuple_of hg hm boot_tuple ha (by decide +kernel) (by decide +kernel) he hp⟩⟩,
  ⟨"list", bLst, true, fun _ hg hm he hp => ⟨_, bf_lst, fun ha => pe_callTy call_list_of hg hm boot_list ha (by decide +kernel) (by decide +kernel) he hp⟩⟩,
  ⟨"max", bMax, false, fun hc hg hm he hp => ⟨_, bf_max, fun ha => pe_callB (.or (call_max2 (hc rfl)) (cr_max (hc rfl))) hg hm boot_max ha (by decide +kernel) (by decide +kernel) he hp⟩⟩,
  ⟨"min", bMin, false, fun hc hg hm he hp => ⟨_, bf_min, fun ha => pe_callB (.or (call_min2 (hc rfl)) (cr_min (hc rfl))) hg hm boot_min ha (by decide +kernel) (by decide +kernel) he hp⟩⟩,
  ⟨"sum", bSum, false, fun hc hg hm he hp => ⟨_, bf_sum, fun ha => pe_callB (cr_sum (hc rfl)) hg hm boot_sum ha (by decide +kernel) (by decide +kernel) he hp⟩⟩,
  ⟨"any", bAny, false, fun hc hg hm he hp => ⟨_, bf_any, fun ha => pe_callB (cr_any (hc rfl)) hg hm boot_any ha (by decide +kernel) (by decide +kernel) he hp⟩⟩,
  ⟨"sorted", bSrt, true, fun _ hg hm he hp => ⟨_, bf_srt, fun ha => pe_callB cr_sortedI hg hm boot_sorted ha (by decide +kernel) (by decide +kernel) he hp⟩⟩,
  ⟨"bool", bBool, true, fun _ hg hm he hp => ⟨_, bf_bool, fun ha => pe_callTy call_bool1 hg hm boot_bool ha (by decide +kernel) (by decide +kernel) he hp⟩⟩]
def findB (x : Str) : List BI → Option {b : BI // b.nm = x}
  | [] => none
  | b :: r => if h : (b.nm == x) = true then some ⟨b, eq_of_beq h⟩ else findB x r
/-- functions of modules -/
structure BM where
  id : String
  f : Bf
  ok : ∀ {fa : Nat → Addr} {X : Cx}, ∃ r, BfS X.K fa f r ∧ CallR X (.builtin id) r
def bms : List BM := [⟨"math.gcd", bGcd, fun {fa X} => ⟨_, bf_gcd, cr_gcd⟩⟩]
def findM (x : String) : List BM → Option {b : BM // b.id = x}
  | [] => none
  | b :: r => if h : b.id = x then some ⟨b, h⟩ else findM x r
def noneB : Option Nat → Bool
  | none => true
  | some _ => false
theorem noneB_ok {o : Option Nat} (h : noneB o = true) : o = none := by cases o <;> first | rfl | cases h
theorem hot_or {b : Bool} {o : Option Nat} (h : (b || noneB o) = true) (hb : b = false) : o = none := by rw [hb, Bool.false_or] at h; exact noneB_ok h
def cBlt (E : ∀ e, OE I N l e) (x : Str) (p : Pos) (as : List Expr) (pos : Pos) : OE I N l (.Call (.Name x p) as [] pos) := match as with
  | [] => none
  | e :: es => match findB x bis with
    | none => none
    | some b => if h1 : glB l.sc x = true then if h2 : I.free.contains x = true then if h3 : (b.1.any || noneB l.hot) = true then if h4 : (nst e && es.all nst) = true then
        match es, (cVar e : Option {i : Nat // CN I N l e i}) with
        | [], some i => match (if isN I.als e then ixOf N gNm else none) with
          | some gi => some ⟨dB1A b.1.f i.1 gi, fun {fa} {C lv ca W X} g => by
            have hn := (Bool.and_eq_true_iff.mp h4).1
            obtain ⟨r, k1, k2⟩ := b.1.ok (fa := fa) (X := X) (e := e) (es := []) (p := p) (pos := pos) (fun z => g.calm (hot_or h3 z)) (by rw [b.2]; exact g.gl h1) (by rw [b.2]; exact g.m.free x h2) (star_cons hn) rfl
            rw [b.2] at k2
            exact sim_b1A k1 (i.2 g) (star_cons hn) fun ha => k2 ha⟩
          | none => some ⟨dB1 b.1.f i.1, fun {fa} {C lv ca W X} g => by
            have hn := (Bool.and_eq_true_iff.mp h4).1
            obtain ⟨r, k1, k2⟩ := b.1.ok (fa := fa) (X := X) (e := e) (es := []) (p := p) (pos := pos) (fun z => g.calm (hot_or h3 z)) (by rw [b.2]; exact g.gl h1) (by rw [b.2]; exact g.m.free x h2) (star_cons hn) rfl
            rw [b.2] at k2
            exact sim_b1 k1 (i.2 g) (star_cons hn) fun ha => k2 ha⟩
        | es, _ => match cAll E (e :: es) with
          | some ds => some ⟨dB b.1.f ds.1, fun {fa} {C lv ca W X} g => by
              have hn : (e :: es).all nst = true := ds.2.2.1
              obtain ⟨hn1, hn2⟩ := Bool.and_eq_true_iff.mp (show (nst e && es.all nst) = true from hn)
              obtain ⟨r, k1, k2⟩ := b.1.ok (fa := fa) (X := X) (e := e) (es := es) (p := p) (pos := pos) (fun z => g.calm (hot_or h3 z)) (by rw [b.2]; exact g.gl h1) (by rw [b.2]; exact g.m.free x h2) (star_cons hn1) (star_plain hn2)
              rw [b.2] at k2
              exact sim_b k1 (ds.2.1 g) fun ha => k2 ha⟩
          | none => none
      else none else none else none else none
def tyOf (x : Str) : Option {t : Ty5 // ∃ n : Str, n = x ∧ bootBuiltins n = some (.type t.nm)} :=
  if h : ("int" : Str) = x then some ⟨.int, _, h, boot_int⟩ else if h : ("bool" : Str) = x then some ⟨.bool, _, h, boot_bool⟩ else if h : ("str" : Str) = x then some ⟨.str, _, h, by decide +kernel⟩
  else if h : ("tuple" : Str) = x then some ⟨.tuple, _, h, boot_tuple⟩ else if h : ("list" : Str) = x then some ⟨.list, _, h, boot_list⟩ else none
theorem pa_two {X : Cx} {e u : Expr} {t t' : TE} (h1 : PE X e t) (h2 : PE X u t') (n1 : nst e = true) (n2 : nst u = true) : PA X [e, u] (tCons t (tCons t' tNil)) := pa_cons h1 (pa_cons h2 pa_nil (star_cons n2)) (star_cons n1)
def cIsi (E : ∀ e, OE I N l e) (x : Str) (p : Pos) (as : List Expr) (pos : Pos) : OE I N l (.Call (.Name x p) as [] pos) := match as with
  | [e, .Name y q] => if h0 : x = "isinstance" then if h1 : glB l.sc x = true then if h2 : I.free.contains x = true then if h3 : glB l.sc y = true then if h4 : I.free.contains y = true then if h5 : okN y = true then if h6 : nst e = true then
      match tyOf y with
      | none => none
      | some t =>
        have go : ∀ {fa : Nat → Addr} {C : Calls} {lv : Nat} {ca : Cc} {W : WX} {X : Cx}, Gx I N l fa C lv ca W X → ∀ {t'}, PE X e t' → PE X (.Call (.Name x p) [e, .Name y q] [] pos) (tCB (rIsi X.K) (tCons t' (tCons (tC (.ty t.1.nm)) tNil))) := fun {fa C lv ca W X} g t' he => by
          have hy : PE X (.Name y q) (tC (.ty t.1.nm)) := by
            obtain ⟨n, e1, e2⟩ := t.2
            subst e1
            exact pe_bltn (g.gl h3) (g.m.free _ h4) e2 rfl (okN_n h5) (okN_d h5)
          have ha := pa_two he hy h6 rfl
          have hg := g.gl h1
          have hm := g.m.free _ h2
          subst h0
          exact pe_callB call_isi hg hm boot_isinstance ha (by decide +kernel) (by decide +kernel) (star_cons h6) (star_plain (es := [.Name y q]) rfl)
        match (cVar e : Option {i : Nat // CN I N l e i}) with
        | some i => some ⟨dB1 (bIsi t.1) i.1, fun g => sim_isi1 (i.2 g) (go g)⟩
        | none => match E e with
          | some d => some ⟨dB (bIsi t.1) [d.1], fun g => sim_isi (d.2 g) (go g)⟩
          | none => none
    else none else none else none else none else none else none else none
  | _ => none
/-- isinstance(e, Class), e the exception that the suite holds -/
def cIsX (x : Str) (p : Pos) (as : List Expr) (pos : Pos) : OE I N l (.Call (.Name x p) as [] pos) := match as with
  | [e, .Name y q] => match (cVar e : Option {i : Nat // CN I N l e i}), h0 : I.isx.lookup y with
    | some i, some m => if h1 : x = "isinstance" then if h2 : glB l.sc x = true then if h3 : I.free.contains x = true then if h4 : glB l.sc y = true then if h5 : okN y = true then if h6 : nst e = true then if h7 : l.hot = some i.1 then if hi : i.1 < N.length then
        some ⟨dIsE i.1 m, fun {fa C lv ca W X} g => by
          have hv := i.2 g
          have hg := g.gl h2
          have hm := g.m.free _ h3
          have hgy := g.gl h4
          obtain ⟨cv, v, k1, k2, k3, k4⟩ := g.m.isx y m h0
          obtain ⟨_, _, hq⟩ := g.hx i.1 h7
          obtain ⟨a, oe, cls, d, pn, X0, rfl, hx, hz, hf⟩ := hq hi
          have hy : PE (X0.suite a ((a, oe) :: pn)) (.Name y q) (tC v) := by
            rcases k1 with k1 | ⟨k1, k1'⟩
            · exact pe_glob hgy k1 k2 (okN_d h5)
            · exact pe_bltn hgy k1 k1' k2 (okN_n h5) (okN_d h5)
          subst h1
          exact sim_isE hx (fun c _ => k4 c) k3 hz.zc hf (pa_two hv hy h6 rfl) fun {r} cr {t} ha => pe_callB cr hg hm boot_isinstance ha (by decide +kernel) (by decide +kernel) (star_cons h6) (star_plain (es := [.Name y q]) rfl)⟩
      else none else none else none else none else none else none else none else none
    | _, _ => none
  | _ => none
def cMod (E : ∀ e, OE I N l e) (x : Str) (p : Pos) (as : List Expr) (pos : Pos) : OE I N l (.Call (.Name x p) as [] pos) := match as with
  | [] => none
  | e :: es => match h0 : I.bfun.lookup x with
    | none => none
    | some id => match findM id bms with
      | none => none
      | some b => if h1 : glB l.sc x = true then if h2 : okN x = true then match cAll E (e :: es) with
          | some ds => some ⟨dB b.1.f ds.1, fun {fa} {C lv ca W X} g => by
              obtain ⟨hn1, hn2⟩ := Bool.and_eq_true_iff.mp (show (nst e && es.all nst) = true from ds.2.2.1)
              obtain ⟨r, k1, k2⟩ := b.1.ok (fa := fa) (X := X)
              rw [b.2] at k2
              exact sim_b k1 (ds.2.1 g) fun ha => pe_callBfun k2 (g.gl h1) (g.m.bfun x id h0) ha (okN_d h2) (star_cons hn1) (star_plain hn2)⟩
          | none => none
        else none else none
/-! ### calls of defs -/
theorem Gx.pass (g : Gx I N l fa C lv ca W X) (σ : L2.St) : PassesAt (L2N.CX X.prog X.w) X σ (WE W σ) := L2N.passAt g.tk σ
theorem cc_eq {ca : Cc} (h : ca.ex = none) : (⟨ca.ca, none⟩ : Cc) = ca := by cases ca; cases h; rfl
def cDef (E : ∀ e, OE I N l e) (x : Str) (p : Pos) (as : List Expr) (pos : Pos) : OE I N l (.Call (.Name x p) as [] pos) :=
  match h0 : I.fns.lookup x with
  | none => none
  | some f => if h1 : glB l.sc x = true then if h2 : okN x = true then if h3 : noneB l.hot = true then match as with
      | [] => some ⟨dCall f.ix [], fun {fa} {C lv ca W X} g => by
          obtain ⟨hm, fd, F, _⟩ := g.m.fns x f h0
          have Fk := F.ok
          rw [cc_eq (g.ex (noneB_ok h3))] at Fk
          exact sim_call0 g.m.wf (pe_callS0 (p := p) (pos := pos) Fk (g.room (noneB_ok h3)) (g.gl h1) hm F.kp F.bd g.pass (okN_d h2))⟩
      | e :: es => match (if I.fz.contains x then cArgE E (e :: es) else cArg E (e :: es) : OV I N l (e :: es)) with
        | none => none
        | some ds => match (if (e :: es).any (isN I.dck) then ixOf N gNm else none) with
          | some gi => some ⟨dCallG f.ix ds.1 gi, fun {fa} {C lv ca W X} g => by
            obtain ⟨hm, fd, F, _⟩ := g.m.fns x f h0
            have Fk := F.ok
            rw [cc_eq (g.ex (noneB_ok h3))] at Fk
            obtain ⟨hn1, hn2⟩ := Bool.and_eq_true_iff.mp (show (nst e && es.all nst) = true from ds.2.2)
            exact sim_callG g.m.wf (ds.2.1 g) fun ha => pe_callS Fk (g.room (noneB_ok h3)) (g.gl h1) hm F.kp F.bd g.pass ha (okN_d h2) (star_cons hn1) (star_plain hn2)⟩
          | none => some ⟨dCall f.ix ds.1, fun {fa} {C lv ca W X} g => by
            obtain ⟨hm, fd, F, _⟩ := g.m.fns x f h0
            have Fk := F.ok
            rw [cc_eq (g.ex (noneB_ok h3))] at Fk
            obtain ⟨hn1, hn2⟩ := Bool.and_eq_true_iff.mp (show (nst e && es.all nst) = true from ds.2.2)
            exact sim_call g.m.wf (ds.2.1 g) fun ha => pe_callS Fk (g.room (noneB_ok h3)) (g.gl h1) hm F.kp F.bd g.pass ha (okN_d h2) (star_cons hn1) (star_plain hn2)⟩
    else none else none else none
/-- .. where an exception is handled -/
def cDefH (E : ∀ e, OE I N l e) (x : Str) (p : Pos) (as : List Expr) (pos : Pos) : OE I N l (.Call (.Name x p) as [] pos) := match as, h0 : I.hfn.lookup x, h3 : l.hot with
  | e :: es, some (f, ps), some i => if h1 : glB l.sc x = true then if h2 : okN x = true then match cArg E (e :: es) with
    | none => none
    | some ds => some ⟨dCall f ds.1, fun {fa} {C lv ca W X} g => by
        obtain ⟨hm, fd, F⟩ := g.m.hfn x f ps h0
        obtain ⟨hc, hr, _⟩ := g.hx i h3
        have Fk : L2H.FnH X.prog X.w X.K X.mg X.base (L2N.CX X.prog X.w) (lv + 2) (fa f) fd ps (spC X.K fa ca C f) := F.ok
        obtain ⟨hn1, hn2⟩ := Bool.and_eq_true_iff.mp (show (nst e && es.all nst) = true from ds.2.2)
        exact sim_call g.m.wf (ds.2.1 g) fun ha => L2H.pe_callH Fk hr hc (g.gl h1) hm F.kp F.bd g.pass ha (okN_d h2) (star_cons hn1) (star_plain hn2)⟩
    else none else none
  | _, _, _ => none
end
end RX
set_option Elab.async false
set_option linter.all false
set_option maxRecDepth 100000
set_option maxHeartbeats 4000000
/-! RXp: calls with keywords, by a name; methods; walks, comprehensions; the compiler of expressions. -/
namespace RX
open PySem PySem.Spec PyProof.Rows L2
section
variable {I : Mi} {N : List Str} {l : Pl}
def CK (I : Mi) (N : List Str) (l : Pl) (kws : List Keyword) (d : List AD) : Prop := ∀ {fa : Nat → Addr} {C : Calls} {lv : Nat} {ca : Cc} {W : WX} {X : Cx}, Gx I N l fa C lv ca W X → SimK fa ca W C X kws d
def cKws (E : ∀ e, OE I N l e) : ∀ kws, Option {d : List AD // CK I N l kws d ∧ d.length = kws.length}
  | [] => some ⟨[], fun g => sim_knil, rfl⟩
  | ⟨nm, e, kp⟩ :: r => match cKws E r with
    | none => none
    | some ds => match (cVar e : Option {i : Nat // CN I N l e i}) with
      | some i => some ⟨.v i.1 :: ds.1, fun g => sim_kv (i.2 g) (ds.2.1 g), by rw [List.length_cons, List.length_cons, ds.2.2]⟩
      | none => match E e with
        | some d => some ⟨.e d.1 :: ds.1, fun g => sim_ke (d.2 g) (ds.2.1 g), by rw [List.length_cons, List.length_cons, ds.2.2]⟩
        | none => none
theorem kwNm_len : ∀ {kws : List Keyword} {ks : List Str}, kwNm kws = some ks → kws.length = ks.length
  | [], ks, h => by cases h; rfl
  | ⟨none, _, _⟩ :: _, ks, h => by cases h
  | ⟨some n, e, p⟩ :: r, ks, h => by
    have h' : (kwNm r).map (fun l => n :: l) = some ks := h
    cases e1 : kwNm r with
    | none => rw [e1] at h'; cases h'
    | some l => rw [e1] at h'; cases h'; rw [List.length_cons, List.length_cons, kwNm_len e1]
def cDefK (E : ∀ e, OE I N l e) (x : Str) (p : Pos) (kws : List Keyword) (pos : Pos) : OE I N l (.Call (.Name x p) [] kws pos) :=
  match h0 : I.fns.lookup x with
  | none => none
  | some f => match h4 : kwNm kws with
    | none => none
    | some ks => match h5 : f.kw.lookup ks with
      | none => none
      | some pm => if h1 : glB l.sc x = true then if h2 : okN x = true then if h3 : noneB l.hot = true then match cKws E kws with
          | none => none
          | some ds => some ⟨dCallK f.ix pm ds.1, fun {fa} {C lv ca W X} g => by
              obtain ⟨hm, fd, F, hk⟩ := g.m.fns x f h0
              have Fk := F.ok
              rw [cc_eq (g.ex (noneB_ok h3))] at Fk
              exact sim_callK g.m.wf (pe_callKS Fk (g.room (noneB_ok h3)) (g.gl h1) hm F.kp (hk ks pm h5) g.pass (ds.2.1 g) h4 (kwNm_len h4) (semV_len (by rw [ds.2.2, kwNm_len h4])) (okN_d h2))⟩
        else none else none else none
def cDefV (E : ∀ e, OE I N l e) (x : Str) (p : Pos) (as : List Expr) (pos : Pos) : OE I N l (.Call (.Name x p) as [] pos) := match as, (cVar (.Name x p) : Option {i : Nat // CN I N l (.Name x p) i}) with
  | e :: es, some i => if h3 : noneB l.hot = true then match cArg E (e :: es) with
    | none => none
    | some ds => some ⟨dCallV i.1 ds.1, fun {fa} {C lv ca W X} g => by
        obtain ⟨hn1, hn2⟩ := Bool.and_eq_true_iff.mp (show (nst e && es.all nst) = true from ds.2.2)
        refine sim_callV g.m.wf fun {f} hf => ?_
        obtain ⟨fd, ps, F⟩ := g.m.all f hf
        have Fk := F.ok
        rw [cc_eq (g.ex (noneB_ok h3))] at Fk
        exact pe_callV1 Fk (g.room (noneB_ok h3)) (i.2 g) F.kp F.bd g.pass (ds.2.1 g) (star_cons hn1) (star_plain hn2)⟩ else none
  | _, _ => none
def orE {α : Type} : Option α → (Unit → Option α) → Option α
  | some a, _ => some a
  | none, f => f ()
def isNm : Expr → Bool
  | .Name _ _ => true
  | _ => false
theorem nm_base {o : Expr} {m : Str} {env : PySem.Env} (h : isNm o = true) : attributeBase o m env (eval o env) = eval o env := by
  cases o <;> first | rfl | cases h
theorem few1 {e : Expr} {cpos : Pos} {env : PySem.Env} (h : nst e = true) : ((PySem.backTo cpos (starEach [e] env)).all (fun x => !x.1) && (backToKw cpos (keywordEach [] env)).all (fun x => x.1.isSome)
      && decide ([e].length + ([] : List Keyword).length + (if ([] : List Keyword).isEmpty then 0 else 1) < 30)) = true := by
  rw [star_cons h]; rfl
/-- x.pop(..) -/
def cPop (E : ∀ e, OE I N l e) (o : Expr) (m : Str) (ap : Pos) (as : List Expr) (pos : Pos) : OE I N l (.Call (.Attribute o m ap) as [] pos) := match (cVar o : Option {i : Nat // CN I N l o i}) with
  | none => none
  | some i => if h0 : m = "pop" then if h1 : (ap.endLine == pos.line) = true then if h2 : isNm o = true then match as with
    | [] => some ⟨dPop i.1, fun g => by subst h0; exact sim_pop (i.2 g) fun h => pe_bm0 PySem.F.plainAttrs_list PySem.F.slot_list_pop PySem.F.type_list_pop mt_pop h (nm_base h2) h1⟩
    | [e] => match E e with
      | some d => if h3 : nst e = true then match (if isN I.als o then ixOf N gNm else none) with
        | some gi => some ⟨dPopA i.1 gi d.1, fun g => by
          subst h0
          exact sim_popA (i.2 g) (d.2 g) (star_cons h3) fun h ha => pe_bm PySem.F.plainAttrs_list PySem.F.slot_list_pop PySem.F.type_list_pop mt_popAt h ha (nm_base h2) (few1 h3) h1 (star_cons h3) rfl⟩
        | none => some ⟨dPopAt i.1 d.1, fun g => by
          subst h0
          exact sim_popAt (i.2 g) (d.2 g) (star_cons h3) fun h ha => pe_bm PySem.F.plainAttrs_list PySem.F.slot_list_pop PySem.F.type_list_pop mt_popAt h ha (nm_base h2) (few1 h3) h1 (star_cons h3) rfl⟩ else none
      | none => none
    | _ => none
  else none else none else none
/-- a field of the exception that the suite holds -/
def cFld (e : Expr) (f : Str) (pos : Pos) : OE I N l (.Attribute e f pos) := match (cVar e : Option {i : Nat // CN I N l e i}) with
  | none => none
  | some i => if h1 : isNm e = true then if h2 : I.flds.contains f = true then if h3 : l.hot = some i.1 then if h4 : i.1 < N.length then some ⟨dFld i.1 f, fun {fa} {C lv ca W X} g => by
      have hv := i.2 g
      obtain ⟨_, _, hq⟩ := g.hx i.1 h3
      obtain ⟨a, oe, cls, d, pn, X0, rfl, hx, hz, hf⟩ := hq h4
      exact sim_fld hx (fun c _ => ⟨(g.m.xf c).1, (g.m.xf c).2 f h2⟩) hz.zc hf hv (nm_base h1)⟩ else none else none else none else none
/-! ### targets -/
def Tg.g (K : PySem.W.Frag) : Tg → TG
  | .v i => gName i
  | .t l => gTup K l.length (gNames l)
theorem tg_g {K : PySem.W.Frag} {fa : Nat → Addr} {ca : Cc} : ∀ T : Tg, TgS K fa ca T (T.g K)
  | .v i => tg_v
  | .t l => tg_t
theorem Gx.pg {fa : Nat → Addr} {C : Calls} {lv : Nat} {ca : Cc} {W : WX} {X : Cx} (g : Gx I N l fa C lv ca W X) {x : Str} {i : Nat} {pos : Pos} (h : N[i]? = some x) (hl : locB l.sc x = true) (hf : (l.fn x || lclB l.sc x) = true) : PG X (.Name x pos) (gName i) := by
  refine pg_name g.ndX (g.ix h) (by rw [g.hsc]; exact locB_ok hl) ?_
  rcases Bool.or_eq_true_iff.mp hf with z | z
  · exact .inl (by rw [g.hfn]; exact z)
  · exact .inr (by rw [g.hsc]; exact lclB_ok z)
abbrev OG (I : Mi) (N : List Str) (l : Pl) (e : Expr) := Option {T : Tg // ∀ {fa : Nat → Addr} {C : Calls} {lv : Nat} {ca : Cc} {W : WX} {X : Cx}, Gx I N l fa C lv ca W X → PG X e (T.g X.K)}
def cSto (x : Str) : Option {i : Nat // ∀ {fa : Nat → Addr} {C : Calls} {lv : Nat} {ca : Cc} {W : WX} {X : Cx} {pos : Pos}, Gx I N l fa C lv ca W X → PG X (.Name x pos) (gName i)} := match h : ixOf N x with
  | none => none
  | some i => if h1 : locB l.sc x = true then if h2 : (l.fn x || lclB l.sc x) = true then some ⟨i, fun g => g.pg (ixOf_ok h) h1 h2⟩ else none else none
def cStos : ∀ es : List Expr, Option {ns : List Nat // es.all isNm = true ∧ ns.length = es.length ∧ ∀ {fa : Nat → Addr} {C : Calls} {lv : Nat} {ca : Cc} {W : WX} {X : Cx}, Gx I N l fa C lv ca W X → PGs X es (gNames ns)}
  | [] => some ⟨[], rfl, rfl, fun g => pgs_nil⟩
  | .Name x p :: r => match (cSto x : Option {i : Nat // ∀ {fa : Nat → Addr} {C : Calls} {lv : Nat} {ca : Cc} {W : WX} {X : Cx} {pos : Pos}, Gx I N l fa C lv ca W X → PG X (.Name x pos) (gName i)}), cStos r with
    | some i, some ns => some ⟨i.1 :: ns.1, ns.2.1, by rw [List.length_cons, List.length_cons, ns.2.2.1], fun g => pgs_cons (i.2 g) (ns.2.2.2 g) rfl⟩
    | _, _ => none
  | _ :: _ => none
theorem nms_each {env : PySem.Env} : ∀ {es : List Expr}, es.all isNm = true → (assignEach es env).length = es.length ∧ (assignEach es env).findIdx? (·.1) = none
  | [], _ => ⟨rfl, rfl⟩
  | e :: es, h => by
    obtain ⟨h1, h2⟩ := Bool.and_eq_true_iff.mp (show (isNm e && es.all isNm) = true from h)
    obtain ⟨k1, k2⟩ := nms_each (env := env) h2
    cases e <;> first | cases h1 | skip
    exact ⟨congrArg (· + 1) k1, by show List.findIdx? _ ((false, _) :: assignEach es env) = none; rw [List.findIdx?_cons]; simp [k2]⟩
def cTg (e : Expr) : OG I N l e := match e with
  | .Name x p => match (cSto x : Option {i : Nat // ∀ {fa : Nat → Addr} {C : Calls} {lv : Nat} {ca : Cc} {W : WX} {X : Cx} {pos : Pos}, Gx I N l fa C lv ca W X → PG X (.Name x pos) (gName i)}) with
    | some i => some ⟨.v i.1, fun g => i.2 g⟩
    | none => none
  | .Tuple es k p => match (cStos es : Option {ns : List Nat // es.all isNm = true ∧ ns.length = es.length ∧ ∀ {fa : Nat → Addr} {C : Calls} {lv : Nat} {ca : Cc} {W : WX} {X : Cx}, Gx I N l fa C lv ca W X → PGs X es (gNames ns)}) with
    | some ns => if h : noneB l.hot = true then some ⟨.t ns.1, fun {fa} {C lv ca W X} g => by
        obtain ⟨k1, k2⟩ := nms_each (env := X.env) ns.2.1
        exact pg_tup (g.calm (noneB_ok h)) (ns.2.2.2 g) (by rw [k1, ns.2.2.1]) k2⟩ else none
    | none => none
  | _ => none
/-! ### walks -/
theorem star_two {a b : Expr} {env : PySem.Env} (ha : nst a = true) (hb : nst b = true) : starEach [a, b] env = [(false, eval a env), (false, eval b env)] := by rw [star_cons ha, star_cons hb]; rfl
theorem star_one {a : Expr} {env : PySem.Env} (ha : nst a = true) : starEach [a] env = [(false, eval a env)] := by rw [star_cons ha]; rfl
def cRange (E : ∀ e, OE I N l e) (tg : Expr) (x : Str) (p : Pos) (as : List Expr) (pos : Pos) : OI I N l tg (.Call (.Name x p) as [] pos) :=
  if h0 : x = "range" then if h1 : glB l.sc x = true then if h2 : I.free.contains x = true then match as with
    | [a] => match E a with
      | some d => if h3 : nst a = true then some ⟨iR1 d.1, fun g => by
          have hg := g.gl h1
          have hm := g.m.free _ h2
          subst h0
          exact sim_iR1 (d.2 g) (star_cons h3) fun ha => pi_range1 hg hm ha (star_one h3)⟩ else none
      | none => none
    | [a, b] => match E a, E b with
      | some da, some db => if h3 : nst a = true then if h4 : nst b = true then some ⟨iR2 da.1 db.1, fun g => by
          have hg := g.gl h1
          have hm := g.m.free _ h2
          subst h0
          exact sim_iR2 (da.2 g) (db.2 g) (star_cons h3) (star_cons h4) fun ha => pi_range2 hg hm ha (star_two h3 h4) (star_one h4)⟩ else none else none
      | _, _ => none
    | _ => none
  else none else none else none
def cZip (E : ∀ e, OE I N l e) (tg : Expr) (x : Str) (p : Pos) (as : List Expr) (pos : Pos) : OI I N l tg (.Call (.Name x p) as [] pos) := match tg, as with
  | .Tuple elts kk tp, [a, b] => if h0 : x = "zip" then if h1 : glB l.sc x = true then if h2 : I.free.contains x = true then match E a, E b with
      | some da, some db => if h3 : nst a = true then if h4 : nst b = true then some ⟨iZip da.1 db.1, fun g => by
          have hg := g.gl h1
          have hm := g.m.free _ h2
          subst h0
          exact sim_iZip (da.2 g) (db.2 g) (star_cons h3) (star_cons h4) fun ha => RZ.pi_zipA hg hm ha (star_cons h3) (star_plain (es := [b]) (by rw [List.all_cons, h4]; rfl))⟩ else none else none
      | _, _ => none
    else none else none else none
  | _, _ => none
def cEnum (E : ∀ e, OE I N l e) (tg : Expr) (x : Str) (p : Pos) (as : List Expr) (pos : Pos) : OI I N l tg (.Call (.Name x p) as [] pos) := match tg, as with
  | .Tuple elts kk tp, [a] => if h0 : x = "enumerate" then if h1 : glB l.sc x = true then if h2 : I.free.contains x = true then match E a with
      | some da => if h3 : nst a = true then some ⟨iEnum da.1, fun g => by
          have hg := g.gl h1
          have hm := g.m.free _ h2
          subst h0
          exact sim_iEnum (da.2 g) (star_cons h3) fun ha => pi_enumA hg hm ha (star_one h3)⟩ else none
      | _ => none
    else none else none else none
  | _, _ => none
def cIter (E : ∀ e, OE I N l e) (tg it : Expr) : OI I N l tg it :=
  orE (match it with
    | .Call (.Name x p) as [] pos => orE (cRange E tg x p as pos) fun _ => orE (cZip E tg x p as pos) fun _ => cEnum E tg x p as pos
    | _ => none) fun _ => match E it with
      | some d => some ⟨iE d.1, fun g => sim_iE (d.2 g)⟩
      | none => none
theorem nset_iter {e : Expr} {env : PySem.Env} (h : nset e = true) (x : Value) : foldedSetIterable e env x = pure x := by
  cases e <;> first | rfl | cases h
/-! ### comprehensions -/
def ownOf (N : List Str) (ns : List (Str × NameKind)) : List (Str × Nat) := ns.filterMap fun y => match y.2 with
  | .local => (ixOf N y.1).map fun i => (y.1, i)
  | .cell => (ixOf N y.1).map fun i => (y.1, i)
  | _ => none
def locK : NameKind → Bool
  | .local => true
  | .cell => true
  | _ => false
def blkB (N : List Str) (sc scope : Scope) (own : List (Str × Nat)) : Bool :=
  decide (scope.kind = .function) && (scope.names.all (fun y => decide (scope.names.lookup y.1 = some y.2)) && (own.all (fun p => decide (N[p.2]? = some p.1)) &&
    (scope.names.all (fun y => !decide (y.2 = .free) || (decide (sc.names.lookup y.1 = some .cell) || decide (sc.names.lookup y.1 = some .free))) && scope.names.all (fun y => !locK y.2 || ((own.map (·.1)).contains y.1 || !N.contains y.1)))))
theorem blkB_ok {N : List Str} {sc scope : Scope} {own : List (Str × Nat)} (h : blkB N sc scope own = true) : BlkOk N sc scope own := by
  obtain ⟨h1, h⟩ := Bool.and_eq_true_iff.mp h
  obtain ⟨h2, h⟩ := Bool.and_eq_true_iff.mp h
  obtain ⟨h3, h⟩ := Bool.and_eq_true_iff.mp h
  obtain ⟨h4, h5⟩ := Bool.and_eq_true_iff.mp h
  refine ⟨of_decide_eq_true h1, fun y hy => of_decide_eq_true (List.all_eq_true.mp h2 y hy), fun p hp => of_decide_eq_true (List.all_eq_true.mp h3 p hp), fun y hy hf => ?_, fun y hy hl => ?_⟩
  · rcases Bool.or_eq_true_iff.mp (List.all_eq_true.mp h4 y hy) with z | z
    · rw [decide_eq_true hf] at z; cases z
    · rcases Bool.or_eq_true_iff.mp z with z | z
      · exact .inl (of_decide_eq_true z)
      · exact .inr (of_decide_eq_true z)
  · rcases Bool.or_eq_true_iff.mp (List.all_eq_true.mp h5 y hy) with z | z
    · rcases hl with e | e <;> rw [e] at z <;> cases z
    · rcases Bool.or_eq_true_iff.mp z with z | z
      · exact .inl (List.contains_iff_mem.mp z)
      · refine .inr fun h => ?_
        rw [List.contains_iff_mem.mpr h] at z
        cases z
def CTs (I : Mi) (N : List Str) (l : Pl) (es : List Expr) (d : TD) : Prop := ∀ {fa : Nat → Addr} {C : Calls} {lv : Nat} {ca : Cc} {W : WX} {X : Cx}, Gx I N l fa C lv ca W X → PTs X es (tSemT X.K fa ca W d C)
def cIfs (T : ∀ e, OT I N l e) (es : List Expr) : Option {d : TD // CTs I N l es d} := match es with
  | [] => some ⟨tests [], fun g => ⟨fun pins s σ H Q I' h => by
      obtain ⟨G, F, ρ, S, h⟩ := h
      exact pts_nil.run pins s σ H Q I' (h F H S Ext.refl)⟩⟩
  | [t] => match T t with
    | some d => some ⟨d.1, fun g => pts_one (d.2 g)⟩
    | none => none
  | _ => none
abbrev Pl.blk (l : Pl) (scope : Scope) : Pl := ⟨relS scope l.sc, fun x => scope.names.lookup x == some .cell, none⟩
theorem Gx.hot {fa : Nat → Addr} {C : Calls} {lv : Nat} {ca : Cc} {W : WX} {X : Cx} (g : Gx I N l fa C lv ca W X) (h : l.hot = none) : Gx I N ⟨l.sc, l.fn, none⟩ fa C lv ca W X := by
  have e : l = ⟨l.sc, l.fn, none⟩ := by cases l; cases h; rfl
  rw [← e]; exact g
/-- the parts of a comprehension -/
structure CompP (I : Mi) (N : List Str) (l : Pl) (tg iter : Expr) (ifs : List Expr) (elt : Expr) (scope : Scope) where
  own : List (Str × Nat)
  it : {d : ID // CI I N l tg iter d}
  T : {T : Tg // ∀ {fa : Nat → Addr} {C : Calls} {lv : Nat} {ca : Cc} {W : WX} {X : Cx}, Gx I N (l.blk scope) fa C lv ca W X → PG X tg (T.g X.K)}
  ts : {d : TD // CTs I N (l.blk scope) ifs d}
  el : {d : Den // CE I N (l.blk scope) elt d}
  hb : blkB N l.sc scope own = true
  hs : T.1.slots.all (own.map (·.2)).contains = true
  hh : noneB l.hot = true
  hn : nset iter = true
def CompP.den {tg iter : Expr} {ifs : List Expr} {elt : Expr} {scope : Scope} (c : CompP I N l tg iter ifs elt scope) : Den := dComp (c.own.map (·.2)) c.it.1 c.T.1 c.ts.1 c.el.1
theorem CompP.read {tg iter : Expr} {ifs : List Expr} {elt : Expr} {scope : Scope} (c : CompP I N l tg iter ifs elt scope) {K : PySem.W.Frag} {fa : Nat → Addr} {C : Calls} {ca : Cc} {W : WX} {σ : L2.St} {H : Hp} {Q : VK} (h : tSem K fa ca W c.den C σ H Q) :
    tLc (tSemI K fa ca W c.it.1 C) (c.T.1.g K) (tSemT K fa ca WN c.ts.1 C) (tSem K fa ca WN c.el.1 C) (c.own.map (·.2)) σ H Q :=
  comp_read (tg_g c.T.1) (fun i hi => List.contains_iff_mem.mp (List.all_eq_true.mp c.hs i hi)) (fun _ _ _ h => h) (fun _ _ _ h => h) h
theorem CompP.pe {tg iter : Expr} {ifs : List Expr} {elt : Expr} {scope : Scope} {pos : Pos} (c : CompP I N l tg iter ifs elt scope) : CE I N l (.ListComp elt [⟨tg, iter, ifs, 0⟩] scope pos) c.den := fun {fa C lv ca W X} g => by
  have hh := noneB_ok c.hh
  have g' := g.hot hh
  refine pe_le (pe_lc (g.calm hh) g.ndX (c.it.2 g) (by rw [g.hN, g.hsc]; exact blkB_ok c.hb) (fun s H Cd cl fp => c.T.2 (g'.blk scope s H Cd cl fp)) (fun s H Cd cl fp => c.ts.2 (g'.blk scope s H Cd cl fp)) (fun s H Cd cl fp => c.el.2 (g'.blk scope s H Cd cl fp)) (nset_iter c.hn)) fun σ H Q h => c.read h
def cCompP (c : Cmp I N) (tg iter : Expr) (ifs : List Expr) (elt : Expr) (scope : Scope) : Option (CompP I N l tg iter ifs elt scope) :=
  match cIter (c.E l) tg iter, (cTg tg : OG I N (l.blk scope) tg), cIfs (c.T (l.blk scope)) ifs, c.E (l.blk scope) elt with
  | some it, some T, some ts, some el => if hb : blkB N l.sc scope (ownOf N scope.names) = true then if hs : T.1.slots.all ((ownOf N scope.names).map (·.2)).contains = true then if hh : noneB l.hot = true then if hn : nset iter = true then
      some ⟨ownOf N scope.names, it, T, ts, el, hb, hs, hh, hn⟩ else none else none else none else none
  | _, _, _, _ => none
/-- the parts of a comprehension of two fors -/
structure CompP2 (I : Mi) (N : List Str) (l : Pl) (tg iter : Expr) (ifs : List Expr) (tg1 iter1 : Expr) (ifs1 : List Expr) (elt : Expr) (scope : Scope) where
  own : List (Str × Nat)
  it : {d : ID // CI I N l tg iter d}
  T : {T : Tg // ∀ {fa : Nat → Addr} {C : Calls} {lv : Nat} {ca : Cc} {W : WX} {X : Cx}, Gx I N (l.blk scope) fa C lv ca W X → PG X tg (T.g X.K)}
  ts : {d : TD // CTs I N (l.blk scope) ifs d}
  it1 : {d : ID // CI I N (l.blk scope) tg1 iter1 d}
  T1 : {T : Tg // ∀ {fa : Nat → Addr} {C : Calls} {lv : Nat} {ca : Cc} {W : WX} {X : Cx}, Gx I N (l.blk scope) fa C lv ca W X → PG X tg1 (T.g X.K)}
  ts1 : {d : TD // CTs I N (l.blk scope) ifs1 d}
  el : {d : Den // CE I N (l.blk scope) elt d}
  hb : blkB N l.sc scope own = true
  hs : T.1.slots.all (own.map (·.2)).contains = true
  hs1 : T1.1.slots.all (own.map (·.2)).contains = true
  hh : noneB l.hot = true
  hn : nset iter = true
  hn1 : nset iter1 = true
abbrev CompP2.vs1 {tg iter : Expr} {ifs : List Expr} {tg1 iter1 : Expr} {ifs1 : List Expr} {elt : Expr} {scope : Scope} (c : CompP2 I N l tg iter ifs tg1 iter1 ifs1 elt scope) : List Nat := c.T1.1.slots
theorem CompP2.hv {tg iter : Expr} {ifs : List Expr} {tg1 iter1 : Expr} {ifs1 : List Expr} {elt : Expr} {scope : Scope} (c : CompP2 I N l tg iter ifs tg1 iter1 ifs1 elt scope) : ∀ i ∈ c.vs1, i ∈ c.own.map (·.2) := fun i hi => List.contains_iff_mem.mp (List.all_eq_true.mp c.hs1 i hi)
def CompP2.den {tg iter : Expr} {ifs : List Expr} {tg1 iter1 : Expr} {ifs1 : List Expr} {elt : Expr} {scope : Scope} (c : CompP2 I N l tg iter ifs tg1 iter1 ifs1 elt scope) : Den := dComp2 (c.own.map (·.2)) c.vs1 c.it.1 c.T.1 c.ts.1 c.it1.1 c.T1.1 c.ts1.1 c.el.1
abbrev CompP2.te {tg iter : Expr} {ifs : List Expr} {tg1 iter1 : Expr} {ifs1 : List Expr} {elt : Expr} {scope : Scope} (c : CompP2 I N l tg iter ifs tg1 iter1 ifs1 elt scope) (K : PySem.W.Frag) (fa : Nat → Addr) (C : Calls) (ca : Cc) (W : WX) : TE :=
  tLc2 (tSemI K fa ca W c.it.1 C) (c.T.1.g K) (tSemT K fa ca WN c.ts.1 C) (tSemI K fa ca WN c.it1.1 C) (c.T1.1.g K) (tSemT K fa ca WN c.ts1.1 C) (tSem K fa ca WN c.el.1 C) (c.own.map (·.2)) c.vs1
theorem CompP2.read {tg iter : Expr} {ifs : List Expr} {tg1 iter1 : Expr} {ifs1 : List Expr} {elt : Expr} {scope : Scope} (c : CompP2 I N l tg iter ifs tg1 iter1 ifs1 elt scope) {K : PySem.W.Frag} {fa : Nat → Addr} {C : Calls} {ca : Cc} {W : WX} {σ : L2.St} {H : Hp} {Q : VK} (h : tSem K fa ca W c.den C σ H Q) : c.te K fa C ca W σ H Q :=
  comp2_read (tg_g c.T.1) (tg_g c.T1.1) (fun i hi => List.contains_iff_mem.mp (List.all_eq_true.mp c.hs i hi)) (fun i hi => hi) c.hv (fun _ _ _ h => h) (fun _ _ _ h => h) (fun _ _ _ h => h) (fun _ _ _ h => h) h
theorem CompP2.pe {tg iter : Expr} {ifs : List Expr} {tg1 iter1 : Expr} {ifs1 : List Expr} {elt : Expr} {scope : Scope} {pos : Pos} (c : CompP2 I N l tg iter ifs tg1 iter1 ifs1 elt scope) : CE I N l (.ListComp elt [⟨tg, iter, ifs, 0⟩, ⟨tg1, iter1, ifs1, 0⟩] scope pos) c.den := fun {fa C lv ca W X} g => by
  have hh := noneB_ok c.hh
  have g' := g.hot hh
  refine pe_le (pe_lc2 (g.calm hh) g.ndX (c.it.2 g) (by rw [g.hN, g.hsc]; exact blkB_ok c.hb) c.hv (fun s H Cd cl fp => c.T.2 (g'.blk scope s H Cd cl fp)) (fun s H Cd cl fp => c.ts.2 (g'.blk scope s H Cd cl fp)) (fun s H Cd cl fp => c.it1.2 (g'.blk scope s H Cd cl fp)) (fun s H Cd cl fp => c.T1.2 (g'.blk scope s H Cd cl fp)) (fun s H Cd cl fp => c.ts1.2 (g'.blk scope s H Cd cl fp)) (fun s H Cd cl fp => c.el.2 (g'.blk scope s H Cd cl fp)) (nset_iter c.hn) (fun _ => nset_iter c.hn1)) fun σ H Q h => c.read h
def cCompP2 (c : Cmp I N) (tg iter : Expr) (ifs : List Expr) (tg1 iter1 : Expr) (ifs1 : List Expr) (elt : Expr) (scope : Scope) : Option (CompP2 I N l tg iter ifs tg1 iter1 ifs1 elt scope) :=
  match cIter (c.E l) tg iter, (cTg tg : OG I N (l.blk scope) tg), cIfs (c.T (l.blk scope)) ifs, cIter (c.E (l.blk scope)) tg1 iter1, (cTg tg1 : OG I N (l.blk scope) tg1), cIfs (c.T (l.blk scope)) ifs1, c.E (l.blk scope) elt with
  | some it, some T, some ts, some it1, some T1, some ts1, some el => if hb : blkB N l.sc scope (ownOf N scope.names) = true then if hs : T.1.slots.all ((ownOf N scope.names).map (·.2)).contains = true then if hs1 : T1.1.slots.all ((ownOf N scope.names).map (·.2)).contains = true then if hh : noneB l.hot = true then if hn : nset iter = true then if hn1 : nset iter1 = true then
      some ⟨ownOf N scope.names, it, T, ts, it1, T1, ts1, el, hb, hs, hs1, hh, hn, hn1⟩ else none else none else none else none else none else none
  | _, _, _, _, _, _, _ => none
def cComp (c : Cmp I N) (elt : Expr) (gs : List Comprehension) (scope : Scope) (pos : Pos) : OE I N l (.ListComp elt gs scope pos) := match gs with
  | [⟨tg, iter, ifs, 0⟩] => match (cCompP c tg iter ifs elt scope : Option (CompP I N l tg iter ifs elt scope)) with
    | some p => some ⟨p.den, p.pe⟩
    | none => none
  | [⟨tg, iter, ifs, 0⟩, ⟨tg1, iter1, ifs1, 0⟩] => match (cCompP2 c tg iter ifs tg1 iter1 ifs1 elt scope : Option (CompP2 I N l tg iter ifs tg1 iter1 ifs1 elt scope)) with
    | some p => some ⟨p.den, p.pe⟩
    | none => none
  | _ => none
/-! ### list(range(..)) -/
def cLRg (E : ∀ e, OE I N l e) (x : Str) (p : Pos) (as : List Expr) (pos : Pos) : OE I N l (.Call (.Name x p) as [] pos) := match as with
  | [.Call (.Name y q) bs [] pos2] => if h0 : x = "list" then if h1 : y = "range" then if h2 : glB l.sc x = true then if h3 : glB l.sc y = true then if h4 : I.free.contains x = true then if h5 : I.free.contains y = true then if h6 : noneB l.hot = true then match bs with
    | [a] => match E a with
      | some d => if h7 : nst a = true then some ⟨dLR1 d.1, fun g => by
          have hg := g.gl h2
          have hg2 := g.gl h3
          have hm := g.m.free _ h4
          have hm2 := g.m.free _ h5
          subst h0
          subst h1
          exact sim_lr1 (d.2 g) fun ha => pe_listRg (g.calm (noneB_ok h6)) hg hm (prg_1 hg2 hm2 ha (star_cons h7)) (star_one rfl)⟩ else none
      | none => none
    | [a, b] => match E a, E b with
      | some da, some db => if h7 : nst a = true then if h8 : nst b = true then some ⟨dLR2 da.1 db.1, fun g => by
          have hg := g.gl h2
          have hg2 := g.gl h3
          have hm := g.m.free _ h4
          have hm2 := g.m.free _ h5
          subst h0
          subst h1
          exact sim_lr2 (da.2 g) (db.2 g) fun ha hb => pe_listRg (g.calm (noneB_ok h6)) hg hm (prg_2 hg2 hm2 ha hb (star_cons h7) (star_cons h8) (by rw [star_one h8]; rfl)) (star_one rfl)⟩ else none else none
      | _, _ => none
    | _ => none else none else none else none else none else none else none else none
  | _ => none
/-! ### expressions -/
def cCall (E : ∀ e, OE I N l e) (f : Expr) (as : List Expr) (kws : List Keyword) (pos : Pos) : OE I N l (.Call f as kws pos) := match f, as, kws with
  | .Name x p, as, [] => orE (cDefV E x p as pos) fun _ => orE (cDef E x p as pos) fun _ => orE (cDefH E x p as pos) fun _ => orE (cIsX x p as pos) fun _ => orE (cIsi E x p as pos) fun _ => orE (cLRg E x p as pos) fun _ => orE (cBlt E x p as pos) fun _ => cMod E x p as pos
  | .Name x p, [], kws => cDefK E x p kws pos
  | .Attribute o m ap, as, [] => cPop E o m ap as pos
  | _, _, _ => none
def cExpr (c : Cmp I N) (l : Pl) (e : Expr) : OE I N l e := match e with
  | .Constant v k p => cCon v k p
  | .Name x p => cName x p
  | .BinOp a op b p => cBin (c.E l) a op b p
  | .UnaryOp op a p => cUn (c.E l) op a p
  | .BoolOp .And es p => cAnd (c.E l) p es
  | .BoolOp .Or es p => cOr (c.E l) p es
  | .IfExp t a b p => match c.T l t, c.E l a, c.E l b with
    | some dt, some da, some db => some ⟨dIf dt.1 da.1 db.1, fun g => sim_if (dt.2 g) (da.2 g) (db.2 g)⟩
    | _, _, _ => none
  | .Compare a ops bs p => cCmp (c.E l) a ops bs p
  | .Call f as kws p => cCall (c.E l) f as kws p
  | .Subscript a b p => cSub (c.E l) a b p
  | .Tuple es k p => match cAll (c.E l) es with
    | some ds => if h : ds.1.length ≤ 1000 then some ⟨dTup ds.1, fun g => sim_tup (ds.2.1 g) h⟩ else none
    | none => none
  | .List es p => match cAll (c.E l) es with
    | some ds => if h : ds.1.length ≤ 1000 then some ⟨dLst ds.1, fun g => sim_lst (ds.2.1 g) h⟩ else none
    | none => none
  | .ListComp elt gs scope p => cComp c elt gs scope p
  | .Attribute o f p => cFld o f p
  | _ => none
def cmp (I : Mi) (N : List Str) : Nat → Cmp I N
  | 0 => ⟨fun _ _ => none, fun _ _ => none⟩
  | n + 1 => ⟨fun l e => cExpr (cmp I N n) l e, fun l e => cTest ((cmp I N n).E l) ((cmp I N n).T l) e⟩
end
end RX
set_option Elab.async false
set_option linter.all false
set_option maxRecDepth 100000
set_option maxHeartbeats 4000000
/-! RXq: the compiler of statements. -/
namespace RX
open PySem PySem.Spec PyProof.Rows L2
section
variable (I : Mi) (N : List Str) (l : Pl)
def CS (s : Stmt) (d : DS) : Prop := ∀ {fa : Nat → Addr} {C : Calls} {lv : Nat} {ca : Cc} {W : WX} {X : Cx}, Gs I N l fa C lv ca W X → SimS fa ca W C X s d
def CB (s : List Stmt) (d : DS) : Prop := ∀ {fa : Nat → Addr} {C : Calls} {lv : Nat} {ca : Cc} {W : WX} {X : Cx}, Gs I N l fa C lv ca W X → SimB fa ca W C X s d
abbrev OS (s : Stmt) := Option {d : DS // CS I N l s d}
abbrev OB (s : List Stmt) := Option {d : DS // CB I N l s d}
end
section
variable {I : Mi} {N : List Str} {l : Pl}
theorem Gs.hot {fa : Nat → Addr} {C : Calls} {lv : Nat} {ca : Cc} {W : WX} {X : Cx} (g : Gs I N l fa C lv ca W X) (h : l.hot = none) : Gs I N ⟨l.sc, l.fn, none⟩ fa C lv ca W X := by
  have e : l = ⟨l.sc, l.fn, none⟩ := by cases l; cases h; rfl
  rw [← e]; exact g
def cBlk (S : ∀ s, OS I N l s) : ∀ ss, OB I N l ss
  | [] => some ⟨sPass, fun g => sim_bnil⟩
  | [s] => match S s with
    | some d => some ⟨d.1, fun g => sim_bone (d.2 g)⟩
    | none => none
  | s :: t :: r => match S s, cBlk S (t :: r) with
    | some d, some ds => some ⟨sSeq d.1 ds.1, fun g => sim_bcons (d.2 g) (ds.2 g)⟩
    | _, _ => none
/-- no comprehension -/
def ncomp : Expr → Bool
  | .ListComp _ _ _ _ => false
  | .SetComp _ _ _ _ => false
  | .DictComp _ _ _ _ _ => false
  | _ => true
theorem ncomp_ok {e : Expr} {t : Option Expr} {n : Nat} {env : PySem.Env} (h : ncomp e = true) : swapsWith e t n env = pure false := by
  cases e <;> first | rfl | cases h
theorem ncomp_sole {t e : Expr} {n : Nat} {env : PySem.Env} (h : ncomp e = true) : swapsWithSole [t] e n env = pure false := ncomp_ok h
theorem sub_asg {o i : Expr} {pos : Pos} {env : PySem.Env} (h : nslice i = true) (v : Value) : assign (.Subscript o i pos) env v = (do
      let ov ← holding [v] (eval o env)
      let iv ← holding [v, ov] (eval i env)
      standAt pos
      holding [v, ov, iv] (setItem ov iv v)
      release [v, ov, iv] []) := by
  cases i <;> first | rfl | cases h
def ntup : Expr → Bool
  | .Tuple _ _ _ => false
  | _ => true
theorem ntup_ok {e : Expr} {ts : List Expr} {k : Nat} {p : Pos} {env : PySem.Env} (h : ntup e = true) : swappedStores [.Tuple ts k p] e env = pure none := by
  cases e <;> first | rfl | cases h
def cSetC (E : Cmp I N) (x : Str) (p : Pos) (elt : Expr) (gs : List Comprehension) (scope : Scope) (cp sp : Pos) : OS I N l (.Assign [.Name x p] (.ListComp elt gs scope cp) sp) := match gs, h0 : ixOf N x with
  | [⟨tg, iter, ifs, 0⟩], some i => if h1 : lclB l.sc x = true then if h2 : (p.line == cp.line) = true then if h3 : (scope.names.any fun (n, k) => n == x && (k == .local || k == .cell)) = false then
      match (cCompP E tg iter ifs elt scope : Option (CompP I N l tg iter ifs elt scope)) with
      | none => none
      | some c => some ⟨sSet i c.den, fun {fa C lv ca W X} g => by
          have hh := noneB_ok c.hh
          have g' := g.g.hot hh
          have hl : X.env.scope.names.lookup x = some .local := by rw [g.g.hsc]; exact lclB_ok h1
          have hk : X.env.scope.kind = .function := by rw [g.g.hsc]; exact g.kd
          refine sim_set (t := tLc (tSemI X.K fa ca W c.it.1 C) (c.T.1.g X.K) (tSemT X.K fa ca WN c.ts.1 C) (tSem X.K fa ca WN c.el.1 C) (c.own.map (·.2))) (fun σ H Q h => c.read h) ?_
          exact ps_setLc (g.g.calm hh) g.g.ndX (g.g.ix (ixOf_ok h0)) hl (sw_true hk hl h2 h3) (c.it.2 g.g) (by rw [g.g.hN, g.g.hsc]; exact blkB_ok c.hb) (fun s H Cd cl fp => c.T.2 (g'.blk scope s H Cd cl fp)) (fun s H Cd cl fp => c.ts.2 (g'.blk scope s H Cd cl fp)) (fun s H Cd cl fp => c.el.2 (g'.blk scope s H Cd cl fp)) (nset_iter c.hn)⟩
    else none else none else none
  | [⟨tg, iter, ifs, 0⟩, ⟨tg1, iter1, ifs1, 0⟩], some i => if h1 : lclB l.sc x = true then if h2 : (p.line == cp.line) = true then if h3 : (scope.names.any fun (n, k) => n == x && (k == .local || k == .cell)) = false then
      match (cCompP2 E tg iter ifs tg1 iter1 ifs1 elt scope : Option (CompP2 I N l tg iter ifs tg1 iter1 ifs1 elt scope)) with
      | none => none
      | some c => some ⟨sSet i c.den, fun {fa C lv ca W X} g => by
          have hh := noneB_ok c.hh
          have g' := g.g.hot hh
          have hl : X.env.scope.names.lookup x = some .local := by rw [g.g.hsc]; exact lclB_ok h1
          have hk : X.env.scope.kind = .function := by rw [g.g.hsc]; exact g.kd
          refine sim_set (t := c.te X.K fa C ca W) (fun σ H Q h => c.read h) ?_
          exact ps_setLc2 (g.g.calm hh) g.g.ndX (g.g.ix (ixOf_ok h0)) hl (sw_true hk hl h2 h3) (c.it.2 g.g) (by rw [g.g.hN, g.g.hsc]; exact blkB_ok c.hb) c.hv (fun s H Cd cl fp => c.T.2 (g'.blk scope s H Cd cl fp)) (fun s H Cd cl fp => c.ts.2 (g'.blk scope s H Cd cl fp)) (fun s H Cd cl fp => c.it1.2 (g'.blk scope s H Cd cl fp)) (fun s H Cd cl fp => c.T1.2 (g'.blk scope s H Cd cl fp)) (fun s H Cd cl fp => c.ts1.2 (g'.blk scope s H Cd cl fp)) (fun s H Cd cl fp => c.el.2 (g'.blk scope s H Cd cl fp)) (nset_iter c.hn) (fun _ => nset_iter c.hn1)⟩
    else none else none else none
  | _, _ => none
/-- x = [..], x a cell: no swap -/
def celB (sc : Scope) (x : Str) : Bool := match kd sc x with
  | some .cell => true
  | _ => false
theorem celB_ok {sc : Scope} {x : Str} (h : celB sc x = true) : sc.names.lookup x = some .cell := by
  unfold celB at h
  split at h
  · rename_i e; exact e
  · cases h
theorem sw_cell {elt : Expr} {gs : List Comprehension} {scope : Scope} {pos py : Pos} {y : Str} {k : Nat} {env : PySem.Env} (hy : env.scope.names.lookup y = some .cell) : swapsWith (.ListComp elt gs scope pos) (some (.Name y py)) k env = pure false := by
  have ky : env.kindOf y = some .cell := hy
  unfold swapsWith
  have e : (NameKind.cell == NameKind.local) = false := rfl
  simp [ky, e]
def cSetD (E : Cmp I N) (x : Str) (p : Pos) (elt : Expr) (gs : List Comprehension) (scope : Scope) (cp sp : Pos) : OS I N l (.Assign [.Name x p] (.ListComp elt gs scope cp) sp) := match h0 : ixOf N x, E.E l (.ListComp elt gs scope cp) with
  | some i, some d => if h1 : celB l.sc x = true then if h2 : l.fn x = true then some ⟨sSet i d.1, fun {fa C lv ca W X} g => by
      have hc : X.env.scope.names.lookup x = some .cell := by rw [g.g.hsc]; exact celB_ok h1
      exact sim_set (fun σ H Q h => h) (ps_set g.g.ndX (g.g.ix (ixOf_ok h0)) (.inr hc) (d.2 g.g) (sw_cell hc) (.inl (by rw [g.g.hfn]; exact h2)))⟩ else none else none
  | _, _ => none
def cSet (E : Cmp I N) (x : Str) (p : Pos) (e : Expr) (sp : Pos) : OS I N l (.Assign [.Name x p] e sp) := match h0 : ixOf N x, E.E l e with
  | some i, some d => if h1 : locB l.sc x = true then if h2 : (l.fn x || lclB l.sc x) = true then if h3 : ncomp e = true then some ⟨sSet i d.1, fun {fa C lv ca W X} g => by
      refine sim_set (fun σ H Q h => h) (ps_set g.g.ndX (g.g.ix (ixOf_ok h0)) (by rw [g.g.hsc]; exact locB_ok h1) (d.2 g.g) (ncomp_ok h3) ?_)
      rcases Bool.or_eq_true_iff.mp h2 with z | z
      · exact .inl (by rw [g.g.hfn]; exact z)
      · exact .inr (by rw [g.g.hsc]; exact lclB_ok z)⟩ else none else none else none
  | _, _ => none
def cPar (E : Cmp I N) (x y : Str) (px py pt pt2 : Pos) (kt k2 : Nat) (a b : Expr) (sp : Pos) : OS I N l (.Assign [.Tuple [.Name x px, .Name y py] kt pt] (.Tuple [a, b] k2 pt2) sp) := match hx : ixOf N x, hy : ixOf N y, E.E l a, E.E l b with
  | some i, some j, some da, some db => if h1 : lclB l.sc x = true then if h2 : lclB l.sc y = true then if h3 : (py.line == px.line) = true then if h4 : (x == y) = false then if h5 : nst a = true then if h6 : nst b = true then
      if h7 : (foldedForSure 8 a && foldedForSure 8 b) = false then if h8 : (constantsAlone 8 a && constantsAlone 8 b) = false then if h9 : noneB l.hot = true then if h10 : i ≠ j then some ⟨sPar i j da.1 db.1, fun {fa C lv ca W X} g => by
        have hlx : X.env.scope.names.lookup x = some .local := by rw [g.g.hsc]; exact lclB_ok h1
        have hly : X.env.scope.names.lookup y = some .local := by rw [g.g.hsc]; exact lclB_ok h2
        have hk : X.env.scope.kind = .function := by rw [g.g.hsc]; exact g.kd
        refine sim_par (sim_cons (da.2 g.g) (sim_cons (db.2 g.g) sim_nil (star_cons h6)) (star_cons h5)) fun ha => ?_
        exact ps_par (g.g.calm (noneB_ok h9)) g.g.ndX (g.g.ix (ixOf_ok hx)) (g.g.ix (ixOf_ok hy)) h10 hlx hly ha (par_sw hk hlx hly h3 h4 h5 h6 h7 h8)⟩
      else none else none else none else none else none else none else none else none else none else none
  | _, _, _, _ => none
def cPar3 (E : Cmp I N) (x y z : Str) (px py pz pt pt2 : Pos) (kt k2 : Nat) (a b c : Expr) (sp : Pos) : OS I N l (.Assign [.Tuple [.Name x px, .Name y py, .Name z pz] kt pt] (.Tuple [a, b, c] k2 pt2) sp) := match hx : ixOf N x, hy : ixOf N y, hz : ixOf N z, E.E l a, E.E l b, E.E l c with
  | some i, some j, some k, some da, some db, some dc => if h1 : (lclB l.sc x && lclB l.sc y && lclB l.sc z) = true then if h3 : ((py.line == px.line) && (pz.line == px.line)) = true then if h4 : ((x == y) || (x == z) || (y == z)) = false then if h5 : (nst a && nst b && nst c) = true then
      if h7 : (foldedForSure 8 a && foldedForSure 8 b && foldedForSure 8 c) = false then if h8 : (constantsAlone 8 a && constantsAlone 8 b && constantsAlone 8 c) = false then if h9 : noneB l.hot = true then if h10 : i ≠ j ∧ i ≠ k ∧ j ≠ k then some ⟨sPar3 i j k da.1 db.1 dc.1, fun {fa C lv ca W X} g => by
        obtain ⟨h12, hlz'⟩ := Bool.and_eq_true_iff.mp h1
        obtain ⟨hlx', hly'⟩ := Bool.and_eq_true_iff.mp h12
        obtain ⟨p1, p2⟩ := Bool.and_eq_true_iff.mp h3
        obtain ⟨h45, h46⟩ := Bool.or_eq_false_iff.mp h4
        obtain ⟨h47, h48⟩ := Bool.or_eq_false_iff.mp h45
        obtain ⟨h55, n3⟩ := Bool.and_eq_true_iff.mp h5
        obtain ⟨n1, n2⟩ := Bool.and_eq_true_iff.mp h55
        have hlx : X.env.scope.names.lookup x = some .local := by rw [g.g.hsc]; exact lclB_ok hlx'
        have hly : X.env.scope.names.lookup y = some .local := by rw [g.g.hsc]; exact lclB_ok hly'
        have hlz : X.env.scope.names.lookup z = some .local := by rw [g.g.hsc]; exact lclB_ok hlz'
        have hk : X.env.scope.kind = .function := by rw [g.g.hsc]; exact g.kd
        refine sim_par3 (sim_cons (da.2 g.g) (sim_cons (db.2 g.g) (sim_cons (dc.2 g.g) sim_nil (star_cons n3)) (star_cons n2)) (star_cons n1)) fun ha => ?_
        exact ps_par3 (g.g.calm (noneB_ok h9)) g.g.ndX (g.g.ix (ixOf_ok hx)) (g.g.ix (ixOf_ok hy)) (g.g.ix (ixOf_ok hz)) h10.1 h10.2.1 h10.2.2 hlx hly hlz ha (par_sw3 hk hlx hly hlz p1 p2 h47 h48 h46 n1 n2 n3 h7 h8)⟩
      else none else none else none else none else none else none else none else none
  | _, _, _, _, _, _ => none
def cUnp (E : Cmp I N) (ts : List Expr) (k : Nat) (p : Pos) (e : Expr) (sp : Pos) : OS I N l (.Assign [.Tuple ts k p] e sp) := match (cStos ts : Option {ns : List Nat // ts.all isNm = true ∧ ns.length = ts.length ∧ ∀ {fa : Nat → Addr} {C : Calls} {lv : Nat} {ca : Cc} {W : WX} {X : Cx}, Gx I N l fa C lv ca W X → PGs X ts (gNames ns)}), E.E l e with
  | some ns, some d => if h1 : noneB l.hot = true then if h2 : ncomp e = true then if h3 : ntup e = true then some ⟨sUnp ns.1 d.1, fun {fa C lv ca W X} g => by
      obtain ⟨k1, k2⟩ := nms_each (env := X.env) ns.2.1
      exact sim_unp (fun σ H Q h => h) (ps_asg (d.2 g.g) (pg_tup (g.g.calm (noneB_ok h1)) (ns.2.2.2 g.g) (by rw [k1, ns.2.2.1]) k2) (ncomp_sole h2) (ntup_ok h3) rfl)⟩ else none else none else none
  | _, _ => none
def cPut (E : Cmp I N) (o k : Expr) (p : Pos) (e : Expr) (sp : Pos) : OS I N l (.Assign [.Subscript o k p] e sp) := match (cVar o : Option {i : Nat // CN I N l o i}), E.E l k, E.E l e with
  | some i, some dk, some d => if h2 : ncomp e = true then if h3 : nslice k = true then match (if isN I.als o then ixOf N gNm else none) with
      | some gi => some ⟨sPutA i.1 gi dk.1 d.1, fun {fa C lv ca W X} g => by
      exact sim_putA (p := sp) (i.2 g.g) (dk.2 g.g) (d.2 g.g) fun h ho hk => ps_asg h (pg_sub ho hk set_list (sub_asg h3)) (ncomp_sole h2) rfl rfl⟩
      | none => some ⟨sPut i.1 dk.1 d.1, fun {fa C lv ca W X} g => by
      exact sim_put (p := sp) (i.2 g.g) (dk.2 g.g) (d.2 g.g) fun h ho hk => ps_asg h (pg_sub ho hk set_list (sub_asg h3)) (ncomp_sole h2) rfl rfl⟩ else none else none
  | _, _, _ => none
def cAsg (E : Cmp I N) (ts : List Expr) (e : Expr) (sp : Pos) : OS I N l (.Assign ts e sp) := match ts, e with
  | [.Name x p], .ListComp elt gs scope cp => orE (cSetC E x p elt gs scope cp sp) fun _ => cSetD E x p elt gs scope cp sp
  | [.Name x p], e => cSet E x p e sp
  | [.Tuple [.Name x px, .Name y py] kt pt], .Tuple [a, b] k2 pt2 => cPar E x y px py pt pt2 kt k2 a b sp
  | [.Tuple [.Name x px, .Name y py, .Name z pz] kt pt], .Tuple [a, b, c] k2 pt2 => cPar3 E x y z px py pz pt pt2 kt k2 a b c sp
  | [.Tuple ts k p], e => cUnp E ts k p e sp
  | [.Subscript o k p], e => cPut E o k p e sp
  | _, _ => none
def cApp (E : Cmp I N) (o : Expr) (m : Str) (ap : Pos) (e : Expr) (cp sp : Pos) : OS I N l (.Expr (.Call (.Attribute o m ap) [e] [] cp) sp) := match (cVar o : Option {i : Nat // CN I N l o i}), E.E l e with
  | some i, some d => if h0 : m = "append" then if h1 : (ap.endLine == cp.line) = true then if h2 : isNm o = true then if h3 : nst e = true then some ⟨sApp i.1 d.1, fun {fa C lv ca W X} g => by
      subst h0
      exact sim_app (i.2 g.g) (d.2 g.g) (star_cons h3) fun h ha => ps_expr (pe_bm PySem.F.plainAttrs_list PySem.F.slot_list_append PySem.F.type_list_append mt_append h ha (nm_base h2) (few1 h3) h1 (star_cons h3) rfl) rfl⟩ else none else none else none else none
  | _, _ => none
def cExt (E : Cmp I N) (o : Expr) (m : Str) (ap : Pos) (e : Expr) (cp sp : Pos) : OS I N l (.Expr (.Call (.Attribute o m ap) [e] [] cp) sp) := match (cVar o : Option {i : Nat // CN I N l o i}), E.E l e with
  | some i, some d => if h0 : m = "extend" then if h1 : (ap.endLine == cp.line) = true then if h2 : isNm o = true then if h3 : nst e = true then some ⟨sExt i.1 d.1, fun {fa C lv ca W X} g => by
      subst h0
      exact sim_ext (i.2 g.g) (d.2 g.g) (star_cons h3) fun h ha => ps_expr (pe_bm PySem.F.plainAttrs_list PySem.F.slot_list_extend PySem.F.type_list_extend mt_extend h ha (nm_base h2) (few1 h3) h1 (star_cons h3) rfl) rfl⟩ else none else none else none else none
  | _, _ => none
def cExp (E : Cmp I N) (e : Expr) (sp : Pos) : OS I N l (.Expr e sp) :=
  orE (match e with
    | .Call (.Attribute o m ap) [e] [] cp => orE (cApp E o m ap e cp sp) fun _ => cExt E o m ap e cp sp
    | _ => none) fun _ => match E.E l e with
      | some d => if h : ncomp e = true then some ⟨sExpr d.1, fun g => sim_expr (fun σ H Q h => h) (ps_expr (d.2 g.g) (ncomp_ok h))⟩ else none
      | none => none
def cRaise (E : Cmp I N) (x : Str) (p : Pos) (as : List Expr) (cp sp : Pos) : OS I N l (.Raise (some (.Call (.Name x p) as [] cp)) none sp) := match as, h0 : I.cls.lookup x with
  | e :: es, some (c, fl) => match cAll (E.E l) (e :: es) with
    | none => none
    | some ds => if h1 : glB l.sc x = true then if h2 : okN x = true then if h3 : noneB l.hot = true then some ⟨sRaise c fl ds.1, fun {fa C lv ca W X} g => by
        obtain ⟨hm, G⟩ := g.g.m.cls x c fl h0
        obtain ⟨fI, fd, ps, iC, tI, F1, hb⟩ := G.init
        obtain ⟨hn1, hn2⟩ := Bool.and_eq_true_iff.mp (show (nst e && es.all nst) = true from ds.2.2.1)
        refine sim_raise (g.g.calm (noneB_ok h3)) g.g.tk G.nd G.ln (ds.2.1 g.g) fun ha => ?_
        exact pmk_oexN G.T iC tI F1 ((g.g.room (noneB_ok h3)).mono (by omega)) hb (L2N.passes_call g.g.tk fun _ _ _ _ z => z.elim) (g.g.gl h1) hm ha (okN_d h2) (star_cons hn1) (star_plain hn2)⟩ else none else none else none
  | _, _ => none
def cTry (S : ∀ l s, OS I N l s) (body : List Stmt) (x : Str) (np : Pos) (n : Str) (b₀ : Stmt) (suite : List Stmt) (hp sp : Pos) : OS I N l (.Try body [.ExceptHandler (some (.Name x np)) (some n) (b₀ :: suite) hp] [] [] sp) := match h0 : ixOf N n, h4 : I.exm.lookup x with
  | some i, some m => match cBlk (S ⟨l.sc, l.fn, none⟩) body, cBlk (S ⟨l.sc, l.fn, some i⟩) (b₀ :: suite) with
    | some db, some dh => if h1 : glB l.sc x = true then if h2 : okN x = true then if h3 : noneB l.hot = true then if h5 : lclB l.sc n = true then some ⟨sTry db.1 [⟨m, some i, dh.1⟩], fun {fa C lv ca W X} g => by
        have hh := noneB_ok h3
        have g' := g.hot hh
        obtain ⟨A, hm, hx⟩ := g.g.m.exm x m h4
        have hl : X.env.kindOf n = some .local := by
          show X.env.scope.names.lookup n = _
          rw [g.g.hsc]; exact lclB_ok h5
        refine sim_try (g.g.ex hh) hx (fun hb hs => L2N.ps_try_as (g.stk hh).1 (g.stk hh).2 g.g.ndX (g.g.ix (ixOf_ok h0)) hl ⟨g.g.gl h1, okN_d h2, .inl hm⟩ g.g.tk hb hs) (fun W' pn xe tk po => db.2 (g'.tr tk po)) (fun a oe cls d pn hz hf => dh.2 (g'.suite (List.getElem?_eq_some_iff.mp (ixOf_ok h0)).1 hz hf))⟩
      else none else none else none else none
    | _, _ => none
  | _, _ => none
/-- try: .. except C as n: .. except C' as n': .. -/
def cTry2 (S : ∀ l s, OS I N l s) (body : List Stmt) (x : Str) (np : Pos) (n : Str) (b₀ : Stmt) (suite : List Stmt) (hp : Pos) (x' : Str) (np' : Pos) (n' : Str) (b₀' : Stmt) (suite' : List Stmt) (hp' sp : Pos) : OS I N l (.Try body [.ExceptHandler (some (.Name x np)) (some n) (b₀ :: suite) hp, .ExceptHandler (some (.Name x' np')) (some n') (b₀' :: suite') hp'] [] [] sp) := match h0 : ixOf N n, h4 : I.exm.lookup x, k0 : ixOf N n', k4 : I.exm.lookup x' with
  | some i, some m, some j, some m' => match cBlk (S ⟨l.sc, l.fn, none⟩) body, cBlk (S ⟨l.sc, l.fn, some i⟩) (b₀ :: suite), cBlk (S ⟨l.sc, l.fn, some j⟩) (b₀' :: suite') with
    | some db, some dh, some dk => if h1 : glB l.sc x = true then if h2 : okN x = true then if h3 : noneB l.hot = true then if h5 : lclB l.sc n = true then if k1 : glB l.sc x' = true then if k2 : okN x' = true then if k5 : lclB l.sc n' = true then some ⟨sTry db.1 [⟨m, some i, dh.1⟩, ⟨m', some j, dk.1⟩], fun {fa C lv ca W X} g => by
        have hh := noneB_ok h3
        have g' := g.hot hh
        obtain ⟨A, hm, hx⟩ := g.g.m.exm x m h4
        obtain ⟨A', hm', hx'⟩ := g.g.m.exm x' m' k4
        have hl : X.env.kindOf n = some .local := by
          show X.env.scope.names.lookup n = _
          rw [g.g.hsc]; exact lclB_ok h5
        have hl' : X.env.kindOf n' = some .local := by
          show X.env.scope.names.lookup n' = _
          rw [g.g.hsc]; exact lclB_ok k5
        refine sim_try2 (g.g.ex hh) hx hx' (fun hb hs ht => L2N.ps_try_row (g.stk hh).1 (g.stk hh).2 g.g.ndX g.g.tk hb (.cons ⟨g.g.gl h1, okN_d h2, .inl hm⟩ (g.g.ix (ixOf_ok h0)) hl hs (.cons ⟨g.g.gl k1, okN_d k2, .inl hm'⟩ (g.g.ix (ixOf_ok k0)) hl' ht .nil))) (fun W' pn xe tk po => db.2 (g'.tr tk po)) (fun a oe cls d pn hz hf => dh.2 (g'.suite (List.getElem?_eq_some_iff.mp (ixOf_ok h0)).1 hz hf)) (fun a oe cls d pn hz hf => dk.2 (g'.suite (List.getElem?_eq_some_iff.mp (ixOf_ok k0)).1 hz hf))⟩
      else none else none else none else none else none else none else none
    | _, _, _ => none
  | _, _, _, _ => none
/-- try: .. except C: return True or False -/
def cTryC (S : ∀ l s, OS I N l s) (body : List Stmt) (x : Str) (np : Pos) (b : Bool) (kk : Nat) (kp rp hp sp : Pos) : OS I N l (.Try body [.ExceptHandler (some (.Name x np)) none [.Return (some (.Constant (.bool b) kk kp)) rp] hp] [] [] sp) := match h4 : I.exm.lookup x with
  | some m => match cBlk (S ⟨l.sc, l.fn, none⟩) body with
    | some db => if h1 : glB l.sc x = true then if h2 : okN x = true then if h3 : noneB l.hot = true then some ⟨sTryC db.1 m (.bl b), fun {fa C lv ca W X} g => by
        have hh := noneB_ok h3
        have g' := g.hot hh
        obtain ⟨A, hm, hx⟩ := g.g.m.exm x m h4
        exact sim_tryC (fun F H => .bl b) hx (fun hb hs => L2N.ps_try_many (g.stk hh).1 (g.stk hh).2 g.g.tk hb (.cons ⟨g.g.gl h1, okN_d h2, .inl hm⟩ hs .nil)) (fun W' pn xe tk po => db.2 (g'.tr tk po)) (fun a oe cls d pn hz hf => pss_one (ps_ret pe_bl))⟩
      else none else none else none
    | none => none
  | none => none
/-- for x in range(a), where an exception is handled, in a def called there -/
def cForH (E : Cmp I N) (S : ∀ l s, OS I N l s) (tg it : Expr) (body : List Stmt) (p : Pos) : OS I N l (.For tg it body [] p) := match tg, it, h3 : l.hot with
  | .Name y q, .Call (.Name x p') [a] [] pos, some i => match (cSto y : Option {i : Nat // ∀ {fa : Nat → Addr} {C : Calls} {lv : Nat} {ca : Cc} {W : WX} {X : Cx} {pos : Pos}, Gx I N l fa C lv ca W X → PG X (.Name y pos) (gName i)}), E.E l a, cBlk (S l) body with
    | some T, some d, some db => if h0 : x = "range" then if h1 : glB l.sc x = true then if h2 : I.free.contains x = true then if h4 : nst a = true then if h5 : N.length ≤ i then
        some ⟨sFor (.v T.1) (iR1 d.1) db.1, fun {fa C lv ca W X} g => by
          have hg := g.g.gl h1
          have hm := g.g.m.free _ h2
          obtain ⟨hc, _, _⟩ := g.g.hx i h3
          have po := g.own fun j z => by rw [h3] at z; cases z; exact h5
          subst h0
          have hi := L2H.pi_range1H (tg := .Name y q) hg hm (pa_cons (d.2 g.g) pa_nil (star_cons h4)) (p := p') (pos := pos) (star_one h4)
          exact sim_forG (Z := L2H.PIH X (.Name y q) _) tg_v ⟨fun pins s σ H R I' h => hi.run pins s σ H R I' (iR1_read h)⟩ (db.2 g) fun hj hb => L2H.ps_forH po hc hj (T.2 g.g) hb (nset_iter rfl)⟩
      else none else none else none else none else none
    | _, _, _ => none
  | _, _, _ => none
/-- return [.., x, ..], x the list within the deck that is made -/
def cRetDk (E : Cmp I N) : ∀ (e : Expr) (p : Pos), OS I N l (.Return (some e) p)
  | .List es pos, p => if es.any (isN I.als) = true then match ixOf N gNm, cArg (E.E l) es with
    | none, some ds => some ⟨sRetDk ds.1, fun g => sim_retDk (ds.2.1 g.g)⟩
    | _, _ => none else none
  | _, _ => none
/-- x = f(..), f a def that makes a deck, and the rest of the body -/
theorem Gs.deck {fa : Nat → Addr} {C : Calls} {lv : Nat} {ca : Cc} {W : WX} {X : Cx} (g : Gs I N l fa C lv ca W X) (b : Addr) : Gs I N l (updF fa b) C lv ca W X where
  g := ⟨g.g.mf _ fun n z => if_neg z, fun fa' h => g.g.mf fa' fun n z => (h n z).trans (if_neg z), g.g.hsc, g.g.hfn, g.g.hN, g.g.nd, g.g.un, g.g.calm, g.g.room, g.g.ex, g.g.tk, g.g.hx⟩
  own := g.own
  stk := g.stk
  kd := g.kd
def hidB (sc : Scope) (x : Str) : Bool := (sc.names.lookup x).isNone
theorem hidB_ok {sc : Scope} {x : Str} (h : hidB sc x = true) : ¬ Vis sc x := fun v => by
  unfold hidB at h
  rcases v with v | v | v <;> rw [v] at h <;> cases h
def cSeqD (E : Cmp I N) (s : Stmt) (rest : List Stmt) (R : OB I N l rest) : OB I N l (s :: rest) := match s, R with
  | .Assign [.Name x p] (.Call (.Name y py) (e :: es) [] pos) sp, some r => if I.dck.contains x = true then match h0 : I.fns.lookup y, hi : ixOf N x, hg : ixOf N gNm, cArg (E.E l) (e :: es) with
    | some f, some i, some gi, some ds => if h1 : glB l.sc y = true then if h2 : okN y = true then if h3 : noneB l.hot = true then if h4 : locB l.sc x = true then if h5 : (l.fn x || lclB l.sc x) = true then if h6 : hidB l.sc gNm = true then
        some ⟨sSeqD i gi f.ix ds.1 r.1, fun {fa C lv ca W X} g => by
          obtain ⟨hm, fd, F, _⟩ := g.g.m.fns y f h0
          have Fk := F.ok
          rw [cc_eq (g.g.ex (noneB_ok h3))] at Fk
          obtain ⟨hn1, hn2⟩ := Bool.and_eq_true_iff.mp (show (nst e && es.all nst) = true from ds.2.2)
          refine sim_seqD (x := gNm) (by rw [g.g.hN]; exact ixOf_ok hg) (by rw [g.g.hsc]; exact hidB_ok h6) (ds.2.1 g.g) (fun ha => pe_callS Fk (g.g.room (noneB_ok h3)) (g.g.gl h1) hm F.kp F.bd g.g.pass ha (okN_d h2) (star_cons hn1) (star_plain hn2))
            (fun h => ps_set g.g.ndX (g.g.ix (ixOf_ok hi)) (by rw [g.g.hsc]; exact locB_ok h4) h (ncomp_ok rfl) ?_) fun b => r.2 (g.deck b)
          rcases Bool.or_eq_true_iff.mp h5 with z | z
          · exact .inl (by rw [g.g.hfn]; exact z)
          · exact .inr (by rw [g.g.hsc]; exact lclB_ok z)⟩
      else none else none else none else none else none else none
    | _, _, _, _ => none else none
  | _, _ => none
noncomputable def cStmt (E : Cmp I N) (S : ∀ l s, OS I N l s) (l : Pl) (s : Stmt) : OS I N l s := match s with
  | .Pass p => some ⟨sPass, fun g => sim_pass⟩
  | .Break p => some ⟨sBrk, fun g => sim_brk⟩
  | .Continue p => some ⟨sCont, fun g => sim_cont⟩
  | .Return none p => some ⟨sRetN, fun g => sim_retN⟩
  | .Return (some e) p => match (cVar e : Option {i : Nat // CN I N l e i}) with
    | some i => some ⟨sRetV i.1, fun g => sim_retV (i.2 g.g)⟩
    | none => orE (cRetDk E e p) fun _ => match E.E l e with
      | some d => some ⟨sRet d.1, fun g => sim_ret (d.2 g.g)⟩
      | none => none
  | .If c a b p => match E.T l c, cBlk (S l) a, cBlk (S l) b with
    | some t, some da, some db => some ⟨sIf t.1 da.1 db.1, fun g => sim_ifS (t.2 g.g) (da.2 g) (db.2 g)⟩
    | _, _, _ => none
  | .For tg it body [] p => match (cTg tg : OG I N l tg), cIter (E.E l) tg it, cBlk (S l) body with
    | some T, some di, some db => if h1 : noneB l.hot = true then if h2 : nset it = true then some ⟨sFor T.1 di.1 db.1, fun g => sim_for (tg_g T.1) (di.2 g.g) (db.2 g) fun hi hb => ps_for (g.own (fun i z => by rw [noneB_ok h1] at z; cases z)) (g.g.calm (noneB_ok h1)) hi (T.2 g.g) hb (nset_iter h2)⟩ else none else cForH E S tg it body p
    | _, _, _ => none
  | .While c body [] p => match E.T l c, cBlk (S l) body with
    | some t, some db => if h1 : noneB l.hot = true then some ⟨sWhile t.1 db.1, fun g => sim_while (t.2 g.g) (db.2 g) fun hc hb => ps_while (g.own (fun i z => by rw [noneB_ok h1] at z; cases z)) hc hb⟩ else none
    | _, _ => none
  | .Assign ts e sp => cAsg E ts e sp
  | .Expr e sp => cExp E e sp
  | .Raise (some (.Call (.Name x p) as [] cp)) none sp => cRaise E x p as cp sp
  | .Try body [.ExceptHandler (some (.Name x np)) (some n) (b₀ :: suite) hp] [] [] sp => cTry S body x np n b₀ suite hp sp
  | .Try body [.ExceptHandler (some (.Name x np)) (some n) (b₀ :: suite) hp, .ExceptHandler (some (.Name x' np')) (some n') (b₀' :: suite') hp'] [] [] sp => cTry2 S body x np n b₀ suite hp x' np' n' b₀' suite' hp' sp
  | .Try body [.ExceptHandler (some (.Name x np)) none [.Return (some (.Constant (.bool b) kk kp)) rp] hp] [] [] sp => cTryC S body x np b kk kp rp hp sp
  | _ => none
noncomputable def cmpS (I : Mi) (N : List Str) (E : Cmp I N) : Nat → ∀ l s, OS I N l s
  | 0 => fun _ _ => none
  | n + 1 => fun l s => cStmt E (cmpS I N E n) l s
/-- a def's body -/
def isDk (I : Mi) : Stmt → Bool
  | .Assign [.Name x _] (.Call (.Name _ _) (_ :: _) [] _) _ => I.dck.contains x
  | _ => false
def cTop {I : Mi} {N : List Str} {l : Pl} (E : Cmp I N) (S : ∀ s, OS I N l s) : ∀ ss, OB I N l ss
  | s :: t :: r => if isDk I s = true then cSeqD E s (t :: r) (cBlk S (t :: r)) else cBlk S (s :: t :: r)
  | ss => cBlk S ss
noncomputable def cBodyH (I : Mi) (N : List Str) (sc : Scope) (body : List Stmt) : OB I N ⟨sc, fun _ => true, some N.length⟩ body := cBlk (cmpS I N (cmp I N 40) 12 ⟨sc, fun _ => true, some N.length⟩) body
noncomputable def cBody (I : Mi) (N : List Str) (sc : Scope) (body : List Stmt) : OB I N ⟨sc, fun _ => true, none⟩ body := cTop (cmp I N 40) (cmpS I N (cmp I N 40) 12 ⟨sc, fun _ => true, none⟩) body
end
end RX
set_option Elab.async false
set_option linter.all false
set_option maxRecDepth 100000
set_option maxHeartbeats 4000000
/-! RXr: a def keeps what the evaluator says of it. -/
namespace RX
open PySem PySem.Spec PyProof.Rows L2
section
variable {K : PySem.W.Frag} {fa : Nat → Addr} {F : Addr → Prop} {H : Hp}
/-- the slots that hold the caller's lists -/
def parsOf : Nat → List V → List Arg → List (Nat × Addr)
  | k, .ref a :: vs, .own _ :: as => (k, a) :: parsOf (k + 1) vs as
  | k, .ref a :: vs, .gh _ :: as => (k, a) :: parsOf (k + 1) vs as
  | k, _ :: vs, _ :: as => parsOf (k + 1) vs as
  | _, _, _ => []
theorem ArgL.get {vs : List V} {as : List Arg} (A : ArgL K fa F H vs as) : ∀ {i : Nat} {x : Arg}, as[i]? = some x → ∃ v, vs[i]? = some v ∧ match x with
    | .d y => Rp K fa F H v y
    | .own l => ∃ a xs, v = .ref a ∧ H a = some (.lst xs) ∧ ¬ F a ∧ RpL K fa F H xs l
    | .gh l => v = .ref (fa GI) ∧ ∃ xs, H (fa GI) = some (.lst xs) ∧ ¬ F (fa GI) ∧ RpL K fa F H xs l := by
  induction A with
  | nil => intro i x e; simp at e
  | d r t ih =>
    intro i x e
    cases i with
    | zero => simp at e; subst e; exact ⟨_, rfl, r⟩
    | succ i =>
      obtain ⟨v, h1, h2⟩ := ih (show _ = some x by simpa using e)
      exact ⟨v, by simpa using h1, h2⟩
  | own h1 h2 h3 t ih =>
    intro i x e
    cases i with
    | zero => simp at e; subst e; exact ⟨_, rfl, _, _, rfl, h1, h2, h3⟩
    | succ i =>
      obtain ⟨v, h1, h2⟩ := ih (show _ = some x by simpa using e)
      exact ⟨v, by simpa using h1, h2⟩
  | gh h1 h2 h3 t ih =>
    intro i x e
    cases i with
    | zero => simp at e; subst e; exact ⟨_, rfl, rfl, _, h1, h2, h3⟩
    | succ i =>
      obtain ⟨v, h1, h2⟩ := ih (show _ = some x by simpa using e)
      exact ⟨v, by simpa using h1, h2⟩
theorem pars_of {vs : List V} {as : List Arg} (A : ArgL K fa F H vs as) : ∀ {k i : Nat} {a : Addr}, (i, a) ∈ parsOf k vs as ↔ ∃ (j : Nat) (z : Arg), i = k + j ∧ as[j]? = some z ∧ z.isOwn = true ∧ vs[j]? = some (V.ref a) := by
  induction A with
  | nil => intro k i a; constructor <;> intro h
           · cases h
           · obtain ⟨j, l, _, h, _⟩ := h; simp at h
  | @d v x vs as r t ih =>
    intro k i a
    have e : parsOf k (v :: vs) (.d x :: as) = parsOf (k + 1) vs as := by cases v <;> rfl
    rw [e, ih]
    constructor
    · rintro ⟨j, l, rfl, h1, h2, h3⟩; exact ⟨j + 1, l, by omega, by simpa using h1, h2, by simpa using h3⟩
    · rintro ⟨j, l, rfl, h1, h2, h3⟩
      cases j with
      | zero => simp at h1; subst h1; cases h2
      | succ j => exact ⟨j, l, by omega, by simpa using h1, h2, by simpa using h3⟩
  | @own b xs l0 vs as k1 k2 k3 t ih =>
    intro k i a
    show (i, a) ∈ (k, b) :: parsOf (k + 1) vs as ↔ _
    constructor
    · intro h
      rcases List.mem_cons.mp h with h | h
      · cases h; exact ⟨0, .own l0, by omega, rfl, rfl, rfl⟩
      · obtain ⟨j, l, rfl, h1, h2, h3⟩ := ih.mp h
        exact ⟨j + 1, l, by omega, by simpa using h1, h2, by simpa using h3⟩
    · rintro ⟨j, l, rfl, h1, h2, h3⟩
      cases j with
      | zero =>
        simp at h1 h3
        subst h3
        exact List.mem_cons_self
      | succ j => exact List.mem_cons_of_mem _ (ih.mpr ⟨j, l, by omega, by simpa using h1, h2, by simpa using h3⟩)
  | @gh xs l0 vs as k1 k2 k3 t ih =>
    intro k i a
    show (i, a) ∈ (k, fa GI) :: parsOf (k + 1) vs as ↔ _
    constructor
    · intro h
      rcases List.mem_cons.mp h with h | h
      · cases h; exact ⟨0, .gh l0, by omega, rfl, rfl, rfl⟩
      · obtain ⟨j, l, rfl, h1, h2, h3⟩ := ih.mp h
        exact ⟨j + 1, l, by omega, by simpa using h1, h2, by simpa using h3⟩
    · rintro ⟨j, l, rfl, h1, h2, h3⟩
      cases j with
      | zero =>
        simp at h1 h3
        subst h3
        exact List.mem_cons_self
      | succ j => exact List.mem_cons_of_mem _ (ih.mpr ⟨j, l, by omega, by simpa using h1, h2, by simpa using h3⟩)
theorem oA_of {vs : List V} {as : List Arg} (A : ArgL K fa F H vs as) {a : Addr} : a ∈ oA vs as ↔ ∃ (j : Nat) (z : Arg), as[j]? = some z ∧ z.isOwn = true ∧ vs[j]? = some (V.ref a) := by
  induction A with
  | nil => constructor <;> intro h
           · cases h
           · obtain ⟨j, l, h, _⟩ := h; simp at h
  | @d v x vs as r t ih =>
    have e : oA (v :: vs) (.d x :: as) = oA vs as := by cases v <;> rfl
    rw [e, ih]
    constructor
    · rintro ⟨j, l, h1, h2, h3⟩; exact ⟨j + 1, l, by simpa using h1, h2, by simpa using h3⟩
    · rintro ⟨j, l, h1, h2, h3⟩
      cases j with
      | zero => simp at h1; subst h1; cases h2
      | succ j => exact ⟨j, l, by simpa using h1, h2, by simpa using h3⟩
  | @own b xs l0 vs as k1 k2 k3 t ih =>
    show a ∈ b :: oA vs as ↔ _
    constructor
    · intro h
      rcases List.mem_cons.mp h with h | h
      · cases h; exact ⟨0, .own l0, rfl, rfl, rfl⟩
      · obtain ⟨j, l, h1, h2, h3⟩ := ih.mp h
        exact ⟨j + 1, l, by simpa using h1, h2, by simpa using h3⟩
    · rintro ⟨j, l, h1, h2, h3⟩
      cases j with
      | zero =>
        simp at h1 h3
        subst h3
        exact List.mem_cons_self
      | succ j => exact List.mem_cons_of_mem _ (ih.mpr ⟨j, l, by simpa using h1, h2, by simpa using h3⟩)
  | @gh xs l0 vs as k1 k2 k3 t ih =>
    show a ∈ (fa GI) :: oA vs as ↔ _
    constructor
    · intro h
      rcases List.mem_cons.mp h with h | h
      · cases h; exact ⟨0, .gh l0, rfl, rfl, rfl⟩
      · obtain ⟨j, l, h1, h2, h3⟩ := ih.mp h
        exact ⟨j + 1, l, by simpa using h1, h2, by simpa using h3⟩
    · rintro ⟨j, l, h1, h2, h3⟩
      cases j with
      | zero =>
        simp at h1 h3
        subst h3
        exact List.mem_cons_self
      | succ j => exact List.mem_cons_of_mem _ (ih.mpr ⟨j, l, by simpa using h1, h2, by simpa using h3⟩)
theorem oA_inj {vs : List V} {as : List Arg} (A : ArgL K fa F H vs as) : (oA vs as).Nodup → ∀ {i j : Nat} {l m : Arg} {a : Addr}, as[i]? = some l → l.isOwn = true → vs[i]? = some (.ref a) → as[j]? = some m → m.isOwn = true → vs[j]? = some (.ref a) → i = j := by
  induction A with
  | nil => intro _ i j l m a h; simp at h
  | @d v x vs as r t ih =>
    intro nd i j l m a h1 o1 h2 h3 o3 h4
    have e : oA (v :: vs) (.d x :: as) = oA vs as := by cases v <;> rfl
    rw [e] at nd
    cases i with
    | zero => simp at h1; subst h1; cases o1
    | succ i =>
      cases j with
      | zero => simp at h3; subst h3; cases o3
      | succ j => exact congrArg (· + 1) (ih nd (by simpa using h1) o1 (by simpa using h2) (by simpa using h3) o3 (by simpa using h4))
  | @own b xs l0 vs as k1 k2 k3 t ih =>
    intro nd i j l m a h1 o1 h2 h3 o3 h4
    have nd : (b :: oA vs as).Nodup := nd
    obtain ⟨n1, n2⟩ := List.nodup_cons.mp nd
    cases i with
    | zero =>
      cases j with
      | zero => rfl
      | succ j =>
        simp at h2
        subst h2
        exact absurd ((oA_of t).mpr ⟨j, m, by simpa using h3, o3, by simpa using h4⟩) n1
    | succ i =>
      cases j with
      | zero =>
        simp at h4
        subst h4
        exact absurd ((oA_of t).mpr ⟨i, l, by simpa using h1, o1, by simpa using h2⟩) n1
      | succ j => exact congrArg (· + 1) (ih n2 (by simpa using h1) o1 (by simpa using h2) (by simpa using h3) o3 (by simpa using h4))
  | @gh xs l0 vs as k1 k2 k3 t ih =>
    intro nd i j l m a h1 o1 h2 h3 o3 h4
    have nd : (fa GI :: oA vs as).Nodup := nd
    obtain ⟨n1, n2⟩ := List.nodup_cons.mp nd
    cases i with
    | zero =>
      cases j with
      | zero => rfl
      | succ j =>
        simp at h2
        subst h2
        exact absurd ((oA_of t).mpr ⟨j, m, by simpa using h3, o3, by simpa using h4⟩) n1
    | succ i =>
      cases j with
      | zero =>
        simp at h4
        subst h4
        exact absurd ((oA_of t).mpr ⟨i, l, by simpa using h1, o1, by simpa using h2⟩) n1
      | succ j => exact congrArg (· + 1) (ih n2 (by simpa using h1) o1 (by simpa using h2) (by simpa using h3) o3 (by simpa using h4))
abbrev env0 (N : Nat) (as : List Arg) : Env := as.map Arg.sl ++ List.replicate (N - as.length) .none
theorem env0_get {N : Nat} {as : List Arg} {i : Nat} {s : Sl} (h : (env0 N as)[i]? = some s) : (∃ x, as[i]? = some x ∧ s = x.sl) ∨ s = .none := by
  by_cases hi : i < as.length
  · rw [List.getElem?_append_left (by rw [List.length_map]; exact hi), List.getElem?_map] at h
    cases e : as[i]? with
    | none => rw [e] at h; cases h
    | some x => rw [e] at h; cases h; exact .inl ⟨x, rfl, rfl⟩
  · rw [List.getElem?_append_right (by rw [List.length_map]; omega), List.getElem?_replicate] at h
    split at h
    · cases h; exact .inr rfl
    · cases h
theorem start_get {N : List Str} {vs : List V} {i : Nat} {v : V} (h : vs[i]? = some v) : (L2.start N vs)[i]? = some (some v) := by
  have hi := (List.getElem?_eq_some_iff.mp h).1
  unfold L2.start
  rw [List.getElem?_append_left (by rw [List.length_map]; exact hi), List.getElem?_map, h]
  rfl
theorem start_ref {N : List Str} {vs : List V} {i : Nat} {v : V} (h : (L2.start N vs)[i]? = some (some v)) : vs[i]? = some v := by
  unfold L2.start at h
  by_cases hi : i < vs.length
  · rw [List.getElem?_append_left (by rw [List.length_map]; exact hi), List.getElem?_map] at h
    cases e : vs[i]? with
    | none => rw [e] at h; cases h
    | some x => rw [e] at h; cases h; rfl
  · rw [List.getElem?_append_right (by rw [List.length_map]; omega), List.getElem?_replicate] at h
    split at h <;> cases h
abbrev Gh.of (H : Hp) (F : Addr → Prop) (vs : List V) (as : List Arg) : Gh := ⟨H, F, parsOf 0 vs as, fun _ => none⟩
theorem own0 {N : List Str} {vs : List V} {as : List Arg} (A : ArgL K fa F H vs as) {i : Nat} {a : Addr} (o : OwnA (env0 N.length as) (L2.start N vs) i a) : ∃ z : Arg, as[i]? = some z ∧ z.isOwn = true ∧ vs[i]? = some (.ref a) := by
  obtain ⟨o, e⟩ := o
  have k : ∀ {s : Sl}, (env0 N.length as)[i]? = some s → (∃ l, s = .own l) ∨ (∃ l, s = .par l ∨ s = .gh l) → ∃ z : Arg, as[i]? = some z ∧ z.isOwn = true := fun {s} h q => by
    rcases env0_get h with ⟨x, e1, rfl⟩ | rfl
    · cases x with
      | d d => rcases q with ⟨l, q⟩ | ⟨l, q | q⟩ <;> cases q
      | own l => exact ⟨_, e1, rfl⟩
      | gh l => exact ⟨_, e1, rfl⟩
    · rcases q with ⟨l, q⟩ | ⟨l, q | q⟩ <;> cases q
  rcases o with ⟨l, o⟩ | ⟨l, o | o⟩
  · obtain ⟨m, q, q2⟩ := k o (.inl ⟨l, rfl⟩)
    exact ⟨m, q, q2, start_ref e⟩
  · obtain ⟨m, q, q2⟩ := k o (.inr ⟨l, .inl rfl⟩)
    exact ⟨m, q, q2, start_ref e⟩
  · obtain ⟨m, q, q2⟩ := k o (.inr ⟨l, .inr rfl⟩)
    exact ⟨m, q, q2, start_ref e⟩
/-- the state at the entry -/
theorem sr_start {N : List Str} {ca : Cc} {vs : List V} {as : List Arg} (T : Trk F H) (A : ArgL K fa F H vs as) (nd : (oA vs as).Nodup) (hl : vs.length ≤ N.length) : SR K fa ca (Gh.of H F vs as) F (env0 N.length as) (L2.start N vs) H := by
  have hla := A.length
  refine ⟨?_, fun i s e => ?_, fun i j a h1 h2 => ?_, T, fun a o e _ => e, fun a f => .inl f, fun a f => f, fun p hp => ?_, fun p hp => ?_, fun a o q => by cases q⟩
  · unfold L2.start
    rw [List.length_append, List.length_append, List.length_map, List.length_map, List.length_replicate, List.length_replicate]
    omega
  · rcases env0_get e with ⟨x, e1, rfl⟩ | rfl
    · obtain ⟨v, h1, h2⟩ := A.get e1
      rw [start_get h1]
      cases x with
      | d d => exact .val h2
      | own l =>
        obtain ⟨a, xs, rfl, k1, k2, k3⟩ := h2
        exact .par k1 k2 k3 ((pars_of A).mpr ⟨i, _, by omega, e1, rfl, h1⟩)
      | gh l =>
        obtain ⟨rfl, xs, k1, k2, k3⟩ := h2
        exact .gh k1 k2 k3 ((pars_of A).mpr ⟨i, _, by omega, e1, rfl, h1⟩)
    · exact .none
  · obtain ⟨l, k1, o1, k2⟩ := own0 A h1
    obtain ⟨m, k3, o3, k4⟩ := own0 A h2
    exact oA_inj A nd k1 o1 k2 k3 o3 k4
  · obtain ⟨j, z, h1, h2, o2, h3⟩ := (pars_of A).mp (show (p.1, p.2) ∈ parsOf 0 vs as from hp)
    have h1 : p.1 = j := by omega
    rw [h1]
    have hj := (List.getElem?_eq_some_iff.mp h2).1
    have e : (env0 N.length as)[j]? = some z.sl := by
      rw [List.getElem?_append_left (by rw [List.length_map]; exact hj), List.getElem?_map, h2]
      rfl
    cases z with
    | d x => cases o2
    | own l => exact ⟨⟨l, .inl e⟩, start_get h3⟩
    | gh l => exact ⟨⟨l, .inr e⟩, start_get h3⟩
  · obtain ⟨j, z, h1, h2, o2, h3⟩ := (pars_of A).mp (show (p.1, p.2) ∈ parsOf 0 vs as from hp)
    obtain ⟨v, k1, k2⟩ := A.get h2
    rw [h3] at k1
    cases k1
    cases z with
    | d x => cases o2
    | own l =>
      obtain ⟨a, xs, e, k1, _⟩ := k2
      cases e
      exact ⟨_, k1⟩
    | gh l =>
      obtain ⟨e, xs, k1, _⟩ := k2
      have e' : p.2 = fa GI := by injection e
      exact ⟨_, by rw [e']; exact k1⟩
/-- the lists as they come back -/
theorem out_of {ca : Cc} {N : List Str} {G : Gh} {F' : Addr → Prop} {ρ : Env} {σ : L2.St} {H' : Hp} (S : SR K fa ca G F' ρ σ H') {vs : List V} {as : List Arg} (A : ArgL K fa F H vs as) :
    ∀ {k : Nat} {os : List (List D)}, (∀ j (z : Arg) a, as[j]? = some z → z.isOwn = true → vs[j]? = some (.ref a) → (k + j, a) ∈ G.pars) → outsOf ρ k as = some os → OutL K fa F' H' vs as os := by
  induction A with
  | nil => intro k os hp h; cases h; exact .nil
  | d r t ih =>
    intro k os hp h
    exact .d (ih (k := k + 1) (fun j l a h1 o1 h2 => by
      have := hp (j + 1) l a (by simpa using h1) o1 (by simpa using h2)
      rw [show k + 1 + j = k + (j + 1) by omega]; exact this) h)
  | @own b xs l0 vs as h1 h2 h3 t ih =>
    intro k os hp h
    have h' : (match ρ[k]? with
      | some (.par l) => (outsOf ρ (k + 1) as).map fun ls => l :: ls
      | _ => none) = some os := h
    cases e : ρ[k]? with
    | none => rw [e] at h'; cases h'
    | some s =>
      rw [e] at h'
      cases s with
      | par l =>
        cases e1 : outsOf ρ (k + 1) as with
        | none => simp only [e1] at h'; cases h'
        | some ls =>
          simp only [e1] at h'
          cases h'
          have hm := hp 0 (.own l0) b rfl rfl rfl
          obtain ⟨_, q2⟩ := S.par _ hm
          have q := S.sl k _ e
          have q2' : σ[k]? = some (some (.ref b)) := q2
          rw [q2'] at q
          cases q with
          | par p1 p2 p3 p4 =>
            exact .own p1 p2 p3 (ih (k := k + 1) (fun j l a h1 o1 h2 => by
              have := hp (j + 1) l a (by simpa using h1) o1 (by simpa using h2)
              rw [show k + 1 + j = k + (j + 1) by omega]; exact this) e1)
      | _ => cases h'
  | @gh xs l0 vs as h1 h2 h3 t ih =>
    intro k os hp h
    have h' : (match ρ[k]? with
      | some (.gh l) => (outsOf ρ (k + 1) as).map fun ls => l :: ls
      | _ => none) = some os := h
    cases e : ρ[k]? with
    | none => rw [e] at h'; cases h'
    | some s =>
      rw [e] at h'
      cases s with
      | gh l =>
        cases e1 : outsOf ρ (k + 1) as with
        | none => simp only [e1] at h'; cases h'
        | some ls =>
          simp only [e1] at h'
          cases h'
          have q := S.sl k _ e
          generalize eo : σ[k]? = o at q
          cases q with
          | gh p1 p2 p3 p4 =>
            exact .gh p1 p2 p3 (ih (k := k + 1) (fun j l a h1 o1 h2 => by
              have := hp (j + 1) l a (by simpa using h1) o1 (by simpa using h2)
              rw [show k + 1 + j = k + (j + 1) by omega]; exact this) e1)
      | _ => cases h'
theorem cpost0_of {ca : Cc} {F' : Addr → Prop} {ρ : Env} {σ : L2.St} {H' : Hp} {vs : List V} {as : List Arg} (A : ArgL K fa F H vs as) (S : SR K fa ca (Gh.of H F vs as) F' ρ σ H') : CPost0 F H F' H' vs as :=
  ⟨S.up, S.new, S.trk, fun a o e n => S.fr a o e fun i hi => by
    obtain ⟨j, l, _, h2, o2, h3⟩ := (pars_of A).mp hi
    exact n ((oA_of A).mpr ⟨j, l, h2, o2, h3⟩)⟩
end
section
variable {P : Program} {w : World} {K : PySem.W.Frag} {mg : Str → Option Value} {base : Heap} {fa : Nat → Addr} {ca : Nat → Addr} {T : List FD} {lv : Nat} {I : Mi}
theorem spC_len {C : Calls} {k : Nat} {n m : Nat} {ca : Cc} (h : ∀ as, C k as ≠ .stuck → as.length = n + m ∧ ngh as = m) {vs : List V} {H : Hp} {Q : VK} {E : XK} (q : spC K fa ca C k vs H Q E) : vs.length = n := by
  obtain ⟨gs, F, as, _, A, _, hg, q⟩ := q
  have ns : C k as ≠ .stuck := fun z => by rw [z] at q; exact q.elim
  obtain ⟨h1, h2⟩ := h as ns
  have hl := A.length
  rw [List.length_append] at hl
  omega
theorem runF_len {fd : FD} {C : Calls} {as : List Arg} (h : runF fd C as ≠ .stuck) : as.length = fd.np + fd.ng ∧ ngh as = fd.ng := by
  unfold runF at h
  by_cases e : as.length = fd.np + fd.ng ∧ ngh as = fd.ng
  · exact e
  · rw [if_neg e] at h; exact absurd rfl h
/-- what a body keeps of the evaluator, at the entry: the slots behind the parameters hold what is handed on without a name -/
theorem body_read {N ps : List Str} {d : DS} {k ng : Nat} {vs : List V} {H : Hp} {Q : VK} {E : XK} (hc : ∀ as, callN T (lv + 1) k as = runF ⟨ps.length, ng, N.length, d⟩ (callN T lv) as) (hps : ps.length + ng ≤ N.length)
    (hsp : spC K fa ⟨ca, none⟩ (callN T (lv + 1)) k vs H Q E) : ∃ gs : List V, gs.length = ng ∧ vs.length = ps.length ∧ tSemS K fa ⟨ca, none⟩ (fun cls d _ H => E cls d H) d (callN T lv) { nx := fun _ H' => Q .non H', rt := Q } (L2.start N (vs ++ gs)) H := by
  obtain ⟨gs, F, as, T1, AL, nd, hg, q⟩ := hsp
  rw [hc] at q
  obtain ⟨hl, hn⟩ : as.length = ps.length + ng ∧ ngh as = ng := runF_len (fd := ⟨ps.length, ng, N.length, d⟩) (C := callN T lv) fun z => by rw [z] at q; exact q
  have hal := AL.length
  have hgs : gs.length = ng := by rw [← hg]; exact hn
  refine ⟨gs, hgs, by rw [List.length_append] at hal; omega, ?_⟩
  generalize vs ++ gs = vs at *
  have hvl : vs.length ≤ N.length := by rw [AL.length, hl]; exact hps
  refine ⟨Gh.of H F vs as, F, env0 N.length as, sr_start T1 AL nd hvl, ?_⟩
  unfold runF at q
  rw [if_pos ⟨hl, hn⟩] at q
  have e0 : as.map Arg.sl ++ List.replicate (N.length - (ps.length + ng)) Sl.none = env0 N.length as := by show _ = as.map Arg.sl ++ List.replicate (N.length - as.length) .none; rw [hl]
  have q : match (match d (callN T lv) (as.map Arg.sl ++ List.replicate (N.length - (ps.length + ng)) Sl.none) with
      | .ret r ρ => finish as r ρ
      | .next ρ => finish as (.d .non) ρ
      | .exc c fs _ => if as.any Arg.isOwn then .stuck else .exc c fs
      | _ => .stuck) with
    | .ok r os => ∀ v F' H', CPost K fa F H F' H' vs as os r v → Q v H'
    | .exc c fs => ∀ F' H' cls d, CPost0 F H F' H' vs as → ExnR K fa ⟨ca, none⟩ F' H' c fs cls d → E cls d H'
    | .dk l g os => ∀ v F' H', CPost K fa F H F' H' vs as os (.dkn l g) v → Q v H'
    | .stuck => False := q
  rw [e0] at q
  have fin : ∀ {r : Ex} {ρ : Env} {v : V} {F' : Addr → Prop} {σ' : L2.St} {H' : Hp}, (match finish as r ρ with
      | .ok r os => ∀ v F' H', CPost K fa F H F' H' vs as os r v → Q v H'
      | .exc c fs => ∀ F' H' cls d, CPost0 F H F' H' vs as → ExnR K fa ⟨ca, none⟩ F' H' c fs cls d → E cls d H'
      | .dk l g os => ∀ v F' H', CPost K fa F H F' H' vs as os (.dkn l g) v → Q v H'
      | .stuck => False) → SR K fa ⟨ca, none⟩ (Gh.of H F vs as) F' ρ σ' H' → RpRet K fa (Gh.of H F vs as) F' ρ σ' H' r v → Q v H' := fun {r ρ v F' σ' H'} q S' rr => by
    unfold finish at q
    cases e : outsOf ρ 0 as with
    | none => rw [e] at q; exact q.elim
    | some os =>
      rw [e] at q
      have out := out_of (N := N) S' AL (fun j z a h1 o1 h2 => (pars_of AL).mpr ⟨j, z, by omega, h1, o1, h2⟩) e
      cases r with
      | d x => exact q v F' H' ⟨cpost0_of AL S', out, rr⟩
      | fresh l =>
        obtain ⟨b, xs, k1, k2, k3, k4, k5, k6⟩ := rr
        exact q v F' H' ⟨cpost0_of AL S', out, b, xs, k1, k5.1, k4, k2, k3⟩
      | dkn l g => exact q v F' H' ⟨cpost0_of AL S', out, rr⟩
  cases e : d (callN T lv) (env0 N.length as) with
  | next ρ => rw [e] at q; exact fun F' σ' H' S' E' => fin q S' (RpEx.ret (r := .d .non) .non)
  | brk ρ => rw [e] at q; exact q.elim
  | cont ρ => rw [e] at q; exact q.elim
  | ret r ρ => rw [e] at q; exact fun v F' σ' H' S' E' rr => fin q S' rr
  | stuck => rw [e] at q; exact q.elim
  | exc c fs ρ =>
    rw [e] at q
    refine fun F' σ' H' cls dd S' E' x => ?_
    by_cases ha : as.any Arg.isOwn = true
    · simp only [if_pos ha] at q
    · simp only [if_neg ha] at q
      exact q F' H' cls dd (cpost0_of AL S') x
/-- names that no text writes -/
def Hid (sc : Scope) (N : List Str) (a b : Nat) : Prop := ∀ i x, a ≤ i → i < a + b → N[i]? = some x → ¬ Vis sc x
theorem inv_hid {X : Cx} {pins : List (Addr × Obj)} {H : Hp} {s : Shared} {vs gs : List V} (hid : Hid X.env.scope X.N vs.length gs.length) (hl : vs.length + gs.length ≤ X.N.length) (I : Inv X pins (L2.start X.N vs) H s) : Inv X pins (L2.start X.N (vs ++ gs)) H s := by
  refine ⟨I.ok, I.os, I.bare, I.base, ?_, I.cell, I.free, I.freeC, I.pin, I.hok, ?_⟩
  · obtain ⟨m, h1, h2⟩ := I.loc
    refine ⟨m, h1, fun i x v hx hv hvis => ?_⟩
    have hv' := start_ref hv
    by_cases hi : i < vs.length
    · rw [List.getElem?_append_left hi] at hv'
      exact h2 i x v hx (start_get hv') hvis
    · have hi2 := (List.getElem?_eq_some_iff.mp hv').1
      rw [List.length_append] at hi2
      exact absurd hvis (hid i x (by omega) hi2 hx)
  · unfold L2.start
    rw [List.length_append, List.length_map, List.length_replicate, List.length_append]
    omega
theorem pss_hid {X : Cx} {body : List Stmt} {t : TS} (h : PSs X body t) {vs : List V} : PSs X body (fun D σ H => t D σ H ∨ ∃ gs : List V, σ = L2.start X.N vs ∧ Hid X.env.scope X.N vs.length gs.length ∧ vs.length + gs.length ≤ X.N.length ∧ t D (L2.start X.N (vs ++ gs)) H) := ⟨fun pins s σ H D I q => by
  rcases q with q | ⟨gs, rfl, h1, h2, q⟩
  · exact h.run pins s σ H D I q
  · exact h.run pins s _ H D (inv_hid h1 h2 I) q⟩
/-- THE RULE: a def of the text -/
theorem def_ok {x qual : Str} {params : Arguments} {body : List Stmt} {scope : Scope} {k : Nat} {fd : FuncData} {N ps : List Str} {d : DS} (Fd : FunD K x qual params body scope [] [] (fa k) fd) (S : FnScope N ps scope) (hd : CB I N ⟨scope, fun _ => true, none⟩ body d)
    {ng : Nat} (hT : T[k]? = some ⟨ps.length, ng, N.length, d⟩) (g : ∀ fa' : Nat → Addr, (∀ n, n ≠ GI → fa' n = fa n) → GM I fa' (callN T lv) lv ca P w K mg base) (hps : ps.length + ng ≤ N.length) (hid : Hid scope N ps.length ng) : FnOk P w K mg base (L2N.CX P w) (lv + 1 + 2) (fa k) fd ps (spC K fa ⟨ca, none⟩ (callN T (lv + 1)) k) := by
  have hc : ∀ as, callN T (lv + 1) k as = runF ⟨ps.length, ng, N.length, d⟩ (callN T lv) as := fun as => by
    show (match T[k]? with | some fd => runF fd (callN T lv) as | none => .stuck) = _
    rw [hT]
  refine Fd.ok S (fun vs H Q E q => spC_len (fun as e => runF_len (fd := ⟨ps.length, ng, N.length, d⟩) (C := callN T lv) (by rw [← hc]; exact e)) q) fun cdv A outer s H vs Q E hr hsp => ?_
  obtain ⟨gs, hgs, hvs, rd⟩ := body_read hc hps hsp
  refine ⟨_, pss_hid (vs := vs) (hd (fa := fa) (C := callN T lv) (lv := lv) (ca := ⟨ca, none⟩) (W := fun cls d _ H => E cls d H) (X := cxOf (L2N.CX P w) P w K mg base N qual scope (fa k) cdv A outer s H E)
    ⟨⟨g fa fun _ _ => rfl, g, rfl, rfl, rfl, S.nd, by have := hr.un; show (A.deeper _).units + 200 < cLine; omega, fun _ => rfl, fun _ => hr, fun _ => rfl, L2N.takes_of rfl rfl rfl rfl, fun i z => by cases z⟩, fun _ => passes_of rfl, fun _ => ⟨rfl, rfl⟩, S.kind⟩), .inr ⟨gs, rfl, by rw [hvs, hgs]; exact hid, by rw [hvs, hgs]; exact hps, rd⟩⟩
/-- .. called where an exception is handled -/
theorem def_okH {x qual : Str} {params : Arguments} {body : List Stmt} {scope : Scope} {k : Nat} {fd : FuncData} {N ps : List Str} {d : DS} (Fd : FunD K x qual params body scope [] [] (fa k) fd) (S : FnScope N ps scope) (hd : CB I N ⟨scope, fun _ => true, some N.length⟩ body d)
    {ng : Nat} (hT : T[k]? = some ⟨ps.length, ng, N.length, d⟩) (g : ∀ fa' : Nat → Addr, (∀ n, n ≠ GI → fa' n = fa n) → GM I fa' (callN T lv) lv ca P w K mg base) (hps : ps.length + ng ≤ N.length) (hid : Hid scope N ps.length ng) : L2H.FnH P w K mg base (L2N.CX P w) (lv + 1 + 2) (fa k) fd ps (spC K fa ⟨ca, none⟩ (callN T (lv + 1)) k) := by
  have hc : ∀ as, callN T (lv + 1) k as = runF ⟨ps.length, ng, N.length, d⟩ (callN T lv) as := fun as => by
    show (match T[k]? with | some fd => runF fd (callN T lv) as | none => .stuck) = _
    rw [hT]
  obtain ⟨oc, od, dV, kV, doc, pm, an, cdv, ct, osl, rfl, lk, hcd, _, _⟩ := Fd.ex
  refine L2H.fn_ofH lk hcd S (fun vs H Q E q => spC_len (fun as e => runF_len (fd := ⟨ps.length, ng, N.length, d⟩) (C := callN T lv) (by rw [← hc]; exact e)) q) fun A outer s H vs Q E p hot hr hsp => ?_
  obtain ⟨gs, hgs, hvs, rd⟩ := body_read hc hps hsp
  refine ⟨_, pss_hid (vs := vs) (hd (fa := fa) (C := callN T lv) (lv := lv) (ca := ⟨ca, none⟩) (W := fun cls d _ H => E cls d H) (X := L2H.cxH (L2N.CX P w) P w K mg base N qual scope (fa k) cdv A outer s H E p)
    ⟨⟨g fa fun _ _ => rfl, g, rfl, rfl, rfl, S.nd, by have := hr.un; show (A.deeper _).units + 200 < cLine; omega, (fun z => by cases z), (fun z => by cases z), (fun z => by cases z), L2N.takes_of rfl rfl rfl rfl, fun i z => ?_⟩, fun _ => passes_of rfl, (fun z => by cases z), S.kind⟩), .inr ⟨gs, rfl, by rw [hvs, hgs]; exact hid, by rw [hvs, hgs]; exact hps, rd⟩⟩
  · have z' : some N.length = some i := z
    cases z'
    exact ⟨⟨p, hot, List.mem_cons_self⟩, hr, fun y => absurd y (Nat.lt_irrefl _)⟩
end
end RX
set_option Elab.async false
set_option linter.all false
set_option maxRecDepth 100000
set_option maxHeartbeats 4000000
/-! RXs: the module: its facts, its defs at every level; the law's end. -/
namespace RX
open PySem PySem.Spec PyProof.Rows L2
/-! ### what the head says -/
def oexB (K : PySem.W.Frag) (C : Addr) : Bool := (match K.lookup C with
  | some ⟨.type "type", _, .cls cd, sl⟩ => (match cd.mro, sl.toList with
    | .ref C' :: bm, [_, _, _, _, some (.builtin n), _] => C' == C && (n == "ValueError.__new__" && (!cd.hasDel && (cd.hasDict && PySem.HandSPX.refsVE bm)))
    | _, _ => false)
  | _ => false) && (He.eqO (PySem.W.findIn K (.ref C) "__setattr__") (some (some (.builtin "object.__setattr__"))) &&
    (decide (PySem.W.subIn K (.ref C) (.type "BaseException") = some true) && (decide (PySem.W.typeIn K (.ref C) = some (.type "type")) && PySem.W.keepIn K (.ref C))))
theorem oexB_ok {K : PySem.W.Frag} {C : Addr} (h : oexB K C = true) : OexC K C := by
  obtain ⟨h1, h⟩ := Bool.and_eq_true_iff.mp h
  obtain ⟨h2, h⟩ := Bool.and_eq_true_iff.mp h
  obtain ⟨h3, h⟩ := Bool.and_eq_true_iff.mp h
  obtain ⟨h4, h5⟩ := Bool.and_eq_true_iff.mp h
  refine ⟨?_, He.eqO_ok h2, of_decide_eq_true h3, of_decide_eq_true h4, h5⟩
  split at h1
  · rename_i dd cd sl ho
    split at h1
    · rename_i C' bm k0 k1 k2 k3 n k5 hm hs
      simp only [Bool.and_eq_true, beq_iff_eq, Bool.not_eq_true'] at h1
      obtain ⟨rfl, rfl, hdel, hd, hr⟩ := h1
      obtain ⟨nm, bs, mro, ns, qn, hdct, sn, sub, ab, col, del⟩ := cd
      dsimp only at hm hdel hd
      subst hm hdel hd
      have hsl : sl = #[k0, k1, k2, k3, some (.builtin "ValueError.__new__"), k5] := by
        obtain ⟨l⟩ := sl
        simp only at hs
        rw [hs]
      subst hsl
      exact ⟨nm, qn, ns, bs, bm, sn, sub, ab, col, dd, k0, k1, k2, k3, k5, ho, hr⟩
    · cases h1
  · cases h1
/-- a class that is raised: x its name, fl its fields, all the fields that are read -/
def clsB (x : Str) (all : List Str) (K : PySem.W.Frag) : Bool := oexB K (He.ga K x) && (He.eqO (PySem.W.findIn K (.ref (He.ga K x)) "__init__") (some (some (.ref (He.ma K (He.ga K x) "__init__")))) &&
  (decide (PySem.W.typeIn K (.ref (He.ma K (He.ga K x) "__init__")) = some (.type "function")) && (xfB K (He.ga K x) && all.all fun f => He.eqO (PySem.W.findIn K (.ref (He.ga K x)) f) (some none))))
structure ClsB (x : Str) (all : List Str) (K : PySem.W.Frag) : Prop where
  T : OexC K (He.ga K x)
  iC : PySem.W.findIn K (.ref (He.ga K x)) "__init__" = some (some (.ref (He.ma K (He.ga K x) "__init__")))
  tI : PySem.W.typeIn K (.ref (He.ma K (He.ga K x) "__init__")) = some (.type "function")
  xf : XfC K (He.ga K x)
  no : ∀ f, all.contains f = true → PySem.W.findIn K (.ref (He.ga K x)) f = some none
theorem clsB_ok {x : Str} {all : List Str} {K : PySem.W.Frag} (h : clsB x all K = true) : ClsB x all K := by
  obtain ⟨h1, h⟩ := Bool.and_eq_true_iff.mp h
  obtain ⟨h2, h⟩ := Bool.and_eq_true_iff.mp h
  obtain ⟨h3, h⟩ := Bool.and_eq_true_iff.mp h
  obtain ⟨h4, h5⟩ := Bool.and_eq_true_iff.mp h
  exact ⟨oexB_ok h1, He.eqO_ok h2, of_decide_eq_true h3, xfB_ok h4, fun f hf => He.eqO_ok (List.all_eq_true.mp h5 f (List.contains_iff_mem.mp hf))⟩
/-- r, a class that is raised, seen by isinstance(e, y): y an own class, or a built-in one -/
def excB (K : PySem.W.Frag) (C : Addr) : Bool := He.eqO (PySem.W.findIn K (.ref C) "__getattribute__") (some (some (.builtin "BaseException.__getattribute__"))) && (He.eqO (PySem.W.findIn K (.ref C) "__getattr__") (some none) &&
  (decide (PySem.W.subIn K (.ref C) (.type "BaseException") = some true) && (PySem.W.hasDictIn K C && (He.eqO (PySem.W.findIn K (.ref C) "__class__") (some (some (.builtin "object.__class__"))) &&
    (He.eqO (PySem.W.specialIn K (.builtin "object.__class__") "__get__") (some (some (.builtin "getset_descriptor.__get__"))) && (decide (PySem.W.takesIn K (.builtin "object.__class__") = some true) && decide (PySem.W.mroIn K C (.type "object") = some true)))))))
theorem excB_ok {K : PySem.W.Frag} {C : Addr} (h : excB K C = true) : L2.ExcC K C := by
  unfold excB at h
  simp only [Bool.and_eq_true] at h
  obtain ⟨h1, h2, h3, h4, h5, h6, h7, h8⟩ := h
  exact ⟨He.eqO_ok h1, He.eqO_ok h2, of_decide_eq_true h3, h4, He.eqO_ok h5, He.eqO_ok h6, of_decide_eq_true h7, of_decide_eq_true h8⟩
def kitB (r : Str) (y : PySem.W.Frag → Value) (b : Bool) (K : PySem.W.Frag) : Bool := excB K (He.ga K r) && decide (PySem.W.kitOne K (.ref (He.ga K r)) (y K) = some b)
theorem kitB_ok {r : Str} {y : PySem.W.Frag → Value} {b : Bool} {K : PySem.W.Frag} (h : kitB r y b K = true) : L2.ExcC K (He.ga K r) ∧ PySem.W.kitOne K (.ref (He.ga K r)) (y K) = some b := by
  obtain ⟨h1, h2⟩ := Bool.and_eq_true_iff.mp h
  exact ⟨excB_ok h1, of_decide_eq_true h2⟩
/-- the module's name x is a built-in function -/
def bfnB (x : Str) (id : String) (K : PySem.W.Frag) : Bool := He.eqO (PySem.W.nsIn K mainGlobals x) (some (some (.builtin id)))
theorem bfnB_ok {x : Str} {id : String} {K : PySem.W.Frag} {h : Heap} {mg : Str → Option Value} (X : K.In h) (G : h.Ns mainGlobals mg) (c : bfnB x id K = true) : mg x = some (.builtin id) := PySem.W.mg_of X G (He.eqO_ok c)
/-- the module's name x is a constant: a number, a text, a tuple of such -/
def conV : D → Value → Bool
  | .int i, .int j _ => decide (i = j)
  | .str x, .str y _ => decide (x = y)
  | .bl b, .bool c => decide (b = c)
  | .non, .none => true
  | _, _ => false
def conL : List D → List Value → Bool
  | [], [] => true
  | d :: ds, u :: us => conV d u && conL ds us
  | _, _ => false
def cstT (K : PySem.W.Frag) : D → Value → Bool
  | .tup ds, .ref a => (match K.lookup a with
      | some ⟨.type t, _, .seq its _, _⟩ => decide (t = "tuple") && (decide (its.size ≤ 1000) && conL ds its.toList)
      | _ => false)
  | _, _ => false
def cstB (x : Str) (d : D) (K : PySem.W.Frag) : Bool := match PySem.W.nsIn K mainGlobals x with
  | some (some u) => conV d u || cstT K d u
  | _ => false
section
variable {K : PySem.W.Frag} {fa : Nat → Addr}
theorem conV_ok {d : D} {u : Value} (h : conV d u = true) : ∃ v, RelV v u ∧ ∀ (fa : Nat → Addr) F H, Rp K fa F H v d := by
  unfold conV at h
  split at h
  · cases of_decide_eq_true h; exact ⟨.int _, ⟨_, rfl⟩, fun _ _ _ => .int _⟩
  · cases of_decide_eq_true h; exact ⟨.str _, ⟨_, rfl⟩, fun _ _ _ => .str _⟩
  · cases of_decide_eq_true h; exact ⟨.bl _, rfl, fun _ _ _ => .bl _⟩
  · exact ⟨.non, rfl, fun _ _ _ => .non⟩
  · cases h
theorem conL_ok : ∀ {ds : List D} {us : List Value}, conL ds us = true → ∃ vs, Vals vs us ∧ ∀ (fa : Nat → Addr) F H, RpL K fa F H vs ds
  | [], [], _ => ⟨[], .nil, fun _ _ _ => .nil⟩
  | d :: ds, u :: us, h => by
    obtain ⟨h1, h2⟩ := Bool.and_eq_true_iff.mp (show (conV d u && conL ds us) = true from h)
    obtain ⟨v, r, q⟩ := conV_ok (K := K) h1
    obtain ⟨vs, rs, qs⟩ := conL_ok h2
    exact ⟨v :: vs, .cons r rs, fun fa F H => .cons (q fa F H) (qs fa F H)⟩
  | [], _ :: _, h => by cases h
  | _ :: _, [], h => by cases h
theorem cstT_ok {d : D} {u : Value} (c : cstT K d u = true) : ∃ v, RelV v u ∧ ∀ (fa : Nat → Addr) F H, Rp K fa F H v d := by
  cases d with
  | tup ds =>
    cases u with
    | ref a =>
      have c : (match K.lookup a with
        | some ⟨.type t, _, .seq its _, _⟩ => decide (t = "tuple") && (decide (its.size ≤ 1000) && conL ds its.toList)
        | _ => false) = true := c
      cases ho : K.lookup a with
      | none => rw [ho] at c; cases c
      | some o =>
        obtain ⟨cl, dd, data, sl⟩ := o
        rw [ho] at c
        cases cl with
        | type t =>
          cases data with
          | seq its n =>
            obtain ⟨c1, c⟩ := Bool.and_eq_true_iff.mp c
            obtain ⟨c2, c3⟩ := Bool.and_eq_true_iff.mp c
            cases of_decide_eq_true c1
            obtain ⟨vs, rs, qs⟩ := conL_ok (K := K) c3
            refine ⟨.ref a, rfl, fun fa F H => .tup (.inr ⟨_, its, n, ho, rfl, rfl, ?_, rs⟩) (qs fa F H)⟩
            have := of_decide_eq_true c2
            rw [sizeLine_eq]; omega
          | _ => cases c
        | _ => cases c
    | _ => cases c
  | _ => cases u <;> cases c
theorem cstB_ok {x : Str} {d : D} {h : Heap} {mg : Str → Option Value} (X : K.In h) (G : h.Ns mainGlobals mg) (c : cstB x d K = true) : ∃ (u : Value) (v : V), mg x = some u ∧ RelV v u ∧ ∀ (fa : Nat → Addr) F H, Rp K fa F H v d := by
  unfold cstB at c
  split at c
  · rename_i u hu
    have hm := PySem.W.mg_of X G hu
    rcases Bool.or_eq_true_iff.mp c with c | c
    · obtain ⟨v, r, q⟩ := conV_ok (K := K) c
      exact ⟨u, v, hm, r, q⟩
    · obtain ⟨v, r, q⟩ := cstT_ok (K := K) c
      exact ⟨u, v, hm, r, q⟩
  · cases c
end
abbrev Cks : Type := List (PySem.W.Frag → Bool)
def obsX (ck : Cks) (fa : List He.Fa) (fn : List He.DefD) (K : PySem.W.Frag) : He.AlD := (ck.all (fun c => c K) && ((fa.all fun f => f.ok K) && fn.all fun d => d.ok K), fn.map fun d => He.fnW K d.at_)
def SaysX (ck : Cks) (fa : List He.Fa) (fn : List He.DefD) (K : PySem.W.Frag) : Prop := obsX ck fa fn K = He.valD fn
def obsXG (n : Nat) (ck : Cks) (fa : List He.Fa) (fn : List He.DefD) (g : Addr → Option Obj) : He.AlD := obsX ck fa fn (He.frG g (He.asD g n))
def hookX (n : Nat) (ck : Cks) (fa : List He.Fa) (fn : List He.DefD) : PySem.W.Hook where
  α := He.AlD
  obs := fun s => obsXG n ck fa fn s.heap.get?
  val := fun _ => He.valD fn
  says := fun _ h => ∃ K : PySem.W.Frag, K.In h ∧ SaysX ck fa fn K
  of := fun _ _ e => ⟨_, He.frG_in, e⟩
  keeps := fun _ _ _ ⟨K, hK, c⟩ k => ⟨K, PySem.W.Frag.In.keeps hK k, c⟩
theorem obsXG_eq {n : Nat} {ck : Cks} {fa : List He.Fa} {fn : List He.DefD} {g : Addr → Option Obj} {s : Shared} (h : ∀ a, g a = s.heap.get? a) : obsXG n ck fa fn g = (hookX n ck fa fn).obs s := by
  have e : g = s.heap.get? := funext h
  rw [e] <;> rfl
section
variable {ck : Cks} {fa : List He.Fa} {fn : List He.DefD} {K : PySem.W.Frag}
theorem SaysX.b (c : SaysX ck fa fn K) : (ck.all (fun c => c K) && ((fa.all fun f => f.ok K) && fn.all fun d => d.ok K)) = true := congrArg (fun z : He.AlD => z.1) c
theorem SaysX.d (c : SaysX ck fa fn K) : He.SaysD fa fn K := by
  have h := (Bool.and_eq_true_iff.mp c.b).2
  have e : fn.map (fun d => He.fnW K d.at_) = fn.map He.DefD.val := congrArg (fun z : He.AlD => z.2) c
  show ((fa.all fun f => f.ok K) && fn.all fun d => d.ok K, fn.map fun d => He.fnW K d.at_) = (true, fn.map He.DefD.val)
  rw [h, e]
theorem SaysX.chk (c : SaysX ck fa fn K) (i : Nat) {f : PySem.W.Frag → Bool} (h : ck[i]? = some f := by rfl) : f K = true := List.all_eq_true.mp (Bool.and_eq_true_iff.mp c.b).1 f (List.mem_of_getElem? h)
end
/-! ### an __init__ of two fields -/
theorem init2_ok {P : Program} {w : World} {K : PySem.W.Frag} {mg : Str → Option Value} {base : Heap} {CX : CXT} {x qual : Str} {params : Arguments} {scope : Scope} {fI C : Addr} {fd : FuncData} {s a1 a2 f1 f2 : Str} {p1 p2 p3 p4 p5 p6 p7 p8 : Pos}
    (F : FunD K x qual params [.Assign [.Attribute (.Name s p1) f1 p2] (.Name a1 p3) p4, .Assign [.Attribute (.Name s p5) f2 p6] (.Name a2 p7) p8] scope [] [] fI fd) (S : FnScope [s, a1, a2] [s, a1, a2] scope)
    (ok : (okN s && (okN a1 && okN a2)) = true) (vis : (visB scope s && (visB scope a1 && visB scope a2)) = true) (T : OexC K C) (h1 : PySem.W.findIn K (.ref C) f1 = some none) (h2 : PySem.W.findIn K (.ref C) f2 = some none) :
    FnOk P w K mg base CX 1 fI fd [s, a1, a2] (spI [f1, f2] C) := by
  obtain ⟨k1, k⟩ := Bool.and_eq_true_iff.mp ok
  obtain ⟨k2, k3⟩ := Bool.and_eq_true_iff.mp k
  obtain ⟨v1, v⟩ := Bool.and_eq_true_iff.mp vis
  obtain ⟨v2, v3⟩ := Bool.and_eq_true_iff.mp v
  refine F.ok S (fun vs H Q E h => ?_) fun cdv A outer s' H vs Q E hr h => ⟨_, pss_cons (ps_ost (pe_var (i := 0) rfl (visB_ok v1) (okN_d k1) (okN_c k1)) (pe_var (i := 1) rfl (visB_ok v2) (okN_d k2) (okN_c k2))) (pss_one (ps_ost (pe_var (i := 0) rfl (visB_ok v1) (okN_d k1) (okN_c k1)) (pe_var (i := 2) rfl (visB_ok v3) (okN_d k3) (okN_c k3)))), ?_⟩
  · obtain ⟨a, ys, rfl, hl, _⟩ := h
    show ys.length + 1 = 3
    rw [hl]; rfl
  · obtain ⟨a, ys, rfl, hl, ha, q⟩ := h
    match ys, hl with
    | [y1, y2], _ =>
      refine ⟨y1, rfl, .ref a, rfl, a, C, rfl, T, h1, .inl ⟨ha, fun d hd dne => ?_⟩⟩
      refine ⟨y2, rfl, .ref a, rfl, a, C, rfl, T, h2, .inr ⟨d, [(f1, y1)], upd_same, ?_, by show 1 ≤ 900; omega, ?_⟩⟩
      · rw [upd_ne dne, upd_same]
      · have e : upd (upd (upd H d (exd d [(f1, y1)])) a (exo a C (some d))) d (exd d [(f2, y2), (f1, y1)]) = upd (upd H d (exd d ([f1, f2].zip [y1, y2]).reverse)) a (exo a C (some d)) := by
          funext b
          by_cases e1 : b = d
          · subst e1
            rw [upd_same, upd_ne dne, upd_same]
            rfl
          · rw [upd_ne e1]
            by_cases e2 : b = a
            · subst e2; rw [upd_same, upd_same]
            · rw [upd_ne e2, upd_ne e1, upd_ne e2, upd_ne e1]
        show Q .non _
        rw [e]
        exact q d hd dne
/-! ### scopes -/
def scB (N ps : List Str) (sc : Scope) : Bool := decide (sc.kind = .function) && (!sc.isCoroutine && (!sc.isGenerator && (decide N.Nodup && (decide (N.take ps.length = ps) && (ps.all (fun x => locB sc x) && sc.names.all fun y => !decide (y.2 = .free))))))
theorem scB_ok {N ps : List Str} {sc : Scope} (h : scB N ps sc = true) : FnScope N ps sc := by
  obtain ⟨h1, h⟩ := Bool.and_eq_true_iff.mp h
  obtain ⟨h2, h⟩ := Bool.and_eq_true_iff.mp h
  obtain ⟨h3, h⟩ := Bool.and_eq_true_iff.mp h
  obtain ⟨h4, h⟩ := Bool.and_eq_true_iff.mp h
  obtain ⟨h5, h⟩ := Bool.and_eq_true_iff.mp h
  obtain ⟨h6, h7⟩ := Bool.and_eq_true_iff.mp h
  refine ⟨of_decide_eq_true h1, by simpa using h2, by simpa using h3, of_decide_eq_true h4, of_decide_eq_true h5, fun x hx => locB_ok (List.all_eq_true.mp h6 x hx), fun y hy e => ?_⟩
  have q := List.all_eq_true.mp h7 y hy
  rw [decide_eq_true e] at q
  cases q
/-! ### the defs -/
structure DK (mi : Mi) (T : List FD) (K : PySem.W.Frag) (fa : Nat → Addr) (k : Nat) (ps : List Str) (kw : List (List Str × List Nat)) : Prop where
  ex : ∃ (x qual : Str) (params : Arguments) (body : List Stmt) (scope : Scope) (fd : FuncData) (N : List Str) (d : DS), FunD K x qual params body scope [] [] (fa k) fd ∧ FnScope N ps scope ∧ CB mi N ⟨scope, fun _ => true, none⟩ body d ∧ (∃ ng, T[k]? = some ⟨ps.length, ng, N.length, d⟩ ∧ ps.length + ng ≤ N.length ∧ Hid scope N ps.length ng) ∧ Binds K fd ps [] ∧
    ∀ ks p, kw.lookup ks = some p → ∀ (s : Shared) (ws : List Value), K.In s.heap → ws.length = ks.length → BindsTo s fd ⟨[], ks.zip ws⟩ (ps.zip (permL p ws))
structure DKH (mi : Mi) (T : List FD) (K : PySem.W.Frag) (fa : Nat → Addr) (k : Nat) (ps : List Str) : Prop where
  ex : ∃ (x qual : Str) (params : Arguments) (body : List Stmt) (scope : Scope) (fd : FuncData) (N : List Str) (d : DS), FunD K x qual params body scope [] [] (fa k) fd ∧ FnScope N ps scope ∧ CB mi N ⟨scope, fun _ => true, some N.length⟩ body d ∧ (∃ ng, T[k]? = some ⟨ps.length, ng, N.length, d⟩ ∧ ps.length + ng ≤ N.length ∧ Hid scope N ps.length ng) ∧ Binds K fd ps []
theorem fnH_no {P : Program} {w : World} {K : PySem.W.Frag} {mg : Str → Option Value} {base : Heap} {CX : CXT} {fa : Nat → Addr} {ca : Cc} {C : Calls} {k n : Nat} {f : Addr} {fd : FuncData} {ps : List Str} (h : ∀ as, C k as = .stuck) : L2H.FnH P w K mg base CX n f fd ps (spC K fa ca C k) := by
  have no : ∀ {vs : List V} {H : Hp} {Q : VK} {E : XK}, spC K fa ca C k vs H Q E → False := fun q => by
    obtain ⟨gs, F, as, _, _, _, _, q⟩ := q
    rw [h] at q
    exact q
  exact ⟨fun vs H Q E q => (no q).elim, fun A outer s H args us vs Q E p hr hot hp he hb hv q => (no q).elim⟩
theorem fn_no {P : Program} {w : World} {K : PySem.W.Frag} {mg : Str → Option Value} {base : Heap} {CX : CXT} {fa : Nat → Addr} {ca : Cc} {C : Calls} {k n : Nat} {f : Addr} {fd : FuncData} {ps : List Str} (h : ∀ as, C k as = .stuck) : FnOk P w K mg base CX n f fd ps (spC K fa ca C k) := by
  have no : ∀ {vs : List V} {H : Hp} {Q : VK} {E : XK}, spC K fa ca C k vs H Q E → False := fun q => by
    obtain ⟨gs, F, as, _, _, _, _, q⟩ := q
    rw [h] at q
    exact q
  exact ⟨fun vs H Q E q => (no q).elim, fun A outer s H args us vs Q E hr he hb hv q => (no q).elim⟩
/-- what does not hang on the level -/
structure Stat (mi : Mi) (T : List FD) (fa ca : Nat → Addr) (P : Program) (w : World) (K : PySem.W.Frag) (mg : Str → Option Value) (base : Heap) : Prop where
  free : ∀ x, mi.free.contains x = true → mg x = none
  fns : ∀ x f, mi.fns.lookup x = some f → mg x = some (.ref (fa f.ix)) ∧ DK mi T K fa f.ix f.ps f.kw
  all : ∀ k, k ≠ GI → (∃ ps kw, DK mi T K fa k ps kw) ∨ T[k]? = none ∧ fa k = fa 0
  gi : ∀ x f, mi.fns.lookup x = some f → f.ix ≠ GI
  gh : ∀ x f ps, mi.hfn.lookup x = some (f, ps) → f ≠ GI
  z : ∃ ps kw, DK mi T K fa 0 ps kw
  cls : ∀ x c fl, mi.cls.lookup x = some (c, fl) → mg x = some (.ref (ca c)) ∧ ClG 0 ca P w K mg base c fl
  exm : ∀ x m, mi.exm.lookup x = some m → ∃ A, mg x = some (.ref A) ∧ ∀ c, PySem.W.exmOne K (.ref (ca c)) (.ref A) = some (m c)
  xf : ∀ c, XfC K (ca c) ∧ ∀ f, mi.flds.contains f = true → PySem.W.findIn K (.ref (ca c)) f = some none
  bfun : ∀ x id, mi.bfun.lookup x = some id → mg x = some (.builtin id)
  cst : ∀ x d, mi.cst.lookup x = some d → ∃ (u : Value) (v : V), mg x = some u ∧ RelV v u ∧ ∀ (fa : Nat → Addr) F H, Rp K fa F H v d
  isx : ∀ y m, mi.isx.lookup y = some m → ∃ (cv : Value) (v : V), (mg y = some cv ∨ mg y = none ∧ bootBuiltins y = some cv) ∧ RelV v cv ∧ (∀ u, RelV v u → u = cv) ∧ ∀ c, L2.ExcC K (ca c) ∧ PySem.W.kitOne K (.ref (ca c)) cv = some (m c)
  hfn : ∀ x f ps, mi.hfn.lookup x = some (f, ps) → mg x = some (.ref (fa f)) ∧ DKH mi T K fa f ps
theorem Stat.to {mi : Mi} {T : List FD} {fa fa' ca : Nat → Addr} {P : Program} {w : World} {K : PySem.W.Frag} {mg : Str → Option Value} {base : Heap} (S : Stat mi T fa ca P w K mg base) (e : ∀ n, n ≠ GI → fa' n = fa n) : Stat mi T fa' ca P w K mg base where
  free := S.free
  fns := fun x f h => by
    have n := e _ (S.gi x f h)
    obtain ⟨h1, D⟩ := S.fns x f h
    obtain ⟨y, qual, params, body, scope, fd, N, d, F, r⟩ := D.ex
    exact ⟨by rw [n]; exact h1, ⟨y, qual, params, body, scope, fd, N, d, by rw [n]; exact F, r⟩⟩
  all := fun k hk => by
    rcases S.all k hk with ⟨ps, kw, D⟩ | ⟨h1, h2⟩
    · obtain ⟨y, qual, params, body, scope, fd, N, d, F, r⟩ := D.ex
      exact .inl ⟨ps, kw, ⟨y, qual, params, body, scope, fd, N, d, by rw [e k hk]; exact F, r⟩⟩
    · exact .inr ⟨h1, by rw [e k hk, e 0 (by decide)]; exact h2⟩
  gi := S.gi
  gh := S.gh
  z := by
    obtain ⟨ps, kw, D⟩ := S.z
    obtain ⟨y, qual, params, body, scope, fd, N, d, F, r⟩ := D.ex
    exact ⟨ps, kw, ⟨y, qual, params, body, scope, fd, N, d, by rw [e 0 (by decide)]; exact F, r⟩⟩
  cls := S.cls
  exm := S.exm
  xf := S.xf
  bfun := S.bfun
  cst := S.cst
  isx := S.isx
  hfn := fun x f ps h => by
    have n := e _ (S.gh x f ps h)
    obtain ⟨h1, D⟩ := S.hfn x f ps h
    obtain ⟨y, qual, params, body, scope, fd, N, d, F, r⟩ := D.ex
    exact ⟨by rw [n]; exact h1, ⟨y, qual, params, body, scope, fd, N, d, by rw [n]; exact F, r⟩⟩
theorem wf_call {T : List FD} : ∀ lv, WfC (callN T lv)
  | 0 => fun k as l g os h => by cases h
  | n + 1 => fun k as l g os h => by
    have h' : (match T[k]? with | some fd => runF fd (callN T n) as | none => .stuck) = .ok (.dkn l g) os := h
    cases e : T[k]? with
    | none => rw [e] at h'; cases h'
    | some fd =>
      rw [e] at h'
      have h' : runF fd (callN T n) as = .ok (.dkn l g) os := h'
      have fin : ∀ {r : Ex} {ρ : Env}, finish as r ρ ≠ .ok (.dkn l g) os := fun {r ρ} z => by
        unfold finish at z
        cases e2 : outsOf ρ 0 as with
        | none => rw [e2] at z; cases z
        | some ls => rw [e2] at z; cases r <;> cases z
      unfold runF at h'
      split at h'
      · split at h'
        · exact fin h'
        · exact fin h'
        · split at h' <;> cases h'
        · cases h'
      · cases h'
theorem gm_of {mi : Mi} {T : List FD} {fa ca : Nat → Addr} {P : Program} {w : World} {K : PySem.W.Frag} {mg : Str → Option Value} {base : Heap} (S : Stat mi T fa ca P w K mg base) {lv : Nat}
    (h : ∀ k ps kw, DK mi T K fa k ps kw → ∃ fd, FnG fa (callN T lv) lv ca P w K mg base k fd ps ∧ ∀ ks p, kw.lookup ks = some p → ∀ (s : Shared) (ws : List Value), K.In s.heap → ws.length = ks.length → BindsTo s fd ⟨[], ks.zip ws⟩ (ps.zip (permL p ws)))
    (hH : ∀ k ps, DKH mi T K fa k ps → ∃ fd, FnGH fa (callN T lv) lv ca P w K mg base k fd ps) :
    GM mi fa (callN T lv) lv ca P w K mg base := by
  refine ⟨wf_call lv, S.free, fun x f e => ?_, fun k hk => ?_, fun x c fl e => ?_, S.exm, S.xf, S.bfun, S.cst, S.isx, fun x f ps e => ⟨(S.hfn x f ps e).1, hH _ _ (S.hfn x f ps e).2⟩⟩
  · obtain ⟨h1, h2⟩ := S.fns x f e
    exact ⟨h1, h _ _ _ h2⟩
  · rcases S.all k hk with ⟨ps, kw, D⟩ | ⟨e1, e2⟩
    · obtain ⟨fd, g, _⟩ := h k ps kw D
      exact ⟨fd, ps, g⟩
    · obtain ⟨ps, kw, D⟩ := S.z
      obtain ⟨fd, g, _⟩ := h 0 ps kw D
      refine ⟨fd, ps, fn_no fun as => ?_, by rw [e2]; exact g.kp, g.bd⟩
      cases lv with
      | zero => rfl
      | succ n =>
        show (match T[k]? with | some fd => runF fd (callN T n) as | none => .stuck) = _
        rw [e1]
  · obtain ⟨h1, h2⟩ := S.cls x c fl e
    exact ⟨h1, h2.T, h2.init, h2.nd, h2.ln⟩
theorem gm_all {mi : Mi} {T : List FD} {ca : Nat → Addr} {P : Program} {w : World} {K : PySem.W.Frag} {mg : Str → Option Value} {base : Heap} : ∀ lv {fa : Nat → Addr}, Stat mi T fa ca P w K mg base → GM mi fa (callN T lv) lv ca P w K mg base
  | 0, fa, S => gm_of S (fun k ps kw D => by
    obtain ⟨x, qual, params, body, scope, fd, N, d, F, Sc, hd, hT, hb, hk⟩ := D.ex
    exact ⟨fd, ⟨fn_no fun as => rfl, F.kp, hb⟩, hk⟩) fun k ps D => by
    obtain ⟨x, qual, params, body, scope, fd, N, d, F, Sc, hd, hT, hb⟩ := D.ex
    exact ⟨fd, fnH_no fun as => rfl, F.kp, hb⟩
  | lv + 1, fa, S => gm_of S (fun k ps kw D => by
    obtain ⟨x, qual, params, body, scope, fd, N, d, F, Sc, hd, ⟨ng, hT, hps, hid⟩, hb, hk⟩ := D.ex
    exact ⟨fd, ⟨def_ok F Sc hd hT (fun fa' e => gm_all lv (S.to e)) hps hid, F.kp, hb⟩, hk⟩) fun k ps D => by
    obtain ⟨x, qual, params, body, scope, fd, N, d, F, Sc, hd, ⟨ng, hT, hps, hid⟩, hb⟩ := D.ex
    exact ⟨fd, def_okH F Sc hd hT (fun fa' e => gm_all lv (S.to e)) hps hid, F.kp, hb⟩
theorem hid0 {sc : Scope} {N : List Str} {a : Nat} : Hid sc N a 0 := fun i x h1 h2 _ => absurd h2 (by omega)
theorem hid1 {sc : Scope} {N : List Str} {a : Nat} (hN : N[a]? = some gNm) (h : hidB sc gNm = true) : Hid sc N a 1 := fun i x h1 h2 hx => by
  have z : i = a := by omega
  rw [z, hN] at hx
  cases hx
  exact hidB_ok h
/-! ### the law's end -/
theorem walk_X {l : PySem.W.OpenLaw} {n k : Nat} {q : Program} {loose : List Str} {XP : (Str → Option Value) → Heap → Prop} {YP : World → Heap → Prop} {d : DefRec} {x : Str}
    (hn : l.most = some n) (hn2 : n ≤ sizeLine) (hdf : d.params.defaults = []) (hr : Room k callerA)
    (F : ∀ (w : World) (mg : Str → Option Value) (fa : Addr) (h : Heap), YP w h → h.Ns mainGlobals mg → mg d.name = some (.ref fa) →
      ∃ (K : PySem.W.Frag) (fd : FuncData) (sp : Sp), K.In h ∧ (∀ (s : Shared) (u : Value), BindsTo s fd ⟨[u], []⟩ [(x, u)]) ∧
        (∀ (H : Hp) (a : Addr) (ns : List Int), ns.length ≤ n → Only H → SqL K H a (ns.map V.int) → sp [.ref a] H (fun v _ => v = .bl true) fun _ _ _ => False) ∧
        ∀ base : Heap, K.In base → base.Ns mainGlobals mg → FnOk l.prog w K mg base (L2N.CX l.prog w) k fa fd [x] sp) :
    PySem.W.WalkO q loose XP YP l.row.toRowW d [] (fun f vs => PySem.call f vs) := by
  refine Att.attach_call hn hdf fun w s₀ s₁ mg mb fa o pm cd doc a vs ns G Y ho hd hcd hmg hobj hints hlen hg => ?_
  obtain ⟨K, fd, sp, KX, hb, hsp, hF⟩ := F w mg fa _ Y G.T.g hmg
  exact law_call KX G.T.g G.T.b G.T.builtins G.T.nolimit hg hobj hints (Nat.le_trans hlen hn2) hr hF hb (fun H hO hS => hsp H a ns hlen hO hS) fun H e s' x => by
    obtain ⟨a, B, H', cls, d, rfl, fl, hok, ub, na, os, ag, h⟩ := x
    exact h
theorem sp_law {K : PySem.W.Frag} {fa : Nat → Addr} {ca : Cc} {C : Calls} {k : Nat} {H : Hp} {a : Addr} {ns : List Int} (O : Only H) (S : SqL K H a (ns.map V.int)) (h : C k [.d (.scr ns)] = .ok (.d (.bl true)) []) : spC K fa ca C k [.ref a] H (fun v _ => v = .bl true) fun _ _ _ => False := by
  refine ⟨[], fun _ => False, [.d (.scr ns)], fun a f => f.elim, .d (.scr (SqF.of O S)) .nil, List.nodup_nil, rfl, ?_⟩
  rw [h]
  intro v F' H' q
  have r : Rp K fa F' H' v (.bl true) := q.res
  cases r
  rfl
/-! ### .. with a bound of the script's bits -/
/-- no number of more than 2 ** 20 bits -/
def Bits (ns : List Int) : Prop := ∀ i ∈ ns, i.natAbs.log2 ≤ 1048576
theorem wa_cons (x : PySem.W.WData) (r : List PySem.W.WData) : PySem.W.WData.weightAll (x :: r) = x.weight + 1 + PySem.W.WData.weightAll r := by
  conv => lhs; unfold PySem.W.WData.weightAll
theorem bits_all : ∀ {ns : List Int} {b : Nat}, PySem.W.WData.weightAll (ns.map PySem.W.WData.int) ≤ b → ∀ i ∈ ns, i.natAbs.log2 ≤ b
  | [], b, _, i, h => nomatch h
  | x :: r, b, hw, i, h => by
    have e : PySem.W.WData.weightAll ((x :: r).map PySem.W.WData.int) = (PySem.W.WData.int x).weight + 1 + PySem.W.WData.weightAll (r.map PySem.W.WData.int) := by
      rw [List.map_cons, wa_cons]
    rw [e] at hw
    rcases List.mem_cons.mp h with rfl | h
    · have e2 : (PySem.W.WData.int i).weight = if (i == 0) = true then 0 else i.natAbs.log2 + 1 := by unfold PySem.W.WData.weight; rfl
      rw [e2] at hw
      cases z : i == 0 with
      | true => rw [eq_of_beq z]; exact Nat.zero_le _
      | false => rw [z, if_neg Bool.false_ne_true] at hw; omega
    · exact bits_all (b := b) (by omega) i h
theorem attach_callB {l : PySem.W.OpenLaw} {n : Nat} {q : Program} {loose : List Str} {XP : (Str → Option Value) → Heap → Prop} {YP : World → Heap → Prop} {d : DefRec}
    (hn : l.most = some n) (hdf : d.params.defaults = [])
    (call : ∀ (w : World) (s₀ s₁ : Shared) (mg mb : Str → Option Value) (fa : Addr) (o : Obj) (pm cd doc : Value) (a : Addr) (vs : List Value) (ns : List Int), PySem.W.Ground q loose [] XP w s₀ mg mb s₁.heap → YP w s₁.heap → s₁.heap.get? fa = some o →
      o.data = Data.func (Calls.docDef d.name d.params d.body d.scope pm cd doc) → s₁.heap.CodeRec cd d.name → mg d.name = some (Value.ref fa) → s₁.heap.get? a = some { cls := Value.type "list", data := Data.seq vs.toArray } → IntsAre vs ns → ns.length ≤ n → Bits ns → s₁.gens = #[] →
      codeAny (model l.prog w) callerA (Code.call (Value.ref fa) { pos := [Value.ref a] }) (fun r s' => r = Except.ok (Flow.ret (Value.bool true)) ∧ OldK s₁.heap s'.heap ∧ s'.os = s₁.os ∧ AllBare s'.gens) s₁) :
    PySem.W.WalkO q loose XP YP l.row.toRowW d [] (fun f vs => PySem.call f vs) := by
  intro w s₀ s₁ mg mb G Y fa o pm cd doc dV kV ho hd hcd hD hmg hg args vals as hpre hlay hrd hwl hlo
  have e1 := PySem.W.Dflts.none hD hdf
  subst e1
  have e2 := PySem.W.Dflts.noKw hD
  subst e2
  obtain ⟨a, vs, ns, rfl, rfl, hobj, hints, hlen⟩ := Att.script_of hn hpre hwl
  have hb : Bits ns := by
    have h1 : (PySem.W.WData.list (ns.map PySem.W.WData.int)).layable = true := by
      have h0 : [PySem.W.WData.list (ns.map PySem.W.WData.int)].all PySem.W.WData.layable = true := hlay
      rw [List.all_cons, Bool.and_eq_true] at h0
      exact h0.1
    have h2 : (((PySem.W.WData.list (ns.map PySem.W.WData.int)).canLay && decide ((PySem.W.WData.list (ns.map PySem.W.WData.int)).depth ≤ 64)) && decide ((PySem.W.WData.list (ns.map PySem.W.WData.int)).weight ≤ 2 ^ 20)) = true := h1
    have h3 := of_decide_eq_true (Bool.and_eq_true_iff.mp h2).2
    have e3 : (PySem.W.WData.list (ns.map PySem.W.WData.int)).weight = PySem.W.WData.weightAll (ns.map PySem.W.WData.int) := by unfold PySem.W.WData.weight; rfl
    rw [e3] at h3
    exact bits_all h3
  refine PySem.W.enter_call (codeAny_mono (call w s₀ s₁ mg mb fa o pm cd doc a vs ns G Y ho (PySem.W.fd_plain hd) hcd hmg hobj hints hlen hb hg) fun r s' hq => ?_)
  obtain ⟨rfl, h2, h3, h4⟩ := hq
  exact ⟨Or.inl ⟨Value.bool true, PySem.W.WData.bool true, [], rfl, fun x => rfl, PySem.W.ReadsW.bool true, Att.post_true l _, fun x => ⟨List.Pairwise.nil, fun x hm => nomatch hm⟩⟩, h2, h3, h4⟩
theorem walk_XB {l : PySem.W.OpenLaw} {n k : Nat} {q : Program} {loose : List Str} {XP : (Str → Option Value) → Heap → Prop} {YP : World → Heap → Prop} {d : DefRec} {x : Str}
    (hn : l.most = some n) (hn2 : n ≤ sizeLine) (hdf : d.params.defaults = []) (hr : Room k callerA)
    (F : ∀ (w : World) (mg : Str → Option Value) (fa : Addr) (h : Heap), YP w h → h.Ns mainGlobals mg → mg d.name = some (.ref fa) →
      ∃ (K : PySem.W.Frag) (fd : FuncData) (sp : Sp), K.In h ∧ (∀ (s : Shared) (u : Value), BindsTo s fd ⟨[u], []⟩ [(x, u)]) ∧
        (∀ (H : Hp) (a : Addr) (ns : List Int), ns.length ≤ n → Bits ns → Only H → SqL K H a (ns.map V.int) → sp [.ref a] H (fun v _ => v = .bl true) fun _ _ _ => False) ∧
        ∀ base : Heap, K.In base → base.Ns mainGlobals mg → FnOk l.prog w K mg base (L2N.CX l.prog w) k fa fd [x] sp) :
    PySem.W.WalkO q loose XP YP l.row.toRowW d [] (fun f vs => PySem.call f vs) := by
  refine attach_callB hn hdf fun w s₀ s₁ mg mb fa o pm cd doc a vs ns G Y ho hd hcd hmg hobj hints hlen hbit hg => ?_
  obtain ⟨K, fd, sp, KX, hb, hsp, hF⟩ := F w mg fa _ Y G.T.g hmg
  exact law_call KX G.T.g G.T.b G.T.builtins G.T.nolimit hg hobj hints (Nat.le_trans hlen hn2) hr hF hb (fun H hO hS => hsp H a ns hlen hbit hO hS) fun H e s' x => by
    obtain ⟨a, B, H', cls, d, rfl, fl, hok, ub, na, os, ag, h⟩ := x
    exact h
end RX
set_option Elab.async false
set_option linter.all false
set_option maxRecDepth 100000
set_option maxHeartbeats 4000000
/-! RXt: the module's facts, put together. -/
namespace RX
open PySem PySem.Spec PyProof.Rows L2
abbrev fAt (K : PySem.W.Frag) (nms : List Str) (n0 : Str) : Nat → Addr := fun k => He.ga K (nms.getD k n0)
theorem all_nil {α : Type} {P : α → Prop} : ∀ p ∈ ([] : List α), P p := fun p h => nomatch h
theorem all_cons {α : Type} {P : α → Prop} {a : α} {l : List α} (h : P a) (r : ∀ p ∈ l, P p) : ∀ p ∈ a :: l, P p := fun p hp => by
  rcases List.mem_cons.mp hp with e | e
  · rw [e]; exact h
  · exact r p e
theorem cb_of {mi : Mi} {N : List Str} {sc : Scope} {body : List Stmt} {d : DS} (h : (cBody mi N sc body).map (·.1) = some d) : CB mi N ⟨sc, fun _ => true, none⟩ body d := by
  cases e : cBody mi N sc body with
  | none => rw [e] at h; cases h
  | some p => rw [e] at h; cases h; exact p.2
theorem cbh_of {mi : Mi} {N : List Str} {sc : Scope} {body : List Stmt} {d : DS} (h : (cBodyH mi N sc body).map (·.1) = some d) : CB mi N ⟨sc, fun _ => true, some N.length⟩ body d := by
  cases e : cBodyH mi N sc body with
  | none => rw [e] at h; cases h
  | some p => rw [e] at h; cases h; exact p.2
/-- what a call with keywords binds -/
abbrev KwG (K : PySem.W.Frag) (fd : FuncData) (ps : List Str) (ks : List Str) (p : List Nat) : Prop := ∀ (s : Shared) (ws : List Value), K.In s.heap → ws.length = ks.length → BindsTo s fd ⟨[], ks.zip ws⟩ (ps.zip (permL p ws))
theorem kw_nil {K : PySem.W.Frag} {fd : FuncData} {ps : List Str} : ∀ ks p, ([] : List (List Str × List Nat)).lookup ks = some p → KwG K fd ps ks p := fun ks p h => by cases h
theorem kw_cons {K : PySem.W.Frag} {fd : FuncData} {ps a : List Str} {b : List Nat} {r : List (List Str × List Nat)} (h1 : KwG K fd ps a b) (h2 : ∀ ks p, r.lookup ks = some p → KwG K fd ps ks p) : ∀ ks p, ((a, b) :: r).lookup ks = some p → KwG K fd ps ks p := fun ks p h => by
  have h' : (match ks == a with | true => some b | false => r.lookup ks) = some p := h
  cases e : ks == a with
  | true => rw [e] at h'; cases h'; rw [eq_of_beq e]; exact h1
  | false => rw [e] at h'; exact h2 ks p h'
theorem kw_one {K : PySem.W.Frag} {x qual : Str} {params : Arguments} {body : List Stmt} {scope : Scope} {f : Addr} {fd : FuncData} {ps ks : List Str} {p : List Nat} (F : FunD K x qual params body scope [] [] f fd)
    (h : ∀ (kV doc pm : Value) (an : Option Addr) (cdv ct : Value) (ws : List Value), ws.length = ks.length → bindArgs (PySem.W.fnOf x qual params body scope .none kV doc pm an cdv ct) ⟨[], ks.zip ws⟩ = pure (ps.zip (permL p ws))) : KwG K fd ps ks p := fun s ws X hl => by
  obtain ⟨oc, od, dV, kV, doc, pm, an, cdv, ct, osl, rfl, lk, hcd, hD, hK⟩ := F.ex
  rcases hD with ⟨_, rfl⟩ | ⟨e, _⟩
  · exact .of_eq (h kV doc pm an cdv ct ws hl)
  · exact absurd rfl e
theorem getD_mem {α : Type} {l : List α} {d : α} (c : Nat) : l.getD c d ∈ d :: l := by
  rw [List.getD_eq_getElem?_getD]
  cases e : l[c]? with
  | none => exact List.mem_cons_self
  | some x => exact List.mem_cons_of_mem _ (List.mem_of_getElem? e)
/-- the classes that isinstance asks for -/
abbrev yOwn (y : Str) : PySem.W.Frag → Value := fun K => .ref (He.ga K y)
abbrev yTy (y : String) : PySem.W.Frag → Value := fun _ => .type y
theorem isx_own {K : PySem.W.Frag} {mg : Str → Option Value} {y : Str} {ca : Nat → Addr} {m : Nat → Bool} (hm : mg y = some (.ref (He.ga K y))) (h : ∀ c, L2.ExcC K (ca c) ∧ PySem.W.kitOne K (.ref (ca c)) (yOwn y K) = some (m c)) :
    ∃ (cv : Value) (v : V), (mg y = some cv ∨ mg y = none ∧ bootBuiltins y = some cv) ∧ RelV v cv ∧ (∀ u, RelV v u → u = cv) ∧ ∀ c, L2.ExcC K (ca c) ∧ PySem.W.kitOne K (.ref (ca c)) cv = some (m c) :=
  ⟨.ref (He.ga K y), .ref (He.ga K y), .inl hm, rfl, fun u r => r, h⟩
theorem isx_ty {K : PySem.W.Frag} {mg : Str → Option Value} {y : Str} {t : String} {ca : Nat → Addr} {m : Nat → Bool} (hm : mg y = none) (hb : bootBuiltins y = some (.type t)) (h : ∀ c, L2.ExcC K (ca c) ∧ PySem.W.kitOne K (.ref (ca c)) (yTy t K) = some (m c)) :
    ∃ (cv : Value) (v : V), (mg y = some cv ∨ mg y = none ∧ bootBuiltins y = some cv) ∧ RelV v cv ∧ (∀ u, RelV v u → u = cv) ∧ ∀ c, L2.ExcC K (ca c) ∧ PySem.W.kitOne K (.ref (ca c)) cv = some (m c) :=
  ⟨.type t, .ty t, .inr ⟨hm, hb⟩, rfl, fun u r => r, h⟩
theorem stat_of {mi : Mi} {T : List FD} {P : Program} {w : World} {K : PySem.W.Frag} {mg : Str → Option Value} {base : Heap} {nms rn : List Str} {n0 r0 : Str} (hfree : ∀ x ∈ mi.free, mg x = none)
    (hf : ∀ p ∈ mi.fns, mg p.1 = some (.ref (fAt K nms n0 p.2.ix)) ∧ DK mi T K (fAt K nms n0) p.2.ix p.2.ps p.2.kw) (hx : ((List.range T.length).all fun k => decide ((mi.fns[k]?).map (·.2.ix) = some k)) = true) (hz : 0 < T.length) (hgi : (mi.fns.all (fun p => decide (p.2.ix ≠ GI)) && mi.hfn.all (fun p => decide (p.2.1 ≠ GI))) = true) (hn : nms.length = T.length) (h0 : nms.getD 0 n0 = n0)
    (hc : ∀ p ∈ mi.cls, mg p.1 = some (.ref (fAt K rn r0 p.2.1)) ∧ ClG 0 (fAt K rn r0) P w K mg base p.2.1 p.2.2)
    (he : ∀ p ∈ mi.exm, mg p.1 = some (.ref (He.ga K p.1)) ∧ ∀ c, PySem.W.exmOne K (.ref (fAt K rn r0 c)) (.ref (He.ga K p.1)) = some (p.2 c)) (hxf : ∀ x ∈ r0 :: rn, ClsB x mi.flds K) (hb : ∀ p ∈ mi.bfun, mg p.1 = some (.builtin p.2))
    (hcst : ∀ p ∈ mi.cst, ∃ (u : Value) (v : V), mg p.1 = some u ∧ RelV v u ∧ ∀ (fa : Nat → Addr) F H, Rp K fa F H v p.2)
    (hisx : ∀ p ∈ mi.isx, ∃ (cv : Value) (v : V), (mg p.1 = some cv ∨ mg p.1 = none ∧ bootBuiltins p.1 = some cv) ∧ RelV v cv ∧ (∀ u, RelV v u → u = cv) ∧ ∀ c, L2.ExcC K (fAt K rn r0 c) ∧ PySem.W.kitOne K (.ref (fAt K rn r0 c)) cv = some (p.2 c))
    (hhfn : ∀ p ∈ mi.hfn, mg p.1 = some (.ref (fAt K nms n0 p.2.1)) ∧ DKH mi T K (fAt K nms n0) p.2.1 p.2.2) : Stat mi T (fAt K nms n0) (fAt K rn r0) P w K mg base := by
  have hall : ∀ k, k < T.length → ∃ ps kw, DK mi T K (fAt K nms n0) k ps kw := fun k hk => by
    have q := List.all_eq_true.mp hx k (List.mem_range.mpr hk)
    have q := of_decide_eq_true q
    cases e : mi.fns[k]? with
    | none => rw [e] at q; cases q
    | some p =>
      rw [e] at q
      have q : some p.2.ix = some k := q
      cases q
      exact ⟨_, _, (hf p (List.mem_of_getElem? e)).2⟩
  refine ⟨fun x hx => hfree x (List.contains_iff_mem.mp hx), fun x f e => hf (x, f) (PySem.mem_of_lookup e), fun k _ => ?_, fun x f e => of_decide_eq_true (List.all_eq_true.mp (Bool.and_eq_true_iff.mp hgi).1 (x, f) (PySem.mem_of_lookup e)), fun x f ps e => of_decide_eq_true (List.all_eq_true.mp (Bool.and_eq_true_iff.mp hgi).2 (x, f, ps) (PySem.mem_of_lookup e)), hall 0 hz, fun x c fl e => hc (x, c, fl) (PySem.mem_of_lookup e), fun x m e => ⟨_, he (x, m) (PySem.mem_of_lookup e)⟩,
    fun c => ?_, fun x id e => hb (x, id) (PySem.mem_of_lookup e), fun x d e => hcst (x, d) (PySem.mem_of_lookup e), fun y m e => hisx (y, m) (PySem.mem_of_lookup e), fun x f ps e => hhfn (x, f, ps) (PySem.mem_of_lookup e)⟩
  · by_cases hk : k < T.length
    · exact .inl (hall k hk)
    · refine .inr ⟨List.getElem?_eq_none (by omega), ?_⟩
      show He.ga K (nms.getD k n0) = He.ga K (nms.getD 0 n0)
      rw [h0, List.getD_eq_getElem?_getD, List.getElem?_eq_none (by omega)]
      rfl
  · have q := hxf _ (getD_mem (l := rn) (d := r0) c)
    exact ⟨q.xf, q.no⟩
theorem SaysX.fact {ck : Cks} {fa : List He.Fa} {fn : List He.DefD} {K : PySem.W.Frag} (c : SaysX ck fa fn K) {f : He.Fa} (h : f ∈ fa) : f.ok K = true := by
  have h2 := (Bool.and_eq_true_iff.mp c.b).2
  exact List.all_eq_true.mp (Bool.and_eq_true_iff.mp h2).1 f h
end RX
set_option Elab.async false
set_option linter.all false
set_option maxRecDepth 100000
set_option maxHeartbeats 4000000
/-! RXu: evaluating by simp. What follows stands behind a Hold: simp does not look into it before it is reached. -/
namespace RX
open PySem
structure Hold {α : Type} (f : α) : Type where
section
variable {C : Calls} {ρ : Env} {a b c e : Den} {t u : TD} {f g : Op2}
def bnd {α β : Type} (f : α → Env → R β) (_ : Hold f) (x : R α) : R β := x.bind f
def outK {α : Type} (f : α → Env → Out) (_ : Hold f) (x : R α) : Out := x.out f
def obnd (f : Env → Out) (_ : Hold f) (x : Out) : Out := x.bind f
/-- a choice -/
def pk {α : Type} (f : Bool → α) (_ : Hold f) (k : Bool) : α := f k
theorem pk_t {α : Type} {f : Bool → α} {h : Hold f} : pk f h true = f true := rfl
theorem pk_f {α : Type} {f : Bool → α} {h : Hold f} : pk f h false = f false := rfl
theorem bnd_ok {α β : Type} {a : α} {f : α → Env → R β} {h : Hold f} : bnd f h (R.ok a ρ) = f a ρ := rfl
theorem bnd_exc {α β : Type} {k : Nat} {fs : List (Str × D)} {f : α → Env → R β} {h : Hold f} : bnd f h (R.exc k fs ρ : R α) = .exc k fs ρ := rfl
theorem outK_ok {α : Type} {a : α} {f : α → Env → Out} {h : Hold f} : outK f h (R.ok a ρ) = f a ρ := rfl
theorem outK_exc {α : Type} {k : Nat} {fs : List (Str × D)} {f : α → Env → Out} {h : Hold f} : outK f h (R.exc k fs ρ : R α) = .exc k fs ρ := rfl
theorem obnd_next {f : Env → Out} {h : Hold f} : obnd f h (Out.next ρ) = f ρ := rfl
theorem obnd_ret {r : Ex} {f : Env → Out} {h : Hold f} : obnd f h (Out.ret r ρ) = .ret r ρ := rfl
theorem obnd_brk {f : Env → Out} {h : Hold f} : obnd f h (Out.brk ρ) = .brk ρ := rfl
theorem obnd_cont {f : Env → Out} {h : Hold f} : obnd f h (Out.cont ρ) = .cont ρ := rfl
theorem obnd_exc {k : Nat} {fs : List (Str × D)} {f : Env → Out} {h : Hold f} : obnd f h (Out.exc k fs ρ) = .exc k fs ρ := rfl
/-- from what is made to a result -/
def toR (ρ : Env) (o : Option Ex) : R Ex := match o with
  | some r => .ok r ρ
  | none => .stuck
theorem toR_some {r : Ex} : toR ρ (some r) = .ok r ρ := rfl
/-- .. to a test -/
def toB (ρ : Env) (o : Option Ex) : R Bool := match o with
  | some (.d (.bl k)) => .ok k ρ
  | _ => .stuck
theorem toB_some {k : Bool} : toB ρ (some (.d (.bl k))) = .ok k ρ := rfl
def toT (ρ : Env) (o : Option Bool) : R Bool := match o with
  | some k => .ok k ρ
  | none => .stuck
theorem toT_some {k : Bool} : toT ρ (some k) = .ok k ρ := rfl
def toS (o : Option Env) : Out := match o with
  | some ρ => .next ρ
  | none => .stuck
theorem toS_some : toS (some ρ) = .next ρ := rfl
/-- a value as a bool -/
def asB (f : Bool → R Ex) (_ : Hold f) (x : D) : R Ex := match x with
  | .bl k => f k
  | _ => .stuck
theorem asB_bl {k : Bool} {f : Bool → R Ex} {h : Hold f} : asB f h (.bl k) = f k := rfl
def lk {α : Type} (z : α) (f : D → α) (_ : Hold f) (o : Option D) : α := match o with
  | some x => f x
  | none => z
theorem lk_some {α : Type} {z : α} {x : D} {f : D → α} {h : Hold f} : lk z f h (some x) = f x := rfl
/-! expressions -/
theorem x_C {x : D} : dC x C ρ = .ok (.d x) ρ := rfl
def varK (ρ : Env) (i : Nat) (o : Option Sl) : R Ex := match o with
  | some (.val d) => .ok (.d d) ρ
  | some (.own l) => .ok (.d (.lst l)) (ρ.set i (.val (.lst l)))
  | _ => .stuck
theorem varK_v {i : Nat} {d : D} : varK ρ i (some (.val d)) = .ok (.d d) ρ := rfl
theorem varK_o {i : Nat} {l : List D} : varK ρ i (some (.own l)) = .ok (.d (.lst l)) (ρ.set i (.val (.lst l))) := rfl
theorem x_Var {i : Nat} : dVar i C ρ = varK ρ i ρ[i]? := rfl
theorem x_Op : dOp f a b C ρ = bnd (fun x ρ1 => bnd (fun y ρ2 => toR ρ2 (f x.frz y.frz)) ⟨⟩ (b C ρ1)) ⟨⟩ (a C ρ) := rfl
theorem x_Un {h : Op1} : dUn h a C ρ = bnd (fun x ρ1 => toR ρ1 (h x.frz)) ⟨⟩ (a C ρ) := rfl
theorem x_tE : tE a C ρ = bnd (fun x ρ1 => toT ρ1 (truth x.frz)) ⟨⟩ (a C ρ) := rfl
theorem x_tNot : tNot t C ρ = bnd (fun k ρ1 => .ok (!k) ρ1) ⟨⟩ (t C ρ) := rfl
theorem x_tAnd : tAnd t u C ρ = bnd (fun k ρ1 => pk (fun k => if k = true then u C ρ1 else .ok false ρ1) ⟨⟩ k) ⟨⟩ (t C ρ) := rfl
theorem x_tOr : tOr t u C ρ = bnd (fun k ρ1 => pk (fun k => if k = true then .ok true ρ1 else u C ρ1) ⟨⟩ k) ⟨⟩ (t C ρ) := rfl
theorem x_And : dAnd a b C ρ = bnd (fun x ρ1 => asB (fun k => pk (fun k => if k = true then b C ρ1 else .ok (.d (.bl false)) ρ1) ⟨⟩ k) ⟨⟩ x.frz) ⟨⟩ (a C ρ) := by
  unfold dAnd bnd
  cases a C ρ with
  | exc k fs ρ1 => rfl
  | stuck => rfl
  | ok x ρ1 =>
    simp only [R.bind]
    cases x.frz with
    | bl k => cases k <;> rfl
    | _ => rfl
theorem x_Or : dOr a b C ρ = bnd (fun x ρ1 => asB (fun k => pk (fun k => if k = true then .ok (.d (.bl true)) ρ1 else b C ρ1) ⟨⟩ k) ⟨⟩ x.frz) ⟨⟩ (a C ρ) := by
  unfold dOr bnd
  cases a C ρ with
  | exc k fs ρ1 => rfl
  | stuck => rfl
  | ok x ρ1 =>
    simp only [R.bind]
    cases x.frz with
    | bl k => cases k <;> rfl
    | _ => rfl
theorem x_Not : dNot a C ρ = bnd (fun x ρ1 => asB (fun k => .ok (.d (.bl (!k))) ρ1) ⟨⟩ x.frz) ⟨⟩ (a C ρ) := by
  unfold dNot bnd
  cases a C ρ with
  | exc k fs ρ1 => rfl
  | stuck => rfl
  | ok x ρ1 =>
    simp only [R.bind]
    cases x.frz <;> rfl
theorem x_If : dIf t a b C ρ = bnd (fun k ρ1 => pk (fun k => if k = true then a C ρ1 else b C ρ1) ⟨⟩ k) ⟨⟩ (t C ρ) := rfl
theorem x_nil : dAll [] C ρ = .ok [] ρ := rfl
theorem x_cons {r : List Den} : dAll (a :: r) C ρ = bnd (fun x ρ1 => bnd (fun xs ρ2 => .ok (x.frz :: xs) ρ2) ⟨⟩ (dAll r C ρ1)) ⟨⟩ (a C ρ) := rfl
theorem x_Tup {es : List Den} : dTup es C ρ = bnd (fun xs ρ1 => .ok (.d (.tup xs)) ρ1) ⟨⟩ (dAll es C ρ) := rfl
theorem x_Lst {es : List Den} : dLst es C ρ = bnd (fun xs ρ1 => .ok (.fresh xs) ρ1) ⟨⟩ (dAll es C ρ) := rfl
theorem x_IxV {i : Nat} : dIxV i e C ρ = lk .stuck (fun _ => bnd (fun y ρ1 => lk .stuck (fun x => toR ρ1 (fIx x y.frz)) ⟨⟩ (look ρ1 i)) ⟨⟩ (e C ρ)) ⟨⟩ (look ρ i) := by
  unfold dIxV
  cases look ρ i with
  | none => rfl
  | some x0 =>
    show R.bind _ _ = R.bind _ _
    cases e C ρ with
    | ok y ρ1 => simp only [R.bind]; cases look ρ1 i <;> rfl
    | _ => rfl
theorem x_B {h : Bf} {es : List Den} : dB h es C ρ = bnd (fun xs ρ1 => toR ρ1 (h xs)) ⟨⟩ (dAll es C ρ) := rfl
theorem x_B1 {h : Bf} {i : Nat} : dB1 h i C ρ = lk .stuck (fun x => toR ρ (h [x])) ⟨⟩ (look ρ i) := by
  unfold dB1
  cases look ρ i <;> rfl
theorem x_Cmp : tCmpB f a b C ρ = bnd (fun x ρ1 => bnd (fun y ρ2 => toB ρ2 (f x.frz y.frz)) ⟨⟩ (b C ρ1)) ⟨⟩ (a C ρ) := by
  unfold tCmpB bnd
  cases a C ρ with
  | exc k fs ρ1 => rfl
  | stuck => rfl
  | ok x ρ1 =>
    simp only [R.bind]
    cases b C ρ1 <;> rfl
theorem x_InV {i : Nat} : tInV f a i C ρ = bnd (fun x ρ1 => lk .stuck (fun y => toB ρ1 (f x.frz y)) ⟨⟩ (look ρ1 i)) ⟨⟩ (a C ρ) := by
  unfold tInV bnd
  cases a C ρ with
  | ok x ρ1 => simp only [R.bind]; cases look ρ1 i <;> rfl
  | _ => rfl
def pK (ρ : Env) : Option Int → R (Option Int)
  | some i => .ok (some i) ρ
  | none => .stuck
theorem pK_some {i : Int} : pK ρ (some i) = .ok (some i) ρ := rfl
theorem x_Pn : dPart none C ρ = .ok none ρ := rfl
theorem x_Ps {e : Den} : dPart (some e) C ρ = bnd (fun x ρ1 => pK ρ1 x.frz.asInt?) ⟨⟩ (e C ρ) := by
  show (e C ρ).bind _ = (e C ρ).bind _
  cases e C ρ with
  | ok x ρ1 => simp only [R.bind]; cases x.frz.asInt? <;> rfl
  | _ => rfl
theorem x_SlV {i : Nat} {lo hi : Option Den} : dSlV i lo hi C ρ = lk .stuck (fun _ => bnd (fun l ρ2 => bnd (fun h ρ3 => lk .stuck (fun x => toR ρ3 (fSl x l h)) ⟨⟩ (look ρ3 i)) ⟨⟩ (dPart hi C ρ2)) ⟨⟩ (dPart lo C ρ)) ⟨⟩ (look ρ i) := by
  unfold dSlV
  cases look ρ i with
  | none => rfl
  | some x0 =>
    show R.bind _ _ = R.bind _ _
    cases dPart lo C ρ with
    | ok y ρ1 =>
      simp only [R.bind]
      show R.bind _ _ = R.bind _ _
      cases dPart hi C ρ1 with
      | ok z ρ2 => simp only [R.bind]; cases look ρ2 i <;> rfl
      | _ => rfl
    | _ => rfl
def isKE (m : Nat → Bool) (ρ : Env) : Option Sl → R Ex
  | some (.exn c _) => .ok (.d (.bl (m c))) ρ
  | _ => .stuck
theorem isKE_e {m : Nat → Bool} {c : Nat} {fs : List (Str × D)} : isKE m ρ (some (.exn c fs)) = .ok (.d (.bl (m c))) ρ := rfl
theorem x_IsE {i : Nat} {m : Nat → Bool} : dIsE i m C ρ = isKE m ρ ρ[i]? := by
  unfold dIsE isKE
  cases ρ[i]? with
  | none => rfl
  | some s => cases s <;> rfl
/-! calls -/
theorem x_anil : argsE [] C ρ = .ok [] ρ := rfl
theorem x_av {i : Nat} {r : List AD} : argsE (.v i :: r) C ρ = pk (fun k => if k = true then bnd (fun xs ρ2 => .ok (.own i :: xs) ρ2) ⟨⟩ (argsE r C ρ) else bnd (fun x ρ1 => bnd (fun xs ρ2 => .ok (.d x.frz :: xs) ρ2) ⟨⟩ (argsE r C ρ1)) ⟨⟩ (dVar i C ρ)) ⟨⟩ (isOwn ρ[i]?) := rfl
theorem x_ae {r : List AD} : argsE (.e a :: r) C ρ = bnd (fun x ρ1 => bnd (fun xs ρ2 => .ok (.d x.frz :: xs) ρ2) ⟨⟩ (argsE r C ρ1)) ⟨⟩ (a C ρ) := rfl
def backE (ρ : Env) (r : Ex) (o : Option Env) : R Ex := match o with
  | some ρ' => .ok r ρ'
  | none => .stuck
theorem backE_some {r : Ex} {ρ' : Env} : backE ρ r (some ρ') = .ok r ρ' := rfl
/-- what comes back from a call -/
def back (as : List AV) (ρ : Env) (x : CR) : R Ex := match x with
  | .ok r outs => backE ρ r (backTo ρ (owns as) outs)
  | .exc c fs => if (owns as).isEmpty = true then .exc c fs ρ else .stuck
  | _ => .stuck
theorem back_ok {as : List AV} {r : Ex} {outs : List (List D)} : back as ρ (.ok r outs) = backE ρ r (backTo ρ (owns as) outs) := rfl
theorem back_exc {as : List AV} {k : Nat} {fs : List (Str × D)} : back as ρ (.exc k fs) = if (owns as).isEmpty = true then .exc k fs ρ else .stuck := rfl
def goK (C : Calls) (k : Nat) (as : List AV) (ρ : Env) (o : Option (List Arg)) : R Ex := match o with
  | none => .stuck
  | some xs => back as ρ (C k xs)
theorem goK_some {k : Nat} {as : List AV} {xs : List Arg} : goK C k as ρ (some xs) = back as ρ (C k xs) := rfl
theorem x_do {k : Nat} {as : List AV} : doCall k as C ρ = if nodupN (owns as) = true then goK C k as ρ (argsOf ρ as) else .stuck := by
  unfold doCall
  split
  · cases argsOf ρ as with
    | none => rfl
    | some xs =>
      simp only [goK]
      generalize C k xs = y
      cases y with
      | ok r outs =>
        simp only [back]
        cases backTo ρ (owns as) outs <;> rfl
      | exc c fs => rfl
      | stuck => rfl
      | dk l g os => rfl
  · rfl
theorem x_CallG {k g : Nat} {as : List AD} : dCallG k as g C ρ = bnd (fun xs ρ1 => doCall k (xs ++ [.gh g]) C ρ1) ⟨⟩ (argsE as C ρ) := rfl
theorem x_Call {k : Nat} {as : List AD} : dCall k as C ρ = bnd (fun xs ρ1 => doCall k xs C ρ1) ⟨⟩ (argsE as C ρ) := rfl
theorem x_CallK {k : Nat} {p : List Nat} {as : List AD} : dCallK k p as C ρ = bnd (fun xs ρ1 => doCall k (permL p xs) C ρ1) ⟨⟩ (argsE as C ρ) := rfl
def vK (as : List AD) (C : Calls) (ρ : Env) (o : Option Sl) : R Ex := match o with
  | some (.val (.fn f)) => if f < GI then bnd (fun xs ρ1 => doCall f xs C ρ1) ⟨⟩ (argsE as C ρ) else .stuck
  | _ => .stuck
theorem vK_fn {k : Nat} {as : List AD} (h : k < GI) : vK as C ρ (some (.val (.fn k))) = bnd (fun xs ρ1 => doCall k xs C ρ1) ⟨⟩ (argsE as C ρ) := by
  show (if k < GI then _ else _) = _
  rw [if_pos h]
theorem x_CallV {i : Nat} {as : List AD} : dCallV i as C ρ = vK as C ρ ρ[i]? := by
  unfold dCallV vK
  cases ρ[i]? with
  | none => rfl
  | some s =>
    cases s with
    | val d => cases d <;> rfl
    | _ => rfl
/-! statements -/
variable {A B : DS}
theorem x_Seq : sSeq A B C ρ = obnd (fun ρ1 => B C ρ1) ⟨⟩ (A C ρ) := rfl
theorem x_Pass : sPass C ρ = .next ρ := rfl
theorem x_Brk : sBrk C ρ = .brk ρ := rfl
theorem x_Cont : sCont C ρ = .cont ρ := rfl
theorem x_Set {i : Nat} : sSet i a C ρ = outK (fun x ρ1 => toS (stSl ρ1 i x.sl)) ⟨⟩ (a C ρ) := by
  unfold sSet outK
  cases a C ρ with
  | ok x ρ1 => simp only [R.out]; cases stSl ρ1 i x.sl <;> rfl
  | _ => rfl
theorem x_Unp {l : List Nat} : sUnp l a C ρ = outK (fun x ρ1 => toS ((Tg.t l).st ρ1 x.frz)) ⟨⟩ (a C ρ) := by
  unfold sUnp outK
  cases a C ρ with
  | ok x ρ1 => simp only [R.out]; cases (Tg.t l).st ρ1 x.frz <;> rfl
  | _ => rfl
theorem x_Par {i j : Nat} : sPar i j a b C ρ = outK (fun xs ρ1 => toS (stAll ρ1 [i, j] xs)) ⟨⟩ (dAll [a, b] C ρ) := by
  unfold sPar outK
  cases dAll [a, b] C ρ with
  | ok x ρ1 => simp only [R.out]; cases stAll ρ1 [i, j] x <;> rfl
  | _ => rfl
theorem x_Expr : sExpr a C ρ = outK (fun _ ρ1 => .next ρ1) ⟨⟩ (a C ρ) := rfl
theorem x_Ret : sRet a C ρ = outK (fun x ρ1 => .ret x ρ1) ⟨⟩ (a C ρ) := rfl
def retK (ρ : Env) (i : Nat) (o : Option Sl) : Out := match o with
  | some (.val d) => .ret (.d d) ρ
  | some (.own l) => .ret (.fresh l) (ρ.set i .none)
  | _ => .stuck
theorem retK_v {i : Nat} {d : D} : retK ρ i (some (.val d)) = .ret (.d d) ρ := rfl
theorem retK_o {i : Nat} {l : List D} : retK ρ i (some (.own l)) = .ret (.fresh l) (ρ.set i .none) := rfl
theorem x_RetV {i : Nat} : sRetV i C ρ = retK ρ i ρ[i]? := rfl
theorem x_RetN : sRetN C ρ = .ret (.d .non) ρ := rfl
theorem x_SIf : sIf t A B C ρ = outK (fun k ρ1 => pk (fun k => if k = true then A C ρ1 else B C ρ1) ⟨⟩ k) ⟨⟩ (t C ρ) := rfl
theorem x_For {tg : Tg} {it : ID} : sFor tg it A C ρ = outK (fun l ρ1 => forL tg A C l ρ1) ⟨⟩ (it C ρ) := rfl
theorem x_Raise {k : Nat} {fl : List Str} {es : List Den} : sRaise k fl es C ρ = outK (fun xs ρ1 => if xs.length = fl.length then .exc k (fl.zip xs) ρ1 else .stuck) ⟨⟩ (dAll es C ρ) := rfl
def itK (ρ : Env) (o : Option (List D)) : R (List D) := match o with
  | some l => .ok l ρ
  | none => .stuck
theorem itK_some {l : List D} : itK ρ (some l) = .ok l ρ := rfl
theorem x_iE : iE a C ρ = bnd (fun x ρ1 => itK ρ1 x.frz.items?) ⟨⟩ (a C ρ) := by
  unfold iE bnd
  cases a C ρ with
  | ok x ρ1 => simp only [R.bind]; cases x.frz.items? <;> rfl
  | _ => rfl
def rgK (ρ : Env) (o : Option Int) : R (List D) := match o with
  | some n => if -16777216 < n ∧ n < 16777216 then .ok (rng 0 n) ρ else .stuck
  | none => .stuck
theorem rgK_some {n : Int} (h : -16777216 < n ∧ n < 16777216) : rgK ρ (some n) = .ok (rng 0 n) ρ := if_pos h
theorem x_iR1 : iR1 a C ρ = bnd (fun x ρ1 => rgK ρ1 x.frz.asInt?) ⟨⟩ (a C ρ) := by
  unfold iR1 bnd
  cases a C ρ with
  | ok x ρ1 => simp only [R.bind]; cases x.frz.asInt? <;> rfl
  | _ => rfl
def tryK (hs : List Hd) (C : Calls) (o : Out) : Out := match o with
  | .exc c fs ρ1 => handle C c fs ρ1 hs
  | o => o
theorem x_Try {hs : List Hd} : sTry A hs C ρ = tryK hs C (A C ρ) := by
  unfold sTry tryK
  cases A C ρ <;> rfl
theorem try_ret {hs : List Hd} {r : Ex} : tryK hs C (.ret r ρ) = .ret r ρ := rfl
theorem try_next {hs : List Hd} : tryK hs C (.next ρ) = .next ρ := rfl
def h1K (C : Calls) (h : DS) (i : Nat) (o : Option Env) : Out := match o with
  | some ρ1 => (h C ρ1).suite (some i)
  | none => .stuck
theorem h1K_some {h : DS} {i : Nat} : h1K C h i (some ρ) = (h C ρ).suite (some i) := rfl
theorem try_exc {m : Nat → Bool} {i k : Nat} {h : DS} {fs : List (Str × D)} (hm : m k = true) : tryK [⟨m, some i, h⟩] C (.exc k fs ρ) = h1K C h i (stSl ρ i (.exn k fs)) := by
  show handle C k fs ρ [⟨m, some i, h⟩] = _
  unfold handle
  rw [if_pos hm]
  simp only []
  cases stSl ρ i (.exn k fs) <;> rfl
theorem suite_ret {i : Nat} {r : Ex} : (Out.ret r ρ).suite (some i) = .ret r (ρ.set i .none) := rfl
theorem suite_next {i : Nat} : (Out.next ρ).suite (some i) = .next (ρ.set i .none) := rfl
def fldK (ρ : Env) (f : Str) (o : Option Sl) : R Ex := match o with
  | some (.exn _ fs) => (match fs.lookup f with
    | some d => .ok (.d d) ρ
    | none => .stuck)
  | _ => .stuck
theorem fldK_some {k : Nat} {fs : List (Str × D)} {f : Str} {d : D} (h : fs.lookup f = some d) : fldK ρ f (some (.exn k fs)) = .ok (.d d) ρ := by
  show (match fs.lookup f with
    | some d => R.ok (Ex.d d) ρ
    | none => .stuck) = _
  rw [h]
theorem x_Fld {i : Nat} {f : Str} : dFld i f C ρ = fldK ρ f ρ[i]? := by
  unfold dFld fldK
  cases ρ[i]? with
  | none => rfl
  | some s => cases s <;> rfl
theorem x_forN {tg : Tg} : forL tg A C [] ρ = .next ρ := rfl
/-- a turn's end -/
def turnO (f : Env → Out) (_ : Hold f) (o : Out) : Out := match o with
  | .next ρ2 => f ρ2
  | .cont ρ2 => f ρ2
  | .brk ρ2 => .next ρ2
  | .ret r ρ2 => .ret r ρ2
  | .exc c fs ρ2 => .exc c fs ρ2
  | .stuck => .stuck
theorem turn_next {f : Env → Out} {h : Hold f} : turnO f h (.next ρ) = f ρ := rfl
theorem turn_cont {f : Env → Out} {h : Hold f} : turnO f h (.cont ρ) = f ρ := rfl
theorem turn_brk {f : Env → Out} {h : Hold f} : turnO f h (.brk ρ) = .next ρ := rfl
theorem turn_ret {r : Ex} {f : Env → Out} {h : Hold f} : turnO f h (.ret r ρ) = .ret r ρ := rfl
def stK (f : Env → Out) (_ : Hold f) (o : Option Env) : Out := match o with
  | some ρ1 => f ρ1
  | none => .stuck
theorem stK_some {f : Env → Out} {h : Hold f} : stK f h (some ρ) = f ρ := rfl
theorem x_forC {tg : Tg} {x : D} {xs : List D} : forL tg A C (x :: xs) ρ = stK (fun ρ1 => turnO (fun ρ2 => forL tg A C xs ρ2) ⟨⟩ (A C ρ1)) ⟨⟩ (tg.st ρ x) := by
  show (match tg.st ρ x with
    | none => Out.stuck
    | some ρ1 => _) = _
  cases tg.st ρ x with
  | none => rfl
  | some ρ1 =>
    simp only [stK, turnO]
    try (generalize A C ρ1 = y; cases y <;> rfl)
/-! a def called -/
/-- a body's end -/
def endF (args : List Arg) (o : Out) : CR := match o with
  | .ret r ρ => finish args r ρ
  | .next ρ => finish args (.d .non) ρ
  | .exc c fs _ => if args.any Arg.isOwn = true then .stuck else .exc c fs
  | _ => .stuck
theorem end_ret {args : List Arg} {r : Ex} : endF args (.ret r ρ) = finish args r ρ := rfl
theorem end_next {args : List Arg} : endF args (.next ρ) = finish args (.d .non) ρ := rfl
theorem end_exc {args : List Arg} {k : Nat} {fs : List (Str × D)} : endF args (.exc k fs ρ) = if args.any Arg.isOwn = true then .stuck else .exc k fs := rfl
theorem callN_eqG {T : List FD} {n i : Nat} {args : List Arg} {np ng ns : Nat} {d : DS} (hT : T[i]? = some ⟨np, ng, ns, d⟩) (hl : args.length = np + ng) (hg : ngh args = ng) : callN T (n + 1) i args = endF args (d (callN T n) (args.map Arg.sl ++ List.replicate (ns - (np + ng)) .none)) := by
  show (match T[i]? with | some fd => runF fd (callN T n) args | none => .stuck) = _
  rw [hT]
  show runF _ _ _ = _
  unfold runF
  rw [if_pos ⟨hl, hg⟩]
  show (match d (callN T n) (args.map Arg.sl ++ List.replicate (ns - (np + ng)) .none) with
    | .ret r ρ => finish args r ρ
    | .next ρ => finish args (.d .non) ρ
    | .exc c fs _ => if args.any Arg.isOwn then .stuck else .exc c fs
    | _ => .stuck) = _
  cases d (callN T n) (args.map Arg.sl ++ List.replicate (ns - (np + ng)) .none) <;> rfl
theorem callN_eq {T : List FD} {n i : Nat} {args : List Arg} {np ns : Nat} {d : DS} (hT : T[i]? = some ⟨np, 0, ns, d⟩) (hl : args.length = np) (hg : ngh args = 0 := by rfl) : callN T (n + 1) i args = endF args (d (callN T n) (args.map Arg.sl ++ List.replicate (ns - np) .none)) := callN_eqG hT hl hg
/-! operators -/
theorem tr_bl {k : Bool} : truth (.bl k) = some k := rfl
theorem tr_int {i : Int} : truth (.int i) = some (i != 0) := rfl
theorem f_add {i j : Int} : fAdd (.int i) (.int j) = some (.d (.int (i + j))) := rfl
theorem f_sub {i j : Int} : fSub (.int i) (.int j) = some (.d (.int (i - j))) := rfl
theorem f_mul {i j : Int} (h : mulOk i j = true) : fMul (.int i) (.int j) = some (.d (.int (i * j))) := by
  show (if mulOk i j then some (Ex.d (.int (i * j))) else none) = _
  rw [if_pos h]
theorem f_div {i j : Int} (h : divOk j = true) : fDiv (.int i) (.int j) = some (.d (.int (i.fdiv j))) := by
  show (if divOk j then some (Ex.d (.int (i.fdiv j))) else none) = _
  rw [if_pos h]
theorem f_mod {i j : Int} (h : j ≠ 0) : fMod (.int i) (.int j) = some (.d (.int (i.fmod j))) := by
  show (if j ≠ 0 then some (Ex.d (.int (i.fmod j))) else none) = _
  rw [if_pos h]
theorem f_neg {i : Int} : fNeg (.int i) = some (.d (.int (-i))) := rfl
theorem f_lt {i j : Int} : fLt (.int i) (.int j) = some (.d (.bl (decide (i < j)))) := rfl
theorem f_le {i j : Int} : fLe (.int i) (.int j) = some (.d (.bl (decide (i ≤ j)))) := rfl
theorem f_gt {i j : Int} : fGt (.int i) (.int j) = some (.d (.bl (decide (j < i)))) := rfl
theorem f_ge {i j : Int} : fGe (.int i) (.int j) = some (.d (.bl (decide (j ≤ i)))) := rfl
theorem f_eqI {i j : Int} : fEq (.int i) (.int j) = some (.d (.bl (i == j))) := rfl
theorem f_neI {i j : Int} : fNe (.int i) (.int j) = some (.d (.bl (!(i == j)))) := rfl
theorem f_eqB {i j : Bool} : fEq (.bl i) (.bl j) = some (.d (.bl (i == j))) := rfl
theorem f_isN {x : D} : fIs x .non = some (.d (.bl x.isNon)) := by cases x <;> rfl
theorem f_isNotN {x : D} : fIsNot x .non = some (.d (.bl (!x.isNon))) := by cases x <;> rfl
end
end RX
set_option Elab.async false
set_option linter.all false
set_option maxRecDepth 100000
set_option maxHeartbeats 4000000
/-! RXv: loops and comprehensions of the evaluator. -/
namespace RX
open PySem
section
variable {C : Calls} {ρ : Env}
theorem for_inv {tg : Tg} {A : DS} (P : Nat → Env → Prop) : ∀ {l : List D} {k : Nat} {ρ : Env}, P k ρ → (∀ i x ρ, l[i]? = some x → P (k + i) ρ → ∃ ρ1 ρ2, tg.st ρ x = some ρ1 ∧ (A C ρ1 = .next ρ2 ∨ A C ρ1 = .cont ρ2) ∧ P (k + i + 1) ρ2) →
    ∃ ρ', forL tg A C l ρ = .next ρ' ∧ P (k + l.length) ρ'
  | [], k, ρ, h, _ => ⟨ρ, rfl, h⟩
  | x :: xs, k, ρ, h, hs => by
    obtain ⟨ρ1, ρ2, e1, e2, h2⟩ := hs 0 x ρ rfl h
    obtain ⟨ρ', e3, h3⟩ := for_inv P (l := xs) (k := k + 1) (ρ := ρ2) h2 fun i y ρ hy hp => by
      have := hs (i + 1) y ρ (by simpa using hy) (by rw [show k + (i + 1) = k + 1 + i by omega]; exact hp)
      rw [show k + (i + 1) = k + 1 + i by omega] at this
      exact this
    refine ⟨ρ', ?_, by rw [List.length_cons, show k + (xs.length + 1) = k + 1 + xs.length by omega]; exact h3⟩
    rw [x_forC, e1, stK_some]
    rcases e2 with e2 | e2
    · rw [e2, turn_next]; exact e3
    · rw [e2, turn_cont]; exact e3
/-- over range(n) -/
theorem for_rng {tg : Tg} {A : DS} (P : Nat → Env → Prop) {n : Nat} (h0 : P 0 ρ) (hs : ∀ (i : Nat) (ρ : Env), i < n → P i ρ → ∃ ρ1 ρ2, tg.st ρ (.int (i : Int)) = some ρ1 ∧ (A C ρ1 = .next ρ2 ∨ A C ρ1 = .cont ρ2) ∧ P (i + 1) ρ2) :
    ∃ ρ', forL tg A C (rng 0 n) ρ = .next ρ' ∧ P n ρ' := by
  have hl : (rng 0 (n : Int)).length = n := by rw [rng_len]; omega
  obtain ⟨ρ', e, h⟩ := for_inv (C := C) (tg := tg) (A := A) P (l := rng 0 n) (k := 0) h0 fun i x ρ hx hp => by
    obtain ⟨h1, h2⟩ := rng_get hx
    subst h2
    rw [Nat.zero_add] at hp ⊢
    have := hs i ρ (by omega) hp
    rw [show (0 : Int) + i = i by omega]
    exact this
  rw [hl, Nat.zero_add] at h
  exact ⟨ρ', e, h⟩
/-- a comprehension that leaves the state -/
theorem comp_of {vs : List Nat} {tg : Tg} {elt : Den} {g : D → D} (hw : wipe ρ vs = ρ) : ∀ {l : List D}, (∀ x ∈ l, ∃ ρ1 y ρ2, tg.st ρ x = some ρ1 ∧ elt C ρ1 = .ok y ρ2 ∧ y.frz = g x ∧ wipe ρ2 vs = ρ) → compL vs tg (tests []) elt C l ρ = .ok (l.map g) ρ
  | [], _ => by show R.ok [] (wipe ρ vs) = _; rw [hw]; rfl
  | x :: xs, h => by
    obtain ⟨ρ1, y, ρ2, e1, e2, e3, e4⟩ := h x List.mem_cons_self
    have ih := comp_of (tg := tg) (elt := elt) (g := g) hw (l := xs) fun z hz => h z (List.mem_cons_of_mem _ hz)
    have e5 : compL vs tg (tests []) elt C xs ρ2 = compL vs tg (tests []) elt C xs ρ := by rw [← compL_wipe (ρ := ρ2), e4]
    unfold compL
    rw [hw, e1]
    show ((R.ok true ρ1 : R Bool).bind fun b ρ2 => if b then (elt C ρ2).bind fun y ρ3 => (compL vs tg (tests []) elt C xs ρ3).bind fun ys ρ4 => .ok (y.frz :: ys) ρ4 else compL vs tg (tests []) elt C xs ρ2) = _
    show (elt C ρ1).bind _ = _
    rw [e2]
    show (compL vs tg (tests []) elt C xs ρ2).bind _ = _
    rw [e5, ih]
    show R.ok (y.frz :: xs.map g) ρ = _
    rw [e3]
    rfl
/-- .. that changes it: P i, ahead of item i; Q i y, what item i is -/
theorem comp_st {vs : List Nat} {tg : Tg} {elt : Den} (P : Nat → Env → Prop) (Q : Nat → D → Prop) : ∀ {l : List D} {k : Nat} {ρ : Env}, P k (wipe ρ vs) → (∀ i x ρ, l[i]? = some x → P (k + i) (wipe ρ vs) → ∃ ρ1 y ρ2, tg.st (wipe ρ vs) x = some ρ1 ∧ elt C ρ1 = .ok y ρ2 ∧ Q (k + i) y.frz ∧ P (k + i + 1) (wipe ρ2 vs)) →
    ∃ ys ρ', compL vs tg (tests []) elt C l ρ = .ok ys ρ' ∧ ys.length = l.length ∧ (∀ i y, ys[i]? = some y → Q (k + i) y) ∧ P (k + l.length) ρ'
  | [], k, ρ, h, _ => ⟨[], _, rfl, rfl, fun i y h => by simp at h, h⟩
  | x :: xs, k, ρ, h, hs => by
    obtain ⟨ρ1, y, ρ2, e1, e2, e3, e4⟩ := hs 0 x ρ rfl h
    obtain ⟨ys, ρ', e5, e6, e7, e8⟩ := comp_st (tg := tg) (elt := elt) P Q (l := xs) (k := k + 1) (ρ := ρ2) e4 fun i z ρ hz hp => by
      have := hs (i + 1) z ρ (by simpa using hz) (by rw [show k + (i + 1) = k + 1 + i by omega]; exact hp)
      rw [show k + (i + 1) = k + 1 + i by omega] at this
      exact this
    refine ⟨y.frz :: ys, ρ', ?_, by rw [List.length_cons, List.length_cons, e6], fun i z hz => ?_, by rw [List.length_cons, show k + (xs.length + 1) = k + 1 + xs.length by omega]; exact e8⟩
    · unfold compL
      rw [e1]
      show (elt C ρ1).bind _ = _
      rw [e2]
      show (compL vs tg (tests []) elt C xs ρ2).bind _ = _
      rw [e5]
      rfl
    · cases i with
      | zero => simp at hz; subst hz; exact e3
      | succ i =>
        have := e7 i z (by simpa using hz)
        rw [show k + (i + 1) = k + 1 + i by omega]
        exact this
/-- the comprehension itself -/
theorem x_Comp {vs : List Nat} {it : ID} {tg : Tg} {ts : TD} {elt : Den} {l ys : List D} {ρ1 ρ2 : Env} (h1 : it C ρ = .ok l ρ1) (hl : l.length < LIM) (hf : vs.all (fun v => free1 ρ1[v]?) = true) (h2 : compL vs tg ts elt C l (wipe ρ1 vs) = .ok ys ρ2) :
    dComp vs it tg ts elt C ρ = .ok (.fresh ys) (unwipe ρ1 ρ2 vs) := by
  unfold dComp
  rw [h1]
  show (if l.length < LIM ∧ vs.all (fun v => free1 ρ1[v]?) then (compL vs tg ts elt C l (wipe ρ1 vs)).noExc.bind fun ys ρ2 => R.ok (Ex.fresh ys) (unwipe ρ1 ρ2 vs) else R.stuck) = _
  rw [if_pos ⟨hl, hf⟩, h2]
  rfl
theorem ix_nat {l : List D} {i : Nat} {x : D} (h : l[i]? = some x) : fIx (.tup l) (.int i) = some (.d x) ∧ fIx (.lst l) (.int i) = some (.d x) := by
  have hi := (List.getElem?_eq_some_iff.mp h).1
  have e : atD l i = some x := by
    unfold atD ixN
    rw [if_pos (by omega), if_pos (by omega)]
    show l[(i : Int).toNat]? = some x
    rw [Int.toNat_natCast]
    exact h
  constructor
  · show (atD l i).map Ex.d = _; rw [e]; rfl
  · show (atD l i).map Ex.d = _; rw [e]; rfl
end
end RX
set_option Elab.async false
set_option linter.all false
set_option maxRecDepth 100000
set_option maxHeartbeats 4000000
/-! RXw: how what is new of decks evaluates. -/
namespace RX
open PySem
section
variable {C : Calls} {ρ : Env}
def alK (a b : Option Sl) : Bool := match a, b with
  | some (.val (.fn k)), some (.gh _) => k == GI
  | _, _ => false
theorem alK_ok {l : List D} : alK (some (.val (.fn GI))) (some (.gh l)) = true := by
  show (GI == GI) = true
  exact beq_self_eq_true _
theorem isAl_eq {i g : Nat} : isAl ρ i g = alK ρ[i]? ρ[g]? := rfl
theorem al_B1 {f : Bf} {i g : Nat} {l : List D} (h : ρ[i]? = some (.val (.fn GI))) (h2 : ρ[g]? = some (.gh l)) : dB1A f i g C ρ = dB1 f g C ρ := by
  unfold dB1A
  rw [isAl_eq, h, h2, alK_ok, if_pos rfl]
theorem al_Ix {i g : Nat} {e : Den} {l : List D} (h : ρ[i]? = some (.val (.fn GI))) (h2 : ρ[g]? = some (.gh l)) : dIxA i g e C ρ = dIxV g e C ρ := by
  unfold dIxA
  rw [isAl_eq, h, h2, alK_ok, if_pos rfl]
theorem al_T {i g : Nat} {l : List D} (h : ρ[i]? = some (.val (.fn GI))) (h2 : ρ[g]? = some (.gh l)) : tAl i g C ρ = .ok (!l.isEmpty) ρ := by
  unfold tAl
  rw [isAl_eq, h, h2, alK_ok, if_pos rfl]
theorem al_Pop {i g : Nat} {e : Den} {l m : List D} {k : Int} {d : D} (h : ρ[i]? = some (.val (.fn GI))) (h2 : ρ[g]? = some (.gh l)) (he : e C ρ = .ok (.d (.int k)) ρ) (hp : popAt l k = some (d, m)) : dPopA i g e C ρ = .ok (.d d) (ρ.set g (.gh m)) := by
  unfold dPopA
  rw [isAl_eq, h, h2, alK_ok, if_pos rfl, he]
  show (match ρ[g]? with
      | some (.gh l) => (match popAt l k with
        | some (d, m) => R.ok (Ex.d d) (ρ.set g (.gh m))
        | none => .stuck)
      | _ => .stuck) = _
  rw [h2]
  show (match popAt l k with
        | some (d, m) => R.ok (Ex.d d) (ρ.set g (.gh m))
        | none => .stuck) = _
  rw [hp]
theorem al_Put {i g : Nat} {e ek : Den} {l m : List D} {k : Int} {y : D} {ρ1 : Env} (he : e C ρ = .ok (.d y) ρ1) (h : ρ1[i]? = some (.val (.fn GI))) (h2 : ρ1[g]? = some (.gh l)) (hk : ek C ρ1 = .ok (.d (.int k)) ρ1) (hp : putAt l k y = some m) : sPutA i g ek e C ρ = .next (ρ1.set g (.gh m)) := by
  unfold sPutA
  rw [he]
  show (if isAl ρ1 i g = true then _ else _) = _
  rw [isAl_eq, h, h2, alK_ok, if_pos rfl, hk]
  show (match ρ1[g]? with
      | some (.gh l) => (match putAt l k y with
        | some m => Out.next (ρ1.set g (.gh m))
        | none => .stuck)
      | _ => .stuck) = _
  rw [h2]
  show (match putAt l k y with
        | some m => Out.next (ρ1.set g (.gh m))
        | none => .stuck) = _
  rw [hp]
theorem x_Tv {i : Nat} : tTv i C ρ = lk .stuck (fun x => toT ρ (truth x)) ⟨⟩ (look ρ i) := by
  unfold tTv
  cases look ρ i with
  | none => rfl
  | some x =>
    show (match truth x with | some b => R.ok b ρ | none => .stuck) = toT ρ (truth x)
    cases truth x <;> rfl
theorem tr_tup {l : List D} : truth (.tup l) = some (!l.isEmpty) := rfl
theorem tr_lst {l : List D} : truth (.lst l) = some (!l.isEmpty) := rfl
theorem x_Par3 {i j k : Nat} {a b c : Den} : sPar3 i j k a b c C ρ = outK (fun xs ρ1 => toS (stAll ρ1 [i, j, k] xs)) ⟨⟩ (dAll [a, b, c] C ρ) := by
  unfold sPar3 outK
  cases dAll [a, b, c] C ρ with
  | ok x ρ1 => simp only [R.out]; cases stAll ρ1 [i, j, k] x <;> rfl
  | _ => rfl
def tryCK (m : Nat → Bool) (x : D) : Out → Out
  | .exc c fs ρ1 => if m c = true then .ret (.d x) ρ1 else .exc c fs ρ1
  | o => o
theorem x_TryC {A : DS} {m : Nat → Bool} {x : D} : sTryC A m x C ρ = tryCK m x (A C ρ) := by
  unfold sTryC tryCK
  cases A C ρ <;> rfl
theorem tryC_next {m : Nat → Bool} {x : D} : tryCK m x (.next ρ) = .next ρ := rfl
theorem tryC_ret {m : Nat → Bool} {x : D} {r : Ex} : tryCK m x (.ret r ρ) = .ret r ρ := rfl
theorem tryC_exc {m : Nat → Bool} {x : D} {c : Nat} {fs : List (Str × D)} (h : m c = true) : tryCK m x (.exc c fs ρ) = .ret (.d x) ρ := if_pos h
theorem try2_1 {m m' : Nat → Bool} {i j k : Nat} {h h' : DS} {fs : List (Str × D)} (hm : m k = true) : tryK [⟨m, some i, h⟩, ⟨m', some j, h'⟩] C (.exc k fs ρ) = h1K C h i (stSl ρ i (.exn k fs)) := by
  rw [← try_exc (m := m) (h := h) hm]
  show handle C k fs ρ _ = handle C k fs ρ _
  rw [handle_cons, if_pos hm]
theorem try2_2 {m m' : Nat → Bool} {i j k : Nat} {h h' : DS} {fs : List (Str × D)} (hm : m k = false) (hm' : m' k = true) : tryK [⟨m, some i, h⟩, ⟨m', some j, h'⟩] C (.exc k fs ρ) = h1K C h' j (stSl ρ j (.exn k fs)) := by
  rw [← try_exc (m := m') (h := h') hm']
  show handle C k fs ρ _ = handle C k fs ρ _
  rw [handle_cons, if_neg (show ¬ m k = true by rw [hm]; exact Bool.false_ne_true)]
end
end RX
set_option Elab.async false
set_option linter.all false
set_option maxRecDepth 100000
set_option maxHeartbeats 0
namespace K10
open PySem PySem.Spec PyProof.Rows L2 RX
abbrev prog : Program := PySem.Challenge.pw_oneistrue_k10_whole_orders_parted
abbrev top (i : Nat) : Stmt := prog.main.body.getD i (.Pass ⟨0, 0, 0, 0⟩)
def m_InvalidPaper : Nat → Bool := fun c => [false, true].getD c false
def m_CourtError : Nat → Bool := fun _ => true
def k_PaperError : Nat → Bool := fun c => [false, true].getD c false
def k_NotUsable : Nat → Bool := fun c => [true, false].getD c true
def k_TableError : Nat → Bool := fun c => [true, false].getD c true
def fi (n : Str) (i : Nat) (ps : List Str) (kw : List (List Str × List Nat)) : Str × FnI := (n, ⟨i, ps, kw⟩)
def fns : List (Str × FnI) := [fi "is_integer" 0 ["thing"] [],
    fi "is_number" 1 ["thing"] [],
    fi "is_quotient" 2 ["thing"] [],
    fi "is_table" 3 ["size", "thing"] [],
    fi "is_unlike_pair" 4 ["size", "thing"] [],
    fi "grades_within" 5 ["one", "other"] [],
    fi "tells" 6 ["court", "side", "here", "there"] [],
    fi "hiding_rows" 7 ["court"] [],
    fi "pairs_from" 8 ["rows"] [],
    fi "ask" 9 ["name", "good"] [],
    fi "is_positive" 10 ["thing"] [],
    fi "is_factors" 11 ["thing"] [],
    fi "is_numbers" 12 ["thing"] [],
    fi "_holdings_good" 13 ["thing", "first"] [],
    fi "_case_fault" 14 ["thing", "first"] [],
    fi "_fault" 15 ["thing"] [],
    fi "is_court" 16 ["thing"] [],
    fi "_ask_both" 17 ["one", "other"] [],
    fi "is_less" 18 ["one", "other"] [],
    fi "need_other" 19 ["court", "other"] [],
    fi "rises_by" 20 ["rows", "rights"] [],
    fi "same_order" 21 ["court", "other"] [(["other", "court"], [1, 0])],
    fi "parting" 22 ["court", "other"] [(["other", "court"], [1, 0])],
    fi "lets_parting" 23 ["court", "other", "thing"] [(["thing", "other", "court"], [2, 1, 0])],
    fi "order_of" 24 ["court"] [],
    fi "_law_deck" 25 ["script"] [],
    fi "_law_take" 26 ["deck", "many"] [],
    fi "_law_whole" 27 ["told"] [],
    fi "_law_common" 28 ["low", "high"] [],
    fi "_law_quotient" 29 ["told"] [],
    fi "_law_less" 30 ["low", "high"] [],
    fi "_law_hold" 31 ["deck", "sort"] [],
    fi "_law_book" 32 ["deck", "many"] [],
    fi "_law_fellow" 33 ["deck", "book"] [],
    fi "_law_order" 34 ["book"] [],
    fi "_law_verdict" 35 ["orders", "many", "stuff"] [],
    fi "_law_ask" 36 ["deed", "book", "fellow", "stuff"] [],
    fi "_law_named" 37 ["told", "kind", "name", "spot"] [],
    fi "_law_judged" 38 ["books", "orders", "stuff"] [],
    fi "_law_made" 39 ["deck", "orders", "many", "pair"] [],
    fi "_law_bends" 40 ["deck", "many", "good"] [],
    fi "_law_doors" 41 ["deck", "books", "stuff"] [],
    fi "_law_parted" 42 ["deck", "books", "orders", "many"] [],
    fi "law" 43 ["script"] []]
def cls : List (Str × Nat × List Str) := [(("NotUsable" : Str), 0, ["word", "at"]), (("InvalidPaper" : Str), 1, ["word", "at"])]
def exm : List (Str × (Nat → Bool)) := [(("InvalidPaper" : Str), m_InvalidPaper), (("CourtError" : Str), m_CourtError)]
def mi : Mi := ⟨fns, cls, exm, ["at", "word"], ["abs", "all", "bool", "enumerate", "int", "isinstance", "len", "list", "min", "range", "str", "tuple", "zip"], [(("gcd" : Str), "math.gcd")], [], [(("PaperError" : Str), k_PaperError), (("NotUsable" : Str), k_NotUsable), (("TableError" : Str), k_TableError)], [], ["deck"], ["great"], ["is_table", "grades_within", "is_numbers", "_fault", "_law_deck"]⟩
def N0 : List Str := ["thing"]
/-- is_integer -/
noncomputable def d0 : DS := (sRet (dAnd (dB1 (bIsi .int) 0) (dNot (dB1 (bIsi .bool) 0))))
theorem c0 : (cBody mi N0 (defScope (top 8)) (defBody (top 8))).map (·.1) = some d0 := by kernel_rfl
def N1 : List Str := ["thing"]
/-- is_number -/
noncomputable def d1 : DS := (sRet (dAnd (dCall 0 [.v 0]) (dOp fGe (dVar 0) (dC (.int 0)))))
theorem c1 : (cBody mi N1 (defScope (top 9)) (defBody (top 9))).map (·.1) = some d1 := by kernel_rfl
def N2 : List Str := ["thing", "top", "bottom"]
/-- is_quotient -/
noncomputable def d2 : DS := (sSeq (sIf (tOr (tNot (tE (dB1 (bIsi .tuple) 0))) (tCmpB fNe (dB1 bLen 0) (dC (.int 2)))) (sRet (dC (.bl false))) sPass) (sSeq (sUnp [1, 2] (dVar 0)) (sSeq (sIf (tOr (tNot (tE (dCall 0 [.v 1]))) (tOr (tNot (tE (dCall 1 [.v 2]))) (tCmpB fEq (dVar 2) (dC (.int 0))))) (sRet (dC (.bl false))) sPass) (sRet (dOp fEq (dB bGcd [(dVar 1), (dVar 2)]) (dC (.int 1)))))))
theorem c2 : (cBody mi N2 (defScope (top 10)) (defBody (top 10))).map (·.1) = some d2 := by kernel_rfl
def N3 : List Str := ["size", "thing", "one"]
/-- is_table -/
noncomputable def d3 : DS := (sSeq (sIf (tOr (tNot (tE (dB1 (bIsi .tuple) 1))) (tCmpB fNe (dB1 bLen 1) (dVar 0))) (sRet (dC (.bl false))) sPass) (sRet (dB bAll [(dComp [2] (iE (dVar 1)) (.v 2) (tests []) (dCall 2 [.v 2]))])))
theorem c3 : (cBody mi N3 (defScope (top 11)) (defBody (top 11))).map (·.1) = some d3 := by kernel_rfl
def N4 : List Str := ["size", "thing", "one", "other"]
/-- is_unlike_pair -/
noncomputable def d4 : DS := (sSeq (sIf (tOr (tNot (tE (dB1 (bIsi .tuple) 1))) (tCmpB fNe (dB1 bLen 1) (dC (.int 2)))) (sRet (dC (.bl false))) sPass) (sSeq (sUnp [2, 3] (dVar 1)) (sSeq (sIf (tOr (tNot (tE (dCall 1 [.v 2]))) (tNot (tE (dCall 1 [.v 3])))) (sRet (dC (.bl false))) sPass) (sRet (dAnd (dOp fLt (dVar 2) (dVar 0)) (dAnd (dOp fLt (dVar 3) (dVar 0)) (dOp fNe (dVar 2) (dVar 3))))))))
theorem c4 : (cBody mi N4 (defScope (top 13)) (defBody (top 13))).map (·.1) = some d4 := by kernel_rfl
def N5 : List Str := ["one", "other", "grade", "limit"]
/-- grades_within -/
noncomputable def d5 : DS := (sRet (dB bAll [(dComp [2, 3] (iZip (dVar 0) (dVar 1)) (.t [2, 3]) (tests []) (dOp fLe (dVar 2) (dVar 3)))]))
theorem c5 : (cBody mi N5 (defScope (top 14)) (defBody (top 14))).map (·.1) = some d5 := by kernel_rfl
def N6 : List Str := ["court", "side", "here", "there"]
/-- tells -/
noncomputable def d6 : DS := (sSeq (sIf (tCmpB fNe (dOp fIx (dIxV 0 (dVar 2)) (dC (.int 4))) (dOp fIx (dIxV 0 (dVar 3)) (dC (.int 4)))) (sRet (dC (.bl false))) sPass) (sRet (dCall 5 [.e (dOp fIx (dOp fIx (dIxV 0 (dVar 3)) (dC (.int 3))) (dVar 1)), .e (dOp fIx (dOp fIx (dIxV 0 (dVar 2)) (dC (.int 3))) (dVar 1))])))
theorem c6 : (cBody mi N6 (defScope (top 15)) (defBody (top 15))).map (·.1) = some d6 := by kernel_rfl
def N7 : List Str := ["court", "size", "there", "here"]
/-- hiding_rows -/
noncomputable def d7 : DS := (sSeq (sSet 1 (dB1 bLen 0)) (sRet (dComp [3] (iR1 (dVar 1)) (.v 3) (tests []) (dComp [2] (iR1 (dVar 1)) (.v 2) (tests []) (dAnd (dCall 6 [.v 0, .e (dC (.int 0)), .v 3, .v 2]) (dCall 6 [.v 0, .e (dC (.int 1)), .v 2, .v 3]))))))
theorem c7 : (cBody mi N7 (defScope (top 16)) (defBody (top 16))).map (·.1) = some d7 := by kernel_rfl
def N8 : List Str := ["rows", "size", "here", "there"]
/-- pairs_from -/
noncomputable def d8 : DS := (sSeq (sSet 1 (dB1 bLen 0)) (sRet (dB bTup [(dComp2 [2, 3] [3] (iR1 (dVar 1)) (.v 2) (tests []) (iR1 (dVar 1)) (.v 3) (tAnd (tCmpB fNe (dVar 2) (dVar 3)) (tE (dOp fIx (dIxV 0 (dVar 2)) (dVar 3)))) (dTup [(dVar 2), (dVar 3)]))])))
theorem c8 : (cBody mi N8 (defScope (top 17)) (defBody (top 17))).map (·.1) = some d8 := by kernel_rfl
def N9 : List Str := ["name", "good"]
/-- ask -/
noncomputable def d9 : DS := (sIf (tNot (tTv 1)) (sRaise 0 ["word", "at"] [(dVar 0), (dUn fNeg (dC (.int 1)))]) sPass)
theorem c9 : (cBody mi N9 (defScope (top 19)) (defBody (top 19))).map (·.1) = some d9 := by kernel_rfl
def N10 : List Str := ["thing"]
/-- is_positive -/
noncomputable def d10 : DS := (sRet (dAnd (dCall 0 [.v 0]) (dOp fGe (dVar 0) (dC (.int 1)))))
theorem c10 : (cBody mi N10 (defScope (top 20)) (defBody (top 20))).map (·.1) = some d10 := by kernel_rfl
def N11 : List Str := ["thing"]
/-- is_factors -/
noncomputable def d11 : DS := (sSeq (sIf (tOr (tNot (tE (dB1 (bIsi .tuple) 0))) (tCmpB fNe (dB1 bLen 0) (dC (.int 2)))) (sRet (dC (.bl false))) sPass) (sRet (dAnd (dCall 10 [.e (dIxV 0 (dC (.int 0)))]) (dCall 10 [.e (dIxV 0 (dC (.int 1)))]))))
theorem c11 : (cBody mi N11 (defScope (top 21)) (defBody (top 21))).map (·.1) = some d11 := by kernel_rfl
def N12 : List Str := ["thing", "one"]
/-- is_numbers -/
noncomputable def d12 : DS := (sRet (dAnd (dB1 (bIsi .tuple) 0) (dB bAll [(dComp [1] (iE (dVar 0)) (.v 1) (tests []) (dCall 1 [.v 1]))])))
theorem c12 : (cBody mi N12 (defScope (top 22)) (defBody (top 22))).map (·.1) = some d12 := by kernel_rfl
def N13 : List Str := ["thing", "first"]
/-- _holdings_good -/
noncomputable def d13 : DS := (sSeq (sIf (tOr (tNot (tE (dB1 (bIsi .tuple) 0))) (tCmpB fNe (dB1 bLen 0) (dC (.int 2)))) (sRet (dC (.bl false))) sPass) (sSeq (sIf (tOr (tNot (tE (dCall 12 [.e (dIxV 0 (dC (.int 0)))]))) (tNot (tE (dCall 12 [.e (dIxV 0 (dC (.int 1)))])))) (sRet (dC (.bl false))) sPass) (sRet (dAnd (dOp fEq (dB bLen [(dIxV 0 (dC (.int 0)))]) (dB bLen [(dIxV 1 (dC (.int 0)))])) (dOp fEq (dB bLen [(dIxV 0 (dC (.int 1)))]) (dB bLen [(dIxV 1 (dC (.int 1)))]))))))
theorem c13 : (cBody mi N13 (defScope (top 24)) (defBody (top 24))).map (·.1) = some d13 := by kernel_rfl
def N14 : List Str := ["thing", "first", "weight", "right", "factors", "holdings", "sight"]
/-- _case_fault -/
noncomputable def d14 : DS := (sSeq (sIf (tOr (tNot (tE (dB1 (bIsi .tuple) 0))) (tCmpB fNe (dB1 bLen 0) (dC (.int 5)))) (sRet (dC (.str "case"))) sPass) (sSeq (sUnp [2, 3, 4, 5, 6] (dVar 0)) (sSeq (sIf (tNot (tE (dCall 10 [.v 2]))) (sRet (dC (.str "weight"))) sPass) (sSeq (sIf (tNot (tE (dCall 2 [.v 3]))) (sRet (dC (.str "right"))) sPass) (sSeq (sIf (tNot (tE (dCall 11 [.v 4]))) (sRet (dC (.str "factors"))) sPass) (sSeq (sIf (tNot (tE (dCall 13 [.v 5, .e (dIxV 1 (dC (.int 3)))]))) (sRet (dC (.str "holdings"))) sPass) (sSeq (sIf (tNot (tE (dCall 1 [.v 6]))) (sRet (dC (.str "sight"))) sPass) (sRet (dC .non)))))))))
theorem c14 : (cBody mi N14 (defScope (top 25)) (defBody (top 25))).map (·.1) = some d14 := by kernel_rfl
def N15 : List Str := ["thing", "i", "one", "word"]
/-- _fault -/
noncomputable def d15 : DS := (sSeq (sIf (tOr (tNot (tE (dB1 (bIsi .tuple) 0))) (tCmpB fEq (dB1 bLen 0) (dC (.int 0)))) (sRet (dTup [(dC (.str "shape")), (dUn fNeg (dC (.int 1)))])) sPass) (sSeq (sFor (.t [1, 2]) (iEnum (dVar 0)) (sSeq (sSet 3 (dCall 14 [.v 2, .e (dIxV 0 (dC (.int 0)))])) (sIf (tCmpB fIsNot (dVar 3) (dC .non)) (sRet (dTup [(dVar 3), (dVar 1)])) sPass))) (sRet (dC .non))))
theorem c15 : (cBody mi N15 (defScope (top 26)) (defBody (top 26))).map (·.1) = some d15 := by kernel_rfl
def N16 : List Str := ["thing"]
/-- is_court -/
noncomputable def d16 : DS := (sRet (dOp fIs (dCall 15 [.e (dVar 0)]) (dC .non)))
theorem c16 : (cBody mi N16 (defScope (top 27)) (defBody (top 27))).map (·.1) = some d16 := by kernel_rfl
def N17 : List Str := ["one", "other"]
/-- _ask_both -/
noncomputable def d17 : DS := (sSeq (sExpr (dCall 9 [.e (dC (.str "one")), .e (dCall 2 [.v 0])])) (sExpr (dCall 9 [.e (dC (.str "other")), .e (dCall 2 [.v 1])])))
theorem c17 : (cBody mi N17 (defScope (top 29)) (defBody (top 29))).map (·.1) = some d17 := by kernel_rfl
def N18 : List Str := ["one", "other"]
/-- is_less -/
noncomputable def d18 : DS := (sSeq (sExpr (dCall 17 [.v 0, .v 1])) (sRet (dOp fLt (dOp fMul (dIxV 0 (dC (.int 0))) (dIxV 1 (dC (.int 1)))) (dOp fMul (dIxV 1 (dC (.int 0))) (dIxV 0 (dC (.int 1)))))))
theorem c18 : (cBody mi N18 (defScope (top 30)) (defBody (top 30))).map (·.1) = some d18 := by kernel_rfl
def N19 : List Str := ["court", "other"]
/-- need_other -/
noncomputable def d19 : DS := (sIf (tOr (tNot (tE (dCall 16 [.v 1]))) (tCmpB fNe (dB1 bLen 1) (dB1 bLen 0))) (sRaise 0 ["word", "at"] [(dC (.str "other")), (dUn fNeg (dC (.int 1)))]) sPass)
theorem c19 : (cBody mi N19 (defScope (top 32)) (defBody (top 32))).map (·.1) = some d19 := by kernel_rfl
def N20 : List Str := ["rows", "rights", "size", "here", "there"]
/-- rises_by -/
noncomputable def d20 : DS := (sSeq (sSet 2 (dB1 bLen 0)) (sSeq (sFor (.v 3) (iR1 (dVar 2)) (sFor (.v 4) (iR1 (dVar 2)) (sIf (tAnd (tE (dOp fIx (dIxV 0 (dVar 3)) (dVar 4))) (tE (dCall 18 [.e (dIxV 1 (dVar 3)), .e (dIxV 1 (dVar 4))]))) (sRet (dC (.bl false))) sPass))) (sRet (dC (.bl true)))))
theorem c20 : (cBody mi N20 (defScope (top 33)) (defBody (top 33))).map (·.1) = some d20 := by kernel_rfl
def N21 : List Str := ["court", "other"]
/-- same_order -/
noncomputable def d21 : DS := (sSeq (sExpr (dCall 19 [.v 0, .v 1])) (sRet (dOp fEq (dCall 7 [.v 0]) (dCall 7 [.v 1]))))
theorem c21 : (cBody mi N21 (defScope (top 34)) (defBody (top 34))).map (·.1) = some d21 := by kernel_rfl
def N22 : List Str := ["court", "other", "ours", "theirs", "size", "here", "there", "lacking", "rights", "case"]
/-- parting -/
noncomputable def d22 : DS := (sSeq (sExpr (dCall 19 [.v 0, .v 1])) (sSeq (sSet 2 (dCall 7 [.v 0])) (sSeq (sSet 3 (dCall 7 [.v 1])) (sSeq (sSet 4 (dB1 bLen 0)) (sSeq (sFor (.v 5) (iR1 (dVar 4)) (sFor (.v 6) (iR1 (dVar 4)) (sIf (tCmpB fNe (dOp fIx (dIxV 2 (dVar 5)) (dVar 6)) (dOp fIx (dIxV 3 (dVar 5)) (dVar 6))) (sSeq (sSet 7 (dIf (tE (dOp fIx (dIxV 2 (dVar 5)) (dVar 6))) (dVar 3) (dVar 2))) (sSeq (sSet 8 (dB bTup [(dComp [9] (iR1 (dVar 4)) (.v 9) (tests []) (dIf (tE (dOp fIx (dIxV 7 (dVar 9)) (dVar 6))) (dTup [(dC (.int 1)), (dC (.int 1))]) (dTup [(dC (.int 0)), (dC (.int 1))])))])) (sRet (dTup [(dVar 5), (dVar 6), (dVar 8)])))) sPass))) (sRet (dC .non)))))))
theorem c22 : (cBody mi N22 (defScope (top 35)) (defBody (top 35))).map (·.1) = some d22 := by kernel_rfl
def N23 : List Str := ["court", "other", "thing", "here", "there", "rights", "size", "ours", "theirs", "lacking"]
/-- lets_parting -/
noncomputable def d23 : DS := (sSeq (sExpr (dCall 19 [.v 0, .v 1])) (sSeq (sIf (tOr (tNot (tE (dB1 (bIsi .tuple) 2))) (tCmpB fNe (dB1 bLen 2) (dC (.int 3)))) (sRaise 1 ["word", "at"] [(dC (.str "shape")), (dUn fNeg (dC (.int 1)))]) sPass) (sSeq (sUnp [3, 4, 5] (dVar 2)) (sSeq (sSet 6 (dB1 bLen 0)) (sSeq (sIf (tNot (tE (dCall 4 [.v 6, .e (dTup [(dVar 3), (dVar 4)])]))) (sRaise 1 ["word", "at"] [(dC (.str "pair")), (dC (.int 0))]) sPass) (sSeq (sSet 7 (dCall 7 [.v 0])) (sSeq (sSet 8 (dCall 7 [.v 1])) (sSeq (sIf (tCmpB fEq (dOp fIx (dIxV 7 (dVar 3)) (dVar 4)) (dOp fIx (dIxV 8 (dVar 3)) (dVar 4))) (sRaise 1 ["word", "at"] [(dC (.str "pair")), (dC (.int 0))]) sPass) (sSeq (sSet 9 (dIf (tE (dOp fIx (dIxV 7 (dVar 3)) (dVar 4))) (dVar 8) (dVar 7))) (sSeq (sIf (tOr (tNot (tE (dCall 3 [.e (dVar 6), .e (dVar 5)]))) (tNot (tE (dCall 20 [.v 9, .v 5])))) (sRaise 1 ["word", "at"] [(dC (.str "rights")), (dC (.int 2))]) sPass) (sSeq (sIf (tNot (tE (dCall 18 [.e (dIxV 5 (dVar 3)), .e (dIxV 5 (dVar 4))]))) (sRaise 1 ["word", "at"] [(dC (.str "rights")), (dC (.int 2))]) sPass) (sRet (dIf (tE (dOp fIx (dIxV 7 (dVar 3)) (dVar 4))) (dC (.int 1)) (dC (.int 0)))))))))))))))
theorem c23 : (cBody mi N23 (defScope (top 36)) (defBody (top 36))).map (·.1) = some d23 := by kernel_rfl
def N24 : List Str := ["court"]
/-- order_of -/
noncomputable def d24 : DS := (sRet (dCall 8 [.e (dCall 7 [.v 0])]))
theorem c24 : (cBody mi N24 (defScope (top 38)) (defBody (top 38))).map (·.1) = some d24 := by kernel_rfl
def N25 : List Str := ["script", "great", "cell", "mixed"]
/-- _law_deck -/
noncomputable def d25 : DS := (sSeq (sSet 1 (dComp [2] (iE (dVar 0)) (.v 2) (tCmpB fGe (dB bAbs [(dB1 bInt 2)]) (dOp fPow (dC (.int 10)) (dC (.int 18)))) (dB bAbs [(dB1 bInt 2)]))) (sSeq (sSet 3 (dC (.int 9203))) (sSeq (sFor (.v 2) (iE (dVar 0)) (sSet 3 (dOp fMod (dB bInt [(dOp fAdd (dOp fAdd (dOp fMul (dVar 3) (dC (.int 52774))) (dOp fMod (dB1 bInt 2) (dC (.int 2147483549)))) (dC (.int 1303)))]) (dC (.int 2147483549))))) (sRetDk [.v 1, .v 3]))))
theorem c25 : (cBody mi N25 (defScope (top 40)) (defBody (top 40))).map (·.1) = some d25 := by kernel_rfl
def N26 : List Str := ["deck", "many", "#deck", "great", "digit", "blend"]
/-- _law_take -/
noncomputable def d26 : DS := (sSeq (sSet 3 (dIxV 0 (dC (.int 0)))) (sSeq (sIf (tCmpB fGt (dB1A bLen 3 2) (dC (.int 0))) (sSeq (sSet 4 (dOp fMod (dB bInt [(dIxA 3 2 (dC (.int 0)))]) (dVar 1))) (sSeq (sPutA 3 2 (dC (.int 0)) (dOp fDiv (dIxA 3 2 (dC (.int 0))) (dVar 1))) (sSeq (sIf (tCmpB fEq (dIxA 3 2 (dC (.int 0))) (dC (.int 0))) (sExpr (dPopA 3 2 (dC (.int 0)))) sPass) (sRetV 4)))) sPass) (sSeq (sPut 0 (dC (.int 1)) (dOp fMod (dB bInt [(dOp fAdd (dOp fMul (dIxV 0 (dC (.int 1))) (dC (.int 12211))) (dC (.int 5501)))]) (dC (.int 2147483549)))) (sSeq (sSet 5 (dOp fMod (dB bInt [(dOp fAdd (dOp fMul (dIxV 0 (dC (.int 1))) (dC (.int 83))) (dC (.int 1303)))]) (dC (.int 1999999873)))) (sRet (dOp fMod (dB bInt [(dOp fDiv (dVar 5) (dC (.int 8)))]) (dVar 1)))))))
theorem c26 : (cBody mi N26 (defScope (top 41)) (defBody (top 41))).map (·.1) = some d26 := by kernel_rfl
def N27 : List Str := ["told"]
/-- _law_whole -/
noncomputable def d27 : DS := (sRet (dAnd (dB1 (bIsi .int) 0) (dNot (dB1 (bIsi .bool) 0))))
theorem c27 : (cBody mi N27 (defScope (top 42)) (defBody (top 42))).map (·.1) = some d27 := by kernel_rfl
def N28 : List Str := ["low", "high", "rest"]
/-- _law_common -/
noncomputable def d28 : DS := (sSeq (sWhile (tCmpB fNe (dVar 1) (dC (.int 0))) (sSeq (sSet 2 (dOp fMod (dB1 bInt 0) (dVar 1))) (sSeq (sSet 0 (dVar 1)) (sSet 1 (dVar 2))))) (sRetV 0))
theorem c28 : (cBody mi N28 (defScope (top 43)) (defBody (top 43))).map (·.1) = some d28 := by kernel_rfl
def N29 : List Str := ["told"]
/-- _law_quotient -/
noncomputable def d29 : DS := (sSeq (sIf (tOr (tNot (tE (dB1 (bIsi .tuple) 0))) (tOr (tCmpB fNe (dB1 bLen 0) (dC (.int 2))) (tOr (tNot (tE (dCall 27 [.e (dIxV 0 (dC (.int 0)))]))) (tNot (tE (dCall 27 [.e (dIxV 0 (dC (.int 1)))])))))) (sRet (dC (.bl false))) sPass) (sRet (dAnd (dOp fGe (dIxV 0 (dC (.int 1))) (dC (.int 1))) (dOp fEq (dCall 28 [.e (dB bAbs [(dIxV 0 (dC (.int 0)))]), .e (dIxV 0 (dC (.int 1)))]) (dC (.int 1))))))
theorem c29 : (cBody mi N29 (defScope (top 44)) (defBody (top 44))).map (·.1) = some d29 := by kernel_rfl
def N30 : List Str := ["low", "high"]
/-- _law_less -/
noncomputable def d30 : DS := (sRet (dOp fLt (dOp fMul (dIxV 0 (dC (.int 0))) (dIxV 1 (dC (.int 1)))) (dOp fMul (dIxV 1 (dC (.int 0))) (dIxV 0 (dC (.int 1))))))
theorem c30 : (cBody mi N30 (defScope (top 45)) (defBody (top 45))).map (·.1) = some d30 := by kernel_rfl
def N31 : List Str := ["deck", "sort", "#deck", "up", "down", "odd"]
/-- _law_hold -/
noncomputable def d31 : DS := (sSeq (sSet 3 (dCallG 26 [.v 0, .e (dC (.int 3))] 2)) (sSeq (sSet 4 (dCallG 26 [.v 0, .e (dC (.int 3))] 2)) (sSeq (sSet 5 (dCallG 26 [.v 0, .e (dC (.int 2))] 2)) (sSeq (sIf (tCmpB fEq (dVar 1) (dC (.int 0))) (sRet (dTup [(dTup [(dVar 3)]), (dTup []), (dC (.int 0))])) sPass) (sSeq (sIf (tCmpB fEq (dVar 1) (dC (.int 1))) (sRet (dTup [(dTup [(dOp fMod (dB1 bInt 3) (dC (.int 2))), (dVar 5)]), (dTup []), (dC (.int 0))])) sPass) (sSeq (sIf (tCmpB fEq (dVar 1) (dC (.int 2))) (sRet (dTup [(dTup [(dVar 3)]), (dTup [(dOp fAdd (dOp fSub (dC (.int 2)) (dVar 3)) (dVar 5))]), (dC (.int 1))])) sPass) (sSeq (sIf (tCmpB fEq (dVar 1) (dC (.int 3))) (sRet (dTup [(dTup [(dVar 3), (dVar 5)]), (dTup [(dVar 3)]), (dC (.int 0))])) sPass) (sSeq (sIf (tCmpB fEq (dVar 1) (dC (.int 4))) (sRet (dTup [(dTup []), (dTup [(dVar 4), (dVar 5)]), (dC (.int 8))])) sPass) (sSeq (sIf (tCmpB fEq (dVar 1) (dC (.int 5))) (sRet (dTup [(dTup [(dC (.int 1))]), (dTup [(dC (.int 1)), (dC (.int 0))]), (dC (.int 0))])) sPass) (sSeq (sIf (tCmpB fEq (dVar 1) (dC (.int 6))) (sRet (dTup [(dTup [(dVar 3)]), (dTup [(dB bInt [(dOp fGt (dVar 4) (dC (.int 1)))])]), (dOp fMul (dC (.int 900000)) (dVar 5))])) sPass) (sRet (dTup [(dTup [(dVar 5), (dVar 4)]), (dTup [(dB bMin [(dC (.int 3)), (dOp fAdd (dVar 3) (dVar 5))])]), (dC (.int 0))]))))))))))))
theorem c31 : (cBody mi N31 (defScope (top 46)) (defBody (top 46))).map (·.1) = some d31 := by kernel_rfl
def N32 : List Str := ["deck", "many", "#deck", "sort", "rows", "k", "hold", "prize"]
/-- _law_book -/
noncomputable def d32 : DS := (sSeq (sSet 3 (dCallG 26 [.v 0, .e (dC (.int 8))] 2)) (sSeq (sSet 4 (dLst [])) (sSeq (sFor (.v 5) (iR1 (dVar 1)) (sSeq (sSet 6 (dCallG 31 [.v 0, .v 3] 2)) (sSeq (sSet 7 (dOp fIx (dTup [(dTup [(dC (.int 0)), (dC (.int 1))]), (dTup [(dC (.int 1)), (dC (.int 1))]), (dTup [(dC (.int 5)), (dC (.int 2))]), (dTup [(dUn fNeg (dC (.int 4))), (dC (.int 3))])]) (dCallG 26 [.v 0, .e (dC (.int 4))] 2))) (sApp 4 (dTup [(dOp fAdd (dC (.int 1)) (dCallG 26 [.v 0, .e (dC (.int 7))] 2)), (dVar 7), (dTup [(dOp fAdd (dC (.int 1)) (dCallG 26 [.v 0, .e (dC (.int 2))] 2)), (dC (.int 1))]), (dTup [(dIxV 6 (dC (.int 0))), (dIxV 6 (dC (.int 1)))]), (dIxV 6 (dC (.int 2)))]))))) (sRet (dB1 bTup 4)))))
theorem c32 : (cBody mi N32 (defScope (top 47)) (defBody (top 47))).map (·.1) = some d32 := by kernel_rfl
def N33 : List Str := ["deck", "book", "#deck", "way", "seat", "grip", "rows", "k", "ours", "theirs", "sight", "prize", "grade"]
/-- _law_fellow -/
noncomputable def d33 : DS := (sSeq (sSet 3 (dCallG 26 [.v 0, .e (dC (.int 8))] 2)) (sSeq (sIf (tCmpB fEq (dVar 3) (dC (.int 3))) (sRet (dCallG 32 [.v 0, .e (dB1 bLen 1)] 2)) sPass) (sSeq (sSet 4 (dCallG 26 [.v 0, .e (dB1 bLen 1)] 2)) (sSeq (sSet 5 (dCallG 26 [.v 0, .e (dC (.int 4))] 2)) (sSeq (sSet 6 (dLst [])) (sSeq (sFor (.v 7) (iR1 (dB1 bLen 1)) (sSeq (sSet 8 (dOp fIx (dOp fIx (dIxV 1 (dVar 7)) (dC (.int 3))) (dC (.int 0)))) (sSeq (sSet 9 (dOp fIx (dOp fIx (dIxV 1 (dVar 7)) (dC (.int 3))) (dC (.int 1)))) (sSeq (sSet 10 (dOp fIx (dIxV 1 (dVar 7)) (dC (.int 4)))) (sSeq (sSet 11 (dOp fIx (dIxV 1 (dVar 7)) (dC (.int 1)))) (sSeq (sIf (tAnd (tCmpB fEq (dVar 3) (dC (.int 0))) (tAnd (tCmpB fEq (dVar 7) (dVar 4)) (tCmpB fLt (dVar 5) (dB1 bLen 8)))) (sSet 8 (dOp fAdd (dOp fAdd (dSlV 8 none (some (dVar 5))) (dTup [(dOp fSub (dC (.int 3)) (dIxV 8 (dVar 5)))])) (dSlV 8 (some (dOp fAdd (dVar 5) (dC (.int 1)))) none))) (sIf (tAnd (tCmpB fEq (dVar 3) (dC (.int 0))) (tAnd (tCmpB fEq (dVar 7) (dVar 4)) (tCmpB fGt (dB1 bLen 9) (dC (.int 0))))) (sSet 9 (dOp fAdd (dTup [(dOp fSub (dC (.int 3)) (dIxV 9 (dC (.int 0))))]) (dSlV 9 (some (dC (.int 1))) none))) (sIf (tCmpB fEq (dVar 3) (dC (.int 1))) (sSeq (sSet 8 (dB bTup [(dComp [12] (iE (dOp fIx (dOp fIx (dIxV 1 (dVar 7)) (dC (.int 3))) (dC (.int 1)))) (.v 12) (tests []) (dOp fSub (dC (.int 3)) (dVar 12)))])) (sSet 9 (dB bTup [(dComp [12] (iE (dOp fIx (dOp fIx (dIxV 1 (dVar 7)) (dC (.int 3))) (dC (.int 0)))) (.v 12) (tests []) (dOp fSub (dC (.int 3)) (dVar 12)))]))) (sIf (tAnd (tCmpB fEq (dVar 3) (dC (.int 2))) (tCmpB fEq (dVar 7) (dVar 4))) (sSet 10 (dOp fAdd (dVar 10) (dC (.int 1)))) (sIf (tCmpB fEq (dVar 3) (dC (.int 4))) (sSeq (sSet 8 (dOp fIx (dOp fIx (dIxV 1 (dVar 7)) (dC (.int 3))) (dC (.int 1)))) (sSet 9 (dOp fIx (dOp fIx (dIxV 1 (dVar 7)) (dC (.int 3))) (dC (.int 0))))) (sIf (tCmpB fEq (dVar 3) (dC (.int 5))) (sSet 8 (dOp fAdd (dVar 8) (dTup [(dB bInt [(dOr (dOp fEq (dVar 7) (dVar 4)) (dOp fLt (dVar 7) (dVar 5)))])]))) (sIf (tCmpB fEq (dVar 3) (dC (.int 6))) (sSet 9 (dOp fAdd (dVar 9) (dTup [(dB bInt [(dOr (dOp fEq (dVar 7) (dVar 4)) (dOp fGt (dVar 7) (dVar 5)))])]))) (sSet 11 (dTup [(dOp fAdd (dVar 7) (dC (.int 1))), (dC (.int 1))]))))))))) (sApp 6 (dTup [(dOp fAdd (dOp fIx (dIxV 1 (dVar 7)) (dC (.int 0))) (dVar 7)), (dVar 11), (dTup [(dC (.int 3)), (dOp fAdd (dC (.int 1)) (dVar 5))]), (dTup [(dVar 8), (dVar 9)]), (dVar 10)])))))))) (sRet (dB1 bTup 6))))))))
theorem c33 : (cBody mi N33 (defScope (top 48)) (defBody (top 48))).map (·.1) = some d33 := by kernel_rfl
def N34 : List Str := ["book", "pairs", "low", "high", "ours", "k", "theirs"]
/-- _law_order -/
noncomputable def d34 : DS := (sSeq (sSet 1 (dLst [])) (sSeq (sFor (.v 2) (iR1 (dB1 bLen 0)) (sFor (.v 3) (iR1 (dB1 bLen 0)) (sSeq (sSet 4 (dComp [5] (iR1 (dB bLen [(dOp fIx (dOp fIx (dIxV 0 (dVar 2)) (dC (.int 3))) (dC (.int 0)))])) (.v 5) (tests []) (dOp fSub (dOp fIx (dOp fIx (dOp fIx (dIxV 0 (dVar 2)) (dC (.int 3))) (dC (.int 0))) (dVar 5)) (dOp fIx (dOp fIx (dOp fIx (dIxV 0 (dVar 3)) (dC (.int 3))) (dC (.int 0))) (dVar 5))))) (sSeq (sSet 6 (dComp [5] (iR1 (dB bLen [(dOp fIx (dOp fIx (dIxV 0 (dVar 2)) (dC (.int 3))) (dC (.int 1)))])) (.v 5) (tests []) (dOp fSub (dOp fIx (dOp fIx (dOp fIx (dIxV 0 (dVar 3)) (dC (.int 3))) (dC (.int 1))) (dVar 5)) (dOp fIx (dOp fIx (dOp fIx (dIxV 0 (dVar 2)) (dC (.int 3))) (dC (.int 1))) (dVar 5))))) (sIf (tAnd (tCmpB fNe (dVar 2) (dVar 3)) (tAnd (tCmpB fEq (dOp fIx (dIxV 0 (dVar 2)) (dC (.int 4))) (dOp fIx (dIxV 0 (dVar 3)) (dC (.int 4)))) (tCmpB fEq (dB bMin [(dOp fAdd (dOp fAdd (dLst [(dC (.int 0))]) (dVar 4)) (dVar 6))]) (dC (.int 0))))) (sApp 1 (dTup [(dVar 2), (dVar 3)])) sPass))))) (sRet (dB1 bTup 1))))
theorem c34 : (cBody mi N34 (defScope (top 49)) (defBody (top 49))).map (·.1) = some d34 := by kernel_rfl
def N35 : List Str := ["orders", "many", "stuff", "pair", "lacking", "prizes", "prize", "step"]
/-- _law_verdict -/
noncomputable def d35 : DS := (sSeq (sIf (tOr (tNot (tE (dB1 (bIsi .tuple) 2))) (tCmpB fNe (dB1 bLen 2) (dC (.int 3)))) (sRet (dTup [(dC (.str "shape")), (dUn fNeg (dC (.int 1)))])) sPass) (sSeq (sSet 3 (dTup [(dIxV 2 (dC (.int 0))), (dIxV 2 (dC (.int 1)))])) (sSeq (sIf (tOr (tNot (tE (dCall 27 [.e (dIxV 3 (dC (.int 0)))]))) (tOr (tNot (tE (dCall 27 [.e (dIxV 3 (dC (.int 1)))]))) (tCmpB fEq (dOp fIn (dVar 3) (dIxV 0 (dC (.int 0)))) (dOp fIn (dVar 3) (dIxV 0 (dC (.int 1))))))) (sRet (dTup [(dC (.str "pair")), (dC (.int 0))])) sPass) (sSeq (sSet 4 (dB bInt [(dOp fIn (dVar 3) (dIxV 0 (dC (.int 0))))])) (sSeq (sSet 5 (dIxV 2 (dC (.int 2)))) (sSeq (sIf (tOr (tNot (tE (dB1 (bIsi .tuple) 5))) (tCmpB fNe (dB1 bLen 5) (dVar 1))) (sRet (dTup [(dC (.str "rights")), (dC (.int 2))])) sPass) (sSeq (sFor (.v 6) (iE (dVar 5)) (sIf (tNot (tE (dCall 29 [.v 6]))) (sRet (dTup [(dC (.str "rights")), (dC (.int 2))])) sPass)) (sSeq (sFor (.v 7) (iE (dIxV 0 (dVar 4))) (sIf (tE (dCall 30 [.e (dIxV 5 (dIxV 7 (dC (.int 0)))), .e (dIxV 5 (dIxV 7 (dC (.int 1))))])) (sRet (dTup [(dC (.str "rights")), (dC (.int 2))])) sPass)) (sSeq (sIf (tNot (tE (dCall 30 [.e (dIxV 5 (dIxV 3 (dC (.int 0)))), .e (dIxV 5 (dIxV 3 (dC (.int 1))))]))) (sRet (dTup [(dC (.str "rights")), (dC (.int 2))])) sPass) (sRetV 4))))))))))
theorem c35 : (cBody mi N35 (defScope (top 50)) (defBody (top 50))).map (·.1) = some d35 := by kernel_rfl
def N36 : List Str := ["deed", "book", "fellow", "stuff", "e"]
/-- _law_ask -/
noncomputable def d36 : DS := (sTry (sSeq (sIf (tCmpB fEq (dVar 0) (dC (.int 0))) (sRet (dLst [(dC (.int 0)), (dCallK 23 [2, 1, 0] [.v 3, .v 2, .v 1])])) sPass) (sSeq (sIf (tCmpB fEq (dVar 0) (dC (.int 1))) (sRet (dLst [(dC (.int 0)), (dCallK 21 [1, 0] [.v 2, .v 1])])) sPass) (sRet (dLst [(dC (.int 0)), (dCallK 22 [1, 0] [.v 2, .v 1])])))) [⟨m_InvalidPaper, some 4, (sRet (dLst [(dOp fAdd (dC (.int 1)) (dB bInt [(dNot (dIsE 4 k_PaperError))])), (dFld 4 "word"), (dFld 4 "at")]))⟩, ⟨m_CourtError, some 4, (sSeq (sIf (tAnd (tE (dIsE 4 k_NotUsable)) (tE (dIsE 4 k_TableError))) (sRet (dLst [(dC (.int 3)), (dFld 4 "word"), (dFld 4 "at")])) sPass) (sRet (dLst [(dC (.int 4)), (dC .non), (dC .non)])))⟩])
theorem c36 : (cBody mi N36 (defScope (top 51)) (defBody (top 51))).map (·.1) = some d36 := by kernel_rfl
def N37 : List Str := ["told", "kind", "name", "spot"]
/-- _law_named -/
noncomputable def d37 : DS := (sRet (dAnd (dOp fEq (dIxV 0 (dC (.int 0))) (dVar 1)) (dAnd (dB (bIsi .str) [(dIxV 0 (dC (.int 1)))]) (dAnd (dOp fEq (dIxV 0 (dC (.int 1))) (dVar 2)) (dAnd (dCall 27 [.e (dIxV 0 (dC (.int 2)))]) (dOp fEq (dIxV 0 (dC (.int 2))) (dVar 3)))))))
theorem c37 : (cBody mi N37 (defScope (top 52)) (defBody (top 52))).map (·.1) = some d37 := by kernel_rfl
def N38 : List Str := ["books", "orders", "stuff", "due", "told", "back"]
/-- _law_judged -/
noncomputable def d38 : DS := (sSeq (sSet 3 (dCall 35 [.v 1, .e (dB bLen [(dIxV 0 (dC (.int 0)))]), .v 2])) (sSeq (sSet 4 (dCall 36 [.e (dC (.int 0)), .e (dIxV 0 (dC (.int 0))), .e (dIxV 0 (dC (.int 1))), .v 2])) (sSeq (sSet 5 (dCall 36 [.e (dC (.int 0)), .e (dIxV 0 (dC (.int 1))), .e (dIxV 0 (dC (.int 0))), .v 2])) (sSeq (sIf (tE (dB1 (bIsi .tuple) 3)) (sRet (dAnd (dCall 37 [.v 4, .e (dC (.int 1)), .e (dIxV 3 (dC (.int 0))), .e (dIxV 3 (dC (.int 1)))]) (dCall 37 [.v 5, .e (dC (.int 1)), .e (dIxV 3 (dC (.int 0))), .e (dIxV 3 (dC (.int 1)))]))) sPass) (sSeq (sIf (tOr (tCmpB fNe (dIxV 4 (dC (.int 0))) (dC (.int 0))) (tOr (tCmpB fNe (dIxV 5 (dC (.int 0))) (dC (.int 0))) (tOr (tNot (tE (dCall 27 [.e (dIxV 4 (dC (.int 1)))]))) (tNot (tE (dCall 27 [.e (dIxV 5 (dC (.int 1)))])))))) (sRet (dC (.bl false))) sPass) (sRet (dAnd (dOp fEq (dIxV 4 (dC (.int 1))) (dVar 3)) (dOp fEq (dIxV 5 (dC (.int 1))) (dOp fSub (dC (.int 1)) (dVar 3))))))))))
theorem c38 : (cBody mi N38 (defScope (top 53)) (defBody (top 53))).map (·.1) = some d38 := by kernel_rfl
def N39 : List Str := ["deck", "orders", "many", "pair", "#deck", "lacking", "way", "base", "k", "prizes", "above", "best", "step"]
/-- _law_made -/
noncomputable def d39 : DS := (sSeq (sSet 5 (dIxV 1 (dB bInt [(dOp fIn (dVar 3) (dIxV 1 (dC (.int 0))))]))) (sSeq (sSet 6 (dCallG 26 [.v 0, .e (dC (.int 4))] 4)) (sSeq (sSet 7 (dComp [8] (iR1 (dVar 2)) (.v 8) (tests []) (dOp fIx (dTup [(dTup [(dC (.int 0)), (dC (.int 1))]), (dTup [(dC (.int 1)), (dC (.int 2))]), (dTup [(dUn fNeg (dC (.int 3))), (dC (.int 1))]), (dTup [(dC (.int 5)), (dC (.int 3))])]) (dCallG 26 [.v 0, .e (dC (.int 4))] 4)))) (sSeq (sSet 9 (dLst [])) (sSeq (sFor (.v 8) (iR1 (dVar 2)) (sSeq (sSet 10 (dOr (dOp fEq (dVar 8) (dIxV 3 (dC (.int 1)))) (dOp fIn (dTup [(dVar 8), (dIxV 3 (dC (.int 1)))]) (dVar 5)))) (sSeq (sSet 11 (dIxV 7 (dVar 8))) (sSeq (sFor (.v 12) (iE (dVar 5)) (sIf (tAnd (tCmpB fEq (dIxV 12 (dC (.int 0))) (dVar 8)) (tE (dCall 30 [.v 11, .e (dIxV 7 (dIxV 12 (dC (.int 1))))]))) (sSet 11 (dIxV 7 (dIxV 12 (dC (.int 1))))) sPass)) (sSeq (sIf (tCmpB fEq (dVar 6) (dC (.int 0))) (sSet 11 (dTup [(dB1 bInt 10), (dC (.int 1))])) (sIf (tCmpB fEq (dVar 6) (dC (.int 1))) (sSet 11 (dTup [(dOp fAdd (dIxV 11 (dC (.int 0))) (dOp fMul (dOp fMul (dC (.int 10)) (dIxV 11 (dC (.int 1)))) (dB1 bInt 10))), (dIxV 11 (dC (.int 1)))])) (sIf (tCmpB fEq (dVar 6) (dC (.int 2))) (sSet 11 (dOp fIx (dTup [(dTup [(dC (.int 0)), (dC (.int 1))]), (dTup [(dC (.int 1)), (dOp fPow (dC (.int 10)) (dC (.int 15)))])]) (dB1 bInt 10))) (sSet 11 (dOp fIx (dTup [(dTup [(dUn fNeg (dC (.int 1))), (dC (.int 1))]), (dTup [(dOp fSub (dC (.int 1)) (dOp fPow (dC (.int 10)) (dC (.int 15)))), (dOp fPow (dC (.int 10)) (dC (.int 15)))])]) (dB1 bInt 10)))))) (sApp 9 (dVar 11))))))) (sRet (dTup [(dIxV 3 (dC (.int 0))), (dIxV 3 (dC (.int 1))), (dB1 bTup 9)])))))))
theorem c39 : (cBody mi N39 (defScope (top 54)) (defBody (top 54))).map (·.1) = some d39 := by kernel_rfl
def N40 : List Str := ["deck", "many", "good", "#deck", "prizes", "spot", "menu", "drawn", "k", "odd", "strange", "pile", "prize"]
/-- _law_bends -/
noncomputable def d40 : DS := (sSeq (sSet 4 (dIxV 2 (dC (.int 2)))) (sSeq (sSet 5 (dCallG 26 [.v 0, .v 1] 3)) (sSeq (sSet 6 (dTup [(dTup [(dC (.int 0)), (dC (.int 1))]), (dTup [(dC (.int 1)), (dC (.int 1))]), (dTup [(dC (.int 2)), (dC (.int 1))]), (dTup [(dC (.int 1)), (dC (.int 2))]), (dTup [(dUn fNeg (dC (.int 1))), (dC (.int 2))]), (dTup [(dC (.int 3)), (dC (.int 1))])])) (sSeq (sSet 7 (dB bTup [(dComp [8] (iR1 (dVar 1)) (.v 8) (tests []) (dIxV 6 (dCallG 26 [.v 0, .e (dC (.int 6))] 3)))])) (sSeq (sSet 9 (dOp fIx (dTup [(dTup [(dC (.int 2)), (dC (.int 2))]), (dTup [(dC (.int 1)), (dC (.bl true))]), (dTup [(dC (.int 1)), (dC (.int 0))]), (dTup [(dC (.int 0)), (dC (.int 2))]), (dC .non), (dLst [(dC (.int 0)), (dC (.int 1))]), (dTup [(dC (.int 3)), (dUn fNeg (dC (.int 1)))]), (dTup [(dC (.int 1)), (dC (.int 2)), (dC (.int 3))]), (dC (.int 0)), (dTup [(dUn fNeg (dC (.int 4))), (dC (.int 6))])]) (dCallG 26 [.v 0, .e (dC (.int 10))] 3))) (sSeq (sSet 10 (dOp fIx (dTup [(dVar 1), (dUn fNeg (dC (.int 1))), (dC (.bl true)), (dC .non), (dC (.str "0")), (dTup [(dC (.int 0))]), (dC (.bl false)), (dLst []), (dOp fAdd (dVar 1) (dC (.int 5)))]) (dCallG 26 [.v 0, .e (dC (.int 9))] 3))) (sSeq (sSet 11 (dLst [(dC .non), (dB1 bLst 2), (dSlV 2 none (some (dC (.int 2)))), (dOp fAdd (dVar 2) (dTup [(dC (.int 0))])), (dIxV 2 (dC (.int 2))), (dTup [(dIxV 2 (dC (.int 1))), (dIxV 2 (dC (.int 0))), (dVar 4)]), (dTup [(dIxV 2 (dC (.int 0))), (dIxV 2 (dC (.int 0))), (dVar 4)])])) (sSeq (sSet 11 (dOp fAdd (dVar 11) (dLst [(dTup [(dVar 10), (dIxV 2 (dC (.int 1))), (dVar 4)]), (dTup [(dIxV 2 (dC (.int 0))), (dVar 10), (dVar 4)]), (dTup [(dVar 10), (dVar 10), (dC .non)])]))) (sSeq (sSet 11 (dOp fAdd (dVar 11) (dLst [(dTup [(dIxV 2 (dC (.int 0))), (dIxV 2 (dC (.int 1))), (dB1 bLst 4)]), (dTup [(dIxV 2 (dC (.int 0))), (dIxV 2 (dC (.int 1))), (dSlV 4 (some (dC (.int 1))) none)]), (dTup [(dIxV 2 (dC (.int 0))), (dIxV 2 (dC (.int 1))), (dC .non)])]))) (sSeq (sSet 11 (dOp fAdd (dVar 11) (dLst [(dTup [(dIxV 2 (dC (.int 0))), (dIxV 2 (dC (.int 1))), (dOp fAdd (dVar 4) (dTup [(dTup [(dC (.int 0)), (dC (.int 1))])]))]), (dTup [(dIxV 2 (dC (.int 0))), (dIxV 2 (dC (.int 1))), (dOp fMul (dTup [(dTup [(dC (.int 1)), (dC (.int 1))])]) (dVar 1))])]))) (sSeq (sSet 11 (dOp fAdd (dVar 11) (dLst [(dTup [(dIxV 2 (dC (.int 0))), (dIxV 2 (dC (.int 1))), (dOp fAdd (dOp fAdd (dSlV 4 none (some (dVar 5))) (dTup [(dVar 9)])) (dSlV 4 (some (dOp fAdd (dVar 5) (dC (.int 1)))) none))]), (dTup [(dIxV 2 (dC (.int 0))), (dIxV 2 (dC (.int 1))), (dVar 7)])]))) (sSeq (sSet 11 (dOp fAdd (dVar 11) (dLst [(dTup [(dIxV 2 (dC (.int 0))), (dIxV 2 (dC (.int 1))), (dB bTup [(dComp [12] (iE (dVar 4)) (.v 12) (tests []) (dTup [(dUn fNeg (dIxV 12 (dC (.int 0)))), (dIxV 12 (dC (.int 1)))]))])])]))) (sSeq (sSet 11 (dOp fAdd (dVar 11) (dLst [(dTup [(dCallG 26 [.v 0, .v 1] 3), (dCallG 26 [.v 0, .v 1] 3), (dVar 7)])]))) (sRetV 11))))))))))))))
theorem c40 : (cBody mi N40 (defScope (top 55)) (defBody (top 55))).map (·.1) = some d40 := by kernel_rfl
def N41 : List Str := ["deck", "books", "stuff", "#deck", "book", "odd", "bad", "deed"]
/-- _law_doors -/
noncomputable def d41 : DS := (sSeq (sSet 4 (dIxV 1 (dC (.int 0)))) (sSeq (sSet 5 (dTup [(dC .non), (dB1 bLst 4), (dOp fAdd (dVar 4) (dTup [(dIxV 4 (dC (.int 0)))])), (dTup []), (dC (.int 0)), (dC (.bl true)), (dOp fMul (dTup [(dC .non)]) (dB1 bLen 4)), (dSlV 4 none (some (dUn fNeg (dC (.int 1))))), (dC (.str "court")), (dTup [(dVar 4)])])) (sSeq (sSet 6 (dIxV 5 (dCallG 26 [.v 0, .e (dC (.int 10))] 3))) (sSeq (sFor (.v 7) (iR1 (dC (.int 3))) (sSeq (sIf (tNot (tE (dCall 37 [.e (dCall 36 [.v 7, .v 4, .v 6, .v 2]), .e (dC (.int 3)), .e (dC (.str "other")), .e (dUn fNeg (dC (.int 1)))]))) (sRet (dC (.bl false))) sPass) (sIf (tCmpB fGt (dOp fIx (dCall 36 [.v 7, .v 4, .v 4, .v 2]) (dC (.int 0))) (dC (.int 1))) (sRet (dC (.bl false))) sPass))) (sRet (dCall 37 [.e (dCall 36 [.e (dC (.int 0)), .v 4, .v 6, .e (dC .non)]), .e (dC (.int 3)), .e (dC (.str "other")), .e (dUn fNeg (dC (.int 1)))]))))))
theorem c41 : (cBody mi N41 (defScope (top 56)) (defBody (top 56))).map (·.1) = some d41 := by kernel_rfl
def N42 : List Str := ["deck", "books", "orders", "many", "#deck", "news", "pair", "same", "k", "flag", "told", "good", "stuff"]
/-- _law_parted -/
noncomputable def d42 : DS := (sSeq (sSet 5 (dComp [6] (iE (dOp fAdd (dIxV 2 (dC (.int 0))) (dIxV 2 (dC (.int 1))))) (.v 6) (tCmpB fNe (dOp fIn (dVar 6) (dIxV 2 (dC (.int 0)))) (dOp fIn (dVar 6) (dIxV 2 (dC (.int 1))))) (dVar 6))) (sSeq (sSet 7 (dOp fEq (dB1 bLen 5) (dC (.int 0)))) (sSeq (sFor (.v 8) (iR1 (dC (.int 2))) (sSeq (sSet 9 (dCall 21 [.e (dIxV 1 (dVar 8)), .e (dIxV 1 (dOp fSub (dC (.int 1)) (dVar 8)))])) (sSeq (sSet 10 (dCall 22 [.e (dIxV 1 (dVar 8)), .e (dIxV 1 (dOp fSub (dC (.int 1)) (dVar 8)))])) (sSeq (sIf (tOr (tNot (tE (dB1 (bIsi .bool) 9))) (tOr (tCmpB fNe (dVar 9) (dVar 7)) (tCmpB fNe (dOp fIs (dVar 10) (dC .non)) (dVar 7)))) (sRet (dC (.bl false))) sPass) (sSeq (sIf (tTv 7) (sSet 10 (dTup [(dC (.int 0)), (dOp fSub (dVar 3) (dC (.int 1))), (dOp fMul (dTup [(dTup [(dC (.int 0)), (dC (.int 1))])]) (dVar 3))])) (sIf (tE (dB (bIsi .tuple) [(dCall 35 [.v 2, .v 3, .v 10])])) (sRet (dC (.bl false))) sPass)) (sIf (tNot (tE (dCall 38 [.v 1, .v 2, .v 10]))) (sRet (dC (.bl false))) sPass)))))) (sSeq (sIf (tTv 7) (sSet 5 (dLst [(dTup [(dOp fSub (dVar 3) (dC (.int 1))), (dC (.int 0))])])) sPass) (sSeq (sSet 11 (dCallG 39 [.v 0, .v 2, .v 3, .e (dIxV 5 (dCallG 26 [.v 0, .e (dB1 bLen 5)] 4))] 4)) (sSeq (sIf (tNot (tE (dCall 38 [.v 1, .v 2, .v 11]))) (sRet (dC (.bl false))) sPass) (sSeq (sFor (.v 12) (iE (dCallG 40 [.v 0, .v 3, .v 11] 4)) (sIf (tNot (tE (dCall 38 [.v 1, .v 2, .v 12]))) (sRet (dC (.bl false))) sPass)) (sRet (dCallG 41 [.v 0, .v 1, .v 11] 4)))))))))
theorem c42 : (cBody mi N42 (defScope (top 57)) (defBody (top 57))).map (·.1) = some d42 := by kernel_rfl
def N43 : List Str := ["script", "deck", "many", "book", "fellow", "books", "orders", "#deck"]
/-- law -/
noncomputable def d43 : DS := (sSeqD 1 7 25 [.v 0] (sSeq (sSet 2 (dOp fIx (dTup [(dC (.int 2)), (dC (.int 3)), (dC (.int 4)), (dC (.int 5)), (dC (.int 3)), (dC (.int 4)), (dC (.int 2)), (dC (.int 3)), (dC (.int 4)), (dC (.int 3)), (dC (.int 4)), (dC (.int 3)), (dC (.int 4)), (dC (.int 2)), (dC (.int 1)), (dC (.int 7))]) (dCallG 26 [.v 1, .e (dC (.int 16))] 7))) (sSeq (sSet 3 (dCallG 32 [.v 1, .v 2] 7)) (sSeq (sSet 4 (dCallG 33 [.v 1, .v 3] 7)) (sSeq (sIf (tAnd (tCmpB fGt (dCallG 26 [.v 1, .e (dC (.int 3))] 7) (dC (.int 0))) (tCmpB fEq (dCall 34 [.v 4]) (dCall 34 [.v 3]))) (sSet 4 (dCallG 32 [.v 1, .v 2] 7)) sPass) (sSeq (sSet 5 (dTup [(dVar 3), (dVar 4)])) (sSeq (sSet 6 (dTup [(dCall 34 [.v 3]), (dCall 34 [.v 4])])) (sSeq (sIf (tOr (tCmpB fNe (dCall 24 [.v 3]) (dIxV 6 (dC (.int 0)))) (tCmpB fNe (dCall 24 [.e (dIxV 5 (dC (.int 1)))]) (dIxV 6 (dC (.int 1))))) (sRet (dC (.bl false))) sPass) (sRet (dCallG 42 [.v 1, .v 5, .v 6, .v 2] 7))))))))))
theorem c43 : (cBody mi N43 (defScope (top 58)) (defBody (top 58))).map (·.1) = some d43 := by kernel_rfl
noncomputable def T : List FD := [⟨1, 0, 1, d0⟩, ⟨1, 0, 1, d1⟩, ⟨1, 0, 3, d2⟩, ⟨2, 0, 3, d3⟩, ⟨2, 0, 4, d4⟩, ⟨2, 0, 4, d5⟩, ⟨4, 0, 4, d6⟩, ⟨1, 0, 4, d7⟩, ⟨1, 0, 4, d8⟩, ⟨2, 0, 2, d9⟩, ⟨1, 0, 1, d10⟩, ⟨1, 0, 1, d11⟩, ⟨1, 0, 2, d12⟩, ⟨2, 0, 2, d13⟩, ⟨2, 0, 7, d14⟩, ⟨1, 0, 4, d15⟩, ⟨1, 0, 1, d16⟩, ⟨2, 0, 2, d17⟩, ⟨2, 0, 2, d18⟩, ⟨2, 0, 2, d19⟩, ⟨2, 0, 5, d20⟩, ⟨2, 0, 2, d21⟩, ⟨2, 0, 10, d22⟩, ⟨3, 0, 10, d23⟩, ⟨1, 0, 1, d24⟩, ⟨1, 0, 4, d25⟩, ⟨2, 1, 6, d26⟩, ⟨1, 0, 1, d27⟩, ⟨2, 0, 3, d28⟩, ⟨1, 0, 1, d29⟩, ⟨2, 0, 2, d30⟩, ⟨2, 1, 6, d31⟩, ⟨2, 1, 8, d32⟩, ⟨2, 1, 13, d33⟩, ⟨1, 0, 7, d34⟩, ⟨3, 0, 8, d35⟩, ⟨4, 0, 5, d36⟩, ⟨4, 0, 4, d37⟩, ⟨3, 0, 6, d38⟩, ⟨4, 1, 13, d39⟩, ⟨3, 1, 13, d40⟩, ⟨3, 1, 8, d41⟩, ⟨4, 1, 13, d42⟩, ⟨1, 0, 8, d43⟩]
def nms : List Str := (["is_integer", "is_number", "is_quotient", "is_table", "is_unlike_pair", "grades_within", "tells", "hiding_rows", "pairs_from", "ask", "is_positive", "is_factors", "is_numbers", "_holdings_good", "_case_fault", "_fault", "is_court", "_ask_both", "is_less", "need_other", "rises_by", "same_order", "parting", "lets_parting", "order_of", "_law_deck", "_law_take", "_law_whole", "_law_common", "_law_quotient"] : List Str) ++ (["_law_less", "_law_hold", "_law_book", "_law_fellow", "_law_order", "_law_verdict", "_law_ask", "_law_named", "_law_judged", "_law_made", "_law_bends", "_law_doors", "_law_parted", "law"] : List Str)
def dD (n : Str) (i : Nat) : He.DefD := ⟨(n, none), n, n, defArgs (top i), defBody (top i), defScope (top i), [], []⟩
def sub (i j : Nat) : Stmt := match top i with
  | .ClassDef _ _ _ b _ _ _ _ _ _ _ => b.getD j (.Pass ⟨0, 0, 0, 0⟩)
  | _ => .Pass ⟨0, 0, 0, 0⟩
def fn : List He.DefD := [dD "is_integer" 8,
  dD "is_number" 9,
  dD "is_quotient" 10,
  dD "is_table" 11,
  dD "is_unlike_pair" 13,
  dD "grades_within" 14,
  dD "tells" 15,
  dD "hiding_rows" 16,
  dD "pairs_from" 17,
  dD "ask" 19,
  dD "is_positive" 20,
  dD "is_factors" 21,
  dD "is_numbers" 22,
  dD "_holdings_good" 24,
  dD "_case_fault" 25,
  dD "_fault" 26,
  dD "is_court" 27,
  dD "_ask_both" 29,
  dD "is_less" 30,
  dD "need_other" 32,
  dD "rises_by" 33,
  dD "same_order" 34,
  dD "parting" 35,
  dD "lets_parting" 36,
  dD "order_of" 38,
  dD "_law_deck" 40,
  dD "_law_take" 41,
  dD "_law_whole" 42,
  dD "_law_common" 43,
  dD "_law_quotient" 44,
  dD "_law_less" 45,
  dD "_law_hold" 46,
  dD "_law_book" 47,
  dD "_law_fellow" 48,
  dD "_law_order" 49,
  dD "_law_verdict" 50,
  dD "_law_ask" 51,
  dD "_law_named" 52,
  dD "_law_judged" 53,
  dD "_law_made" 54,
  dD "_law_bends" 55,
  dD "_law_doors" 56,
  dD "_law_parted" 57,
  dD "law" 58,
  ⟨("NotUsable", some "__init__"), "__init__", "NotUsable.__init__", defArgs (sub 6 0), defBody (sub 6 0), defScope (sub 6 0), [], []⟩,
  ⟨("InvalidPaper", some "__init__"), "__init__", "InvalidPaper.__init__", defArgs (sub 4 0), defBody (sub 4 0), defScope (sub 4 0), [], []⟩]
def fa : List He.Fa := nms.map .glo ++ ((["NotUsable", "InvalidPaper", "CourtError", "PaperError", "TableError"] : List Str)).map .glo ++ mi.free.map .free ++ [.exm "NotUsable" "InvalidPaper" false, .exm "NotUsable" "CourtError" true, .exm "InvalidPaper" "InvalidPaper" true, .exm "InvalidPaper" "CourtError" true]
def ck : Cks := [clsB "NotUsable" ["at", "word"], clsB "InvalidPaper" ["at", "word"], bfnB "gcd" "math.gcd", kitB "NotUsable" (yOwn "PaperError") false, kitB "InvalidPaper" (yOwn "PaperError") true, kitB "NotUsable" (yOwn "NotUsable") true, kitB "InvalidPaper" (yOwn "NotUsable") false, kitB "NotUsable" (yOwn "TableError") true, kitB "InvalidPaper" (yOwn "TableError") false]
abbrev R : PySem.W.OpenRow := PySem.W.OpenLaw.row PySem.Challenge.rw_oneistrue_k10_whole_orders_parted
abbrev hk : PySem.W.Hook := hookX 5 ck fa fn
def ob (s : PySem.W.SharedT) : He.AlD := obsXG 5 ck fa fn (HandSHeadRun.getT s)
theorem ob_eq (s : PySem.W.SharedT) : ob s = hk.obs s.abs := obsXG_eq (HandSHeadRun.getT_eq s)
def loose : List Str := (["__name__", "CourtError", "PaperError", "InvalidPaper", "TableError", "NotUsable", "is_integer", "is_number", "is_quotient", "is_table", "is_unlike_pair", "grades_within", "tells", "hiding_rows", "pairs_from", "ask", "is_positive", "is_factors", "is_numbers", "_holdings_good", "_case_fault", "_fault", "is_court", "_ask_both", "is_less", "need_other", "rises_by", "same_order", "parting", "lets_parting"] : List Str) ++ (["order_of", "_law_deck", "_law_take", "_law_whole", "_law_common", "_law_quotient", "_law_less", "_law_hold", "_law_book", "_law_fellow", "_law_order", "_law_verdict", "_law_ask", "_law_named", "_law_judged", "_law_made", "_law_bends", "_law_doors", "_law_parted"] : List Str)
abbrev vw : Program := PySem.W.view R.prog [0, 58]
theorem run (w : World) : HandSHeadRun.RunEqI R vw hk ob 4000 loose w := by
  unfold HandSHeadRun.RunEqI
  kernel_rfl
section
variable {P : Program} {w : World} {K : PySem.W.Frag} {mg : Str → Option Value} {base h : Heap}
theorem dk0 (c : SaysX ck fa fn K) : DK mi T K (fAt K nms "is_integer") 0 ["thing"] [] := by
  obtain ⟨fd, F⟩ := c.d.def_ 0 (d := dD "is_integer" 8) rfl
  exact ⟨"is_integer", "is_integer", _, _, _, fd, N0, d0, F, scB_ok (by kernel_rfl), cb_of c0, ⟨0, rfl, by decide, hid0⟩, F.bindsN fun _ _ _ _ _ _ us hl => match us, hl with | [_], _ => rfl, kw_nil⟩
theorem dk1 (c : SaysX ck fa fn K) : DK mi T K (fAt K nms "is_integer") 1 ["thing"] [] := by
  obtain ⟨fd, F⟩ := c.d.def_ 1 (d := dD "is_number" 9) rfl
  exact ⟨"is_number", "is_number", _, _, _, fd, N1, d1, F, scB_ok (by kernel_rfl), cb_of c1, ⟨0, rfl, by decide, hid0⟩, F.bindsN fun _ _ _ _ _ _ us hl => match us, hl with | [_], _ => rfl, kw_nil⟩
theorem dk2 (c : SaysX ck fa fn K) : DK mi T K (fAt K nms "is_integer") 2 ["thing"] [] := by
  obtain ⟨fd, F⟩ := c.d.def_ 2 (d := dD "is_quotient" 10) rfl
  exact ⟨"is_quotient", "is_quotient", _, _, _, fd, N2, d2, F, scB_ok (by kernel_rfl), cb_of c2, ⟨0, rfl, by decide, hid0⟩, F.bindsN fun _ _ _ _ _ _ us hl => match us, hl with | [_], _ => rfl, kw_nil⟩
theorem dk3 (c : SaysX ck fa fn K) : DK mi T K (fAt K nms "is_integer") 3 ["size", "thing"] [] := by
  obtain ⟨fd, F⟩ := c.d.def_ 3 (d := dD "is_table" 11) rfl
  exact ⟨"is_table", "is_table", _, _, _, fd, N3, d3, F, scB_ok (by kernel_rfl), cb_of c3, ⟨0, rfl, by decide, hid0⟩, F.bindsN fun _ _ _ _ _ _ us hl => match us, hl with | [_, _], _ => rfl, kw_nil⟩
theorem dk4 (c : SaysX ck fa fn K) : DK mi T K (fAt K nms "is_integer") 4 ["size", "thing"] [] := by
  obtain ⟨fd, F⟩ := c.d.def_ 4 (d := dD "is_unlike_pair" 13) rfl
  exact ⟨"is_unlike_pair", "is_unlike_pair", _, _, _, fd, N4, d4, F, scB_ok (by kernel_rfl), cb_of c4, ⟨0, rfl, by decide, hid0⟩, F.bindsN fun _ _ _ _ _ _ us hl => match us, hl with | [_, _], _ => rfl, kw_nil⟩
theorem dk5 (c : SaysX ck fa fn K) : DK mi T K (fAt K nms "is_integer") 5 ["one", "other"] [] := by
  obtain ⟨fd, F⟩ := c.d.def_ 5 (d := dD "grades_within" 14) rfl
  exact ⟨"grades_within", "grades_within", _, _, _, fd, N5, d5, F, scB_ok (by kernel_rfl), cb_of c5, ⟨0, rfl, by decide, hid0⟩, F.bindsN fun _ _ _ _ _ _ us hl => match us, hl with | [_, _], _ => rfl, kw_nil⟩
theorem dk6 (c : SaysX ck fa fn K) : DK mi T K (fAt K nms "is_integer") 6 ["court", "side", "here", "there"] [] := by
  obtain ⟨fd, F⟩ := c.d.def_ 6 (d := dD "tells" 15) rfl
  exact ⟨"tells", "tells", _, _, _, fd, N6, d6, F, scB_ok (by kernel_rfl), cb_of c6, ⟨0, rfl, by decide, hid0⟩, F.bindsN fun _ _ _ _ _ _ us hl => match us, hl with | [_, _, _, _], _ => rfl, kw_nil⟩
theorem dk7 (c : SaysX ck fa fn K) : DK mi T K (fAt K nms "is_integer") 7 ["court"] [] := by
  obtain ⟨fd, F⟩ := c.d.def_ 7 (d := dD "hiding_rows" 16) rfl
  exact ⟨"hiding_rows", "hiding_rows", _, _, _, fd, N7, d7, F, scB_ok (by kernel_rfl), cb_of c7, ⟨0, rfl, by decide, hid0⟩, F.bindsN fun _ _ _ _ _ _ us hl => match us, hl with | [_], _ => rfl, kw_nil⟩
theorem dk8 (c : SaysX ck fa fn K) : DK mi T K (fAt K nms "is_integer") 8 ["rows"] [] := by
  obtain ⟨fd, F⟩ := c.d.def_ 8 (d := dD "pairs_from" 17) rfl
  exact ⟨"pairs_from", "pairs_from", _, _, _, fd, N8, d8, F, scB_ok (by kernel_rfl), cb_of c8, ⟨0, rfl, by decide, hid0⟩, F.bindsN fun _ _ _ _ _ _ us hl => match us, hl with | [_], _ => rfl, kw_nil⟩
theorem dk9 (c : SaysX ck fa fn K) : DK mi T K (fAt K nms "is_integer") 9 ["name", "good"] [] := by
  obtain ⟨fd, F⟩ := c.d.def_ 9 (d := dD "ask" 19) rfl
  exact ⟨"ask", "ask", _, _, _, fd, N9, d9, F, scB_ok (by kernel_rfl), cb_of c9, ⟨0, rfl, by decide, hid0⟩, F.bindsN fun _ _ _ _ _ _ us hl => match us, hl with | [_, _], _ => rfl, kw_nil⟩
theorem dk10 (c : SaysX ck fa fn K) : DK mi T K (fAt K nms "is_integer") 10 ["thing"] [] := by
  obtain ⟨fd, F⟩ := c.d.def_ 10 (d := dD "is_positive" 20) rfl
  exact ⟨"is_positive", "is_positive", _, _, _, fd, N10, d10, F, scB_ok (by kernel_rfl), cb_of c10, ⟨0, rfl, by decide, hid0⟩, F.bindsN fun _ _ _ _ _ _ us hl => match us, hl with | [_], _ => rfl, kw_nil⟩
theorem dk11 (c : SaysX ck fa fn K) : DK mi T K (fAt K nms "is_integer") 11 ["thing"] [] := by
  obtain ⟨fd, F⟩ := c.d.def_ 11 (d := dD "is_factors" 21) rfl
  exact ⟨"is_factors", "is_factors", _, _, _, fd, N11, d11, F, scB_ok (by kernel_rfl), cb_of c11, ⟨0, rfl, by decide, hid0⟩, F.bindsN fun _ _ _ _ _ _ us hl => match us, hl with | [_], _ => rfl, kw_nil⟩
theorem dk12 (c : SaysX ck fa fn K) : DK mi T K (fAt K nms "is_integer") 12 ["thing"] [] := by
  obtain ⟨fd, F⟩ := c.d.def_ 12 (d := dD "is_numbers" 22) rfl
  exact ⟨"is_numbers", "is_numbers", _, _, _, fd, N12, d12, F, scB_ok (by kernel_rfl), cb_of c12, ⟨0, rfl, by decide, hid0⟩, F.bindsN fun _ _ _ _ _ _ us hl => match us, hl with | [_], _ => rfl, kw_nil⟩
theorem dk13 (c : SaysX ck fa fn K) : DK mi T K (fAt K nms "is_integer") 13 ["thing", "first"] [] := by
  obtain ⟨fd, F⟩ := c.d.def_ 13 (d := dD "_holdings_good" 24) rfl
  exact ⟨"_holdings_good", "_holdings_good", _, _, _, fd, N13, d13, F, scB_ok (by kernel_rfl), cb_of c13, ⟨0, rfl, by decide, hid0⟩, F.bindsN fun _ _ _ _ _ _ us hl => match us, hl with | [_, _], _ => rfl, kw_nil⟩
theorem dk14 (c : SaysX ck fa fn K) : DK mi T K (fAt K nms "is_integer") 14 ["thing", "first"] [] := by
  obtain ⟨fd, F⟩ := c.d.def_ 14 (d := dD "_case_fault" 25) rfl
  exact ⟨"_case_fault", "_case_fault", _, _, _, fd, N14, d14, F, scB_ok (by kernel_rfl), cb_of c14, ⟨0, rfl, by decide, hid0⟩, F.bindsN fun _ _ _ _ _ _ us hl => match us, hl with | [_, _], _ => rfl, kw_nil⟩
theorem dk15 (c : SaysX ck fa fn K) : DK mi T K (fAt K nms "is_integer") 15 ["thing"] [] := by
  obtain ⟨fd, F⟩ := c.d.def_ 15 (d := dD "_fault" 26) rfl
  exact ⟨"_fault", "_fault", _, _, _, fd, N15, d15, F, scB_ok (by kernel_rfl), cb_of c15, ⟨0, rfl, by decide, hid0⟩, F.bindsN fun _ _ _ _ _ _ us hl => match us, hl with | [_], _ => rfl, kw_nil⟩
theorem dk16 (c : SaysX ck fa fn K) : DK mi T K (fAt K nms "is_integer") 16 ["thing"] [] := by
  obtain ⟨fd, F⟩ := c.d.def_ 16 (d := dD "is_court" 27) rfl
  exact ⟨"is_court", "is_court", _, _, _, fd, N16, d16, F, scB_ok (by kernel_rfl), cb_of c16, ⟨0, rfl, by decide, hid0⟩, F.bindsN fun _ _ _ _ _ _ us hl => match us, hl with | [_], _ => rfl, kw_nil⟩
theorem dk17 (c : SaysX ck fa fn K) : DK mi T K (fAt K nms "is_integer") 17 ["one", "other"] [] := by
  obtain ⟨fd, F⟩ := c.d.def_ 17 (d := dD "_ask_both" 29) rfl
  exact ⟨"_ask_both", "_ask_both", _, _, _, fd, N17, d17, F, scB_ok (by kernel_rfl), cb_of c17, ⟨0, rfl, by decide, hid0⟩, F.bindsN fun _ _ _ _ _ _ us hl => match us, hl with | [_, _], _ => rfl, kw_nil⟩
theorem dk18 (c : SaysX ck fa fn K) : DK mi T K (fAt K nms "is_integer") 18 ["one", "other"] [] := by
  obtain ⟨fd, F⟩ := c.d.def_ 18 (d := dD "is_less" 30) rfl
  exact ⟨"is_less", "is_less", _, _, _, fd, N18, d18, F, scB_ok (by kernel_rfl), cb_of c18, ⟨0, rfl, by decide, hid0⟩, F.bindsN fun _ _ _ _ _ _ us hl => match us, hl with | [_, _], _ => rfl, kw_nil⟩
theorem dk19 (c : SaysX ck fa fn K) : DK mi T K (fAt K nms "is_integer") 19 ["court", "other"] [] := by
  obtain ⟨fd, F⟩ := c.d.def_ 19 (d := dD "need_other" 32) rfl
  exact ⟨"need_other", "need_other", _, _, _, fd, N19, d19, F, scB_ok (by kernel_rfl), cb_of c19, ⟨0, rfl, by decide, hid0⟩, F.bindsN fun _ _ _ _ _ _ us hl => match us, hl with | [_, _], _ => rfl, kw_nil⟩
theorem dk20 (c : SaysX ck fa fn K) : DK mi T K (fAt K nms "is_integer") 20 ["rows", "rights"] [] := by
  obtain ⟨fd, F⟩ := c.d.def_ 20 (d := dD "rises_by" 33) rfl
  exact ⟨"rises_by", "rises_by", _, _, _, fd, N20, d20, F, scB_ok (by kernel_rfl), cb_of c20, ⟨0, rfl, by decide, hid0⟩, F.bindsN fun _ _ _ _ _ _ us hl => match us, hl with | [_, _], _ => rfl, kw_nil⟩
theorem dk21 (c : SaysX ck fa fn K) : DK mi T K (fAt K nms "is_integer") 21 ["court", "other"] [(["other", "court"], [1, 0])] := by
  obtain ⟨fd, F⟩ := c.d.def_ 21 (d := dD "same_order" 34) rfl
  exact ⟨"same_order", "same_order", _, _, _, fd, N21, d21, F, scB_ok (by kernel_rfl), cb_of c21, ⟨0, rfl, by decide, hid0⟩, F.bindsN fun _ _ _ _ _ _ us hl => match us, hl with | [_, _], _ => rfl, kw_cons (kw_one F fun _ _ _ _ _ _ ws hl => match ws, hl with | [_, _], _ => rfl) (kw_nil)⟩
theorem dk22 (c : SaysX ck fa fn K) : DK mi T K (fAt K nms "is_integer") 22 ["court", "other"] [(["other", "court"], [1, 0])] := by
  obtain ⟨fd, F⟩ := c.d.def_ 22 (d := dD "parting" 35) rfl
  exact ⟨"parting", "parting", _, _, _, fd, N22, d22, F, scB_ok (by kernel_rfl), cb_of c22, ⟨0, rfl, by decide, hid0⟩, F.bindsN fun _ _ _ _ _ _ us hl => match us, hl with | [_, _], _ => rfl, kw_cons (kw_one F fun _ _ _ _ _ _ ws hl => match ws, hl with | [_, _], _ => rfl) (kw_nil)⟩
theorem dk23 (c : SaysX ck fa fn K) : DK mi T K (fAt K nms "is_integer") 23 ["court", "other", "thing"] [(["thing", "other", "court"], [2, 1, 0])] := by
  obtain ⟨fd, F⟩ := c.d.def_ 23 (d := dD "lets_parting" 36) rfl
  exact ⟨"lets_parting", "lets_parting", _, _, _, fd, N23, d23, F, scB_ok (by kernel_rfl), cb_of c23, ⟨0, rfl, by decide, hid0⟩, F.bindsN fun _ _ _ _ _ _ us hl => match us, hl with | [_, _, _], _ => rfl, kw_cons (kw_one F fun _ _ _ _ _ _ ws hl => match ws, hl with | [_, _, _], _ => rfl) (kw_nil)⟩
theorem dk24 (c : SaysX ck fa fn K) : DK mi T K (fAt K nms "is_integer") 24 ["court"] [] := by
  obtain ⟨fd, F⟩ := c.d.def_ 24 (d := dD "order_of" 38) rfl
  exact ⟨"order_of", "order_of", _, _, _, fd, N24, d24, F, scB_ok (by kernel_rfl), cb_of c24, ⟨0, rfl, by decide, hid0⟩, F.bindsN fun _ _ _ _ _ _ us hl => match us, hl with | [_], _ => rfl, kw_nil⟩
theorem dk25 (c : SaysX ck fa fn K) : DK mi T K (fAt K nms "is_integer") 25 ["script"] [] := by
  obtain ⟨fd, F⟩ := c.d.def_ 25 (d := dD "_law_deck" 40) rfl
  exact ⟨"_law_deck", "_law_deck", _, _, _, fd, N25, d25, F, scB_ok (by kernel_rfl), cb_of c25, ⟨0, rfl, by decide, hid0⟩, F.bindsN fun _ _ _ _ _ _ us hl => match us, hl with | [_], _ => rfl, kw_nil⟩
theorem dk26 (c : SaysX ck fa fn K) : DK mi T K (fAt K nms "is_integer") 26 ["deck", "many"] [] := by
  obtain ⟨fd, F⟩ := c.d.def_ 26 (d := dD "_law_take" 41) rfl
  exact ⟨"_law_take", "_law_take", _, _, _, fd, N26, d26, F, scB_ok (by kernel_rfl), cb_of c26, ⟨1, rfl, by decide, hid1 rfl (by kernel_rfl)⟩, F.bindsN fun _ _ _ _ _ _ us hl => match us, hl with | [_, _], _ => rfl, kw_nil⟩
theorem dk27 (c : SaysX ck fa fn K) : DK mi T K (fAt K nms "is_integer") 27 ["told"] [] := by
  obtain ⟨fd, F⟩ := c.d.def_ 27 (d := dD "_law_whole" 42) rfl
  exact ⟨"_law_whole", "_law_whole", _, _, _, fd, N27, d27, F, scB_ok (by kernel_rfl), cb_of c27, ⟨0, rfl, by decide, hid0⟩, F.bindsN fun _ _ _ _ _ _ us hl => match us, hl with | [_], _ => rfl, kw_nil⟩
theorem dk28 (c : SaysX ck fa fn K) : DK mi T K (fAt K nms "is_integer") 28 ["low", "high"] [] := by
  obtain ⟨fd, F⟩ := c.d.def_ 28 (d := dD "_law_common" 43) rfl
  exact ⟨"_law_common", "_law_common", _, _, _, fd, N28, d28, F, scB_ok (by kernel_rfl), cb_of c28, ⟨0, rfl, by decide, hid0⟩, F.bindsN fun _ _ _ _ _ _ us hl => match us, hl with | [_, _], _ => rfl, kw_nil⟩
theorem dk29 (c : SaysX ck fa fn K) : DK mi T K (fAt K nms "is_integer") 29 ["told"] [] := by
  obtain ⟨fd, F⟩ := c.d.def_ 29 (d := dD "_law_quotient" 44) rfl
  exact ⟨"_law_quotient", "_law_quotient", _, _, _, fd, N29, d29, F, scB_ok (by kernel_rfl), cb_of c29, ⟨0, rfl, by decide, hid0⟩, F.bindsN fun _ _ _ _ _ _ us hl => match us, hl with | [_], _ => rfl, kw_nil⟩
theorem dk30 (c : SaysX ck fa fn K) : DK mi T K (fAt K nms "is_integer") 30 ["low", "high"] [] := by
  obtain ⟨fd, F⟩ := c.d.def_ 30 (d := dD "_law_less" 45) rfl
  exact ⟨"_law_less", "_law_less", _, _, _, fd, N30, d30, F, scB_ok (by kernel_rfl), cb_of c30, ⟨0, rfl, by decide, hid0⟩, F.bindsN fun _ _ _ _ _ _ us hl => match us, hl with | [_, _], _ => rfl, kw_nil⟩
theorem dk31 (c : SaysX ck fa fn K) : DK mi T K (fAt K nms "is_integer") 31 ["deck", "sort"] [] := by
  obtain ⟨fd, F⟩ := c.d.def_ 31 (d := dD "_law_hold" 46) rfl
  exact ⟨"_law_hold", "_law_hold", _, _, _, fd, N31, d31, F, scB_ok (by kernel_rfl), cb_of c31, ⟨1, rfl, by decide, hid1 rfl (by kernel_rfl)⟩, F.bindsN fun _ _ _ _ _ _ us hl => match us, hl with | [_, _], _ => rfl, kw_nil⟩
theorem dk32 (c : SaysX ck fa fn K) : DK mi T K (fAt K nms "is_integer") 32 ["deck", "many"] [] := by
  obtain ⟨fd, F⟩ := c.d.def_ 32 (d := dD "_law_book" 47) rfl
  exact ⟨"_law_book", "_law_book", _, _, _, fd, N32, d32, F, scB_ok (by kernel_rfl), cb_of c32, ⟨1, rfl, by decide, hid1 rfl (by kernel_rfl)⟩, F.bindsN fun _ _ _ _ _ _ us hl => match us, hl with | [_, _], _ => rfl, kw_nil⟩
theorem dk33 (c : SaysX ck fa fn K) : DK mi T K (fAt K nms "is_integer") 33 ["deck", "book"] [] := by
  obtain ⟨fd, F⟩ := c.d.def_ 33 (d := dD "_law_fellow" 48) rfl
  exact ⟨"_law_fellow", "_law_fellow", _, _, _, fd, N33, d33, F, scB_ok (by kernel_rfl), cb_of c33, ⟨1, rfl, by decide, hid1 rfl (by kernel_rfl)⟩, F.bindsN fun _ _ _ _ _ _ us hl => match us, hl with | [_, _], _ => rfl, kw_nil⟩
theorem dk34 (c : SaysX ck fa fn K) : DK mi T K (fAt K nms "is_integer") 34 ["book"] [] := by
  obtain ⟨fd, F⟩ := c.d.def_ 34 (d := dD "_law_order" 49) rfl
  exact ⟨"_law_order", "_law_order", _, _, _, fd, N34, d34, F, scB_ok (by kernel_rfl), cb_of c34, ⟨0, rfl, by decide, hid0⟩, F.bindsN fun _ _ _ _ _ _ us hl => match us, hl with | [_], _ => rfl, kw_nil⟩
theorem dk35 (c : SaysX ck fa fn K) : DK mi T K (fAt K nms "is_integer") 35 ["orders", "many", "stuff"] [] := by
  obtain ⟨fd, F⟩ := c.d.def_ 35 (d := dD "_law_verdict" 50) rfl
  exact ⟨"_law_verdict", "_law_verdict", _, _, _, fd, N35, d35, F, scB_ok (by kernel_rfl), cb_of c35, ⟨0, rfl, by decide, hid0⟩, F.bindsN fun _ _ _ _ _ _ us hl => match us, hl with | [_, _, _], _ => rfl, kw_nil⟩
theorem dk36 (c : SaysX ck fa fn K) : DK mi T K (fAt K nms "is_integer") 36 ["deed", "book", "fellow", "stuff"] [] := by
  obtain ⟨fd, F⟩ := c.d.def_ 36 (d := dD "_law_ask" 51) rfl
  exact ⟨"_law_ask", "_law_ask", _, _, _, fd, N36, d36, F, scB_ok (by kernel_rfl), cb_of c36, ⟨0, rfl, by decide, hid0⟩, F.bindsN fun _ _ _ _ _ _ us hl => match us, hl with | [_, _, _, _], _ => rfl, kw_nil⟩
theorem dk37 (c : SaysX ck fa fn K) : DK mi T K (fAt K nms "is_integer") 37 ["told", "kind", "name", "spot"] [] := by
  obtain ⟨fd, F⟩ := c.d.def_ 37 (d := dD "_law_named" 52) rfl
  exact ⟨"_law_named", "_law_named", _, _, _, fd, N37, d37, F, scB_ok (by kernel_rfl), cb_of c37, ⟨0, rfl, by decide, hid0⟩, F.bindsN fun _ _ _ _ _ _ us hl => match us, hl with | [_, _, _, _], _ => rfl, kw_nil⟩
theorem dk38 (c : SaysX ck fa fn K) : DK mi T K (fAt K nms "is_integer") 38 ["books", "orders", "stuff"] [] := by
  obtain ⟨fd, F⟩ := c.d.def_ 38 (d := dD "_law_judged" 53) rfl
  exact ⟨"_law_judged", "_law_judged", _, _, _, fd, N38, d38, F, scB_ok (by kernel_rfl), cb_of c38, ⟨0, rfl, by decide, hid0⟩, F.bindsN fun _ _ _ _ _ _ us hl => match us, hl with | [_, _, _], _ => rfl, kw_nil⟩
theorem dk39 (c : SaysX ck fa fn K) : DK mi T K (fAt K nms "is_integer") 39 ["deck", "orders", "many", "pair"] [] := by
  obtain ⟨fd, F⟩ := c.d.def_ 39 (d := dD "_law_made" 54) rfl
  exact ⟨"_law_made", "_law_made", _, _, _, fd, N39, d39, F, scB_ok (by kernel_rfl), cb_of c39, ⟨1, rfl, by decide, hid1 rfl (by kernel_rfl)⟩, F.bindsN fun _ _ _ _ _ _ us hl => match us, hl with | [_, _, _, _], _ => rfl, kw_nil⟩
theorem dk40 (c : SaysX ck fa fn K) : DK mi T K (fAt K nms "is_integer") 40 ["deck", "many", "good"] [] := by
  obtain ⟨fd, F⟩ := c.d.def_ 40 (d := dD "_law_bends" 55) rfl
  exact ⟨"_law_bends", "_law_bends", _, _, _, fd, N40, d40, F, scB_ok (by kernel_rfl), cb_of c40, ⟨1, rfl, by decide, hid1 rfl (by kernel_rfl)⟩, F.bindsN fun _ _ _ _ _ _ us hl => match us, hl with | [_, _, _], _ => rfl, kw_nil⟩
theorem dk41 (c : SaysX ck fa fn K) : DK mi T K (fAt K nms "is_integer") 41 ["deck", "books", "stuff"] [] := by
  obtain ⟨fd, F⟩ := c.d.def_ 41 (d := dD "_law_doors" 56) rfl
  exact ⟨"_law_doors", "_law_doors", _, _, _, fd, N41, d41, F, scB_ok (by kernel_rfl), cb_of c41, ⟨1, rfl, by decide, hid1 rfl (by kernel_rfl)⟩, F.bindsN fun _ _ _ _ _ _ us hl => match us, hl with | [_, _, _], _ => rfl, kw_nil⟩
theorem dk42 (c : SaysX ck fa fn K) : DK mi T K (fAt K nms "is_integer") 42 ["deck", "books", "orders", "many"] [] := by
  obtain ⟨fd, F⟩ := c.d.def_ 42 (d := dD "_law_parted" 57) rfl
  exact ⟨"_law_parted", "_law_parted", _, _, _, fd, N42, d42, F, scB_ok (by kernel_rfl), cb_of c42, ⟨1, rfl, by decide, hid1 rfl (by kernel_rfl)⟩, F.bindsN fun _ _ _ _ _ _ us hl => match us, hl with | [_, _, _, _], _ => rfl, kw_nil⟩
theorem dk43 (c : SaysX ck fa fn K) : DK mi T K (fAt K nms "is_integer") 43 ["script"] [] := by
  obtain ⟨fd, F⟩ := c.d.def_ 43 (d := dD "law" 58) rfl
  exact ⟨"law", "law", _, _, _, fd, N43, d43, F, scB_ok (by kernel_rfl), cb_of c43, ⟨0, rfl, by decide, hid0⟩, F.bindsN fun _ _ _ _ _ _ us hl => match us, hl with | [_], _ => rfl, kw_nil⟩
theorem glo (X : K.In h) (G : h.Ns mainGlobals mg) (c : SaysX ck fa fn K) (x : Str) (hx : x ∈ nms ++ (["NotUsable", "InvalidPaper", "CourtError", "PaperError", "TableError"] : List Str)) : mg x = some (.ref (He.ga K x)) := He.glo_ok X G (c.fact (List.mem_append_left _ (List.mem_append_left _ (by rw [← List.map_append]; exact List.mem_map_of_mem hx))))
theorem fns_ok (X : K.In h) (G : h.Ns mainGlobals mg) (c : SaysX ck fa fn K) : ∀ p ∈ mi.fns, mg p.1 = some (.ref (fAt K nms "is_integer" p.2.ix)) ∧ DK mi T K (fAt K nms "is_integer") p.2.ix p.2.ps p.2.kw :=
  all_cons ⟨glo X G c _ (by decide +kernel), dk0 c⟩ (all_cons ⟨glo X G c _ (by decide +kernel), dk1 c⟩ (all_cons ⟨glo X G c _ (by decide +kernel), dk2 c⟩ (all_cons ⟨glo X G c _ (by decide +kernel), dk3 c⟩ (all_cons ⟨glo X G c _ (by decide +kernel), dk4 c⟩ (all_cons ⟨glo X G c _ (by decide +kernel), dk5 c⟩ (all_cons ⟨glo X G c _ (by decide +kernel), dk6 c⟩ (all_cons ⟨glo X G c _ (by decide +kernel), dk7 c⟩ (all_cons ⟨glo X G c _ (by decide +kernel), dk8 c⟩ (all_cons ⟨glo X G c _ (by decide +kernel), dk9 c⟩ (all_cons ⟨glo X G c _ (by decide +kernel), dk10 c⟩ (all_cons ⟨glo X G c _ (by decide +kernel), dk11 c⟩ (all_cons ⟨glo X G c _ (by decide +kernel), dk12 c⟩ (all_cons ⟨glo X G c _ (by decide +kernel), dk13 c⟩ (all_cons ⟨glo X G c _ (by decide +kernel), dk14 c⟩ (all_cons ⟨glo X G c _ (by decide +kernel), dk15 c⟩ (all_cons ⟨glo X G c _ (by decide +kernel), dk16 c⟩ (all_cons ⟨glo X G c _ (by decide +kernel), dk17 c⟩ (all_cons ⟨glo X G c _ (by decide +kernel), dk18 c⟩ (all_cons ⟨glo X G c _ (by decide +kernel), dk19 c⟩ (all_cons ⟨glo X G c _ (by decide +kernel), dk20 c⟩ (all_cons ⟨glo X G c _ (by decide +kernel), dk21 c⟩ (all_cons ⟨glo X G c _ (by decide +kernel), dk22 c⟩ (all_cons ⟨glo X G c _ (by decide +kernel), dk23 c⟩ (all_cons ⟨glo X G c _ (by decide +kernel), dk24 c⟩ (all_cons ⟨glo X G c _ (by decide +kernel), dk25 c⟩ (all_cons ⟨glo X G c _ (by decide +kernel), dk26 c⟩ (all_cons ⟨glo X G c _ (by decide +kernel), dk27 c⟩ (all_cons ⟨glo X G c _ (by decide +kernel), dk28 c⟩ (all_cons ⟨glo X G c _ (by decide +kernel), dk29 c⟩ (all_cons ⟨glo X G c _ (by decide +kernel), dk30 c⟩ (all_cons ⟨glo X G c _ (by decide +kernel), dk31 c⟩ (all_cons ⟨glo X G c _ (by decide +kernel), dk32 c⟩ (all_cons ⟨glo X G c _ (by decide +kernel), dk33 c⟩ (all_cons ⟨glo X G c _ (by decide +kernel), dk34 c⟩ (all_cons ⟨glo X G c _ (by decide +kernel), dk35 c⟩ (all_cons ⟨glo X G c _ (by decide +kernel), dk36 c⟩ (all_cons ⟨glo X G c _ (by decide +kernel), dk37 c⟩ (all_cons ⟨glo X G c _ (by decide +kernel), dk38 c⟩ (all_cons ⟨glo X G c _ (by decide +kernel), dk39 c⟩ (all_cons ⟨glo X G c _ (by decide +kernel), dk40 c⟩ (all_cons ⟨glo X G c _ (by decide +kernel), dk41 c⟩ (all_cons ⟨glo X G c _ (by decide +kernel), dk42 c⟩ (all_cons ⟨glo X G c _ (by decide +kernel), dk43 c⟩ (all_nil))))))))))))))))))))))))))))))))))))))))))))
theorem ini1 (c : SaysX ck fa fn K) (T : ClsB "InvalidPaper" mi.flds K) : ∃ fd, FnOk P w K mg base (L2N.CX P w) 1 (He.ma K (He.ga K "InvalidPaper") "__init__") fd ["self", "word", "at"] (spI ["word", "at"] (He.ga K "InvalidPaper")) ∧ Binds K fd ["self", "word", "at"] [] := by
  obtain ⟨fd, F⟩ := c.d.def_ 45 (d := ⟨("InvalidPaper", some "__init__"), "__init__", "InvalidPaper.__init__", defArgs (sub 4 0), defBody (sub 4 0), defScope (sub 4 0), [], []⟩) rfl
  exact ⟨fd, init2_ok F (scB_ok (by kernel_rfl)) (by kernel_rfl) (by kernel_rfl) T.T (T.no _ (by decide +kernel)) (T.no _ (by decide +kernel)), F.bindsN fun _ _ _ _ _ _ us hl => match us, hl with | [_, _, _], _ => rfl⟩
theorem ini0 (c : SaysX ck fa fn K) (T : ClsB "NotUsable" mi.flds K) : ∃ fd, FnOk P w K mg base (L2N.CX P w) 1 (He.ma K (He.ga K "NotUsable") "__init__") fd ["self", "word", "at"] (spI ["word", "at"] (He.ga K "NotUsable")) ∧ Binds K fd ["self", "word", "at"] [] := by
  obtain ⟨fd, F⟩ := c.d.def_ 44 (d := ⟨("NotUsable", some "__init__"), "__init__", "NotUsable.__init__", defArgs (sub 6 0), defBody (sub 6 0), defScope (sub 6 0), [], []⟩) rfl
  exact ⟨fd, init2_ok F (scB_ok (by kernel_rfl)) (by kernel_rfl) (by kernel_rfl) T.T (T.no _ (by decide +kernel)) (T.no _ (by decide +kernel)), F.bindsN fun _ _ _ _ _ _ us hl => match us, hl with | [_, _, _], _ => rfl⟩
theorem stat (X : K.In h) (G : h.Ns mainGlobals mg) (c : SaysX ck fa fn K) : Stat mi T (fAt K nms "is_integer") (fAt K ["NotUsable", "InvalidPaper"] "NotUsable") P w K mg base := by
  refine stat_of (fun x hx => He.free_ok X G (c.fact (List.mem_append_left _ (List.mem_append_right _ (List.mem_map_of_mem hx))))) (fns_ok X G c) (by kernel_rfl) (by decide +kernel) (by decide +kernel) rfl rfl ?_ ?_ ?_ ?_ ?_ ?_ ?_
  · exact all_cons ⟨glo X G c _ (by decide +kernel), (clsB_ok (c.chk 0)).T, (let ⟨fd, k1, k2⟩ := ini0 (P := P) (w := w) (mg := mg) (base := base) c (clsB_ok (c.chk 0)); ⟨_, fd, _, (clsB_ok (c.chk 0)).iC, (clsB_ok (c.chk 0)).tI, k1, k2⟩), by decide +kernel, by decide +kernel⟩ (all_cons ⟨glo X G c _ (by decide +kernel), (clsB_ok (c.chk 1)).T, (let ⟨fd, k1, k2⟩ := ini1 (P := P) (w := w) (mg := mg) (base := base) c (clsB_ok (c.chk 1)); ⟨_, fd, _, (clsB_ok (c.chk 1)).iC, (clsB_ok (c.chk 1)).tI, k1, k2⟩), by decide +kernel, by decide +kernel⟩ (all_nil))
  · exact all_cons ⟨glo X G c _ (by decide +kernel), fun k => match k with
    | 0 => He.exm_ok (c.fact (f := .exm "NotUsable" "InvalidPaper" false) (List.mem_append_right _ (List.mem_of_getElem? (i := 0) rfl)))
    | 1 => He.exm_ok (c.fact (f := .exm "InvalidPaper" "InvalidPaper" true) (List.mem_append_right _ (List.mem_of_getElem? (i := 2) rfl)))
    | k + 2 => He.exm_ok (c.fact (f := .exm "NotUsable" "InvalidPaper" false) (List.mem_append_right _ (List.mem_of_getElem? (i := 0) rfl)))⟩ (all_cons ⟨glo X G c _ (by decide +kernel), fun k => match k with
    | 0 => He.exm_ok (c.fact (f := .exm "NotUsable" "CourtError" true) (List.mem_append_right _ (List.mem_of_getElem? (i := 1) rfl)))
    | 1 => He.exm_ok (c.fact (f := .exm "InvalidPaper" "CourtError" true) (List.mem_append_right _ (List.mem_of_getElem? (i := 3) rfl)))
    | k + 2 => He.exm_ok (c.fact (f := .exm "NotUsable" "CourtError" true) (List.mem_append_right _ (List.mem_of_getElem? (i := 1) rfl)))⟩ (all_nil))
  · exact all_cons (clsB_ok (c.chk 0)) (all_cons (clsB_ok (c.chk 0)) (all_cons (clsB_ok (c.chk 1)) (all_nil)))
  · exact all_cons (bfnB_ok X G (c.chk 2)) (all_nil)
  · exact all_nil
  · exact all_cons (isx_own (glo X G c "PaperError" (by decide +kernel)) fun k => match k with
    | 0 => kitB_ok (c.chk 3)
    | 1 => kitB_ok (c.chk 4)
    | k + 2 => kitB_ok (c.chk 3)) (all_cons (isx_own (glo X G c "NotUsable" (by decide +kernel)) fun k => match k with
    | 0 => kitB_ok (c.chk 5)
    | 1 => kitB_ok (c.chk 6)
    | k + 2 => kitB_ok (c.chk 5)) (all_cons (isx_own (glo X G c "TableError" (by decide +kernel)) fun k => match k with
    | 0 => kitB_ok (c.chk 7)
    | 1 => kitB_ok (c.chk 8)
    | k + 2 => kitB_ok (c.chk 7)) (all_nil)))
  · exact all_nil
end
def LV : Nat := 60
theorem holds_ofB (h : ∀ ns : List Int, ns.length ≤ 63 → Bits ns → callN T LV 43 [.d (.scr ns)] = .ok (.d (.bl true)) []) : (PySem.Challenge.rw_oneistrue_k10_whole_orders_parted).Holds := by
  w_on; o_law
  refine HandSHeadRun.head_imp (r := R) (q := vw) (H := hk) (ob := ob) (M := 4000) (loose := loose) (d := HandSHeadRun.topDef R.prog 58) (kwd := []) ob_eq
    run (by kernel_rfl) (by kernel_rfl) (by kernel_rfl) (by rfl) (by first | assumption | decide +kernel) (by decide +kernel) ⟨rfl, rfl, rfl, rfl, rfl, by decide +kernel⟩ ?hw ?hc
  case hw => w_witness2
  case hc =>
    refine walk_XB (l := PySem.Challenge.rw_oneistrue_k10_whole_orders_parted) (n := 63) (k := LV + 2) (x := "script") rfl (by decide) (by kernel_rfl) ⟨rfl, by decide +kernel, by decide +kernel⟩ ?F
    intro w mg f hp Y G hmg0
    obtain ⟨K, KX, c⟩ := Y
    have hmg : mg ("law" : Str) = some (.ref f) := by
      have e : (HandSHeadRun.topDef R.prog 58).name = ("law" : Str) := by kernel_rfl
      rw [← e]
      exact hmg0
    have e0 := glo KX G c "law" (by decide +kernel)
    rw [hmg] at e0
    cases e0
    obtain ⟨fd, F⟩ := c.d.def_ 43 (d := dD "law" 58) rfl
    have hb := FunD.bindsA (ps := ["script"]) F fun _ _ _ _ _ _ us hl => match us, hl with | [_], _ => rfl
    refine ⟨K, fd, spC K (fAt K nms "is_integer") ⟨fAt K ["NotUsable", "InvalidPaper"] "NotUsable", none⟩ (callN T LV) 43, KX, fun s u => hb s [u] rfl, fun H a ns hl hb O S => sp_law O S (h ns hl hb), fun base _ _ => ?_⟩
    have g := stat (P := (PySem.Challenge.rw_oneistrue_k10_whole_orders_parted).prog) (w := w) (base := base) KX G c
    exact def_ok (k := 43) (N := N43) (ps := ["script"]) (d := d43) (lv := LV - 1) F (scB_ok (by kernel_rfl)) (cb_of c43) (ng := 0) rfl (fun fa' e => gm_all (LV - 1) (g.to e)) (by decide) hid0
theorem holds_of (h : ∀ ns : List Int, ns.length ≤ 63 → callN T LV 43 [.d (.scr ns)] = .ok (.d (.bl true)) []) : (PySem.Challenge.rw_oneistrue_k10_whole_orders_parted).Holds := holds_ofB fun ns hl _ => h ns hl
end K10
set_option Elab.async false
set_option linter.all false
set_option maxRecDepth 100000
set_option maxHeartbeats 4000000
/-! MQ: quotients as pairs; sizes. -/
namespace MQ
open PySem RX
/-- a number of at most k bits -/
def Sm (k : Nat) (x : Int) : Prop := x.natAbs < 2 ^ k
theorem Sm.mono {k m : Nat} {x : Int} (h : Sm k x) (hk : k ≤ m) : Sm m x := Nat.lt_of_lt_of_le h (Nat.pow_le_pow_right (by omega) hk)
theorem Sm.mul {k m : Nat} {x y : Int} (h : Sm k x) (h' : Sm m y) : Sm (k + m) (x * y) := by
  unfold Sm at *
  rw [Int.natAbs_mul, Nat.pow_add]
  rcases Nat.eq_zero_or_pos x.natAbs with e | e
  · rw [e, Nat.zero_mul]
    exact Nat.mul_pos (Nat.two_pow_pos _) (Nat.two_pow_pos _)
  · exact Nat.mul_lt_mul_of_lt_of_lt h h'
theorem Sm.add {k m : Nat} {x y : Int} (h : Sm k x) (h' : Sm k y) (hm : k + 1 ≤ m) : Sm m (x + y) := by
  refine Sm.mono (k := k + 1) ?_ hm
  unfold Sm at *
  have := Int.natAbs_add_le x y
  rw [Nat.pow_succ]
  omega
theorem Sm.sub {k m : Nat} {x y : Int} (h : Sm k x) (h' : Sm k y) (hm : k + 1 ≤ m) : Sm m (x - y) := by
  refine Sm.mono (k := k + 1) ?_ hm
  unfold Sm at *
  have := Int.natAbs_sub_le x y
  rw [Nat.pow_succ]
  omega
theorem Sm.neg {k : Nat} {x : Int} (h : Sm k x) : Sm k (-x) := by
  unfold Sm at *
  rw [Int.natAbs_neg]
  exact h
theorem Sm.log {k : Nat} {x : Int} (h : Sm k x) : x.natAbs.log2 ≤ k := by
  rcases Nat.eq_zero_or_pos x.natAbs with e | e
  · rw [e]; exact Nat.zero_le _
  · have : x.natAbs.log2 < k := (Nat.log2_lt (by omega)).mpr h
    omega
theorem mk {k m : Nat} {x y : Int} (h : Sm k x) (h' : Sm m y) (hk : k + m < 134000000) : mulOk x y = true := by
  unfold mulOk
  have h1 := h.log
  have h2 := h'.log
  exact decide_eq_true (by omega)
theorem dk {k : Nat} {y : Int} (h : Sm k y) (hk : k < 9000) (hy : y ≠ 0) : divOk y = true := by
  unfold divOk
  have h1 := h.log
  rw [Bool.and_eq_true]
  exact ⟨decide_eq_true hy, decide_eq_true (by omega)⟩
/-- a quotient as the program has it -/
def enc (r : Rat) : D := .tup [.int r.num, .int r.den]
def SmQ (k : Nat) (r : Rat) : Prop := Sm k r.num ∧ Sm k (r.den : Int)
theorem SmQ.mono {k m : Nat} {r : Rat} (h : SmQ k r) (hk : k ≤ m) : SmQ m r := ⟨h.1.mono hk, h.2.mono hk⟩
/-- the quotient of two numbers is no larger than they -/
theorem smq_div {k : Nat} {a b : Int} (ha : Sm k a) (hb : Sm k b) (hb0 : b ≠ 0) : SmQ k (Rat.divInt a b) := by
  have hg : 0 < Int.gcd b a := Int.gcd_pos_of_ne_zero_left _ hb0
  constructor
  · unfold Sm at *
    rw [Rat.num_divInt]
    have h1 : (b.sign * a).natAbs ≤ a.natAbs := by
      rw [Int.natAbs_mul]
      have : b.sign.natAbs ≤ 1 := by
        rcases Int.lt_trichotomy b 0 with h | h | h
        · rw [Int.sign_eq_neg_one_of_neg h]; decide
        · rw [h]; decide
        · rw [Int.sign_eq_one_of_pos h]; decide
      calc b.sign.natAbs * a.natAbs ≤ 1 * a.natAbs := Nat.mul_le_mul_right _ this
        _ = a.natAbs := Nat.one_mul _
    have h2 : (b.sign * a / (Int.gcd b a : Int)).natAbs ≤ (b.sign * a).natAbs := Int.natAbs_ediv_le_natAbs _ _
    omega
  · unfold Sm at *
    rw [Rat.den_divInt, if_neg hb0, Int.natAbs_natCast]
    have := Nat.div_le_self b.natAbs (Int.gcd b a)
    omega
theorem smq_add {k m : Nat} {r s : Rat} (h : SmQ k r) (h' : SmQ m s) : SmQ (k + m + 1) (r + s) := by
  rw [Rat.add_def', ← Rat.divInt_ofNat]
  refine smq_div ?_ ?_ ?_
  · exact Sm.add (k := k + m) (h.1.mul h'.2) (by have := h'.1.mul h.2; rw [Nat.add_comm m k] at this; exact this) (Nat.le_refl _)
  · rw [Int.natCast_mul]; exact (h.2.mul h'.2).mono (by omega)
  · have h1 := r.den_pos
    have h2 := s.den_pos
    have := Nat.mul_pos h1 h2
    omega
theorem smq_sub {k m : Nat} {r s : Rat} (h : SmQ k r) (h' : SmQ m s) : SmQ (k + m + 1) (r - s) := by
  rw [Rat.sub_def', ← Rat.divInt_ofNat]
  refine smq_div ?_ ?_ ?_
  · exact Sm.sub (k := k + m) (h.1.mul h'.2) (by have := h'.1.mul h.2; rw [Nat.add_comm m k] at this; exact this) (Nat.le_refl _)
  · rw [Int.natCast_mul]; exact (h.2.mul h'.2).mono (by omega)
  · have h1 := r.den_pos
    have h2 := s.den_pos
    have := Nat.mul_pos h1 h2
    omega
theorem smq_mul {k m : Nat} {r s : Rat} (h : SmQ k r) (h' : SmQ m s) : SmQ (k + m) (r * s) := by
  rw [Rat.mul_def', ← Rat.divInt_ofNat]
  refine smq_div (h.1.mul h'.1) ?_ ?_
  · rw [Int.natCast_mul]; exact h.2.mul h'.2
  · have h1 := r.den_pos
    have h2 := s.den_pos
    have := Nat.mul_pos h1 h2
    omega
/-- one over the other -/
theorem div_eq {r s : Rat} (hs : s ≠ 0) : r / s = Rat.divInt (r.num * s.den) (r.den * s.num) := by
  rw [Rat.div_def, Rat.inv_def]
  conv => lhs; rw [← Rat.num_divInt_den r]
  rw [Rat.divInt_mul_divInt]
theorem smq_over {k m : Nat} {r s : Rat} (h : SmQ k r) (h' : SmQ m s) (hs : s ≠ 0) : SmQ (k + m) (r / s) := by
  rw [div_eq hs]
  refine smq_div (h.1.mul h'.2) (h.2.mul h'.1) ?_
  intro e
  rcases Int.mul_eq_zero.mp e with e | e
  · have := r.den_pos; omega
  · exact hs (Rat.num_eq_zero.mp e)
/-- what reduced makes -/
theorem red_pos {a b : Int} (hb : 0 < b) : a.fdiv ((Nat.gcd a.natAbs b.natAbs : Nat) : Int) = (Rat.divInt a b).num ∧ b.fdiv ((Nat.gcd a.natAbs b.natAbs : Nat) : Int) = ((Rat.divInt a b).den : Int) := by
  have e : Int.gcd b a = Nat.gcd a.natAbs b.natAbs := by rw [Nat.gcd_comm]; rfl
  rw [Rat.num_divInt, Rat.den_divInt, if_neg (by omega), Int.sign_eq_one_of_pos hb, Int.one_mul, e]
  refine ⟨Int.fdiv_eq_ediv_of_nonneg _ (Int.natCast_nonneg _), ?_⟩
  rw [Int.fdiv_eq_ediv_of_nonneg _ (Int.natCast_nonneg _), Int.natCast_ediv]
  congr 1
  omega
theorem red_neg {a b : Int} (hb : b < 0) : a.fdiv (-((Nat.gcd a.natAbs b.natAbs : Nat) : Int)) = (Rat.divInt a b).num ∧ b.fdiv (-((Nat.gcd a.natAbs b.natAbs : Nat) : Int)) = ((Rat.divInt a b).den : Int) := by
  have h := red_pos (a := -a) (b := -b) (by omega)
  rw [Int.natAbs_neg, Int.natAbs_neg, Rat.neg_divInt_neg] at h
  have f : ∀ x g : Int, x.fdiv (-g) = (-x).fdiv g := fun x g => by rw [← Int.neg_fdiv_neg]; rw [Int.neg_neg]
  rw [f, f]
  exact h
/-- the check of a told quotient -/
theorem is_div {r : Rat} {a b : Int} (hb : b ≠ 0) (h : r = Rat.divInt a b) : r.num * b = a * r.den := by
  have hd : (r.den : Int) ≠ 0 := by have := r.den_pos; omega
  rw [← Rat.num_divInt_den r] at h
  exact (Rat.divInt_eq_divInt_iff hd hb).mp h
end MQ
set_option Elab.async false
set_option linter.all false
set_option maxRecDepth 100000
set_option maxHeartbeats 4000000
/-! RXx: what the laws' mathematics share, with no law in it. -/
namespace RY
open PySem RX
theorem up {n k : Nat} (h : k + 1 ≤ n) : ∃ m, n = m + 1 ∧ k ≤ m := ⟨n - 1, by omega, by omega⟩
mutual
/-- what the law judges: plain, no list too long -/
def gd : D → Bool
  | .non => true
  | .bl _ => true
  | .int _ => true
  | .str _ => true
  | .tup l => decide (l.length < 1000) && gdL l
  | .lst l => decide (l.length < 1000) && gdL l
  | _ => false
def gdL : List D → Bool
  | [] => true
  | d :: r => gd d && gdL r
end
mutual
theorem gd_plain : ∀ {x : D}, gd x = true → x.plain = true
  | .non, _ => rfl
  | .bl _, _ => rfl
  | .int _, _ => rfl
  | .str _, _ => rfl
  | .tup l, h => gdL_plain (Bool.and_eq_true_iff.mp (show (decide (l.length < 1000) && gdL l) = true from h)).2
  | .lst l, h => gdL_plain (Bool.and_eq_true_iff.mp (show (decide (l.length < 1000) && gdL l) = true from h)).2
  | .fn _, h => by cases h
  | .ty _, h => by cases h
  | .scr _, h => by cases h
theorem gdL_plain : ∀ {l : List D}, gdL l = true → plainL l = true
  | [], _ => rfl
  | d :: r, h => by
    obtain ⟨h1, h2⟩ := Bool.and_eq_true_iff.mp (show (gd d && gdL r) = true from h)
    show (d.plain && plainL r) = true
    rw [gd_plain h1, gdL_plain h2]
    rfl
end
theorem gdL_all : ∀ {l : List D}, gdL l = true ↔ ∀ x ∈ l, gd x = true
  | [] => ⟨fun _ x hx => (nomatch hx), fun _ => rfl⟩
  | d :: r => by
    have e : gdL (d :: r) = (gd d && gdL r) := rfl
    rw [e, Bool.and_eq_true, gdL_all (l := r)]
    constructor
    · rintro ⟨h1, h2⟩ x hx
      rcases List.mem_cons.mp hx with rfl | hx
      · exact h1
      · exact h2 x hx
    · intro h
      exact ⟨h d List.mem_cons_self, fun x hx => h x (List.mem_cons_of_mem _ hx)⟩
theorem gd_tup {l : List D} : gd (.tup l) = true ↔ l.length < 1000 ∧ ∀ x ∈ l, gd x = true := by
  have e : gd (.tup l) = (decide (l.length < 1000) && gdL l) := rfl
  rw [e, Bool.and_eq_true, gdL_all, decide_eq_true_iff]
theorem gd_lst {l : List D} : gd (.lst l) = true ↔ l.length < 1000 ∧ ∀ x ∈ l, gd x = true := by
  have e : gd (.lst l) = (decide (l.length < 1000) && gdL l) := rfl
  rw [e, Bool.and_eq_true, gdL_all, decide_eq_true_iff]
theorem gdL_app {l m : List D} : gdL (l ++ m) = true ↔ gdL l = true ∧ gdL m = true := by
  rw [gdL_all, gdL_all, gdL_all]
  constructor
  · intro h
    exact ⟨fun x hx => h x (List.mem_append_left _ hx), fun x hx => h x (List.mem_append_right _ hx)⟩
  · rintro ⟨h1, h2⟩ x hx
    rcases List.mem_append.mp hx with hx | hx
    · exact h1 x hx
    · exact h2 x hx
/-- is it a tuple -/
def isTp : D → Bool
  | .tup _ => true
  | _ => false
theorem isi_tup {x : D} (h : x.plain = true) : bIsi .tuple [x] = some (.d (.bl (isTp x))) := by
  cases x <;> first | rfl | cases h
theorem isTp_ok {x : D} (h : isTp x = true) : ∃ l, x = .tup l := by
  cases x <;> first | exact ⟨_, rfl⟩ | cases h
def isI : D → Bool
  | .int _ => true
  | _ => false
theorem isI_ok {x : D} (h : isI x = true) : ∃ i, x = .int i := by
  cases x <;> first | exact ⟨_, rfl⟩ | cases h
def isNn : D → Bool
  | .int i => decide (0 ≤ i)
  | _ => false
theorem isNn_ok {x : D} (h : isNn x = true) : ∃ i, x = .int i ∧ 0 ≤ i := by
  cases x <;> first | exact ⟨_, rfl, of_decide_eq_true h⟩ | cases h
def isP : D → Bool
  | .int i => decide (1 ≤ i)
  | _ => false
theorem isP_ok {x : D} (h : isP x = true) : ∃ i, x = .int i ∧ 1 ≤ i := by
  cases x <;> first | exact ⟨_, rfl, of_decide_eq_true h⟩ | cases h
theorem lenT {l : List D} : bLen [.tup l] = some (.d (.int l.length)) := rfl
theorem lenL {l : List D} : bLen [.lst l] = some (.d (.int l.length)) := rfl
theorem len2 {l : List D} (h : l.length = 2) : ∃ a b, l = [a, b] := by
  match l, h with
  | [a, b], _ => exact ⟨a, b, rfl⟩
theorem bInt_i {i : Int} : bInt [.int i] = some (.d (.int i)) := rfl
theorem absI {i : Int} : bAbs [.int i] = some (.d (.int i.natAbs)) := by
  show some (Ex.d (.int (if i < 0 then -i else i))) = _
  congr 3
  split <;> omega
theorem set_same {α : Type} {l : List α} {i : Nat} {s : α} (h : l[i]? = some s) : l.set i s = l := by
  apply List.ext_getElem?
  intro j
  by_cases e : i = j
  · subst e
    rw [List.getElem?_set_self (List.getElem?_eq_some_iff.mp h).1, h]
  · rw [List.getElem?_set_ne e]
theorem blsOf_map {g : D → Bool} : ∀ l : List D, blsOf (l.map fun x => .bl (g x)) = some (l.map g)
  | [] => rfl
  | d :: r => by
    show (blsOf (r.map fun x => .bl (g x))).map (fun l => g d :: l) = _
    rw [blsOf_map r]
    rfl
theorem all_map {g : D → Bool} (l : List D) : bAll [.lst (l.map fun x => .bl (g x))] = some (.d (.bl (l.all g))) := by
  show (blsOf (l.map fun x => .bl (g x))).map (fun bs => Ex.d (.bl (bs.all id))) = _
  rw [blsOf_map]
  show some (Ex.d (.bl ((l.map g).all id))) = _
  rw [List.all_map]
  rfl
/-- a slot that a comprehension may use -/
def NV (s : Sl) : Prop := s = .none ∨ ∃ d, s = .val d
theorem NV.free {s : Sl} (h : NV s) : free1 (some s) = true := by rcases h with rfl | ⟨d, rfl⟩ <;> rfl
theorem call_v1 {C : Calls} {ρ : RX.Env} {i k : Nat} {x : D} {r : D} (hi : ρ[i]? = some (.val x)) (h : C k [.d x] = .ok (.d r) []) : dCall k [.v i] C ρ = .ok (.d r) ρ := by
  unfold dCall
  have e : argsE [.v i] C ρ = .ok [.d x] ρ := by
    show (if isOwn ρ[i]? = true then _ else (dVar i C ρ).bind fun x ρ1 => (argsE [] C ρ1).bind fun xs ρ2 => .ok (.d x.frz :: xs) ρ2) = _
    rw [hi]
    show (dVar i C ρ).bind _ = _
    unfold dVar
    rw [hi]
    rfl
  rw [e]
  show doCall k [.d x] C ρ = _
  unfold doCall
  show (match C k [.d x] with
      | .ok r outs => (match RX.backTo ρ [] outs with
        | some ρ' => R.ok r ρ'
        | none => .stuck)
      | .exc c fs => if (owns [.d x]).isEmpty then .exc c fs ρ else .stuck
      | _ => .stuck) = _
  rw [h]
  rfl
/-- [f(x) for x in ..] -/
theorem comp_g {C : Calls} {ρ : RX.Env} {it : ID} {i k : Nat} {l : List D} {g : D → Bool} {s : Sl} (hit : it C ρ = .ok l ρ) (hi : ρ[i]? = some s) (hs : NV s) (hl : l.length < 1000) (hC : ∀ x ∈ l, C k [.d x] = .ok (.d (.bl (g x))) []) :
    dComp [i] it (.v i) (tests []) (dCall k [.v i]) C ρ = .ok (.fresh (l.map fun x => .bl (g x))) ρ := by
  have hlt : i < ρ.length := (List.getElem?_eq_some_iff.mp hi).1
  have hw : wipe ρ [i] = ρ.set i .none := rfl
  have c : compL [i] (.v i) (tests []) (dCall k [.v i]) C l (wipe ρ [i]) = .ok (l.map fun x => .bl (g x)) (ρ.set i .none) := by
    rw [hw]
    refine comp_of (ρ := ρ.set i .none) (by show (ρ.set i .none).set i .none = _; rw [List.set_set]) fun x hx => ?_
    refine ⟨(ρ.set i .none).set i (.val x), .d (.bl (g x)), (ρ.set i .none).set i (.val x), ?_, ?_, rfl, ?_⟩
    · show stSl (ρ.set i .none) i (.val x) = _
      unfold stSl
      rw [List.getElem?_set_self hlt]
    · exact call_v1 (by rw [List.getElem?_set_self (by rw [List.length_set]; exact hlt)]) (hC x hx)
    · show ((ρ.set i .none).set i (.val x)).set i .none = _
      rw [List.set_set, List.set_set]
  have hc := x_Comp (C := C) (ρ := ρ) (it := it) (tg := .v i) (ts := tests []) hit (by show l.length < 16777216; omega) (by show (free1 ρ[i]? && true) = true; rw [hi, hs.free]; rfl) c
  have hu : unwipe ρ (ρ.set i .none) [i] = ρ := by
    show (match ρ[i]? with
      | some s => (ρ.set i .none).set i s
      | none => ρ.set i .none) = ρ
    rw [hi]
    show (ρ.set i .none).set i s = ρ
    rw [List.set_set]
    exact set_same hi
  rw [hu] at hc
  exact hc
theorem itT {l : List D} : (D.tup l).items? = some l := rfl
theorem asI {i : Int} : (D.int i).asInt? = some i := rfl
/-- [e for x in ..], e changing nothing -/
theorem comp_e {C : Calls} {ρ : RX.Env} {it : ID} {i : Nat} {l : List D} {elt : Den} {g : D → D} {s : Sl} (hit : it C ρ = .ok l ρ) (hi : ρ[i]? = some s) (hs : NV s) (hl : l.length < 16777216) (hC : ∀ x ∈ l, elt C (ρ.set i (.val x)) = .ok (.d (g x)) (ρ.set i (.val x))) :
    dComp [i] it (.v i) (tests []) elt C ρ = .ok (.fresh (l.map g)) ρ := by
  have hlt : i < ρ.length := (List.getElem?_eq_some_iff.mp hi).1
  have c : compL [i] (.v i) (tests []) elt C l (wipe ρ [i]) = .ok (l.map g) (ρ.set i .none) := by
    show compL [i] (.v i) (tests []) elt C l (ρ.set i .none) = _
    refine comp_of (ρ := ρ.set i .none) (by show (ρ.set i .none).set i .none = _; rw [List.set_set]) fun x hx => ?_
    refine ⟨ρ.set i (.val x), .d (g x), ρ.set i (.val x), ?_, hC x hx, rfl, ?_⟩
    · show stSl (ρ.set i .none) i (.val x) = _
      unfold stSl
      rw [List.getElem?_set_self hlt]
      show some ((ρ.set i .none).set i (.val x)) = _
      rw [List.set_set]
    · show (ρ.set i (.val x)).set i .none = _
      rw [List.set_set]
  have hc := x_Comp (C := C) (ρ := ρ) (it := it) (tg := .v i) (ts := tests []) hit hl (by show (free1 ρ[i]? && true) = true; rw [hi, hs.free]; rfl) c
  have hu : unwipe ρ (ρ.set i .none) [i] = ρ := by
    show (match ρ[i]? with
      | some s => (ρ.set i .none).set i s
      | none => ρ.set i .none) = ρ
    rw [hi]
    show (ρ.set i .none).set i s = ρ
    rw [List.set_set]
    exact set_same hi
  rw [hu] at hc
  exact hc
theorem nat_beq {a b : Nat} : ((a : Int) == (b : Int)) = (a == b) := by
  by_cases h : a = b
  · subst h; rw [beq_self_eq_true, beq_self_eq_true]
  · rw [beq_eq_false_iff_ne.mpr h, beq_eq_false_iff_ne.mpr (by omega)]
theorem f_eqS {x y : Str} : fEq (.str x) (.str y) = some (.d (.bl (x == y))) := rfl
mutual
/-- what the checks compare -/
def eas : D → Bool
  | .non => true
  | .bl _ => true
  | .int _ => true
  | .str _ => true
  | .tup l => decide (l.length < 1000) && easL l
  | _ => false
def easL : List D → Bool
  | [] => true
  | d :: r => eas d && easL r
end
theorem easL_at : ∀ {l : List D} {i : Nat} {x : D}, easL l = true → l[i]? = some x → eas x = true ∧ x.dep ≤ depL l
  | [], _, _, _, h => by simp at h
  | d :: r, i, x, h, e => by
    obtain ⟨h1, h2⟩ := Bool.and_eq_true_iff.mp (show (eas d && easL r) = true from h)
    cases i with
    | zero => simp at e; subst e; exact ⟨h1, Nat.le_max_left _ _⟩
    | succ i =>
      obtain ⟨k1, k2⟩ := easL_at h2 (show r[i]? = some x by simpa using e)
      exact ⟨k1, Nat.le_trans k2 (Nat.le_max_right _ _)⟩
def itl (k m : Nat) : List D := (List.range' k m).map fun (i : Nat) => .int (i : Int)
theorem rng_ints (n : Nat) : rng 0 (n : Int) = itl 0 n := by
  unfold rng itl
  rw [Int.sub_zero, Int.toNat_natCast, List.range_eq_range']
  congr 1
  funext k
  rw [Int.zero_add]
theorem ints_s (k m : Nat) : itl k (m + 1) = .int (k : Int) :: itl (k + 1) m := by
  unfold itl
  rw [List.range'_succ]
  rfl
theorem comp_tl {C : Calls} {ρ : RX.Env} {i : Nat} {ts : TD} {elt : Den} {p : D → Bool} (hi : i < ρ.length) : ∀ (l : List D) (ρ' : RX.Env), ρ'.set i .none = ρ.set i .none →
    (∀ x ∈ l, ts C (ρ.set i (.val x)) = .ok (p x) (ρ.set i (.val x))) → (∀ x ∈ l, elt C (ρ.set i (.val x)) = .ok (.d x) (ρ.set i (.val x))) → compL [i] (.v i) ts elt C l ρ' = .ok (l.filter p) (ρ.set i .none)
  | [], ρ', e, _, _ => by show RX.R.ok [] (ρ'.set i .none) = _; rw [e]; rfl
  | x :: xs, ρ', e, hT, hE => by
    have st : (Tg.v i).st (wipe ρ' [i]) x = some (ρ.set i (.val x)) := by
      show stSl (ρ'.set i .none) i (.val x) = _
      rw [e]
      unfold stSl
      rw [List.getElem?_set_self hi]
      show some ((ρ.set i .none).set i (.val x)) = _
      rw [List.set_set]
    have ih := comp_tl (C := C) (ts := ts) (elt := elt) (p := p) hi xs (ρ.set i (.val x)) (by rw [List.set_set]) (fun y hy => hT y (List.mem_cons_of_mem _ hy)) fun y hy => hE y (List.mem_cons_of_mem _ hy)
    unfold compL
    rw [st]
    show (ts C (ρ.set i (.val x))).bind _ = _
    rw [hT x List.mem_cons_self]
    show (if p x = true then (elt C (ρ.set i (.val x))).bind fun y ρ3 => (compL [i] (.v i) ts elt C xs ρ3).bind fun ys ρ4 => RX.R.ok (y.frz :: ys) ρ4 else compL [i] (.v i) ts elt C xs (ρ.set i (.val x))) = _
    cases ep : p x with
    | false =>
      rw [if_neg Bool.false_ne_true, ih, List.filter_cons_of_neg (by rw [ep]; exact Bool.false_ne_true)]
    | true =>
      rw [if_pos rfl, hE x List.mem_cons_self, List.filter_cons_of_pos ep]
      show (compL [i] (.v i) ts elt C xs (ρ.set i (.val x))).bind _ = _
      rw [ih]
      rfl
theorem comp_t {C : Calls} {ρ : RX.Env} {it : ID} {i : Nat} {l : List D} {ts : TD} {elt : Den} {p : D → Bool} {s : Sl} (hit : it C ρ = .ok l ρ) (hi : ρ[i]? = some s) (hs : NV s) (hl : l.length < 16777216)
    (hT : ∀ x ∈ l, ts C (ρ.set i (.val x)) = .ok (p x) (ρ.set i (.val x))) (hE : ∀ x ∈ l, elt C (ρ.set i (.val x)) = .ok (.d x) (ρ.set i (.val x))) : dComp [i] it (.v i) ts elt C ρ = .ok (.fresh (l.filter p)) ρ := by
  have hlt : i < ρ.length := (List.getElem?_eq_some_iff.mp hi).1
  have c := comp_tl (C := C) (ρ := ρ) (ts := ts) (elt := elt) (p := p) hlt l (wipe ρ [i]) (by show (ρ.set i .none).set i .none = _; rw [List.set_set]) hT hE
  have hc := x_Comp (C := C) (ρ := ρ) (it := it) (tg := .v i) (ts := ts) hit hl (by show (free1 ρ[i]? && true) = true; rw [hi, hs.free]; rfl) c
  have hu : unwipe ρ (ρ.set i .none) [i] = ρ := by
    show (match ρ[i]? with
      | some s => (ρ.set i .none).set i s
      | none => ρ.set i .none) = ρ
    rw [hi]
    show (ρ.set i .none).set i s = ρ
    rw [List.set_set]
    exact set_same hi
  rw [hu] at hc
  exact hc
theorem plain_ints : ∀ l : List Int, plainL (l.map .int) = true
  | [] => rfl
  | _ :: r => plain_ints r
theorem dep_ints : ∀ l : List Int, depL (l.map .int) = 0
  | [] => rfl
  | _ :: r => by show max 0 (depL (r.map .int)) = 0; rw [dep_ints r]; rfl
theorem fslT {l : List D} {lo hi : Option Int} : fSl (.tup l) lo hi = some (.d (.tup (cut l lo hi))) := rfl
theorem fAddT {a b : List D} (h : a.length + b.length ≤ 16777216) : fAdd (.tup a) (.tup b) = some (.d (.tup (a ++ b))) := by
  show (if a.length + b.length ≤ LIM then some (Ex.d (.tup (a ++ b))) else none) = _
  rw [if_pos (show a.length + b.length ≤ LIM from h)]
theorem fAddL {a b : List D} (h : a.length + b.length ≤ 16777216) : fAdd (.lst a) (.lst b) = some (.fresh (a ++ b)) := by
  show (if a.length + b.length ≤ LIM then some (Ex.fresh (a ++ b)) else none) = _
  rw [if_pos (show a.length + b.length ≤ LIM from h)]
/-- some item of a list -/
theorem ix_in {l : List D} {i : Int} (h0 : 0 ≤ i) (h : i < l.length) : ∃ x ∈ l, fIx (.lst l) (.int i) = some (.d x) := by
  have hx : l[i.toNat]? = some (l[i.toNat]'(by omega)) := List.getElem?_eq_getElem (by omega)
  have := (ix_nat hx).2
  rw [Int.toNat_of_nonneg h0] at this
  exact ⟨_, List.getElem_mem _, this⟩
theorem bTupL {l : List D} : bTup [.lst l] = some (.d (.tup l)) := rfl
theorem rng_gd {n : Int} : ∀ x ∈ rng 0 n, ∃ k : Nat, x = .int k := fun x hx => by
  obtain ⟨k, hk⟩ := List.mem_iff_getElem?.mp hx
  obtain ⟨_, h2⟩ := rng_get hk
  exact ⟨k, by rw [h2, Int.zero_add]⟩
theorem for_ret {C : Calls} {i : Nat} {A : DS} {r : D} (E : Sl → RX.Env) (st : ∀ s x, NV s → (Tg.v i).st (E s) x = some (E (.val x))) (p : D → Bool) : ∀ (l : List D) (s : Sl), NV s →
    (∀ x ∈ l, A C (E (.val x)) = if p x = true then .ret (.d r) (E (.val x)) else .next (E (.val x))) → ∃ s', NV s' ∧ forL (.v i) A C l (E s) = if l.any p = true then .ret (.d r) (E s') else .next (E s')
  | [], s, hs, _ => ⟨s, hs, rfl⟩
  | x :: xs, s, hs, hA => by
    have hx := hA x List.mem_cons_self
    rw [x_forC, st s x hs, stK_some, hx, List.any_cons]
    cases e : p x with
    | true => exact ⟨.val x, .inr ⟨_, rfl⟩, rfl⟩
    | false =>
      obtain ⟨s', h1, h2⟩ := for_ret E st p xs (.val x) (.inr ⟨_, rfl⟩) fun y hy => hA y (List.mem_cons_of_mem _ hy)
      rw [if_neg Bool.false_ne_true, turn_next, Bool.false_or]
      exact ⟨s', h1, h2⟩
theorem any_not {p : D → Bool} (l : List D) : l.any (fun x => !p x) = !l.all p := by
  induction l with
  | nil => rfl
  | cons a l ih => rw [List.any_cons, List.all_cons, ih, Bool.not_and]
def isB : D → Bool
  | .bl _ => true
  | _ => false
theorem isi_bool {x : D} (h : x.plain = true) : bIsi .bool [x] = some (.d (.bl (isB x))) := by
  cases x <;> first | rfl | cases h
theorem isB_ok {x : D} (h : isB x = true) : ∃ b, x = .bl b := by
  cases x <;> first | exact ⟨_, rfl⟩ | cases h
/-- with a test, any names -/
theorem comp_tf {C : Calls} {ρ : RX.Env} {vs : List Nat} {tg : Tg} {ts : TD} {elt : Den} {p : D → Bool} {g : D → D} (hw : wipe ρ vs = ρ) : ∀ (l : List D) (ρ' : RX.Env), wipe ρ' vs = ρ →
    (∀ x ∈ l, ∃ ρ1, tg.st ρ x = some ρ1 ∧ ts C ρ1 = .ok (p x) ρ1 ∧ wipe ρ1 vs = ρ ∧ (p x = true → elt C ρ1 = .ok (.d (g x)) ρ1)) → compL vs tg ts elt C l ρ' = .ok ((l.filter p).map g) ρ
  | [], ρ', e, _ => by show RX.R.ok [] (wipe ρ' vs) = _; rw [e]; rfl
  | x :: xs, ρ', e, h => by
    obtain ⟨ρ1, k1, k2, k3, k4⟩ := h x List.mem_cons_self
    have ih := comp_tf (C := C) (tg := tg) (ts := ts) (elt := elt) (p := p) (g := g) hw xs ρ1 k3 fun y hy => h y (List.mem_cons_of_mem _ hy)
    unfold compL
    rw [e, k1]
    show (ts C ρ1).bind _ = _
    rw [k2]
    show (if p x = true then (elt C ρ1).bind fun y ρ3 => (compL vs tg ts elt C xs ρ3).bind fun ys ρ4 => RX.R.ok (y.frz :: ys) ρ4 else compL vs tg ts elt C xs ρ1) = _
    cases ep : p x with
    | false => rw [if_neg Bool.false_ne_true, ih, List.filter_cons_of_neg (by rw [ep]; exact Bool.false_ne_true)]
    | true =>
      rw [if_pos rfl, k4 ep, List.filter_cons_of_pos ep, List.map_cons]
      show (compL vs tg ts elt C xs ρ1).bind _ = _
      rw [ih]
      rfl
theorem any_map {g : D → Bool} (l : List D) : bAny [.lst (l.map fun x => .bl (g x))] = some (.d (.bl (l.any g))) := by
  show (blsOf (l.map fun x => .bl (g x))).map (fun bs => Ex.d (.bl (bs.any id))) = _
  rw [blsOf_map]
  show some (Ex.d (.bl ((l.map g).any id))) = _
  rw [List.any_map]
  rfl
/-- an invariant of what is left of the state -/
theorem comp_ti {C : Calls} {vs : List Nat} {tg : Tg} {ts : TD} {elt : Den} {p : D → Bool} {g : D → D} {I : RX.Env → Prop} : ∀ (l : List D) (ρ' : RX.Env), I (wipe ρ' vs) →
    (∀ x ∈ l, ∀ ρ, I ρ → ∃ ρ1 ρ2, tg.st ρ x = some ρ1 ∧ ts C ρ1 = .ok (p x) ρ2 ∧ I (wipe ρ2 vs) ∧ (p x = true → ∃ ρ3, elt C ρ2 = .ok (.d (g x)) ρ3 ∧ I (wipe ρ3 vs))) → ∃ ρe, compL vs tg ts elt C l ρ' = .ok ((l.filter p).map g) ρe ∧ I ρe
  | [], ρ', hI, _ => ⟨wipe ρ' vs, rfl, hI⟩
  | x :: xs, ρ', hI, h => by
    obtain ⟨ρ1, ρ2, k1, k2, k3, k4⟩ := h x List.mem_cons_self _ hI
    unfold compL
    rw [k1]
    show ∃ ρe, (ts C ρ1).bind _ = _ ∧ _
    rw [k2]
    show ∃ ρe, (if p x = true then (elt C ρ2).bind fun y ρ3 => (compL vs tg ts elt C xs ρ3).bind fun ys ρ4 => RX.R.ok (y.frz :: ys) ρ4 else compL vs tg ts elt C xs ρ2) = _ ∧ _
    cases ep : p x with
    | false =>
      obtain ⟨ρe, e1, e2⟩ := comp_ti (C := C) (tg := tg) (ts := ts) (elt := elt) (p := p) (g := g) xs ρ2 k3 fun y hy => h y (List.mem_cons_of_mem _ hy)
      rw [if_neg Bool.false_ne_true, List.filter_cons_of_neg (by rw [ep]; exact Bool.false_ne_true)]
      exact ⟨ρe, e1, e2⟩
    | true =>
      obtain ⟨ρ3, k5, k6⟩ := k4 ep
      obtain ⟨ρe, e1, e2⟩ := comp_ti (C := C) (tg := tg) (ts := ts) (elt := elt) (p := p) (g := g) xs ρ3 k6 fun y hy => h y (List.mem_cons_of_mem _ hy)
      rw [if_pos rfl, k5, List.filter_cons_of_pos ep, List.map_cons]
      show ∃ ρe, (compL vs tg ts elt C xs ρ3).bind _ = _ ∧ _
      rw [e1]
      exact ⟨ρe, rfl, e2⟩
/-- [e for x in ..], the iterable changing the state -/
theorem comp_e0 {C : Calls} {ρ0 ρ : RX.Env} {it : ID} {i : Nat} {l : List D} {elt : Den} {g : D → D} {s : Sl} (hit : it C ρ0 = .ok l ρ) (hi : ρ[i]? = some s) (hs : NV s) (hl : l.length < 16777216) (hC : ∀ x ∈ l, elt C (ρ.set i (.val x)) = .ok (.d (g x)) (ρ.set i (.val x))) :
    dComp [i] it (.v i) (tests []) elt C ρ0 = .ok (.fresh (l.map g)) ρ := by
  have h := comp_e (C := C) (ρ := ρ) (it := fun _ ρ => .ok l ρ) (i := i) (l := l) (elt := elt) (g := g) rfl hi hs hl hC
  unfold dComp at h ⊢
  rw [hit]
  exact h
theorem filt_take {rows : List D} {p : D → Bool} {j : Nat} {x : D} (h : rows[j]? = some x) : (rows.take (j + 1)).filter p = (rows.take j).filter p ++ (if p x = true then [x] else []) := by
  rw [List.take_add_one, h, List.filter_append]
  congr 1
  show [x].filter p = _
  cases e : p x with
  | false => rw [List.filter_cons_of_neg (by rw [e]; exact Bool.false_ne_true), if_neg Bool.false_ne_true]; rfl
  | true => rw [List.filter_cons_of_pos e, if_pos rfl]; rfl
def isS : D → Bool
  | .str _ => true
  | _ => false
theorem isi_str {x : D} (h : x.plain = true) : bIsi .str [x] = some (.d (.bl (isS x))) := by
  cases x <;> first | rfl | cases h
theorem isS_ok {x : D} (h : isS x = true) : ∃ w, x = .str w := by
  cases x <;> first | exact ⟨_, rfl⟩ | cases h
theorem appX {C : Calls} {i : Nat} {e : Den} {ρ ρ1 : RX.Env} {acc : List D} {y : D} (ho : isOwn ρ[i]? = true) (h : e C ρ = .ok (.d y) ρ1) (h1 : ρ1[i]? = some (.own acc)) (hl : acc.length < 16777216) : sApp i e C ρ = .next (ρ1.set i (.own (acc ++ [y]))) := by
  unfold sApp
  rw [ho, h]
  show (match ρ1[i]? with
    | some (.own l) => if l.length < LIM then Out.next (ρ1.set i (.own (l ++ [y]))) else .stuck
    | some (.par l) => if l.length < LIM then Out.next (ρ1.set i (.par (l ++ [y]))) else .stuck
    | _ => .stuck) = _
  rw [h1]
  show (if acc.length < LIM then Out.next _ else .stuck) = _
  rw [if_pos (show acc.length < LIM from hl)]
theorem bInt_b {b : Bool} : bInt [.bl b] = some (.d (.int (if b = true then 1 else 0))) := by cases b <;> rfl
theorem gdt {l : List D} (h : gdL l = true) (hl : decide (l.length < 1000) = true) : gd (.tup l) = true := gd_tup.mpr ⟨of_decide_eq_true hl, gdL_all.mp h⟩
theorem gdl {l : List D} (h : gdL l = true) (hl : decide (l.length < 1000) = true) : gd (.lst l) = true := gd_lst.mpr ⟨of_decide_eq_true hl, gdL_all.mp h⟩
theorem gdc {x : D} {l : List D} (h : gd x = true) (t : gdL l = true) : gdL (x :: l) = true := by
  show (gd x && gdL l) = true
  rw [h, t]
  rfl
theorem sIx_s {n d : Nat} {i : Int} (h : 0 ≤ i) : RX.sIx n d (some i) = min i.toNat n := by
  show (if 0 ≤ i then min i.toNat n else (i + n).toNat) = _
  rw [if_pos h]
theorem cut_take {l : List D} {k : Nat} (h : k ≤ l.length) : RX.cut l none (some (k : Int)) = l.take k := by
  show (l.drop 0).take (RX.sIx l.length l.length (some (k : Int)) - 0) = _
  rw [sIx_s (by omega), List.drop_zero, Int.toNat_natCast, Nat.min_eq_left h]
  rfl
theorem cut_drop {l : List D} {k : Nat} (h : k < l.length) : RX.cut l (some ((k : Int) + 1)) none = l.drop (k + 1) := by
  show (l.drop (RX.sIx l.length 0 (some ((k : Int) + 1)))).take (l.length - RX.sIx l.length 0 (some ((k : Int) + 1))) = _
  rw [sIx_s (by omega), show ((k : Int) + 1).toNat = k + 1 by omega, Nat.min_eq_left (by omega)]
  exact List.take_of_length_le (by rw [List.length_drop]; omega)
theorem put_at {l : List D} {k : Nat} {y : D} (h : k < l.length) : (l.take k ++ [y] ++ l.drop (k + 1))[k]? = some y := by
  rw [List.append_assoc, List.getElem?_append_right (by rw [List.length_take]; omega), List.length_take, Nat.min_eq_left (by omega), Nat.sub_self]
  rfl
theorem easL_all : ∀ {l : List D}, (∀ y ∈ l, eas y = true) → easL l = true
  | [], _ => rfl
  | d :: r, h => by
    show (eas d && easL r) = true
    rw [h d List.mem_cons_self, easL_all fun y hy => h y (List.mem_cons_of_mem _ hy)]
    rfl
theorem depL_all {k : Nat} : ∀ {l : List D}, (∀ y ∈ l, y.dep ≤ k) → depL l ≤ k
  | [], _ => Nat.zero_le _
  | d :: r, h => by
    show max d.dep (depL r) ≤ k
    have h1 := h d List.mem_cons_self
    have h2 := depL_all fun y hy => h y (List.mem_cons_of_mem _ hy)
    omega
theorem eas_tup {l : List D} {k : Nat} (hl : l.length < 1000) (h : ∀ y ∈ l, eas y = true ∧ y.dep ≤ k) : eas (.tup l) = true ∧ (D.tup l).dep ≤ k + 1 := by
  refine ⟨?_, ?_⟩
  · show (decide (l.length < 1000) && easL l) = true
    rw [decide_eq_true hl, easL_all fun y hy => (h y hy).1]
    rfl
  · show depL l + 1 ≤ k + 1
    have := depL_all fun y hy => (h y hy).2
    omega
theorem seq_next {A B : DS} {C : Calls} {ρ ρ1 : RX.Env} (h : A C ρ = .next ρ1) : sSeq A B C ρ = B C ρ1 := by rw [x_Seq, h, obnd_next]
theorem gd_app {a b : List D} (h : gd (.tup a) = true) (h' : gd (.tup b) = true) (hl : a.length + b.length < 1000) : gd (.tup (a ++ b)) = true := gd_tup.mpr ⟨by rw [List.length_append]; exact hl, fun y hy => by
  rcases List.mem_append.mp hy with hy | hy
  · exact (gd_tup.mp h).2 y hy
  · exact (gd_tup.mp h').2 y hy⟩
theorem putX {C : Calls} {i : Nat} {k e : Den} {ρ ρ1 : RX.Env} {L L' : List D} {y : D} {z : Int} (h : e C ρ = .ok (.d y) ρ1) (ho : isOwn ρ1[i]? = true) (hk : k C ρ1 = .ok (.d (.int z)) ρ1) (hl : ρ1[i]? = some (.own L)) (hp : putAt L z y = some L') : sPut i k e C ρ = .next (ρ1.set i (.own L')) := by
  unfold sPut
  rw [h]
  show (match isOwn ρ1[i]? with
    | false => Out.stuck
    | true => (k C ρ1).out fun z ρ2 => match z.frz.asInt? with
      | none => .stuck
      | some j => (match ρ2[i]? with
        | some (.own l) => (match putAt l j y with
          | some m => .next (ρ2.set i (.own m))
          | none => .stuck)
        | some (.par l) => (match putAt l j y with
          | some m => .next (ρ2.set i (.par m))
          | none => .stuck)
        | _ => .stuck)) = _
  rw [ho, hk]
  show (match ρ1[i]? with
        | some (.own l) => (match putAt l z y with
          | some m => Out.next (ρ1.set i (.own m))
          | none => .stuck)
        | some (.par l) => (match putAt l z y with
          | some m => .next (ρ1.set i (.par m))
          | none => .stuck)
        | _ => .stuck) = _
  rw [hl]
  show (match putAt L z y with
          | some m => Out.next (ρ1.set i (.own m))
          | none => .stuck) = _
  rw [hp]
theorem putAt_ok {L : List D} {k : Int} {y : D} (h0 : 0 ≤ k) (h : k < L.length) : putAt L k y = some (L.set k.toNat y) := by
  unfold RX.putAt RX.ixN
  rw [if_pos h0, if_pos h]
  rfl

/-! ### states of a kind, with one name of the block's own -/
section
variable {C : Calls} {i : Nat} {elt : Den} {σ : Type} (E : σ → Sl → RX.Env) (hset : ∀ f s s', (E f s).set i s' = E f s') (hget : ∀ f s, (E f s)[i]? = some s)
include hset hget
theorem st_sd (f : σ) (s : Sl) (x : D) : (Tg.v i).st (wipe (E f s) [i]) x = some (E f (.val x)) := by
  show stSl ((E f s).set i .none) i (.val x) = _
  rw [hset]
  unfold stSl
  rw [hget]
  show some ((E f .none).set i (.val x)) = _
  rw [hset]
theorem compL_sd {I : σ → Prop} {P : D → Prop} : ∀ (l : List D), (∀ f, I f → ∀ d ∈ l, ∃ y f', elt C (E f (.val d)) = .ok (.d y) (E f' (.val d)) ∧ P y ∧ I f') → ∀ (f : σ) (s : Sl), I f → ∃ ys f', compL [i] (.v i) (tests []) elt C l (E f s) = .ok ys (E f' .none) ∧ ys.length = l.length ∧ (∀ y ∈ ys, P y) ∧ I f'
  | [], _, f, s, hf => ⟨[], f, by show RX.R.ok [] ((E f s).set i .none) = _; rw [hset], rfl, fun y h => (nomatch h), hf⟩
  | x :: xs, hE, f, s, hf => by
    obtain ⟨y, f1, e1, p1, i1⟩ := hE f hf x List.mem_cons_self
    obtain ⟨ys, f2, e2, h2, h3, h4⟩ := compL_sd xs (fun f hf d hd => hE f hf d (List.mem_cons_of_mem _ hd)) f1 (.val x) i1
    refine ⟨y :: ys, f2, ?_, by rw [List.length_cons, List.length_cons, h2], fun z hz => ?_, h4⟩
    · unfold compL
      rw [st_sd E hset hget]
      show (elt C (E f (.val x))).bind _ = _
      rw [e1]
      show (compL [i] (.v i) (tests []) elt C xs (E f1 (.val x))).bind _ = _
      rw [e2]
      rfl
    · rcases List.mem_cons.mp hz with rfl | hz
      · exact p1
      · exact h3 z hz
theorem unwipe_sd {f f' : σ} {s : Sl} : unwipe (E f s) (E f' .none) [i] = E f' s := by
  show (match (E f s)[i]? with
    | some s => (E f' .none).set i s
    | none => E f' .none) = _
  rw [hget]
  exact hset f' .none s
theorem comp_sd {I : σ → Prop} {P : D → Prop} {it : ID} {l : List D} {ρ0 : RX.Env} {f : σ} {s : Sl} (hs : NV s) (hit : it C ρ0 = .ok l (E f s)) (hl : l.length < 16777216) (hf : I f) (hE : ∀ f, I f → ∀ d ∈ l, ∃ y f', elt C (E f (.val d)) = .ok (.d y) (E f' (.val d)) ∧ P y ∧ I f') :
    ∃ ys f', dComp [i] it (.v i) (tests []) elt C ρ0 = .ok (.fresh ys) (E f' s) ∧ ys.length = l.length ∧ (∀ y ∈ ys, P y) ∧ I f' := by
  obtain ⟨ys, f', c, h1, h2, h3⟩ := compL_sd E hset hget l hE f .none hf
  refine ⟨ys, f', ?_, h1, h2, h3⟩
  have hc := x_Comp (C := C) (ρ := E f s) (ρ1 := E f s) (vs := [i]) (it := fun _ ρ => .ok l ρ) (tg := .v i) (ts := tests []) rfl hl (by show (free1 (E f s)[i]? && true) = true; rw [hget, hs.free]; rfl) (by rw [show wipe (E f s) [i] = E f .none from hset f s .none]; exact c)
  rw [unwipe_sd E hset hget] at hc
  unfold dComp at hc ⊢
  rw [hit]
  exact hc
end
/-- [e for x in .. if t], changing nothing -/
theorem comp_te {C : Calls} {ρ0 ρ : RX.Env} {it : ID} {i : Nat} {l : List D} {ts : TD} {elt : Den} {p : D → Bool} {g : D → D} {s : Sl} (hit : it C ρ0 = .ok l ρ) (hi : ρ[i]? = some s) (hs : NV s) (hl : l.length < 16777216)
    (hT : ∀ x ∈ l, ts C (ρ.set i (.val x)) = .ok (p x) (ρ.set i (.val x))) (hE : ∀ x ∈ l, p x = true → elt C (ρ.set i (.val x)) = .ok (.d (g x)) (ρ.set i (.val x))) : dComp [i] it (.v i) ts elt C ρ0 = .ok (.fresh ((l.filter p).map g)) ρ := by
  have hlt : i < ρ.length := (List.getElem?_eq_some_iff.mp hi).1
  have c := comp_tf (C := C) (ρ := ρ.set i .none) (vs := [i]) (tg := .v i) (ts := ts) (elt := elt) (p := p) (g := g) (by show (ρ.set i .none).set i .none = _; rw [List.set_set]) l (wipe ρ [i]) (by show (ρ.set i .none).set i .none = _; rw [List.set_set]) fun x hx => by
    refine ⟨ρ.set i (.val x), ?_, hT x hx, ?_, hE x hx⟩
    · show stSl (ρ.set i .none) i (.val x) = _
      unfold stSl
      rw [List.getElem?_set_self hlt]
      show some ((ρ.set i .none).set i (.val x)) = _
      rw [List.set_set]
    · show (ρ.set i (.val x)).set i .none = _
      rw [List.set_set]
  have hc := x_Comp (C := C) (ρ := ρ) (it := fun _ ρ => .ok l ρ) (tg := .v i) (ts := ts) rfl hl (by show (free1 ρ[i]? && true) = true; rw [hi, hs.free]; rfl) c
  have hu : unwipe ρ (ρ.set i .none) [i] = ρ := by
    show (match ρ[i]? with
      | some s => (ρ.set i .none).set i s
      | none => ρ.set i .none) = ρ
    rw [hi]
    show (ρ.set i .none).set i s = ρ
    rw [List.set_set]
    exact set_same hi
  rw [hu] at hc
  unfold dComp at hc ⊢
  rw [hit]
  exact hc
/-! two fors, the inner one with a test -/
section
variable {C : Calls} {i j : Nat} {elt : Den} {it1 : ID} {ts1 : TD} (E : Sl → Sl → RX.Env) (hsi : ∀ a b a', (E a b).set i a' = E a' b) (hsj : ∀ a b b', (E a b).set j b' = E a b') (hgi : ∀ a b, (E a b)[i]? = some a) (hgj : ∀ a b, (E a b)[j]? = some b)
include hsi hsj hgi hgj
theorem comp2L_te {m : D → List D} {p : D → D → Bool} {g : D → D → D} : ∀ (l : List D) (ρ' : RX.Env), wipe ρ' [i, j] = E .none .none →
    (∀ x ∈ l, it1 C (E (.val x) .none) = .ok (m x) (E (.val x) .none) ∧ (m x).length < 4096) → (∀ x ∈ l, ∀ y ∈ m x, ts1 C (E (.val x) (.val y)) = .ok (p x y) (E (.val x) (.val y)) ∧ (p x y = true → elt C (E (.val x) (.val y)) = .ok (.d (g x y)) (E (.val x) (.val y)))) →
    comp2L [i, j] [j] (.v i) (tests []) it1 (.v j) ts1 elt C l ρ' = .ok (l.flatMap fun x => ((m x).filter (p x)).map (g x)) (E .none .none)
  | [], ρ', e, _, _ => by show RX.R.ok [] (wipe ρ' [i, j]) = _; rw [e]; rfl
  | x :: xs, ρ', e, h1, h2 => by
    obtain ⟨k1, k2⟩ := h1 x List.mem_cons_self
    have k3 := h2 x List.mem_cons_self
    have st : (Tg.v i).st (wipe ρ' [i, j]) x = some (E (.val x) .none) := by
      rw [e]
      show stSl (E .none .none) i (.val x) = _
      unfold stSl
      rw [hgi]
      show some ((E .none .none).set i (.val x)) = _
      rw [hsi]
    have c : compL [j] (.v j) ts1 elt C (m x) (E (.val x) .none) = .ok (((m x).filter (p x)).map (g x)) (E (.val x) .none) := by
      refine comp_tf (vs := [j]) (ρ := E (.val x) .none) (show (E (.val x) .none).set j .none = _ from hsj _ _ _) (m x) _ (show (E (.val x) .none).set j .none = _ from hsj _ _ _) fun y hy => ⟨E (.val x) (.val y), ?_, (k3 y hy).1, show (E (.val x) (.val y)).set j .none = _ from hsj _ _ _, (k3 y hy).2⟩
      show stSl (E (.val x) .none) j (.val y) = _
      unfold stSl
      rw [hgj]
      show some ((E (.val x) .none).set j (.val y)) = _
      rw [hsj]
    have ih := comp2L_te (m := m) (p := p) (g := g) xs (E (.val x) .none) (by show ((E (.val x) .none).set j .none).set i .none = _; rw [hsj, hsi]) (fun y hy => h1 y (List.mem_cons_of_mem _ hy)) fun y hy => h2 y (List.mem_cons_of_mem _ hy)
    unfold comp2L
    rw [st]
    show (it1 C (E (.val x) .none)).bind _ = _
    rw [k1]
    show (if (m x).length < 4096 then _ else RX.R.stuck) = _
    rw [if_pos k2, c]
    show (comp2L [i, j] [j] (.v i) (tests []) it1 (.v j) ts1 elt C xs (E (.val x) .none)).bind _ = _
    rw [ih]
    rfl
theorem comp2_te {m : D → List D} {p : D → D → Bool} {g : D → D → D} {it : ID} {l : List D} {ρ0 : RX.Env} {sa sb : Sl} (ha : NV sa) (hb : NV sb) (hit : it C ρ0 = .ok l (E sa sb)) (hl : l.length < 4096)
    (h1 : ∀ x ∈ l, it1 C (E (.val x) .none) = .ok (m x) (E (.val x) .none) ∧ (m x).length < 4096) (h2 : ∀ x ∈ l, ∀ y ∈ m x, ts1 C (E (.val x) (.val y)) = .ok (p x y) (E (.val x) (.val y)) ∧ (p x y = true → elt C (E (.val x) (.val y)) = .ok (.d (g x y)) (E (.val x) (.val y)))) :
    dComp2 [i, j] [j] it (.v i) (tests []) it1 (.v j) ts1 elt C ρ0 = .ok (.fresh (l.flatMap fun x => ((m x).filter (p x)).map (g x))) (E sa sb) := by
  have w : wipe (E sa sb) [i, j] = E .none .none := by show ((E sa sb).set j .none).set i .none = _; rw [hsj, hsi]
  have c := comp2L_te (C := C) (elt := elt) (it1 := it1) (ts1 := ts1) E hsi hsj hgi hgj (m := m) (p := p) (g := g) l (wipe (E sa sb) [i, j]) (by rw [w]; show ((E .none .none).set j .none).set i .none = _; rw [hsj, hsi]) h1 h2
  unfold dComp2
  rw [hit]
  show (if l.length < 4096 ∧ [i, j].all (fun v => free1 (E sa sb)[v]?) then _ else RX.R.stuck) = _
  rw [if_pos ⟨hl, by show (free1 (E sa sb)[i]? && (free1 (E sa sb)[j]? && true)) = true; rw [hgi, hgj, ha.free, hb.free]; rfl⟩, c]
  show RX.R.ok (Ex.fresh _) (unwipe (E sa sb) (E .none .none) [i, j]) = _
  have u : unwipe (E sa sb) (E .none .none) [i, j] = E sa sb := by
    show (match (E sa sb)[i]? with
      | some s => (unwipe (E sa sb) (E .none .none) [j]).set i s
      | none => unwipe (E sa sb) (E .none .none) [j]) = _
    rw [hgi]
    show ((match (E sa sb)[j]? with
      | some s => (E .none .none).set j s
      | none => E .none .none) : RX.Env).set i sa = _
    rw [hgj]
    show ((E .none .none).set j sb).set i sa = _
    rw [hsj, hsi]
  rw [u]
end
/-! ### numbers from a range -/
theorem rng_nat (n : Nat) : rng 0 (n : Int) = (List.range n).map fun (k : Nat) => D.int (k : Int) := by
  unfold rng
  rw [Int.sub_zero, Int.toNat_natCast]
  congr 1
  funext k
  rw [Int.zero_add]
/-- a datum as a number -/
def dn : D → Nat
  | .int i => i.toNat
  | _ => 0
theorem dn_nat {k : Nat} : dn (.int (k : Int)) = k := Int.toNat_natCast k
theorem mem_rng {n : Nat} {x : D} (h : x ∈ rng 0 (n : Int)) : ∃ k : Nat, x = .int (k : Int) ∧ k < n := by
  rw [rng_nat] at h
  obtain ⟨k, hk, rfl⟩ := List.mem_map.mp h
  exact ⟨k, rfl, List.mem_range.mp hk⟩
theorem rng_filter {n : Nat} {p : Nat → Bool} : (rng 0 (n : Int)).filter (fun x => p (dn x)) = ((List.range n).filter p).map fun (k : Nat) => D.int (k : Int) := by
  rw [rng_nat, List.filter_map]
  rfl
theorem rng_len' {n : Nat} : (rng 0 (n : Int)).length = n := by rw [rng_nat, List.length_map, List.length_range]
theorem map_id_d {l : List D} : l.map (fun x => x) = l := List.map_id' l
theorem ix_inT {l : List D} {i : Int} (h0 : 0 ≤ i) (h : i < l.length) : ∃ x ∈ l, l[i.toNat]? = some x ∧ fIx (.tup l) (.int i) = some (.d x) := by
  have hx : l[i.toNat]? = some (l[i.toNat]'(by omega)) := List.getElem?_eq_getElem (by omega)
  have := (ix_nat hx).1
  rw [Int.toNat_of_nonneg h0] at this
  exact ⟨_, List.getElem_mem _, hx, this⟩
/-- the element's own form left open -/
theorem comp_ef {C : Calls} {ρ0 ρ : RX.Env} {it : ID} {i : Nat} {l : List D} {elt : Den} {g : D → D} {s : Sl} (hit : it C ρ0 = .ok l ρ) (hi : ρ[i]? = some s) (hs : NV s) (hl : l.length < 16777216) (hC : ∀ x ∈ l, ∃ y, elt C (ρ.set i (.val x)) = .ok y (ρ.set i (.val x)) ∧ y.frz = g x) :
    dComp [i] it (.v i) (tests []) elt C ρ0 = .ok (.fresh (l.map g)) ρ := by
  have hlt : i < ρ.length := (List.getElem?_eq_some_iff.mp hi).1
  have c : compL [i] (.v i) (tests []) elt C l (wipe ρ [i]) = .ok (l.map g) (ρ.set i .none) := by
    show compL [i] (.v i) (tests []) elt C l (ρ.set i .none) = _
    refine comp_of (ρ := ρ.set i .none) (by show (ρ.set i .none).set i .none = _; rw [List.set_set]) fun x hx => ?_
    obtain ⟨y, h1, h2⟩ := hC x hx
    refine ⟨ρ.set i (.val x), y, ρ.set i (.val x), ?_, h1, h2, ?_⟩
    · show stSl (ρ.set i .none) i (.val x) = _
      unfold stSl
      rw [List.getElem?_set_self hlt]
      show some ((ρ.set i .none).set i (.val x)) = _
      rw [List.set_set]
    · show (ρ.set i (.val x)).set i .none = _
      rw [List.set_set]
  have hc := x_Comp (C := C) (ρ := ρ) (it := fun _ ρ => .ok l ρ) (tg := .v i) (ts := tests []) rfl hl (by show (free1 ρ[i]? && true) = true; rw [hi, hs.free]; rfl) c
  have hu : unwipe ρ (ρ.set i .none) [i] = ρ := by
    show (match ρ[i]? with
      | some s => (ρ.set i .none).set i s
      | none => ρ.set i .none) = ρ
    rw [hi]
    show (ρ.set i .none).set i s = ρ
    rw [List.set_set]
    exact set_same hi
  rw [hu] at hc
  unfold dComp at hc ⊢
  rw [hit]
  exact hc
/-- a loop that keeps what it found -/
theorem for_keep {C : Calls} {tg : Tg} {A : DS} (I : RX.Env → Prop) {l : List D} {ρ : RX.Env} (h0 : I ρ) (hs : ∀ x ∈ l, ∀ ρ, I ρ → ∃ ρ1 ρ2, tg.st ρ x = some ρ1 ∧ A C ρ1 = .next ρ2 ∧ I ρ2) : ∃ ρ', forL tg A C l ρ = .next ρ' ∧ I ρ' := by
  obtain ⟨ρ', e, h⟩ := for_inv (C := C) (tg := tg) (A := A) (fun _ => I) (l := l) (k := 0) h0 fun i x ρ hx hp => by
    obtain ⟨ρ1, ρ2, a, b, c⟩ := hs x (List.mem_of_getElem? hx) ρ hp
    exact ⟨ρ1, ρ2, a, .inl b, c⟩
  exact ⟨ρ', e, h⟩
theorem flat_take {rows : List D} {g : D → List D} {j : Nat} {x : D} (h : rows[j]? = some x) : (rows.take (j + 1)).flatMap g = (rows.take j).flatMap g ++ g x := by
  rw [List.take_add_one, h, List.flatMap_append]
  congr 1
  show [x].flatMap g = _
  rw [List.flatMap_cons, List.flatMap_nil, List.append_nil]
theorem ints_of : ∀ {l : List D}, (∀ x ∈ l, ∃ i : Int, x = .int i) → ∃ g : List Int, l = g.map .int
  | [], _ => ⟨[], rfl⟩
  | x :: r, h => by
    obtain ⟨i, rfl⟩ := h _ List.mem_cons_self
    obtain ⟨g, rfl⟩ := ints_of fun y hy => h y (List.mem_cons_of_mem _ hy)
    exact ⟨i :: g, rfl⟩
theorem scrT {l : List Int} : (D.scr l).items? = some (l.map .int) := rfl
/-! ### what a law's own check for sameness tells apart: numbers, bools, None, tuples of these -/
mutual
def sam : D → Bool
  | .non => true
  | .bl _ => true
  | .int _ => true
  | .tup l => decide (l.length < 1000) && samL l
  | _ => false
def samL : List D → Bool
  | [] => true
  | d :: r => sam d && samL r
end
theorem samL_at : ∀ {l : List D} {i : Nat} {x : D}, samL l = true → l[i]? = some x → sam x = true ∧ x.dep ≤ depL l
  | [], _, _, _, h => by simp at h
  | d :: r, i, x, h, e => by
    obtain ⟨h1, h2⟩ := Bool.and_eq_true_iff.mp (show (sam d && samL r) = true from h)
    cases i with
    | zero => simp at e; subst e; exact ⟨h1, Nat.le_max_left _ _⟩
    | succ i =>
      obtain ⟨k1, k2⟩ := samL_at h2 (show r[i]? = some x by simpa using e)
      exact ⟨k1, Nat.le_trans k2 (Nat.le_max_right _ _)⟩
theorem samL_all : ∀ {l : List D}, (∀ y ∈ l, sam y = true) → samL l = true
  | [], _ => rfl
  | d :: r, h => by
    show (sam d && samL r) = true
    rw [h d List.mem_cons_self, samL_all fun y hy => h y (List.mem_cons_of_mem _ hy)]
    rfl
theorem sam_tup {l : List D} {k : Nat} (hl : l.length < 1000) (h : ∀ y ∈ l, sam y = true ∧ y.dep ≤ k) : sam (.tup l) = true ∧ (D.tup l).dep ≤ k + 1 := by
  refine ⟨?_, ?_⟩
  · show (decide (l.length < 1000) && samL l) = true
    rw [decide_eq_true hl, samL_all fun y hy => (h y hy).1]
    rfl
  · show depL l + 1 ≤ k + 1
    have := depL_all fun y hy => (h y hy).2
    omega
theorem plainL_all : ∀ {l : List D}, (∀ y ∈ l, y.plain = true) → plainL l = true
  | [], _ => rfl
  | d :: r, h => by
    show (d.plain && plainL r) = true
    rw [h d List.mem_cons_self, plainL_all fun y hy => h y (List.mem_cons_of_mem _ hy)]
    rfl
theorem fInT {x : D} {l : List D} {b : Bool} (hx : x.plain = true) (hl : ∀ y ∈ l, y.plain = true) (hd : x.dep ≤ 40) (ha : (l.any fun z => z.eqv x) = b) : fIn x (.tup l) = some (.d (.bl b)) := by
  show (if inOk x l = true then some (Ex.d (.bl (l.any fun z => z.eqv x))) else none) = _
  have e : inOk x l = true := by
    show (x.plain && plainL l && decide (min (depL l) x.dep ≤ 40)) = true
    rw [hx, plainL_all hl, decide_eq_true (by omega)]
    rfl
  rw [if_pos e, ha]
end RY
set_option Elab.async false
set_option linter.all false
set_option maxRecDepth 100000
set_option maxHeartbeats 4000000
local macro_rules
  | `(tactic| simp_arith [$ts,*]) => `(tactic| simp -dsimp -implicitDefEqProofs (disch := first | assumption | omega | decide) only [RX.x_C, RX.varK_v, RX.varK_o, RX.x_Var, RX.toR_some, RX.toB_some, RX.toT_some, RX.toS_some, RX.lk_some, RX.x_Op, RX.x_Un, RX.x_tE, RX.x_tNot, RX.x_tAnd, RX.x_tOr, RX.asB_bl, RX.x_And, RX.x_Or, RX.x_Not, RX.x_If, RX.x_nil, RX.x_cons, RX.x_Tup, RX.x_Lst, RX.x_IxV, RX.x_B, RX.x_B1, RX.x_Cmp, RX.x_InV, RX.x_SlV, RX.x_Pn, RX.x_Ps, RX.pK_some, RX.x_IsE, RX.isKE_e, RX.x_anil, RX.x_av, RX.x_ae, RX.x_Call, RX.x_CallK, RX.x_CallV, RX.vK_fn, RX.x_do, RX.goK_some, RX.backE_some, RX.back_ok, RX.back_exc, RX.x_Seq, RX.x_Pass, RX.x_Brk, RX.x_Cont, RX.x_Set, RX.x_Unp, RX.x_Par, RX.x_Expr, RX.x_Ret, RX.retK_v, RX.retK_o, RX.x_RetV, RX.x_RetN, RX.x_SIf, RX.x_For, RX.x_Raise, RX.itK_some, RX.rgK_some, RX.x_iE, RX.x_iR1, RX.x_forN, RX.x_forC, RX.x_Try, RX.try_ret, RX.try_next, RX.try_exc, RX.h1K_some, RX.suite_ret, RX.suite_next, RX.x_Fld, RX.fldK_some, RX.stK_some, RX.turn_next, RX.turn_cont, RX.turn_brk, RX.turn_ret, RX.end_ret, RX.end_next, RX.end_exc, RX.pk_t, RX.pk_f, RX.bnd_ok, RX.bnd_exc, RX.outK_ok, RX.outK_exc, RX.obnd_next, RX.obnd_ret, RX.obnd_brk, RX.obnd_cont, RX.obnd_exc, RX.tr_bl, RX.tr_int, RX.tr_tup, RX.tr_lst, RX.x_Tv, RX.x_Par3, RX.x_TryC, RX.tryC_next, RX.tryC_ret, RX.tryC_exc, RX.f_add, RX.f_sub, RX.f_mul, RX.f_div, RX.f_mod, RX.f_neg, RX.f_lt, RX.f_le, RX.f_gt, RX.f_ge, RX.f_eqI, RX.f_neI, RX.f_eqB, RX.f_isN, RX.f_isNotN, RX.look, RX.isOwn, RX.owns, RX.argOf, RX.argsOf, RX.backTo, RX.nodupN, RX.stSl, RX.stAll, RX.Tg.st, RX.Ex.frz, RX.Ex.sl, RX.finish, RX.mkCR, RX.x_CallG, RX.outsOf, RX.Arg.sl, RX.D.items?, RX.D.asInt?, RX.permL, RX.D.isNon, List.getElem?_cons_zero, List.getElem?_cons_succ, List.getElem?_nil, List.set_cons_zero, List.set_cons_succ, List.map_cons, List.map_nil, List.nil_append, List.cons_append, List.replicate_succ, List.replicate_zero, List.length_cons, List.length_nil, List.contains_nil, List.contains_cons, List.isEmpty_nil, List.isEmpty_cons, List.filterMap_cons, List.filterMap_nil, Option.map_some, Option.map_none, Option.bind_some, Option.bind_none, List.any_cons, List.any_nil, RX.Arg.isOwn, Bool.not_true, Bool.not_false, Bool.true_and, Bool.false_and, Bool.and_true, Bool.and_false, Bool.or_true, Bool.or_false, Bool.true_or, Bool.false_or, if_true, if_false, Bool.false_eq_true, ↓reduceIte, ite_true, ite_false, decide_true, decide_false, Nat.reduceSub, Nat.reduceAdd, Nat.reduceBEq, beq_self_eq_true, $ts,*])
namespace K10
open PySem RX RY MQ
/-- a deck: the numbers within, the number mixed -/
structure Dk where
  g : List Int
  m : Int
def Dk.l (k : Dk) : List D := [.fn GI, .int k.m]
def Dk.gl (k : Dk) : List D := k.g.map .int
theorem up {n k : Nat} (h : k + 1 ≤ n) : ∃ m, n = m + 1 ∧ k ≤ m := ⟨n - 1, by omega, by omega⟩
theorem bI {i : Int} : bInt [.int i] = some (.d (.int i)) := rfl
theorem modK {i j : Int} (h : 0 < j) : fMod (.int i) (.int j) = some (.d (.int (i.fmod j))) := by
  show (if j ≠ 0 then some (Ex.d (.int (i.fmod j))) else none) = _
  rw [if_pos (by omega)]
theorem fmod_bd {i w : Int} (hw : 0 < w) : 0 ≤ i.fmod w ∧ i.fmod w < w := by
  rw [Int.fmod_eq_emod_of_nonneg _ (by omega)]
  exact ⟨Int.emod_nonneg _ (by omega), Int.emod_lt_of_pos _ hw⟩
theorem sTk {n : Nat} (hn : 1 ≤ n) (k : Dk) (hm : k.m.natAbs < 2147483549) {w : Int} (hw : 0 < w) (hw2 : w < 1000000) : k.g = [] → ∃ (r : Int) (k' : Dk), callN T n 26 [.own k.l, .d (.int w), .gh k.gl] = .ok (.d (.int r)) [k'.l, k'.gl] ∧ 0 ≤ r ∧ r < w ∧ k'.m.natAbs < 2147483549 := fun hg => by
  obtain ⟨m, rfl, hm'⟩ := up hn
  rw [callN_eqG (np := 2) (ng := 1) (ns := 6) (d := d26) rfl rfl rfl]
  unfold d26 Dk.l Dk.gl
  rw [hg]
  have i0 : fIx (.lst [.fn GI, .int k.m]) (.int 0) = some (.d (.fn GI)) := rfl
  have i1 : fIx (.lst [.fn GI, .int k.m]) (.int 1) = some (.d (.int k.m)) := rfl
  have l0 : bLen [.lst []] = some (.d (.int 0)) := rfl
  have a := al_B1 (C := callN T m) (ρ := [.par [.fn GI, .int k.m], .val (.int w), .gh [], .val (.fn GI), .none, .none]) (f := bLen) (i := 3) (g := 2) rfl rfl
  have m1 : mulOk k.m 12211 = true := mk (k := 31) (m := 20) (by unfold Sm; omega) (by show (12211 : Int).natAbs < 2 ^ 20; decide) (by omega)
  obtain ⟨b0, b1⟩ := fmod_bd (i := k.m * 12211 + 5501) (w := 2147483549) (by decide)
  have md1 := modK (i := k.m * 12211 + 5501) (j := 2147483549) (by decide)
  generalize (k.m * 12211 + 5501).fmod 2147483549 = m2 at *
  have j1 : fIx (.lst [.fn GI, .int m2]) (.int 1) = some (.d (.int m2)) := rfl
  have m3 : mulOk m2 83 = true := mk (k := 31) (m := 20) (by unfold Sm; omega) (by show (83 : Int).natAbs < 2 ^ 20; decide) (by omega)
  have md2 := modK (i := m2 * 83 + 1303) (j := 1999999873) (by decide)
  generalize (m2 * 83 + 1303).fmod 1999999873 = x at *
  have md3 := modK (i := x.fdiv 8) (j := w) hw
  obtain ⟨c0, c1⟩ := fmod_bd (i := x.fdiv 8) hw
  have d8 : divOk 8 = true := by decide
  have sp : sPut 0 (dC (.int 1)) (dOp fMod (dB bInt [(dOp fAdd (dOp fMul (dIxV 0 (dC (.int 1))) (dC (.int 12211))) (dC (.int 5501)))]) (dC (.int 2147483549))) (callN T m) [.par [.fn GI, .int k.m], .val (.int w), .gh [], .val (.fn GI), .none, .none] = .next [.par [.fn GI, .int m2], .val (.int w), .gh [], .val (.fn GI), .none, .none] := by
    have q : (dOp fMod (dB bInt [(dOp fAdd (dOp fMul (dIxV 0 (dC (.int 1))) (dC (.int 12211))) (dC (.int 5501)))]) (dC (.int 2147483549))) (callN T m) [.par [.fn GI, .int k.m], .val (.int w), .gh [], .val (.fn GI), .none, .none] = .ok (.d (.int m2)) [.par [.fn GI, .int k.m], .val (.int w), .gh [], .val (.fn GI), .none, .none] := by
      simp_arith [i1, bI, m1, md1]
    unfold sPut
    rw [q]
    rfl
  refine ⟨(x.fdiv 8).fmod w, ⟨[], m2⟩, ?_, c0, c1, by show m2.natAbs < _; omega⟩
  have e1 : (D.lst [.fn GI, .int k.m]).items? = some [.fn GI, .int k.m] := rfl
  show endF _ _ = .ok (.d (.int ((x.fdiv 8).fmod w))) [[.fn GI, .int m2], []]
  have cg : fGt (.int 0) (.int 0) = some (.d (.bl false)) := rfl
  simp_arith [i0, a, l0, cg, sp, j1, bI, m3, md2, d8, md3]

theorem pop0 {x : D} {r : List D} : popAt (x :: r) 0 = some (x, r) := by
  unfold popAt RX.ixN
  rw [if_pos (by omega), if_pos (by omega), if_pos (by rw [List.length_cons]; omega)]
  rfl
theorem put0 {x y : D} {r : List D} : RX.putAt (x :: r) 0 y = some (y :: r) := by
  unfold RX.putAt RX.ixN
  rw [if_pos (by omega), if_pos (by rw [List.length_cons]; omega)]
  rfl
theorem ix0 {x : D} {r : List D} : fIx (.lst (x :: r)) (.int 0) = some (.d x) := by
  show (atD (x :: r) 0).map Ex.d = _
  unfold atD RX.ixN
  rw [if_pos (by omega), if_pos (by rw [List.length_cons]; omega)]
  rfl
theorem sTkC {n : Nat} (hn : 1 ≤ n) (k : Dk) {w : Int} (hw : 0 < w) (hdw : divOk w = true) {c : Int} {r : List Int} (hg : k.g = c :: r) : ∃ (q : Int) (k' : Dk), callN T n 26 [.own k.l, .d (.int w), .gh k.gl] = .ok (.d (.int q)) [k'.l, k'.gl] ∧ 0 ≤ q ∧ q < w ∧ k'.m = k.m := by
  obtain ⟨m, rfl, hm'⟩ := up hn
  rw [callN_eqG (np := 2) (ng := 1) (ns := 6) (d := d26) rfl rfl rfl]
  unfold d26 Dk.l Dk.gl
  rw [hg, List.map_cons]
  generalize hrs : r.map D.int = rs at *
  have i0 : fIx (.lst [.fn GI, .int k.m]) (.int 0) = some (.d (.fn GI)) := rfl
  have l0 : bLen [.lst (.int c :: rs)] = some (.d (.int ((rs.length + 1 : Nat) : Int))) := rfl
  have cg : fGt (.int ((rs.length + 1 : Nat) : Int)) (.int 0) = some (.d (.bl true)) := by
    show some (Ex.d (.bl (decide ((0 : Int) < ((rs.length + 1 : Nat) : Int))))) = _
    rw [decide_eq_true (by omega)]
  have md := modK (i := c) hw
  obtain ⟨c0, c1⟩ := fmod_bd (i := c) hw
  generalize c.fmod w = q at *
  have a := al_B1 (C := callN T m) (ρ := [.par [.fn GI, .int k.m], .val (.int w), .gh (.int c :: rs), .val (.fn GI), .none, .none]) (f := bLen) (i := 3) (g := 2) rfl rfl
  have b := al_Ix (C := callN T m) (ρ := [.par [.fn GI, .int k.m], .val (.int w), .gh (.int c :: rs), .val (.fn GI), .none, .none]) (e := dC (.int 0)) (i := 3) (g := 2) rfl rfl
  have b2 := al_Ix (C := callN T m) (ρ := [.par [.fn GI, .int k.m], .val (.int w), .gh (.int c :: rs), .val (.fn GI), .val (.int q), .none]) (e := dC (.int 0)) (i := 3) (g := 2) rfl rfl
  have sp := al_Put (C := callN T m) (ρ := [.par [.fn GI, .int k.m], .val (.int w), .gh (.int c :: rs), .val (.fn GI), .val (.int q), .none]) (i := 3) (g := 2) (ek := dC (.int 0)) (e := dOp fDiv (dIxA 3 2 (dC (.int 0))) (dVar 1)) (y := .int (c.fdiv w)) (ρ1 := [.par [.fn GI, .int k.m], .val (.int w), .gh (.int c :: rs), .val (.fn GI), .val (.int q), .none]) (by simp_arith [b2, ix0, hdw]) rfl rfl rfl put0
  have sp2 : sPutA 3 2 (dC (.int 0)) (dOp fDiv (dIxA 3 2 (dC (.int 0))) (dVar 1)) (callN T m) [.par [.fn GI, .int k.m], .val (.int w), .gh (.int c :: rs), .val (.fn GI), .val (.int q), .none] = .next [.par [.fn GI, .int k.m], .val (.int w), .gh (.int (c.fdiv w) :: rs), .val (.fn GI), .val (.int q), .none] := sp
  have b3 := al_Ix (C := callN T m) (ρ := [.par [.fn GI, .int k.m], .val (.int w), .gh (.int (c.fdiv w) :: rs), .val (.fn GI), .val (.int q), .none]) (e := dC (.int 0)) (i := 3) (g := 2) rfl rfl
  have pp := al_Pop (C := callN T m) (ρ := [.par [.fn GI, .int k.m], .val (.int w), .gh (.int (c.fdiv w) :: rs), .val (.fn GI), .val (.int q), .none]) (i := 3) (g := 2) (e := dC (.int 0)) rfl rfl rfl pop0
  have pp2 : dPopA 3 2 (dC (.int 0)) (callN T m) [.par [.fn GI, .int k.m], .val (.int w), .gh (.int (c.fdiv w) :: rs), .val (.fn GI), .val (.int q), .none] = .ok (.d (.int (c.fdiv w))) [.par [.fn GI, .int k.m], .val (.int w), .gh rs, .val (.fn GI), .val (.int q), .none] := pp
  cases e : c.fdiv w == 0 with
  | true =>
    refine ⟨q, ⟨r, k.m⟩, ?_, c0, c1, rfl⟩
    show endF _ _ = .ok (.d (.int q)) [[.fn GI, .int k.m], r.map .int]
    rw [hrs]
    simp_arith [i0, a, l0, cg, b, ix0, bI, md, sp2, b3, e, pp2]
  | false =>
    refine ⟨q, ⟨c.fdiv w :: r, k.m⟩, ?_, c0, c1, rfl⟩
    show endF _ _ = .ok (.d (.int q)) [[.fn GI, .int k.m], .int (c.fdiv w) :: r.map .int]
    rw [hrs]
    simp_arith [i0, a, l0, cg, b, ix0, bI, md, sp2, b3, e, pp2]

def Dk.ok (k : Dk) : Prop := k.m.natAbs < 2147483549
theorem divOk_small {w : Int} (hw : 0 < w) (hw2 : w < 1000000) : divOk w = true := by
  unfold divOk
  have h : w.natAbs.log2 < 20 := (Nat.log2_lt (by omega)).mpr (by show w.natAbs < 1048576; omega)
  rw [decide_eq_true (by omega), decide_eq_true (by omega)]
  rfl
/-- a drawn number, and a deck again -/
theorem take {n : Nat} (hn : 1 ≤ n) (k : Dk) (hk : k.ok) {w : Int} (hw : 0 < w) (hw2 : w < 1000000) : ∃ (q : Int) (k' : Dk), callN T n 26 [.own k.l, .d (.int w), .gh k.gl] = .ok (.d (.int q)) [k'.l, k'.gl] ∧ 0 ≤ q ∧ q < w ∧ k'.ok := by
  cases e : k.g with
  | nil => exact sTk hn k hk hw hw2 e
  | cons c r =>
    obtain ⟨q, k', h1, h2, h3, h4⟩ := sTkC hn k hw (divOk_small hw hw2) e
    exact ⟨q, k', h1, h2, h3, by show k'.m.natAbs < _; rw [h4]; exact hk⟩

theorem P18 : fPow (.int 10) (.int 18) = some (.d (.int 1000000000000000000)) := rfl
def gp : D → Bool
  | .int i => decide ((1000000000000000000 : Int) ≤ i.natAbs)
  | _ => false
def ab : D → D
  | .int i => .int i.natAbs
  | x => x
theorem gp_i {c : Int} : gp (.int c) = decide ((1000000000000000000 : Int) ≤ c.natAbs) := rfl
theorem ab_i {c : Int} : ab (.int c) = .int c.natAbs := rfl
abbrev A18 : DS := sSet 3 (dOp fMod (dB bInt [(dOp fAdd (dOp fAdd (dOp fMul (dVar 3) (dC (.int 52774))) (dOp fMod (dB1 bInt 2) (dC (.int 2147483549)))) (dC (.int 1303)))]) (dC (.int 2147483549)))
theorem retDk {C : Calls} {ns : List Int} {g : List D} {m : Int} {s2 : Sl} : sRetDk [.v 1, .v 3] C [.val (.scr ns), .own g, s2, .val (.int m)] = .ret (.dkn [.fn GI, .int m] g) [.val (.scr ns), .none, s2, .val (.int m)] := by
  have a : argsE [.v 1, .v 3] C [.val (.scr ns), .own g, s2, .val (.int m)] = .ok [.own 1, .d (.int m)] [.val (.scr ns), .own g, s2, .val (.int m)] := rfl
  unfold sRetDk
  rw [a]
  show (if [AV.own 1, .d (.int m)].all dkN = true ∧ [AV.own 1, .d (.int m)].length ≤ 1000 then _ else Out.stuck) = _
  rw [if_pos ⟨rfl, Nat.le_of_ble_eq_true rfl⟩]
  rfl
theorem sDk {n : Nat} (hn : 1 ≤ n) {ns : List Int} (hl : ns.length ≤ 63) : ∃ k : Dk, callN T n 25 [.d (.scr ns)] = .dk k.l k.gl [] ∧ k.ok := by
  obtain ⟨p, rfl, hp⟩ := up hn
  have cc := comp_te (C := callN T p) (ρ0 := [.val (.scr ns), .none, .none, .none]) (ρ := [.val (.scr ns), .none, .none, .none]) (it := iE (dVar 0)) (i := 2) (l := ns.map .int) (ts := tCmpB fGe (dB bAbs [(dB1 bInt 2)]) (dOp fPow (dC (.int 10)) (dC (.int 18)))) (elt := dB bAbs [(dB1 bInt 2)]) (p := gp) (g := ab) (by simp_arith [scrT]) rfl (.inl rfl) (by rw [List.length_map]; omega) (fun x hx => by
      obtain ⟨c, _, rfl⟩ := List.mem_map.mp hx
      simp_arith [bInt_i, absI, P18, gp_i]) fun x hx _ => by
      obtain ⟨c, _, rfl⟩ := List.mem_map.mp hx
      simp_arith [bInt_i, absI, ab_i]
  obtain ⟨g, hg⟩ := ints_of (l := ((ns.map D.int).filter gp).map ab) fun x hx => by
    obtain ⟨y, hy, rfl⟩ := List.mem_map.mp hx
    obtain ⟨c, _, rfl⟩ := List.mem_map.mp ((List.mem_filter.mp hy).1)
    exact ⟨_, rfl⟩
  rw [hg] at cc
  obtain ⟨ρ', lp, s2, m, rfl, h2, lo, hi⟩ := for_keep (C := callN T p) (tg := .v 2) (A := A18) (l := ns.map .int) (ρ := [.val (.scr ns), .own (g.map .int), .none, .val (.int 9203)]) (fun ρ => ∃ (s2 : Sl) (m : Int), ρ = [.val (.scr ns), .own (g.map .int), s2, .val (.int m)] ∧ NV s2 ∧ 0 ≤ m ∧ m < 2147483549)
    ⟨.none, 9203, rfl, .inl rfl, by decide, by decide⟩ fun x hx ρ ⟨s2, m, e, h2, lo, hi⟩ => by
      subst e
      obtain ⟨c, _, rfl⟩ := List.mem_map.mp hx
      have st : (Tg.v 2).st [.val (.scr ns), .own (g.map .int), s2, .val (.int m)] (.int c) = some [.val (.scr ns), .own (g.map .int), .val (.int c), .val (.int m)] := by
        rcases h2 with rfl | ⟨d, rfl⟩ <;> rfl
      have m1 : mulOk m 52774 = true := mk (k := 31) (m := 20) (by unfold Sm; omega) (by show (52774 : Int).natAbs < 2 ^ 20; decide) (by omega)
      have md1 := modK (i := c) (j := 2147483549) (by decide)
      have md2 := modK (i := m * 52774 + c.fmod 2147483549 + 1303) (j := 2147483549) (by decide)
      obtain ⟨b0, b1⟩ := fmod_bd (i := m * 52774 + c.fmod 2147483549 + 1303) (w := 2147483549) (by decide)
      generalize (m * 52774 + c.fmod 2147483549 + 1303).fmod 2147483549 = m2 at *
      exact ⟨_, [.val (.scr ns), .own (g.map .int), .val (.int c), .val (.int m2)], st, by simp_arith [A18, bInt_i, m1, md1, md2], _, _, rfl, .inr ⟨_, rfl⟩, b0, b1⟩
  refine ⟨⟨g, m⟩, ?_, by show m.natAbs < _; omega⟩
  rw [callN_eq (d := d25) (np := 1) (ns := 4) rfl rfl]
  unfold d25
  have rt := retDk (C := callN T p) (ns := ns) (g := g.map .int) (m := m) (s2 := s2)
  unfold A18 at lp
  have e1 : (Dk.mk g m).l = [.fn GI, .int m] := rfl
  have e2 : (Dk.mk g m).gl = g.map .int := rfl
  rw [e1, e2]
  simp_arith [cc, scrT, lp, rt]

theorem takeN {n : Nat} (hn : 1 ≤ n) (k : Dk) (hk : k.ok) {w : Int} (hw : 0 < w) (hw2 : w < 1000000) : ∃ (q : Nat) (k' : Dk), callN T n 26 [.own k.l, .d (.int w), .gh k.gl] = .ok (.d (.int (q : Int))) [k'.l, k'.gl] ∧ (q : Int) < w ∧ k'.ok := by
  obtain ⟨q, k', h1, h2, h3, h4⟩ := take hn k hk hw hw2
  obtain ⟨j, rfl⟩ : ∃ j : Nat, q = (j : Int) := ⟨q.toNat, (Int.toNat_of_nonneg h2).symm⟩
  exact ⟨j, k', h1, h3, h4⟩

end K10
set_option Elab.async false
set_option linter.all false
set_option maxRecDepth 100000
set_option maxHeartbeats 4000000
namespace K10
open PySem RX RY MQ
/-! ### values judged -/
/-- a number below k -/
def okc (k : Nat) : D → Bool
  | .int i => decide (0 ≤ i) && decide (i < (k : Int))
  | _ => false
theorem okc_ok {k : Nat} {x : D} (h : okc k x = true) : ∃ i : Nat, x = .int (i : Int) ∧ i < k := by
  cases x with
  | int i =>
    obtain ⟨h1, h2⟩ := Bool.and_eq_true_iff.mp (show (decide (0 ≤ i) && decide (i < (k : Int))) = true from h)
    have h1 := of_decide_eq_true h1
    have h2 := of_decide_eq_true h2
    exact ⟨i.toNat, by rw [Int.toNat_of_nonneg h1], by omega⟩
  | _ => cases h
theorem okc_nat {k i : Nat} (h : i < k) : okc k (.int (i : Int)) = true := by
  show (decide (0 ≤ (i : Int)) && decide ((i : Int) < (k : Int))) = true
  rw [decide_eq_true (by omega), decide_eq_true (by omega)]
  rfl
section
variable {n : Nat} {x : D}
theorem p_is_integer (hn : 1 ≤ n) (h : x.plain = true) : callN T n 0 [.d x] = .ok (.d (.bl (isI x))) [] := by
  obtain ⟨m, rfl, hm⟩ := up hn
  rw [callN_eq (d := d0) (np := 1) (ns := 1) rfl rfl]
  unfold d0
  cases x with
  | int i => simp_arith [bIsi, isT, isI]
  | bl b => simp_arith [bIsi, isT, isI]
  | non => simp_arith [bIsi, isT, isI]
  | str s => simp_arith [bIsi, isT, isI]
  | tup l => simp_arith [bIsi, isT, isI]
  | lst l => simp_arith [bIsi, isT, isI]
  | _ => cases h
theorem p_is_number (hn : 2 ≤ n) (h : x.plain = true) : callN T n 1 [.d x] = .ok (.d (.bl (isNn x))) [] := by
  obtain ⟨m, rfl, hm⟩ := up hn
  rw [callN_eq (d := d1) (np := 1) (ns := 1) rfl rfl]
  unfold d1
  have a := p_is_integer (n := m) hm h
  cases x with
  | int i => simp_arith [a, isI, isNn]
  | bl b => simp_arith [a, isI, isNn]
  | non => simp_arith [a, isI, isNn]
  | str s => simp_arith [a, isI, isNn]
  | tup l => simp_arith [a, isI, isNn]
  | lst l => simp_arith [a, isI, isNn]
  | _ => cases h
/-- a holding of k grades -/
def isH (k : Nat) : D → Bool
  | .tup l => ((l.length : Int) == (k : Int)) && l.all isNn
  | _ => false
theorem isH_no {k : Nat} {x : D} (h : isTp x = false) : isH k x = false := by
  cases x <;> first | rfl | cases h
end
/-! ### grades within grades -/
def wi : List Int → List Int → Bool
  | x :: xs, y :: ys => decide (x ≤ y) && wi xs ys
  | _, _ => true
def leB : D → Bool
  | .tup [.int x, .int y] => decide (x ≤ y)
  | _ => false
theorem leB_i {x y : Int} : leB (.tup [.int x, .int y]) = decide (x ≤ y) := rfl
theorem zip_wi : ∀ {a b : List Int}, (zipL (a.map .int) (b.map .int)).all leB = wi a b
  | [], _ => rfl
  | _ :: _, [] => rfl
  | x :: xs, y :: ys => by
    show (decide (x ≤ y) && (zipL (xs.map .int) (ys.map .int)).all leB) = (decide (x ≤ y) && wi xs ys)
    rw [zip_wi]
theorem zip_in : ∀ {a b : List Int}, ∀ z ∈ zipL (a.map .int) (b.map .int), ∃ x y : Int, z = .tup [.int x, .int y]
  | [], _, z, h => by cases h
  | _ :: _, [], z, h => by cases h
  | x :: xs, y :: ys, z, h => by
    rcases List.mem_cons.mp (show z ∈ D.tup [.int x, .int y] :: zipL (xs.map .int) (ys.map .int) from h) with rfl | h
    · exact ⟨x, y, rfl⟩
    · exact zip_in z h
theorem zip_len {a : List D} : ∀ {l : List D}, (zipL a l).length ≤ a.length := by
  induction a with
  | nil => intro l; exact Nat.le_refl _
  | cons x xs ih =>
    intro l
    cases l with
    | nil => exact Nat.zero_le _
    | cons y ys =>
      show (zipL xs ys).length + 1 ≤ xs.length + 1
      have := ih (l := ys)
      omega
section
variable {n : Nat}
theorem p_grades_within (hn : 1 ≤ n) {a b : List Int} (ha : a.length < 1000) : callN T n 5 [.d (.tup (a.map .int)), .d (.tup (b.map .int))] = .ok (.d (.bl (wi a b))) [] := by
  obtain ⟨m, rfl, hm⟩ := up hn
  rw [callN_eq (d := d5) (np := 2) (ns := 4) rfl rfl]
  unfold d5
  have hl : (zipL (a.map D.int) (b.map D.int)).length < 16777216 := by
    have := zip_len (a := a.map D.int) (l := b.map D.int)
    rw [List.length_map] at this
    omega
  have hz : ∀ z ∈ zipL (a.map D.int) (b.map D.int), ∃ x y : Int, z = .tup [.int x, .int y] := zip_in
  have hw := zip_wi (a := a) (b := b)
  have hit : iZip (dVar 0) (dVar 1) (callN T m) [.val (.tup (a.map .int)), .val (.tup (b.map .int)), .none, .none] = .ok (zipL (a.map .int) (b.map .int)) [.val (.tup (a.map .int)), .val (.tup (b.map .int)), .none, .none] := rfl
  generalize zipL (a.map D.int) (b.map D.int) = zl at *
  have c : compL [2, 3] (.t [2, 3]) (tests []) (dOp fLe (dVar 2) (dVar 3)) (callN T m) zl (wipe [.val (.tup (a.map .int)), .val (.tup (b.map .int)), .none, .none] [2, 3]) = .ok (zl.map fun z => .bl (leB z)) [.val (.tup (a.map .int)), .val (.tup (b.map .int)), .none, .none] := by
    refine comp_of (ρ := [.val (.tup (a.map .int)), .val (.tup (b.map .int)), .none, .none]) rfl fun z hz' => ?_
    obtain ⟨x, y, rfl⟩ := hz z hz'
    refine ⟨[.val (.tup (a.map .int)), .val (.tup (b.map .int)), .val (.int x), .val (.int y)], .d (.bl (decide (x ≤ y))), [.val (.tup (a.map .int)), .val (.tup (b.map .int)), .val (.int x), .val (.int y)], rfl, ?_, rfl, rfl⟩
    simp_arith []
  have hc := x_Comp (C := callN T m) (ρ := [.val (.tup (a.map .int)), .val (.tup (b.map .int)), .none, .none]) (it := iZip (dVar 0) (dVar 1)) (tg := .t [2, 3]) (ts := tests []) hit hl rfl c
  have hu : unwipe [.val (.tup (a.map .int)), .val (.tup (b.map .int)), .none, .none] [.val (.tup (a.map .int)), .val (.tup (b.map .int)), .none, .none] [2, 3] = [.val (.tup (a.map .int)), .val (.tup (b.map .int)), .none, .none] := rfl
  rw [hu] at hc
  simp_arith [hc, all_map, hw]
def gt2 (a b : List Int) (k : Nat) : Bool := decide (b.getD k 0 < a.getD k 0)
def shN (a b : List Int) : Nat := ((List.range a.length).filter (gt2 a b)).length
theorem shN_cons {x y : Int} {xs ys : List Int} : shN (x :: xs) (y :: ys) = (if decide (y < x) = true then 1 else 0) + shN xs ys := by
  unfold shN
  rw [List.length_cons, List.range_succ_eq_map, List.filter_cons]
  have e0 : gt2 (x :: xs) (y :: ys) 0 = decide (y < x) := rfl
  have e1 : ((List.range xs.length).map Nat.succ).filter (gt2 (x :: xs) (y :: ys)) = ((List.range xs.length).filter (gt2 xs ys)).map Nat.succ := by
    rw [List.filter_map]
    rfl
  rw [e0, e1]
  cases decide (y < x) with
  | true => rw [if_pos rfl, if_pos rfl, List.length_cons, List.length_map]; omega
  | false => rw [if_neg Bool.false_ne_true, if_neg Bool.false_ne_true, List.length_map]; omega
theorem shN_wi : ∀ {a b : List Int}, a.length ≤ b.length → ((shN a b : Int) == 0) = wi a b
  | [], _, _ => rfl
  | _ :: _, [], h => by simp at h
  | x :: xs, y :: ys, h => by
    have ih := shN_wi (a := xs) (b := ys) (by simpa using h)
    rw [shN_cons]
    show _ = (decide (x ≤ y) && wi xs ys)
    by_cases e : y < x
    · rw [decide_eq_true e, if_pos rfl, decide_eq_false (by omega), Bool.false_and]
      exact beq_eq_false_iff_ne.mpr (by omega)
    · rw [decide_eq_false e, if_neg Bool.false_ne_true, decide_eq_true (by omega), Bool.true_and, ← ih, Nat.zero_add]
theorem ixI {l : List Int} {k : Nat} (h : k < l.length) : fIx (.tup (l.map .int)) (.int (k : Int)) = some (.d (.int (l.getD k 0))) := by
  have hx : (l.map D.int)[k]? = some (.int (l.getD k 0)) := by
    rw [List.getElem?_map, List.getD_eq_getElem?_getD, List.getElem?_eq_getElem h]
    rfl
  exact (ix_nat hx).1
end
/-! ### courts -/
structure Cs where
  w : Int
  p : D
  q : D
  h0 : List Int
  h1 : List Int
  s : Int
def Cs.d (c : Cs) : D := .tup [.int c.w, c.p, c.q, .tup [.tup (c.h0.map .int), .tup (c.h1.map .int)], .int c.s]
def Cs.h (c : Cs) : Nat → List Int
  | 0 => c.h0
  | _ => c.h1
def bk (cs : List Cs) : D := .tup (cs.map Cs.d)
structure Ok (a b : Nat) (cs : List Cs) : Prop where
  one : 1 ≤ cs.length
  n : cs.length ≤ 8
  a8 : a ≤ 8
  b8 : b ≤ 8
  l : ∀ c ∈ cs, c.h0.length = a ∧ c.h1.length = b
def tl (cs : List Cs) (f i j : Nat) : Bool := match cs[i]?, cs[j]? with
  | some a, some b => (a.s == b.s) && wi (b.h f) (a.h f)
  | _, _ => false
def hid (cs : List Cs) (i j : Nat) : Bool := tl cs 0 i j && tl cs 1 j i
theorem bk_ix {cs : List Cs} {i : Nat} {c : Cs} (h : cs[i]? = some c) : fIx (bk cs) (.int (i : Int)) = some (.d c.d) := by
  have hx : (cs.map Cs.d)[i]? = some c.d := by rw [List.getElem?_map, h]; rfl
  exact (ix_nat hx).1
theorem bk_len {cs : List Cs} : bLen [bk cs] = some (.d (.int (cs.length : Int))) := by
  show some (Ex.d (.int ((cs.map Cs.d).length : Int))) = _
  rw [List.length_map]
theorem c_s {c : Cs} : fIx c.d (.int 4) = some (.d (.int c.s)) := rfl
theorem c_h {c : Cs} : fIx c.d (.int 3) = some (.d (.tup [.tup (c.h0.map .int), .tup (c.h1.map .int)])) := rfl
theorem c_f {c : Cs} {f : Nat} (hf : f ≤ 1) : fIx (.tup [.tup (c.h0.map .int), .tup (c.h1.map .int)]) (.int (f : Int)) = some (.d (.tup ((c.h f).map .int))) := by
  rcases Nat.le_one_iff_eq_zero_or_eq_one.mp hf with rfl | rfl
  · rfl
  · rfl
section
variable {n a b : Nat} {cs : List Cs}
theorem Ok.at (o : Ok a b cs) {i : Nat} (h : i < cs.length) : ∃ c, cs[i]? = some c ∧ c.h0.length = a ∧ c.h1.length = b := by
  have e : cs[i]? = some cs[i] := List.getElem?_eq_getElem h
  obtain ⟨k1, k2⟩ := o.l _ (List.mem_of_getElem? e)
  exact ⟨_, e, k1, k2⟩
theorem hlen {c : Cs} (h0 : c.h0.length = a) (h1 : c.h1.length = b) (f : Nat) : (c.h f).length = if f = 0 then a else b := by
  cases f with
  | zero => exact h0
  | succ f => exact h1
theorem p_tells (hn : 2 ≤ n) (o : Ok a b cs) {f i j : Nat} (hf : f ≤ 1) (hi : i < cs.length) (hj : j < cs.length) : callN T n 6 [.d (bk cs), .d (.int (f : Int)), .d (.int (i : Int)), .d (.int (j : Int))] = .ok (.d (.bl (tl cs f i j))) [] := by
  obtain ⟨m, rfl, hm⟩ := up hn
  rw [callN_eq (d := d6) (np := 4) (ns := 4) rfl rfl]
  unfold d6
  obtain ⟨x, ex, x0, x1⟩ := o.at hi
  obtain ⟨y, ey, y0, y1⟩ := o.at hj
  have bx := bk_ix ex
  have bY := bk_ix ey
  have fx := c_f (c := x) hf
  have fy := c_f (c := y) hf
  have q : tl cs f i j = ((x.s == y.s) && wi (y.h f) (x.h f)) := by unfold tl; rw [ex, ey]
  have a6 := p_grades_within (n := m) (by omega) (a := y.h f) (b := x.h f) (by rw [hlen y0 y1]; have := o.a8; have := o.b8; split <;> omega)
  rw [q]
  cases e : x.s == y.s with
  | false => simp_arith [bx, bY, c_s, e]
  | true => simp_arith [bx, bY, c_s, c_h, e, fx, fy, a6]
theorem p_tells_z (hn : 2 ≤ n) (o : Ok a b cs) {i j : Nat} (hi : i < cs.length) (hj : j < cs.length) : callN T n 6 [.d (bk cs), .d (.int 0), .d (.int (i : Int)), .d (.int (j : Int))] = .ok (.d (.bl (tl cs 0 i j))) [] := p_tells hn o (f := 0) (by omega) hi hj
theorem p_tells_o (hn : 2 ≤ n) (o : Ok a b cs) {i j : Nat} (hi : i < cs.length) (hj : j < cs.length) : callN T n 6 [.d (bk cs), .d (.int 1), .d (.int (i : Int)), .d (.int (j : Int))] = .ok (.d (.bl (tl cs 1 i j))) [] := p_tells hn o (f := 1) (by omega) hi hj
/-! ### who hides under whom -/
def hidB (cs : List Cs) (x y : D) : Bool := hid cs (dn x) (dn y)
theorem hidB_i {cs : List Cs} {i j : Nat} : hidB cs (.int (i : Int)) (.int (j : Int)) = (tl cs 0 i j && tl cs 1 j i) := by
  unfold hidB
  rw [dn_nat, dn_nat]
  rfl
abbrev rg (cs : List Cs) : List D := rng 0 (cs.length : Int)
def rows (cs : List Cs) : List D := (rg cs).map fun x => .lst ((rg cs).map fun y => .bl (hidB cs x y))
def ordP (cs : List Cs) : List D := (rg cs).flatMap fun x => ((rg cs).filter fun y => !(dn x == dn y) && hidB cs x y).map fun y => .tup [x, y]
theorem p_hiding_rows (hn : 3 ≤ n) (o : Ok a b cs) : callN T n 7 [.d (bk cs)] = .ok (.fresh (rows cs)) [] := by
  obtain ⟨m, rfl, hm⟩ := up hn
  rw [callN_eq (d := d7) (np := 1) (ns := 4) rfl rfl]
  unfold d7
  have hb : -16777216 < (cs.length : Int) ∧ (cs.length : Int) < 16777216 := by have := o.n; omega
  have hl : (rng 0 (cs.length : Int)).length < 16777216 := by rw [rng_len']; have := o.n; omega
  have c := comp_ef (C := callN T m) (ρ0 := [.val (bk cs), .val (.int (cs.length : Int)), .none, .none]) (ρ := [.val (bk cs), .val (.int (cs.length : Int)), .none, .none]) (it := iR1 (dVar 1)) (i := 3) (l := rg cs) (elt := dComp [2] (iR1 (dVar 1)) (.v 2) (tests []) (dAnd (dCall 6 [.v 0, .e (dC (.int 0)), .v 3, .v 2]) (dCall 6 [.v 0, .e (dC (.int 1)), .v 2, .v 3])))
    (g := fun x => .lst ((rg cs).map fun y => .bl (hidB cs x y))) (by simp_arith [asI, hb]) rfl (.inl rfl) hl fun x hx => by
      obtain ⟨i, rfl, hi⟩ := mem_rng hx
      refine ⟨.fresh ((rg cs).map fun y => .bl (hidB cs (.int (i : Int)) y)), ?_, rfl⟩
      show dComp _ _ _ _ _ _ [.val (bk cs), .val (.int (cs.length : Int)), .none, .val (.int (i : Int))] = .ok _ [.val (bk cs), .val (.int (cs.length : Int)), .none, .val (.int (i : Int))]
      refine comp_e0 (by simp_arith [asI, hb]) rfl (.inl rfl) hl fun y hy => ?_
      obtain ⟨j, rfl, hj⟩ := mem_rng hy
      have k1 := p_tells_z (n := m) (by omega) o hi hj
      have k2 := p_tells_o (n := m) (by omega) o hj hi
      rw [hidB_i]
      cases e : tl cs 0 i j with
      | false => rw [e] at k1; simp_arith [k1]
      | true => rw [e] at k1; simp_arith [k1, k2]
  unfold rows
  simp_arith [bk_len, c]
theorem rg_at {i : Nat} (h : i < cs.length) : (rg cs)[i]? = some (.int (i : Int)) := by
  show (rng 0 (cs.length : Int))[i]? = _
  rw [rng_nat, List.getElem?_map, List.getElem?_range h]
  rfl
theorem rows_ix {i : Nat} (h : i < cs.length) : fIx (.lst (rows cs)) (.int (i : Int)) = some (.d (.lst ((rg cs).map fun y => .bl (hidB cs (.int (i : Int)) y)))) := by
  refine (ix_nat ?_).2
  unfold rows
  rw [List.getElem?_map, rg_at h]
  rfl
theorem row_ix {i j : Nat} (h : j < cs.length) : fIx (.lst ((rg cs).map fun y => .bl (hidB cs (.int (i : Int)) y))) (.int (j : Int)) = some (.d (.bl (hidB cs (.int (i : Int)) (.int (j : Int))))) := by
  refine (ix_nat ?_).2
  rw [List.getElem?_map, rg_at h]
  rfl
theorem p_pairs_from (hn : 1 ≤ n) (o : Ok a b cs) : callN T n 8 [.d (.lst (rows cs))] = .ok (.d (.tup (ordP cs))) [] := by
  obtain ⟨m, rfl, hm⟩ := up hn
  rw [callN_eq (d := d8) (np := 1) (ns := 4) rfl rfl]
  unfold d8
  have hb : -16777216 < (cs.length : Int) ∧ (cs.length : Int) < 16777216 := by have := o.n; omega
  have hl : (rng 0 (cs.length : Int)).length < 4096 := by rw [rng_len']; have := o.n; omega
  have ln : bLen [.lst (rows cs)] = some (.d (.int (cs.length : Int))) := by
    rw [lenL]
    unfold rows
    rw [List.length_map, rng_len']
  have hr := fun i (h : i < cs.length) => rows_ix (cs := cs) h
  generalize hR : rows cs = R at *
  have c := comp2_te (C := callN T m) (i := 2) (j := 3) (elt := dTup [(dVar 2), (dVar 3)]) (it1 := iR1 (dVar 1)) (ts1 := tAnd (tCmpB fNe (dVar 2) (dVar 3)) (tE (dOp fIx (dIxV 0 (dVar 2)) (dVar 3)))) (fun s t => [.val (.lst R), .val (.int (cs.length : Int)), s, t]) (fun _ _ _ => rfl) (fun _ _ _ => rfl) (fun _ _ => rfl) (fun _ _ => rfl)
    (m := fun _ => rg cs) (p := fun x y => !(dn x == dn y) && hidB cs x y) (g := fun x y => .tup [x, y]) (it := iR1 (dVar 1)) (l := rg cs) (ρ0 := [.val (.lst R), .val (.int (cs.length : Int)), .none, .none]) (sa := .none) (sb := .none) (.inl rfl) (.inl rfl) (by simp_arith [asI, hb]) hl
    (fun x _ => ⟨by simp_arith [asI, hb], hl⟩) fun x hx y hy => by
      obtain ⟨i, rfl, hi⟩ := mem_rng hx
      obtain ⟨j, rfl, hj⟩ := mem_rng hy
      have k1 := hr i hi
      have k2 := row_ix (cs := cs) (i := i) hj
      refine ⟨?_, fun _ => by simp_arith []⟩
      show _ = RX.R.ok (!(dn (.int (i : Int)) == dn (.int (j : Int))) && hidB cs (.int (i : Int)) (.int (j : Int))) _
      rw [dn_nat, dn_nat]
      generalize (List.map (fun y => D.bl (hidB cs (.int (i : Int)) y)) (rg cs)) = row at *
      have ne : ((i : Int) == (j : Int)) = (i == j) := nat_beq
      cases e : i == j with
      | true => rw [e] at ne; simp_arith [ne]
      | false => rw [e] at ne; simp_arith [ne, k1, k2]
  unfold ordP
  simp_arith [ln, c, bTupL]
theorem p_order_of (hn : 4 ≤ n) (o : Ok a b cs) : callN T n 24 [.d (bk cs)] = .ok (.d (.tup (ordP cs))) [] := by
  obtain ⟨m, rfl, hm⟩ := up hn
  rw [callN_eq (d := d24) (np := 1) (ns := 1) rfl rfl]
  unfold d24
  have k1 := p_hiding_rows (n := m) (by omega) o
  have k2 := p_pairs_from (n := m) (by omega) o
  simp_arith [k1, k2]
end
/-! ### the program's answers, for every parameter -/
def err (w : Str) : List (Str × D) := [("word", .str w), ("at", .int (-1))]
theorem err_eq {w : Str} : [(("word" : Str), D.str w), (("at" : Str), D.int (-1))] = err w := rfl
def below (cs : List Cs) (x : D) : List D := (rg cs).filter fun y => hidB cs x y
def above (cs : List Cs) (x : D) : List D := (rg cs).filter fun y => hidB cs y x
def stor (cs : List Cs) (f x : D) : List D := (rg cs).filter fun y => tl cs (dn f) (dn x) (dn y)
def telr (cs : List Cs) (p r : D) : List D := (rg cs).filter fun y => tl cs 0 (dn y) (dn p) && tl cs 1 (dn y) (dn r)
section
variable {n a b : Nat} {cs : List Cs} {x y f : D}
def r10 (cs : List Cs) (x y : D) : CR := if okc cs.length x = false then .exc 0 (err "here") else if okc cs.length y = false then .exc 0 (err "there") else .ok (.d (.bl (hidB cs x y))) []
theorem r10_ok {i j : Nat} (hi : i < cs.length) (hj : j < cs.length) : r10 cs (.int (i : Int)) (.int (j : Int)) = .ok (.d (.bl (hidB cs (.int (i : Int)) (.int (j : Int))))) [] := by
  unfold r10
  rw [okc_nat hi, okc_nat hj, if_neg (by decide), if_neg (by decide)]
def r12 (cs : List Cs) (x : D) : CR := if okc cs.length x = false then .exc 0 (err "here") else .ok (.d (.tup (below cs x))) []
def r13 (cs : List Cs) (x : D) : CR := if okc cs.length x = false then .exc 0 (err "there") else .ok (.d (.tup (above cs x))) []
def r15 (cs : List Cs) (f x y : D) : CR := if okc 2 f = false then .exc 0 (err "side") else if okc cs.length x = false then .exc 0 (err "here") else if okc cs.length y = false then .exc 0 (err "there") else .ok (.d (.bl (tl cs (dn f) (dn x) (dn y)))) []
theorem r15_ok {g i j : Nat} (hg : g < 2) (hi : i < cs.length) (hj : j < cs.length) : r15 cs (.int (g : Int)) (.int (i : Int)) (.int (j : Int)) = .ok (.d (.bl (tl cs g i j))) [] := by
  unfold r15
  rw [okc_nat hg, okc_nat hi, okc_nat hj, if_neg (by decide), if_neg (by decide), if_neg (by decide), dn_nat, dn_nat, dn_nat]
def r16 (cs : List Cs) (f x : D) : CR := if okc 2 f = false then .exc 0 (err "side") else if okc cs.length x = false then .exc 0 (err "here") else .ok (.d (.tup (stor cs f x))) []
def r17 (cs : List Cs) (x y : D) : CR := if okc cs.length x = false then .exc 0 (err "plea") else if okc cs.length y = false then .exc 0 (err "reply") else .ok (.d (.tup (telr cs x y))) []
theorem all_nat : ∀ {l : List Int}, (∀ i ∈ l, 0 ≤ i) → (l.map D.int).all isNn = true
  | [], _ => rfl
  | i :: r, h => by
    show (decide (0 ≤ i) && (r.map D.int).all isNn) = true
    rw [decide_eq_true (h i List.mem_cons_self), all_nat fun j hj => h j (List.mem_cons_of_mem _ hj)]
    rfl
theorem gd_ints {l : List Int} (h : l.length < 1000) : gd (.tup (l.map .int)) = true := gd_tup.mpr ⟨by rw [List.length_map]; exact h, fun x hx => by
  obtain ⟨i, _, rfl⟩ := List.mem_map.mp hx
  rfl⟩
theorem isH_ok {l : List Int} {k : Nat} (hk : l.length = k) (h : ∀ i ∈ l, 0 ≤ i) : isH k (.tup (l.map .int)) = true := by
  show ((((l.map D.int).length : Int) == (k : Int)) && (l.map D.int).all isNn) = true
  rw [all_nat h, List.length_map, hk, beq_self_eq_true]
  rfl
end
section
variable {n a b : Nat} {cs : List Cs}
theorem rg_len : (rg cs).length = cs.length := rng_len'
theorem sam_fil (hn : cs.length ≤ 8) {p : D → Bool} : sam (.tup ((rg cs).filter p)) = true ∧ (D.tup ((rg cs).filter p)).dep ≤ 1 := sam_tup (by have := List.length_filter_le p (rg cs); rw [rg_len] at this; omega) fun y hy => by
  obtain ⟨k, rfl, _⟩ := mem_rng ((List.mem_filter.mp hy).1)
  exact ⟨rfl, Nat.le_refl _⟩
theorem in_fil {p : D → Bool} {k : Nat} (h : k < cs.length) : fIn (.int (k : Int)) (.tup ((rg cs).filter p)) = some (.d (.bl (p (.int (k : Int))))) := by
  refine fInT rfl (fun y hy => ?_) (Nat.zero_le _) ?_
  · obtain ⟨k, rfl, _⟩ := mem_rng ((List.mem_filter.mp hy).1)
    rfl
  · rw [Bool.eq_iff_iff, List.any_eq_true]
    constructor
    · rintro ⟨z, hz, e⟩
      obtain ⟨j, rfl, hj⟩ := mem_rng ((List.mem_filter.mp hz).1)
      have e : ((j : Int) == (k : Int)) = true := e
      rw [← eq_of_beq e]
      exact (List.mem_filter.mp hz).2
    · intro e
      exact ⟨.int (k : Int), List.mem_filter.mpr ⟨List.mem_of_getElem? (rg_at h), e⟩, beq_self_eq_true (k : Int)⟩
theorem mem_ord {z : D} : z ∈ ordP cs ↔ ∃ i j : Nat, i < cs.length ∧ j < cs.length ∧ z = .tup [.int (i : Int), .int (j : Int)] ∧ (!(i == j) && hidB cs (.int (i : Int)) (.int (j : Int))) = true := by
  unfold ordP
  rw [List.mem_flatMap]
  constructor
  · rintro ⟨x, hx, hz⟩
    obtain ⟨i, rfl, hi⟩ := mem_rng hx
    obtain ⟨y, hy, rfl⟩ := List.mem_map.mp hz
    obtain ⟨hy, e⟩ := List.mem_filter.mp hy
    obtain ⟨j, rfl, hj⟩ := mem_rng hy
    rw [dn_nat, dn_nat] at e
    exact ⟨i, j, hi, hj, rfl, e⟩
  · rintro ⟨i, j, hi, hj, rfl, e⟩
    refine ⟨.int (i : Int), List.mem_of_getElem? (rg_at hi), List.mem_map.mpr ⟨.int (j : Int), List.mem_filter.mpr ⟨List.mem_of_getElem? (rg_at hj), ?_⟩, rfl⟩⟩
    rw [dn_nat, dn_nat]
    exact e
theorem ord_len (hn : cs.length ≤ 8) : (ordP cs).length ≤ 64 := by
  unfold ordP
  rw [List.length_flatMap]
  have h : ∀ x ∈ (rg cs).map (fun x => (((rg cs).filter fun y => !(dn x == dn y) && hidB cs x y).map fun y => D.tup [x, y]).length), x ≤ 8 := fun x hx => by
    obtain ⟨y, _, rfl⟩ := List.mem_map.mp hx
    rw [List.length_map]
    have := List.length_filter_le (fun z => !(dn y == dn z) && hidB cs y z) (rg cs)
    rw [rg_len] at this
    omega
  have key : ∀ l : List Nat, (∀ x ∈ l, x ≤ 8) → l.sum ≤ 8 * l.length := by
    intro l
    induction l with
    | nil => intro _; exact Nat.le_refl _
    | cons a l ih =>
      intro h
      have h1 := h a List.mem_cons_self
      have h2 := ih fun y hy => h y (List.mem_cons_of_mem _ hy)
      rw [List.sum_cons, List.length_cons]
      omega
  have := key _ h
  rw [List.length_map, rg_len] at this
  omega
theorem sam_ord (hn : cs.length ≤ 8) : sam (.tup (ordP cs)) = true ∧ (D.tup (ordP cs)).dep ≤ 2 := sam_tup (k := 1) (by have := ord_len hn; omega) fun y hy => by
  obtain ⟨i, j, _, _, rfl, _⟩ := mem_ord.mp hy
  exact ⟨rfl, Nat.le_refl _⟩
theorem in_ord {i j : Nat} (hi : i < cs.length) (hj : j < cs.length) : fIn (.tup [.int (i : Int), .int (j : Int)]) (.tup (ordP cs)) = some (.d (.bl (!(i == j) && hidB cs (.int (i : Int)) (.int (j : Int))))) := by
  refine fInT rfl (fun y hy => ?_) (by show 1 ≤ 40; decide) ?_
  · obtain ⟨k, l, _, _, rfl, _⟩ := mem_ord.mp hy
    rfl
  · rw [Bool.eq_iff_iff, List.any_eq_true]
    constructor
    · rintro ⟨z, hz, e⟩
      obtain ⟨k, l, hk, hl, rfl, e2⟩ := mem_ord.mp hz
      have e : (((k : Int) == (i : Int)) && (((l : Int) == (j : Int)) && true)) = true := e
      obtain ⟨e3, e4⟩ := Bool.and_eq_true_iff.mp e
      obtain ⟨e4, _⟩ := Bool.and_eq_true_iff.mp e4
      rw [nat_beq] at e3 e4
      rw [← eq_of_beq e3, ← eq_of_beq e4]
      exact e2
    · intro e
      refine ⟨_, mem_ord.mpr ⟨i, j, hi, hj, rfl, e⟩, ?_⟩
      show (((i : Int) == (i : Int)) && (((j : Int) == (j : Int)) && true)) = true
      rw [beq_self_eq_true, beq_self_eq_true]
      rfl
theorem wi_refl : ∀ l : List Int, wi l l = true
  | [] => rfl
  | x :: r => by
    show (decide (x ≤ x) && wi r r) = true
    rw [wi_refl r, decide_eq_true (Int.le_refl x)]
    rfl
theorem hid_refl {i : Nat} (hi : i < cs.length) : hidB cs (.int (i : Int)) (.int (i : Int)) = true := by
  rw [hidB_i]
  unfold tl
  rw [List.getElem?_eq_getElem hi]
  simp only [wi_refl, beq_self_eq_true, Bool.and_true]
end
theorem st_nv1 {s : Sl} (h : NV s) {ρ : RX.Env} {i : Nat} {x : D} (hi : ρ[i]? = some s) : (Tg.v i).st ρ x = some (ρ.set i (.val x)) := by
  show stSl ρ i (.val x) = _
  unfold stSl
  rw [hi]
  rcases h with rfl | ⟨d, rfl⟩ <;> rfl
/-- a slot that may be written -/
def WV (s : Sl) : Prop := NV s ∨ ∃ l, s = .own l
theorem st_wv {s : Sl} (h : WV s) {ρ : RX.Env} {i : Nat} {x : Sl} (hi : ρ[i]? = some s) : stSl ρ i x = some (ρ.set i x) := by
  unfold stSl
  rw [hi]
  rcases h with (rfl | ⟨d, rfl⟩) | ⟨l, rfl⟩ <;> rfl
theorem bMx {i j : Int} : bMax [.int i, .int j] = some (.d (.int (if j > i then j else i))) := rfl
theorem bMn {i j : Int} : bMin [.int i, .int j] = some (.d (.int (if j < i then j else i))) := rfl
theorem ixT {l : List D} {q : Nat} (h : (q : Int) < l.length) : ∃ x ∈ l, fIx (.tup l) (.int (q : Int)) = some (.d x) := by
  obtain ⟨x, hx, _, e⟩ := ix_inT (l := l) (i := (q : Int)) (by omega) h
  exact ⟨x, hx, e⟩
theorem hmC : m_CourtError 0 = true := rfl
theorem hkN : k_NotUsable 0 = true := rfl
theorem hkT : k_TableError 0 = true := rfl
theorem fl_w {ρ : RX.Env} {c : Nat} {w : Str} : fldK ρ ("word" : Str) (some (.exn c (err w))) = .ok (.d (.str w)) ρ := rfl
theorem fl_a {ρ : RX.Env} {c : Nat} {w : Str} : fldK ρ ("at" : Str) (some (.exn c (err w))) = .ok (.d (.int (-1))) ρ := rfl
theorem l3_0 {x y z : D} : fIx (.lst [x, y, z]) (.int 0) = some (.d x) := rfl
theorem l3_1 {x y z : D} : fIx (.lst [x, y, z]) (.int 1) = some (.d y) := rfl
theorem l3_2 {x y z : D} : fIx (.lst [x, y, z]) (.int 2) = some (.d z) := rfl
theorem l2_0 {x y : D} : fIx (.lst [x, y]) (.int 0) = some (.d x) := rfl
theorem l2_1 {x y : D} : fIx (.lst [x, y]) (.int 1) = some (.d y) := rfl
theorem l1_0 {x : D} : fIx (.lst [x]) (.int 0) = some (.d x) := rfl
def toldR : CR → List D
  | .ok r _ => [.int 0, r.frz]
  | .exc _ fs => [.int 1, (fs.lookup ("word" : Str)).getD .non, (fs.lookup ("at" : Str)).getD .non]
  | _ => []
/-- a list handed on as a name's own, or as a value -/
def AP (A : RX.Arg) (P : List D) (outs : List (List D)) : Prop := (A = .own P ∧ outs = [P]) ∨ (A = .d (.lst P) ∧ outs = [])
/-- an answer or a fault -/
def AR (R : CR) : Prop := (∃ v, R = .ok (.d v) []) ∨ ∃ w, R = .exc 0 (err w)
theorem tR_ok {v : D} : toldR (.ok (.d v) []) = [.int 0, v] := rfl
theorem tR_e {w : Str} : toldR (.exc 0 (err w)) = [.int 1, .str w, .int (-1)] := rfl
theorem r_0 {c : Cs} : fIx c.d (.int 0) = some (.d (.int c.w)) := rfl
theorem r_1 {c : Cs} : fIx c.d (.int 1) = some (.d c.p) := rfl
theorem r_2 {c : Cs} : fIx c.d (.int 2) = some (.d c.q) := rfl
theorem bLstT {l : List D} : bLst [.tup l] = some (.fresh l) := rfl
theorem h_0 {x y : D} : fIx (.tup [x, y]) (.int 0) = some (.d x) := rfl
theorem h_1 {x y : D} : fIx (.tup [x, y]) (.int 1) = some (.d y) := rfl
theorem ixIL {l : List Int} {k : Nat} (h : k < l.length) : fIx (.lst (l.map .int)) (.int (k : Int)) = some (.d (.int (l.getD k 0))) := by
  have hx : (l.map D.int)[k]? = some (.int (l.getD k 0)) := by
    rw [List.getElem?_map, List.getD_eq_getElem?_getD, List.getElem?_eq_getElem h]
    rfl
  exact (ix_nat hx).2
end K10
set_option Elab.async false
set_option linter.all false
set_option maxRecDepth 100000
set_option maxHeartbeats 4000000
namespace K10
open PySem RX RY MQ
def isQ : D → Bool
  | .tup [.int a, .int b] => decide (0 < b) && (Nat.gcd a.natAbs b.natAbs == 1)
  | _ => false
theorem cq0 {a b : D} : fIx (.tup [a, b]) (.int 0) = some (.d a) := rfl
theorem cq1 {a b : D} : fIx (.tup [a, b]) (.int 1) = some (.d b) := rfl
theorem ne22 : fNe (.int 2) (.int 2) = some (.d (.bl false)) := rfl
theorem bl2 {a b : D} : bLen [.tup [a, b]] = some (.d (.int 2)) := rfl
theorem st2 {i j : Nat} {ρ : RX.Env} {a b : D} : (Tg.t [i, j]).st ρ (.tup [a, b]) = stAll ρ [i, j] [a, b] := rfl
theorem len_ne {l : List D} (h : l.length ≠ 2) : ((l.length : Int) == 2) = false := beq_eq_false_iff_ne.mpr (by omega)
theorem isQ_len {l : List D} (h : l.length ≠ 2) : isQ (.tup l) = false := by
  unfold isQ
  split
  · rename_i e
    cases e
    exact absurd rfl h
  · rfl
theorem isQ_no {a b : D} (h : isI a = false ∨ isNn b = false) : isQ (.tup [a, b]) = false := by
  unfold isQ
  split
  · rename_i i j e
    cases e
    rcases h with h | h
    · cases h
    · have : ¬ (0 ≤ j) := of_decide_eq_false h
      rw [decide_eq_false (by omega)]
      rfl
  · rfl
def isTb (w : Int) : D → Bool
  | .tup l => ((l.length : Int) == w) && l.all isQ
  | _ => false
def isNs : D → Bool
  | .tup l => l.all isNn
  | _ => false
def isF : D → Bool
  | .tup [a, b] => isP a && isP b
  | _ => false
def pr : D → Bool
  | .tup [a, b] => isNs a && isNs b
  | _ => false
theorem isF_len {l : List D} (h : l.length ≠ 2) : isF (.tup l) = false := by
  unfold isF
  split
  · rename_i e; cases e; exact absurd rfl h
  · rfl
theorem pr_len {l : List D} (h : l.length ≠ 2) : pr (.tup l) = false := by
  unfold pr
  split
  · rename_i e; cases e; exact absurd rfl h
  · rfl
theorem ntp {x : D} (h : isTp x = false) : isQ x = false ∧ isF x = false ∧ pr x = false ∧ isNs x = false ∧ ∀ w, isTb w x = false := by
  cases x <;> first | exact ⟨rfl, rfl, rfl, rfl, fun _ => rfl⟩ | cases h
section
variable {n : Nat} {x : D}
theorem p_is_positive (hn : 2 ≤ n) (h : x.plain = true) : callN T n 10 [.d x] = .ok (.d (.bl (isP x))) [] := by
  obtain ⟨m, rfl, hm⟩ := up hn
  rw [callN_eq (d := d10) (np := 1) (ns := 1) rfl rfl]
  unfold d10
  have a := p_is_integer (n := m) hm h
  cases x with
  | int i => simp_arith [a, isI, isP]
  | bl b => simp_arith [a, isI, isP]
  | non => simp_arith [a, isI, isP]
  | str s => simp_arith [a, isI, isP]
  | tup l => simp_arith [a, isI, isP]
  | lst l => simp_arith [a, isI, isP]
  | _ => cases h
theorem p_is_quotient (hn : 3 ≤ n) (h : gd x = true) : callN T n 2 [.d x] = .ok (.d (.bl (isQ x))) [] := by
  obtain ⟨m, rfl, hm⟩ := up hn
  rw [callN_eq (d := d2) (np := 1) (ns := 3) rfl rfl]
  unfold d2
  have t := isi_tup (gd_plain h)
  cases e : isTp x with
  | false =>
    rw [e] at t
    have q : isQ x = false := by
      unfold isQ
      split
      · cases e
      · rfl
    simp_arith [t, q]
  | true =>
    rw [e] at t
    obtain ⟨l, rfl⟩ := isTp_ok e
    by_cases hl : l.length = 2
    · obtain ⟨a, b, rfl⟩ := len2 hl
      obtain ⟨_, hg⟩ := gd_tup.mp h
      have ga := gd_plain (hg a (by simp))
      have gb := gd_plain (hg b (by simp))
      have ka := p_is_integer (n := m) (by omega) ga
      have kb := p_is_number (n := m) (by omega) gb
      cases ea : isI a with
      | false =>
        rw [ea] at ka
        have q := isQ_no (b := b) (.inl ea)
        simp_arith [t, bl2, ne22, st2, ka, q]
      | true =>
        rw [ea] at ka
        cases eb : isNn b with
        | false =>
          rw [eb] at kb
          have q := isQ_no (a := a) (.inr eb)
          simp_arith [t, bl2, ne22, st2, ka, kb, q]
        | true =>
          rw [eb] at kb
          obtain ⟨i, rfl⟩ := isI_ok ea
          obtain ⟨j, rfl, hj⟩ := isNn_ok eb
          by_cases j0 : j = 0
          · subst j0
            have q : isQ (.tup [.int i, .int 0]) = false := rfl
            simp_arith [t, bl2, ne22, st2, ka, kb, q]
          · have e0 : (j == 0) = false := beq_eq_false_iff_ne.mpr j0
            have q : isQ (.tup [.int i, .int j]) = (((Nat.gcd i.natAbs j.natAbs : Nat) : Int) == 1) := by
              show (decide (0 < j) && (Nat.gcd i.natAbs j.natAbs == 1)) = _
              rw [decide_eq_true (by omega), Bool.true_and]
              by_cases g : Nat.gcd i.natAbs j.natAbs = 1
              · rw [g]; rfl
              · rw [beq_eq_false_iff_ne.mpr g, beq_eq_false_iff_ne.mpr (by omega)]
            simp_arith [t, bl2, ne22, st2, ka, kb, e0, bGcd, q]
    · have q := isQ_len hl
      have k := len_ne hl
      simp_arith [t, lenT, q, k]
theorem p_is_table (hn : 4 ≤ n) (h : gd x = true) {w : Int} : callN T n 3 [.d (.int w), .d x] = .ok (.d (.bl (isTb w x))) [] := by
  obtain ⟨m, rfl, hm⟩ := up hn
  rw [callN_eq (d := d3) (np := 2) (ns := 3) rfl rfl]
  unfold d3
  have t := isi_tup (gd_plain h)
  cases e : isTp x with
  | false =>
    rw [e] at t
    have q := (ntp e).2.2.2.2 w
    simp_arith [t, q]
  | true =>
    rw [e] at t
    obtain ⟨l, rfl⟩ := isTp_ok e
    obtain ⟨hl, hg⟩ := gd_tup.mp h
    have q : isTb w (.tup l) = (((l.length : Int) == w) && l.all isQ) := rfl
    rw [q]
    cases ew : (l.length : Int) == w with
    | false => simp_arith [t, lenT, ew]
    | true =>
      have c := comp_g (C := callN T m) (ρ := [.val (.int w), .val (.tup l), .none]) (it := iE (dVar 1)) (i := 2) (k := 2) (g := isQ) rfl rfl (.inl rfl) hl fun y hy => p_is_quotient (n := m) (by omega) (hg y hy)
      simp_arith [t, lenT, ew, c, all_map]
theorem p_is_factors (hn : 3 ≤ n) (h : gd x = true) : callN T n 11 [.d x] = .ok (.d (.bl (isF x))) [] := by
  obtain ⟨m, rfl, hm⟩ := up hn
  rw [callN_eq (d := d11) (np := 1) (ns := 1) rfl rfl]
  unfold d11
  have t := isi_tup (gd_plain h)
  cases e : isTp x with
  | false =>
    rw [e] at t
    have q := (ntp e).2.1
    simp_arith [t, q]
  | true =>
    rw [e] at t
    obtain ⟨l, rfl⟩ := isTp_ok e
    by_cases hl : l.length = 2
    · obtain ⟨a, b, rfl⟩ := len2 hl
      obtain ⟨_, hg⟩ := gd_tup.mp h
      have ka := p_is_positive (n := m) (by omega) (gd_plain (hg a (by simp)))
      have kb := p_is_positive (n := m) (by omega) (gd_plain (hg b (by simp)))
      have q : isF (.tup [a, b]) = (isP a && isP b) := rfl
      rw [q]
      cases ea : isP a with
      | false =>
        rw [ea] at ka
        simp_arith [t, bl2, ne22, cq0, ka]
      | true =>
        rw [ea] at ka
        simp_arith [t, bl2, ne22, cq0, cq1, ka, kb]
    · have q := isF_len hl
      have k := len_ne hl
      simp_arith [t, lenT, q, k]
theorem p_is_numbers (hn : 3 ≤ n) (h : gd x = true) : callN T n 12 [.d x] = .ok (.d (.bl (isNs x))) [] := by
  obtain ⟨m, rfl, hm⟩ := up hn
  rw [callN_eq (d := d12) (np := 1) (ns := 2) rfl rfl]
  unfold d12
  have t := isi_tup (gd_plain h)
  cases e : isTp x with
  | false =>
    rw [e] at t
    have q := (ntp e).2.2.2.1
    simp_arith [t, q]
  | true =>
    rw [e] at t
    obtain ⟨l, rfl⟩ := isTp_ok e
    obtain ⟨hl, hg⟩ := gd_tup.mp h
    have q : isNs (.tup l) = l.all isNn := rfl
    have c := comp_g (C := callN T m) (ρ := [.val (.tup l), .none]) (it := iE (dVar 0)) (i := 1) (k := 1) (g := isNn) rfl rfl (.inl rfl) hl fun y hy => p_is_number (n := m) (by omega) (gd_plain (hg y hy))
    simp_arith [t, c, all_map, q]
end
def lens : D → Nat × Nat
  | .tup [.tup a, .tup b] => (a.length, b.length)
  | _ => (0, 0)
def leq (x y : D) : Bool := ((lens x).1 == (lens y).1) && ((lens x).2 == (lens y).2)
theorem leq_self (x : D) : leq x x = true := by unfold leq; rw [beq_self_eq_true, beq_self_eq_true]; rfl
theorem isNs_ok {x : D} (h : isNs x = true) : ∃ l, x = .tup l ∧ l.all isNn = true := by
  cases x <;> first | exact ⟨_, rfl, h⟩ | cases h
theorem pr_ok {x : D} (h : pr x = true) : ∃ a b, x = .tup [.tup a, .tup b] ∧ a.all isNn = true ∧ b.all isNn = true := by
  unfold pr at h
  split at h
  · obtain ⟨h1, h2⟩ := Bool.and_eq_true_iff.mp h
    obtain ⟨a, rfl, k1⟩ := isNs_ok h1
    obtain ⟨b, rfl, k2⟩ := isNs_ok h2
    exact ⟨a, b, rfl, k1, k2⟩
  · cases h
theorem bLenT {l : List D} : bLen [.tup l] = some (.d (.int l.length)) := rfl
section
variable {n : Nat} {x : D}
theorem p_holdings_good_x (hn : 4 ≤ n) (h : gd x = true) (y : D) (hp : pr x = false) : callN T n 13 [.d x, .d y] = .ok (.d (.bl false)) [] := by
  obtain ⟨m, rfl, hm⟩ := up hn
  rw [callN_eq (d := d13) (np := 2) (ns := 2) rfl rfl]
  unfold d13
  have t := isi_tup (gd_plain h)
  cases e : isTp x with
  | false =>
    rw [e] at t
    simp_arith [t]
  | true =>
    rw [e] at t
    obtain ⟨l, rfl⟩ := isTp_ok e
    by_cases hl : l.length = 2
    · obtain ⟨a, b, rfl⟩ := len2 hl
      obtain ⟨_, hg⟩ := gd_tup.mp h
      have ka := p_is_numbers (n := m) (by omega) (hg a (by simp))
      have kb := p_is_numbers (n := m) (by omega) (hg b (by simp))
      have q : (isNs a && isNs b) = false := hp
      cases ea : isNs a with
      | false =>
        rw [ea] at ka
        simp_arith [t, bl2, ne22, cq0, ka]
      | true =>
        rw [ea] at ka q
        rw [show isNs b = false from q] at kb
        simp_arith [t, bl2, ne22, cq0, cq1, ka, kb]
    · have k := len_ne hl
      simp_arith [t, lenT, k]
theorem p_holdings_good (hn : 4 ≤ n) (h : gd x = true) {f1 f2 : List D} (hp : pr x = true) : callN T n 13 [.d x, .d (.tup [.tup f1, .tup f2])] = .ok (.d (.bl (leq x (.tup [.tup f1, .tup f2])))) [] := by
  obtain ⟨m, rfl, hm⟩ := up hn
  rw [callN_eq (d := d13) (np := 2) (ns := 2) rfl rfl]
  unfold d13
  have t := isi_tup (gd_plain h)
  obtain ⟨a, b, rfl, h1, h2⟩ := pr_ok hp
  obtain ⟨_, hg⟩ := gd_tup.mp h
  have ka := p_is_numbers (n := m) (by omega) (hg (.tup a) (by simp))
  have kb := p_is_numbers (n := m) (by omega) (hg (.tup b) (by simp))
  rw [show isNs (.tup a) = true from h1] at ka
  rw [show isNs (.tup b) = true from h2] at kb
  have q : leq (.tup [.tup a, .tup b]) (.tup [.tup f1, .tup f2]) = ((a.length == f1.length) && (b.length == f2.length)) := rfl
  rw [q]
  rw [show isTp (.tup [.tup a, .tup b]) = true from rfl] at t
  have la : bLen [.tup a] = some (.d (.int a.length)) := rfl
  have lb : bLen [.tup b] = some (.d (.int b.length)) := rfl
  have lf : bLen [.tup f1] = some (.d (.int f1.length)) := rfl
  have lg : bLen [.tup f2] = some (.d (.int f2.length)) := rfl
  cases e : a.length == f1.length with
  | false => simp_arith [t, bl2, ne22, cq0, cq1, ka, kb, la, lb, lf, lg, nat_beq, e]
  | true => simp_arith [t, bl2, ne22, cq0, cq1, ka, kb, la, lb, lf, lg, nat_beq, e]
end
def yq : Option D → D → Bool
  | none, _ => true
  | some y, h => leq h y
def cf (y : Option D) : D → Option Str
  | .tup [w, r, f, h, s] => if isP w = false then some ("weight" : Str) else if isQ r = false then some ("right" : Str) else if isF f = false then some ("factors" : Str) else if pr h = false then some ("holdings" : Str)
    else if yq y h = false then some ("holdings" : Str) else if isNn s = false then some ("sight" : Str) else none
  | _ => some ("case" : Str)
def toD : Option Str → D
  | none => .non
  | some w => .str w
theorem toD_n : toD none = .non := rfl
theorem toD_s {w : Str} : toD (some w) = .str w := rfl
theorem cf_len {l : List D} {y : Option D} (h : l.length ≠ 5) : cf y (.tup l) = some ("case" : Str) := by
  unfold cf
  split
  · rename_i e; cases e; exact absurd rfl h
  · rfl
theorem len5 {l : List D} (h : l.length = 5) : ∃ a b c d e, l = [a, b, c, d, e] := by
  match l, h with
  | [a, b, c, d, e], _ => exact ⟨a, b, c, d, e, rfl⟩
theorem len_ne5 {l : List D} (h : l.length ≠ 5) : ((l.length : Int) == 5) = false := beq_eq_false_iff_ne.mpr (by omega)
theorem bl5 {a b c d e : D} : bLen [.tup [a, b, c, d, e]] = some (.d (.int 5)) := rfl
theorem st5 {i j k l m : Nat} {ρ : RX.Env} {a b c d e : D} : (Tg.t [i, j, k, l, m]).st ρ (.tup [a, b, c, d, e]) = stAll ρ [i, j, k, l, m] [a, b, c, d, e] := rfl
theorem i50 {a b c d e : D} : fIx (.tup [a, b, c, d, e]) (.int 0) = some (.d a) := rfl
theorem i51 {a b c d e : D} : fIx (.tup [a, b, c, d, e]) (.int 1) = some (.d b) := rfl
theorem i52 {a b c d e : D} : fIx (.tup [a, b, c, d, e]) (.int 2) = some (.d c) := rfl
theorem i53 {a b c d e : D} : fIx (.tup [a, b, c, d, e]) (.int 3) = some (.d d) := rfl
theorem i54 {a b c d e : D} : fIx (.tup [a, b, c, d, e]) (.int 4) = some (.d e) := rfl
theorem cf_no {x : D} (h : isTp x = false) (y : Option D) : cf y x = some ("case" : Str) := by
  cases x <;> first | rfl | cases h
section
variable {n : Nat} {x : D}
theorem p_case_fault_n (hn : 5 ≤ n) (h : gd x = true) (z : D) {y : Option D} (hx : ∀ a b c d e, x ≠ .tup [a, b, c, d, e]) : callN T n 14 [.d x, .d z] = .ok (.d (toD (cf y x))) [] := by
  obtain ⟨m, rfl, hm⟩ := up hn
  rw [callN_eq (d := d14) (np := 2) (ns := 7) rfl rfl]
  unfold d14
  have t := isi_tup (gd_plain h)
  cases e : isTp x with
  | false =>
    rw [e] at t
    have q := cf_no e y
    simp_arith [t, q, toD_s]
  | true =>
    rw [e] at t
    obtain ⟨l, rfl⟩ := isTp_ok e
    have hl : l.length ≠ 5 := fun hl => by
      obtain ⟨a, b, c, d, e', rfl⟩ := len5 hl
      exact hx a b c d e' rfl
    have q := cf_len (y := y) hl
    have k := len_ne5 hl
    simp_arith [t, lenT, k, q, toD_s]
theorem p_case_fault (hn : 5 ≤ n) {w r f h s : D} (hg : gd (.tup [w, r, f, h, s]) = true) {z z1 z2 z3 z4 z5 : D} (ez : z = .tup [z1, z2, z3, z4, z5]) {y : Option D}
    (k9 : callN T (n - 1) 13 [.d h, .d z4] = .ok (.d (.bl (pr h && yq y h))) []) :
    callN T n 14 [.d (.tup [w, r, f, h, s]), .d z] = .ok (.d (toD (cf y (.tup [w, r, f, h, s])))) [] := by
  obtain ⟨m, rfl, hm⟩ := up hn
  rw [callN_eq (d := d14) (np := 2) (ns := 7) rfl rfl]
  unfold d14
  rw [Nat.add_sub_cancel] at k9
  obtain ⟨_, hg'⟩ := gd_tup.mp hg
  have t := isi_tup (gd_plain hg)
  rw [show isTp (.tup [w, r, f, h, s]) = true from rfl] at t
  have k1 := p_is_positive (n := m) (by omega) (gd_plain (hg' w (by simp)))
  have k2 := p_is_quotient (n := m) (by omega) (hg' r (by simp))
  have k3 := p_is_factors (n := m) (by omega) (hg' f (by simp))
  have k5 := p_is_number (n := m) (by omega) (gd_plain (hg' s (by simp)))
  subst ez
  have q : cf y (.tup [w, r, f, h, s]) = if isP w = false then some ("weight" : Str) else if isQ r = false then some ("right" : Str) else if isF f = false then some ("factors" : Str) else if pr h = false then some ("holdings" : Str) else if yq y h = false then some ("holdings" : Str) else if isNn s = false then some ("sight" : Str) else none := rfl
  rw [q]
  clear q
  cases e1 : isP w with
  | false => rw [e1] at k1; simp_arith [t, bl5, st5, k1, eq_self, toD_s]
  | true =>
    rw [e1] at k1
    cases e2 : isQ r with
    | false => rw [e2] at k2; simp_arith [t, bl5, st5, k1, k2, eq_self, Bool.true_eq_false, toD_s]
    | true =>
      rw [e2] at k2
      cases e3 : isF f with
      | false => rw [e3] at k3; simp_arith [t, bl5, st5, k1, k2, k3, eq_self, Bool.true_eq_false, toD_s]
      | true =>
        rw [e3] at k3
        cases e4 : pr h with
        | false =>
          rw [e4, Bool.false_and] at k9
          simp_arith [t, bl5, st5, i53, k1, k2, k3, k9, eq_self, Bool.true_eq_false, toD_s]
        | true =>
          rw [e4, Bool.true_and] at k9
          generalize yq y h = b at *
          cases b with
          | false => simp_arith [t, bl5, st5, i53, k1, k2, k3, k9, eq_self, Bool.true_eq_false, toD_s]
          | true =>
            cases e5 : isNn s with
            | false => rw [e5] at k5; simp_arith [t, bl5, st5, i53, k1, k2, k3, k9, k5, eq_self, Bool.true_eq_false, toD_s]
            | true => rw [e5] at k5; simp_arith [t, bl5, st5, i53, k1, k2, k3, k9, k5, eq_self, Bool.true_eq_false, toD_n]
theorem p_case_fault_a (hn : 5 ≤ n) (h : gd x = true) : callN T n 14 [.d x, .d x] = .ok (.d (toD (cf none x))) [] := by
  by_cases hx : ∃ a b c d e, x = .tup [a, b, c, d, e]
  · obtain ⟨w, r, f, y, s, rfl⟩ := hx
    obtain ⟨_, hg⟩ := gd_tup.mp h
    refine p_case_fault hn h rfl ?_
    cases e : pr y with
    | false => exact p_holdings_good_x (by omega) (hg y (by simp)) _ e
    | true =>
      obtain ⟨a, b, rfl, _, _⟩ := pr_ok e
      have := p_holdings_good (n := n - 1) (by omega) (hg _ (by simp)) (f1 := a) (f2 := b) e
      rw [leq_self] at this
      exact this
  · exact p_case_fault_n hn h _ fun a b c d e q => hx ⟨a, b, c, d, e, q⟩
theorem p_case_fault_b (hn : 5 ≤ n) (h : gd x = true) {z1 z2 z3 z4 z5 : D} (hz : pr z4 = true) : callN T n 14 [.d x, .d (.tup [z1, z2, z3, z4, z5])] = .ok (.d (toD (cf (some z4) x))) [] := by
  by_cases hx : ∃ a b c d e, x = .tup [a, b, c, d, e]
  · obtain ⟨w, r, f, y, s, rfl⟩ := hx
    obtain ⟨_, hg⟩ := gd_tup.mp h
    refine p_case_fault hn h rfl ?_
    cases e : pr y with
    | false => exact p_holdings_good_x (by omega) (hg y (by simp)) _ e
    | true =>
      obtain ⟨a, b, rfl, _, _⟩ := pr_ok hz
      exact p_holdings_good (n := n - 1) (by omega) (hg _ (by simp)) (f1 := a) (f2 := b) e
  · exact p_case_fault_n hn h _ fun a b c d e q => hx ⟨a, b, c, d, e, q⟩
end
def lenD : D → D
  | .tup l => .int l.length
  | _ => .non
def wk (c : D → Option Str) (k : Nat) : List D → Option (Str × Nat)
  | [] => none
  | x :: r => match c x with
    | some w => some (w, k)
    | none => wk c (k + 1) r
def hold : D → D
  | .tup [_, _, _, h, _] => h
  | _ => .non
def crt : D → Option (Str × Int)
  | .tup (x :: r) => match cf none x with
    | some w => some (w, 0)
    | none => (wk (cf (some (hold x))) 1 r).map fun p => (p.1, (p.2 : Int))
  | _ => some (("shape" : Str), -1)
theorem crt_s {x : D} {r : List D} {w : Str} (h : cf none x = some w) : crt (.tup (x :: r)) = some (w, 0) := by simp only [crt, h]
theorem crt_n {x : D} {r : List D} (h : cf none x = none) : crt (.tup (x :: r)) = (wk (cf (some (hold x))) 1 r).map fun p => (p.1, (p.2 : Int)) := by simp only [crt, h]
theorem cf_good {y : Option D} {x : D} (h : cf y x = none) : ∃ w r f a b s, x = .tup [w, r, f, .tup [.tup a, .tup b], s] ∧ pr (.tup [.tup a, .tup b]) = true := by
  unfold cf at h
  split at h
  · rename_i w r f h' s
    cases e1 : isP w with
    | false => rw [e1] at h; cases h
    | true =>
      rw [e1, if_neg (by decide)] at h
      cases e2 : isQ r with
      | false => rw [e2] at h; cases h
      | true =>
        rw [e2, if_neg (by decide)] at h
        cases e3 : isF f with
        | false => rw [e3] at h; cases h
        | true =>
          rw [e3, if_neg (by decide)] at h
          cases e4 : pr h' with
          | false => rw [e4] at h; cases h
          | true =>
            obtain ⟨a, b, rfl, _, _⟩ := pr_ok e4
            exact ⟨w, r, f, a, b, s, rfl, e4⟩
  · cases h
theorem isNon_toD_s {w : Str} : (toD (some w)).isNon = false := rfl
theorem isNon_s {w : Str} : (D.str w).isNon = false := rfl
theorem isNon_n : D.non.isNon = true := rfl
abbrev A11 : DS := sSeq (sSet 3 (dCall 14 [.v 2, .e (dIxV 0 (dC (.int 0)))])) (sIf (tCmpB fIsNot (dVar 3) (dC .non)) (sRet (dTup [(dVar 3), (dVar 1)])) sPass)
theorem A11_eq {C : Calls} {ρ : RX.Env} : A11 C ρ = sSeq (sSet 3 (dCall 14 [.v 2, .e (dIxV 0 (dC (.int 0)))])) (sIf (tCmpB fIsNot (dVar 3) (dC .non)) (sRet (dTup [(dVar 3), (dVar 1)])) sPass) C ρ := rfl
theorem ixh {x : D} {r : List D} : fIx (.tup (x :: r)) (.int 0) = some (.d x) := (ix_nat (l := x :: r) (i := 0) (x := x) rfl).1
def endW (ρ' : RX.Env) : Option (Str × Nat) → Out
  | none => .next ρ'
  | some (w, k) => .ret (.d (.tup [.str w, .int k])) ρ'
theorem loop11 {p : Nat} {c0 : D} {rest : List D} {c : D → Option Str} : ∀ (l : List D) (k : Nat) (s1 s2 s3 : Sl), NV s1 → NV s2 → NV s3 → (∀ x ∈ l, callN T p 14 [.d x, .d c0] = .ok (.d (toD (c x))) []) →
    ∃ ρ', forL (.t [1, 2]) A11 (callN T p) (enumL k l) [.val (.tup (c0 :: rest)), s1, s2, s3] = endW ρ' (wk c k l)
  | [], k, s1, s2, s3, _, _, _, _ => ⟨_, rfl⟩
  | x :: r, k, s1, s2, s3, h1, h2, h3, hC => by
    have st : (Tg.t [1, 2]).st [.val (.tup (c0 :: rest)), s1, s2, s3] (.tup [.int k, x]) = some [.val (.tup (c0 :: rest)), .val (.int k), .val x, s3] := by
      rcases h1 with rfl | ⟨d1, rfl⟩ <;> rcases h2 with rfl | ⟨d2, rfl⟩ <;> rfl
    have a := hC x List.mem_cons_self
    have en : enumL k (x :: r) = .tup [.int k, x] :: enumL (k + 1) r := rfl
    cases e : c x with
    | some w =>
      rw [e] at a
      have q : wk c k (x :: r) = some (w, k) := by unfold wk; rw [e]
      rw [q, en]
      refine ⟨[.val (.tup (c0 :: rest)), .val (.int k), .val x, .val (.str w)], ?_⟩
      rw [x_forC, st, stK_some]
      rw [toD_s] at a
      rcases h3 with rfl | ⟨d3, rfl⟩
      · simp_arith [A11_eq, ixh, a, isNon_s]
        rfl
      · simp_arith [A11_eq, ixh, a, isNon_s]
        rfl
    | none =>
      rw [e] at a
      have q : wk c k (x :: r) = wk c (k + 1) r := by conv => lhs; unfold wk; rw [e]
      rw [q, en]
      rw [toD_n] at a
      obtain ⟨ρ', ih⟩ := loop11 (p := p) (c0 := c0) (rest := rest) (c := c) r (k + 1) (.val (.int k)) (.val x) (.val .non) (.inr ⟨_, rfl⟩) (.inr ⟨_, rfl⟩) (.inr ⟨_, rfl⟩) fun y hy => hC y (List.mem_cons_of_mem _ hy)
      refine ⟨ρ', ?_⟩
      rw [x_forC, st, stK_some]
      rcases h3 with rfl | ⟨d3, rfl⟩
      · simp_arith [A11_eq, ixh, a, isNon_n, ih]
      · simp_arith [A11_eq, ixh, a, isNon_n, ih]
def toP : Option (Str × Int) → D
  | none => .non
  | some (w, k) => .tup [.str w, .int k]
theorem enum_ok {C : Calls} {ρ : RX.Env} {l : List D} (h : ρ[0]? = some (.val (.tup l))) : iEnum (dVar 0) C ρ = .ok (enumL 0 l) ρ := by
  unfold iEnum dVar
  rw [h]
  rfl
section
variable {n : Nat} {x : D}
theorem p_fault (hn : 6 ≤ n) (h : gd x = true) : callN T n 15 [.d x] = .ok (.d (toP (crt x))) [] := by
  obtain ⟨m, rfl, hm⟩ := up hn
  rw [callN_eq (d := d15) (np := 1) (ns := 4) rfl rfl]
  unfold d15
  have t := isi_tup (gd_plain h)
  cases e : isTp x with
  | false =>
    rw [e] at t
    have q : crt x = some (("shape" : Str), -1) := by cases x <;> first | rfl | cases e
    have q2 : toP (some (("shape" : Str), -1)) = .tup [.str "shape", .int (-1)] := rfl
    simp_arith [t, q, q2]
  | true =>
    rw [e] at t
    obtain ⟨l, rfl⟩ := isTp_ok e
    obtain ⟨hl, hg⟩ := gd_tup.mp h
    cases l with
    | nil =>
      have l0 : bLen [.tup []] = some (.d (.int 0)) := rfl
      have q : toP (crt (.tup [])) = .tup [.str "shape", .int (-1)] := rfl
      simp_arith [t, l0, q]
    | cons c0 r =>
      have ln : bLen [.tup (c0 :: r)] = some (.d (.int (c0 :: r).length)) := rfl
      have g0 := hg c0 List.mem_cons_self
      have a0 := p_case_fault_a (n := m) (by omega) g0
      have z0 : (((c0 :: r).length : Int) == 0) = false := beq_eq_false_iff_ne.mpr (by rw [List.length_cons]; omega)
      generalize hN : ((c0 :: r).length : Int) = N at *
      have st : (Tg.t [1, 2]).st [.val (.tup (c0 :: r)), .none, .none, .none] (.tup [.int (0 : Nat), c0]) = some [.val (.tup (c0 :: r)), .val (.int (0 : Nat)), .val c0, .none] := rfl
      have en := enum_ok (C := callN T m) (ρ := [.val (.tup (c0 :: r)), .none, .none, .none]) (l := c0 :: r) rfl
      have ee : enumL 0 (c0 :: r) = .tup [.int (0 : Nat), c0] :: enumL 1 r := rfl
      cases e0 : cf none c0 with
      | some w =>
        rw [e0, toD_s] at a0
        have q : toP (crt (.tup (c0 :: r))) = .tup [.str w, .int 0] := by rw [crt_s e0]; rfl
        have lp : forL (.t [1, 2]) A11 (callN T m) (enumL 0 (c0 :: r)) [.val (.tup (c0 :: r)), .none, .none, .none] = .ret (.d (.tup [.str w, .int (0 : Nat)])) [.val (.tup (c0 :: r)), .val (.int (0 : Nat)), .val c0, .val (.str w)] := by
          rw [ee, x_forC, st, stK_some]
          simp_arith [A11_eq, ixh, a0, isNon_s]
        unfold A11 at lp
        rw [q]
        simp_arith [t, ln, z0, en, lp]
        rfl
      | none =>
        rw [e0, toD_n] at a0
        obtain ⟨w, rr, f, fa, fb, s, rfl, hp⟩ := cf_good e0
        obtain ⟨ρ', ih⟩ := loop11 (p := m) (c0 := .tup [w, rr, f, .tup [.tup fa, .tup fb], s]) (rest := r) (c := cf (some (.tup [.tup fa, .tup fb]))) r 1 (.val (.int (0 : Nat))) (.val (.tup [w, rr, f, .tup [.tup fa, .tup fb], s])) (.val .non) (.inr ⟨_, rfl⟩) (.inr ⟨_, rfl⟩) (.inr ⟨_, rfl⟩)
          fun y hy => p_case_fault_b (by omega) (hg y (List.mem_cons_of_mem _ hy)) hp
        have lp : forL (.t [1, 2]) A11 (callN T m) (enumL 0 (.tup [w, rr, f, .tup [.tup fa, .tup fb], s] :: r)) [.val (.tup (.tup [w, rr, f, .tup [.tup fa, .tup fb], s] :: r)), .none, .none, .none] = endW ρ' (wk (cf (some (.tup [.tup fa, .tup fb]))) 1 r) := by
          rw [ee, x_forC, st, stK_some]
          simp_arith [A11_eq, ixh, a0, isNon_n, ih]
        have q : crt (.tup (.tup [w, rr, f, .tup [.tup fa, .tup fb], s] :: r)) = (wk (cf (some (.tup [.tup fa, .tup fb]))) 1 r).map fun p => (p.1, (p.2 : Int)) := crt_n e0
        rw [q]
        unfold A11 at lp
        cases ew : wk (cf (some (.tup [.tup fa, .tup fb]))) 1 r with
        | none =>
          rw [ew] at lp
          have lp := lp.trans (show endW ρ' none = .next ρ' from rfl)
          simp_arith [t, ln, z0, en, lp]
          rfl
        | some p =>
          obtain ⟨w2, k2⟩ := p
          rw [ew] at lp
          have lp := lp.trans (show endW ρ' (some (w2, k2)) = .ret (.d (.tup [.str w2, .int k2])) ρ' from rfl)
          simp_arith [t, ln, z0, en, lp]
          rfl
end
theorem crt_tp {x : D} (h : crt x = none) : ∃ c r, x = .tup (c :: r) := by
  cases x with
  | tup l =>
    cases l with
    | nil => cases h
    | cons c r => exact ⟨c, r, rfl⟩
  | _ => cases h
section
variable {n : Nat} {x : D}
theorem p_is_court (hn : 7 ≤ n) (h : gd x = true) : callN T n 16 [.d x] = .ok (.d (.bl (crt x).isNone)) [] := by
  obtain ⟨m, rfl, hm⟩ := up hn
  rw [callN_eq (d := d16) (np := 1) (ns := 1) rfl rfl]
  unfold d16
  have a := p_fault (n := m) (by omega) h
  cases e : crt x with
  | none =>
    rw [e, show toP none = .non from rfl] at a
    simp_arith [a]
    rfl
  | some p =>
    obtain ⟨w, k⟩ := p
    rw [e, show toP (some (w, k)) = .tup [.str w, .int k] from rfl] at a
    simp_arith [a]
    rfl
end
end K10
set_option Elab.async false
set_option linter.all false
set_option maxRecDepth 100000
set_option maxHeartbeats 4000000
namespace K10
open PySem RX RY MQ
/-! ### quotients compared -/
abbrev Qt := Int × Int
def qD (x : Qt) : D := .tup [.int x.1, .int x.2]
def lt2 (x y : Qt) : Bool := decide (x.1 * y.2 < y.1 * x.2)
structure Sq (x : Qt) : Prop where
  t : Sm 60 x.1
  b : Sm 60 x.2
  p : 0 < x.2
  q : isQ (qD x) = true
theorem q0 {x : Qt} : fIx (qD x) (.int 0) = some (.d (.int x.1)) := rfl
theorem q1 {x : Qt} : fIx (qD x) (.int 1) = some (.d (.int x.2)) := rfl
theorem gd_qD {x : Qt} : gd (qD x) = true := rfl
section
variable {n a b a' b' : Nat} {cs ds : List Cs} {x y z : D}
theorem ask_t (hn : 1 ≤ n) (y : D) : callN T n 9 [.d y, .d (.bl true)] = .ok (.d .non) [] := by
  obtain ⟨m, rfl, hm⟩ := up hn
  rw [callN_eq (d := d9) (np := 2) (ns := 2) rfl rfl]
  unfold d9
  simp_arith []
theorem p_ask_both (hn : 4 ≤ n) {u v : Qt} (hu : Sq u) (hv : Sq v) : callN T n 17 [.d (qD u), .d (qD v)] = .ok (.d .non) [] := by
  obtain ⟨m, rfl, hm⟩ := up hn
  rw [callN_eq (d := d17) (np := 2) (ns := 2) rfl rfl]
  unfold d17
  have k1 := p_is_quotient (n := m) (x := qD u) (by omega) gd_qD
  have k2 := p_is_quotient (n := m) (x := qD v) (by omega) gd_qD
  rw [hu.q] at k1
  rw [hv.q] at k2
  have a1 := ask_t (n := m) (by omega) (.str "one")
  have a2 := ask_t (n := m) (by omega) (.str "other")
  generalize qD u = U at *
  generalize qD v = V at *
  simp_arith [k1, k2, a1, a2]
theorem p_is_less (hn : 5 ≤ n) {u v : Qt} (hu : Sq u) (hv : Sq v) : callN T n 18 [.d (qD u), .d (qD v)] = .ok (.d (.bl (lt2 u v))) [] := by
  obtain ⟨m, rfl, hm⟩ := up hn
  rw [callN_eq (d := d18) (np := 2) (ns := 2) rfl rfl]
  unfold d18 lt2
  have k := p_ask_both (n := m) (by omega) hu hv
  have m1 := mk hu.t hv.b (by omega)
  have m2 := mk hv.t hu.b (by omega)
  simp_arith [k, q0, q1, m1, m2]
theorem l_less (hn : 1 ≤ n) {u v : Qt} (hu : Sq u) (hv : Sq v) : callN T n 30 [.d (qD u), .d (qD v)] = .ok (.d (.bl (lt2 u v))) [] := by
  obtain ⟨m, rfl, hm⟩ := up hn
  rw [callN_eq (d := d30) (np := 2) (ns := 2) rfl rfl]
  unfold d30 lt2
  have m1 := mk hu.t hv.b (by omega)
  have m2 := mk hv.t hu.b (by omega)
  simp_arith [q0, q1, m1, m2]
/-! ### the law's own quotients -/
theorem l_whole (hn : 1 ≤ n) (h : x.plain = true) : callN T n 27 [.d x] = .ok (.d (.bl (isI x))) [] := by
  obtain ⟨m, rfl, hm⟩ := up hn
  rw [callN_eq (d := d27) (np := 1) (ns := 1) rfl rfl]
  unfold d27
  cases x with
  | int i => simp_arith [bIsi, isT, isI]
  | bl b => simp_arith [bIsi, isT, isI]
  | non => simp_arith [bIsi, isT, isI]
  | str s => simp_arith [bIsi, isT, isI]
  | tup l => simp_arith [bIsi, isT, isI]
  | lst l => simp_arith [bIsi, isT, isI]
  | _ => cases h
abbrev gT : TD := tCmpB fNe (dVar 1) (dC (.int 0))
abbrev gB : DS := sSeq (sSet 2 (dOp fMod (dB1 bInt 0) (dVar 1))) (sSeq (sSet 0 (dVar 1)) (sSet 1 (dVar 2)))
theorem gcd_loop (C : Calls) : ∀ (b a : Nat) (s : Sl), NV s → ∃ (n : Nat) (s' : Sl), whileL gT gB C n [.val (.int a), .val (.int b), s] = .next [.val (.int (Nat.gcd a b)), .val (.int 0), s'] := by
  intro b
  induction b using Nat.strongRecOn with
  | ind b ih =>
    intro a s hs
    rcases Nat.eq_zero_or_pos b with rfl | hb
    · refine ⟨1, s, ?_⟩
      show (gT C _).out _ = _
      rw [show gT C [.val (.int (a : Int)), .val (.int ((0 : Nat) : Int)), s] = .ok false [.val (.int a), .val (.int 0), s] from rfl]
      show Out.next _ = _
      rw [Nat.gcd_zero_right]
    · obtain ⟨n, s', e⟩ := ih (a % b) (Nat.mod_lt a hb) b (.val (.int ((a % b : Nat) : Int))) (.inr ⟨_, rfl⟩)
      refine ⟨n + 1, s', ?_⟩
      have e0 : ((b : Int) == 0) = false := beq_eq_false_iff_ne.mpr (by omega)
      have h1 : gT C [.val (.int (a : Int)), .val (.int (b : Int)), s] = .ok true [.val (.int a), .val (.int b), s] := by
        simp_arith [e0]
      have hm : (a : Int).fmod b = ((a % b : Nat) : Int) := by
        rw [Int.fmod_eq_emod_of_nonneg _ (by omega)]
        exact (Int.natCast_emod a b).symm
      have h2 : gB C [.val (.int (a : Int)), .val (.int (b : Int)), s] = .next [.val (.int b), .val (.int ((a % b : Nat) : Int)), .val (.int ((a % b : Nat) : Int))] := by
        have hb' : (b : Int) ≠ 0 := by omega
        rcases hs with rfl | ⟨d, rfl⟩ <;> simp_arith [bInt_i, hb', hm]
      unfold whileL
      rw [h1]
      show (match gB C [.val (.int (a : Int)), .val (.int (b : Int)), s] with
        | .next ρ2 => whileL gT gB C n ρ2
        | .cont ρ2 => whileL gT gB C n ρ2
        | .brk ρ2 => .next ρ2
        | .ret r ρ2 => .ret r ρ2
        | .exc c fs ρ2 => .exc c fs ρ2
        | .stuck => .stuck) = _
      rw [h2]
      show whileL gT gB C n [.val (.int b), .val (.int ((a % b : Nat) : Int)), .val (.int ((a % b : Nat) : Int))] = _
      rw [e, Nat.gcd_comm a b, Nat.gcd_rec b a, Nat.gcd_comm (a % b) b]
theorem l_common (hn : 1 ≤ n) (a b : Nat) : callN T n 28 [.d (.int a), .d (.int b)] = .ok (.d (.int (Nat.gcd a b))) [] := by
  obtain ⟨m, rfl, hm⟩ := up hn
  rw [callN_eq (d := d28) (np := 2) (ns := 3) rfl rfl]
  unfold d28
  obtain ⟨k, s', e⟩ := gcd_loop (callN T m) b a .none (.inl rfl)
  have w := sWhile_eq e (fun z => nomatch z)
  simp_arith [w]
theorem l_quotient (hn : 2 ≤ n) (h : gd x = true) : callN T n 29 [.d x] = .ok (.d (.bl (isQ x))) [] := by
  obtain ⟨m, rfl, hm⟩ := up hn
  rw [callN_eq (d := d29) (np := 1) (ns := 1) rfl rfl]
  unfold d29
  have t := isi_tup (gd_plain h)
  cases e : isTp x with
  | false =>
    rw [e] at t
    have q : isQ x = false := by
      unfold isQ
      split
      · cases e
      · rfl
    simp_arith [t, q]
  | true =>
    rw [e] at t
    obtain ⟨l, rfl⟩ := isTp_ok e
    by_cases hl : l.length = 2
    · obtain ⟨u, v, rfl⟩ := len2 hl
      obtain ⟨_, hg⟩ := gd_tup.mp h
      have ku := l_whole (n := m) (x := u) (by omega) (gd_plain (hg u (by simp)))
      have kv := l_whole (n := m) (x := v) (by omega) (gd_plain (hg v (by simp)))
      have ne : fNe (.int 2) (.int 2) = some (.d (.bl false)) := rfl
      cases eu : isI u with
      | false =>
        rw [eu] at ku
        have q := isQ_no (b := v) (.inl eu)
        simp_arith [t, bl2, ne, cq0, ku, q]
      | true =>
        rw [eu] at ku
        cases ev' : isI v with
        | false =>
          rw [ev'] at kv
          have nn : isNn v = false := by cases v <;> first | rfl | cases ev'
          have q := isQ_no (a := u) (.inr nn)
          simp_arith [t, bl2, ne, cq0, cq1, ku, kv, q]
        | true =>
          rw [ev'] at kv
          obtain ⟨i, rfl⟩ := isI_ok eu
          obtain ⟨j, rfl⟩ := isI_ok ev'
          by_cases hj : 1 ≤ j
          · obtain ⟨k, rfl⟩ : ∃ k : Nat, j = (k : Int) := ⟨j.toNat, (Int.toNat_of_nonneg (by omega)).symm⟩
            have kc := l_common (n := m) (by omega) i.natAbs k
            have e1 : decide ((1 : Int) ≤ (k : Int)) = true := decide_eq_true hj
            have q : isQ (.tup [.int i, .int (k : Int)]) = (((Nat.gcd i.natAbs k : Nat) : Int) == 1) := by
              show (decide (0 < (k : Int)) && (Nat.gcd i.natAbs (k : Int).natAbs == 1)) = _
              rw [decide_eq_true (by omega), Bool.true_and, Int.natAbs_natCast]
              by_cases g : Nat.gcd i.natAbs k = 1
              · rw [g]; rfl
              · rw [beq_eq_false_iff_ne.mpr g, beq_eq_false_iff_ne.mpr (by omega)]
            simp_arith [t, bl2, ne, cq0, cq1, ku, kv, e1, absI, kc, q]
          · have e1 : decide ((1 : Int) ≤ j) = false := decide_eq_false hj
            have q : isQ (.tup [.int i, .int j]) = false := by
              show (decide (0 < j) && _) = false
              rw [decide_eq_false (by omega)]
              rfl
            simp_arith [t, bl2, ne, cq0, cq1, ku, kv, e1, q]
    · have q := isQ_len hl
      have k := len_ne hl
      simp_arith [t, lenT, q, k]
/-! ### pairs of unlike numbers -/
def unl (L : Nat) : D → D → Bool
  | .int i, .int j => decide (0 ≤ i) && decide (i < (L : Int)) && (decide (0 ≤ j) && decide (j < (L : Int))) && !(i == j)
  | _, _ => false
theorem unl_ok {L : Nat} (h : unl L x y = true) : ∃ i j : Nat, x = .int (i : Int) ∧ y = .int (j : Int) ∧ i < L ∧ j < L ∧ i ≠ j := by
  cases x with
  | int i =>
    cases y with
    | int j =>
      have h : (decide (0 ≤ i) && decide (i < (L : Int)) && (decide (0 ≤ j) && decide (j < (L : Int))) && !(i == j)) = true := h
      simp only [Bool.and_eq_true, decide_eq_true_iff, Bool.not_eq_true', beq_eq_false_iff_ne] at h
      obtain ⟨⟨⟨h1, h2⟩, h3, h4⟩, h5⟩ := h
      exact ⟨i.toNat, j.toNat, by rw [Int.toNat_of_nonneg h1], by rw [Int.toNat_of_nonneg h3], by omega, by omega, by omega⟩
    | _ => cases h
  | _ => cases h
theorem unl_nat {L i j : Nat} (hi : i < L) (hj : j < L) (h : i ≠ j) : unl L (.int (i : Int)) (.int (j : Int)) = true := by
  show (decide (0 ≤ (i : Int)) && decide ((i : Int) < (L : Int)) && (decide (0 ≤ (j : Int)) && decide ((j : Int) < (L : Int))) && !((i : Int) == (j : Int))) = true
  rw [decide_eq_true (by omega), decide_eq_true (by omega), decide_eq_true (by omega), decide_eq_true (by omega), beq_eq_false_iff_ne.mpr (by omega)]
  rfl
theorem p_is_unlike_pair (hn : 3 ≤ n) {L : Nat} (hx : x.plain = true) (hy : y.plain = true) : callN T n 4 [.d (.int (L : Int)), .d (.tup [x, y])] = .ok (.d (.bl (unl L x y))) [] := by
  obtain ⟨m, rfl, hm⟩ := up hn
  rw [callN_eq (d := d4) (np := 2) (ns := 4) rfl rfl]
  unfold d4
  have kx := p_is_number (n := m) (by omega) hx
  have ky := p_is_number (n := m) (by omega) hy
  have ti : bIsi .tuple [.tup [x, y]] = some (.d (.bl true)) := rfl
  have ne : fNe (.int 2) (.int 2) = some (.d (.bl false)) := rfl
  cases ex : isNn x with
  | false =>
    rw [ex] at kx
    have q : unl L x y = false := by
      cases x with
      | int i =>
        have : ¬ 0 ≤ i := of_decide_eq_false ex
        cases y with
        | int j =>
          show (decide (0 ≤ i) && decide (i < (L : Int)) && (decide (0 ≤ j) && decide (j < (L : Int))) && !(i == j)) = false
          rw [decide_eq_false this]
          rfl
        | _ => rfl
      | _ => rfl
    rw [q]
    simp_arith [ti, bl2, ne, kx]
  | true =>
    rw [ex] at kx
    obtain ⟨i, rfl, hi⟩ := isNn_ok ex
    cases ey : isNn y with
    | false =>
      rw [ey] at ky
      have q : unl L (.int i) y = false := by
        cases y with
        | int j =>
          have : ¬ 0 ≤ j := of_decide_eq_false ey
          show (decide (0 ≤ i) && decide (i < (L : Int)) && (decide (0 ≤ j) && decide (j < (L : Int))) && !(i == j)) = false
          rw [decide_eq_false this, Bool.false_and, Bool.and_false]
          rfl
        | _ => rfl
      rw [q]
      simp_arith [ti, bl2, ne, kx, ky]
    | true =>
      rw [ey] at ky
      obtain ⟨j, rfl, hj⟩ := isNn_ok ey
      have q : unl L (.int i) (.int j) = (decide (i < (L : Int)) && (decide (j < (L : Int)) && !(i == j))) := by
        show (decide (0 ≤ i) && decide (i < (L : Int)) && (decide (0 ≤ j) && decide (j < (L : Int))) && !(i == j)) = _
        rw [decide_eq_true hi, decide_eq_true hj, Bool.true_and, Bool.true_and, Bool.and_assoc]
      have nf : fNe (.int i) (.int j) = some (.d (.bl (!(i == j)))) := rfl
      rw [q]
      cases e1 : decide (i < (L : Int)) with
      | false => simp_arith [ti, bl2, ne, kx, ky, e1]
      | true =>
        cases e2 : decide (j < (L : Int)) with
        | false => simp_arith [ti, bl2, ne, kx, ky, e1, e2]
        | true => simp_arith [ti, bl2, ne, kx, ky, e1, e2, nf]
/-! ### the other court -/
def nO (L : Nat) (x : D) : Bool := (crt x).isNone && (lenD x).eqv (.int (L : Int))
theorem p_need_other (hn : 8 ≤ n) (h : gd x = true) : callN T n 19 [.d (bk cs), .d x] = if nO cs.length x = true then .ok (.d .non) [] else .exc 0 (err "other") := by
  obtain ⟨m, rfl, hm⟩ := up hn
  rw [callN_eq (d := d19) (np := 2) (ns := 2) rfl rfl]
  unfold d19 nO err
  have k := p_is_court (n := m) (by omega) h
  have bl := bk_len (cs := cs)
  generalize bk cs = B at *
  cases e : crt x with
  | some wk =>
    rw [e] at k
    have k : callN T m 16 [.d x] = .ok (.d (.bl false)) [] := k
    rw [if_neg (by rw [show (some wk).isNone = false from rfl, Bool.false_and]; exact Bool.false_ne_true)]
    simp_arith [k, List.zip_cons_cons, List.zip_nil_left, List.zip_nil_right]
  | none =>
    rw [e] at k
    have k : callN T m 16 [.d x] = .ok (.d (.bl true)) [] := k
    obtain ⟨c, r, rfl⟩ := crt_tp e
    have lx : bLen [.tup (c :: r)] = some (.d (.int ((c :: r).length : Int))) := rfl
    have le : lenD (.tup (c :: r)) = .int ((c :: r).length : Int) := rfl
    have q : ((none : Option (Str × Int)).isNone && (lenD (.tup (c :: r))).eqv (.int (cs.length : Int))) = (((c :: r).length : Int) == (cs.length : Int)) := rfl
    rw [q]
    generalize D.tup (c :: r) = X at *
    generalize ((c :: r).length : Int) = N at *
    cases e2 : N == (cs.length : Int) with
    | true => rw [if_pos rfl]; simp_arith [k, bl, lx, e2]
    | false => rw [if_neg Bool.false_ne_true]; simp_arith [k, bl, lx, e2, List.zip_cons_cons, List.zip_nil_left, List.zip_nil_right]
end
end K10
set_option Elab.async false
set_option linter.all false
set_option maxRecDepth 100000
set_option maxHeartbeats 4000000
namespace K10
open PySem RX RY MQ
/-! ### what rises, where two orders differ -/
def hb (cs : List Cs) (i j : Nat) : Bool := hidB cs (.int (i : Int)) (.int (j : Int))
/-- some pair of the order falls -/
def fls (cs : List Cs) (vs : List Qt) : Bool := (rg cs).any fun x => (rg cs).any fun y => hidB cs x y && lt2 (vs.getD (dn x) (0, 1)) (vs.getD (dn y) (0, 1))
def so (cs ds : List Cs) : Bool := (rg cs).all fun x => (rg cs).all fun y => hidB cs x y == hidB ds x y
def vsD (vs : List Qt) : D := .tup (vs.map qD)
section
variable {n a b a' b' : Nat} {cs ds : List Cs} {x y z : D}
theorem vs_ix {vs : List Qt} {k : Nat} (h : k < vs.length) : fIx (vsD vs) (.int (k : Int)) = some (.d (qD (vs.getD k (0, 1)))) := by
  have hx : (vs.map qD)[k]? = some (qD (vs.getD k (0, 1))) := by
    rw [List.getElem?_map, List.getD_eq_getElem?_getD, List.getElem?_eq_getElem h]
    rfl
  exact (ix_nat hx).1
theorem vs_sq {vs : List Qt} (hv : ∀ v ∈ vs, Sq v) {k : Nat} (h : k < vs.length) : Sq (vs.getD k (0, 1)) := by
  rw [List.getD_eq_getElem?_getD, List.getElem?_eq_getElem h]
  exact hv _ (List.getElem_mem h)
abbrev A20i : DS := (sIf (tAnd (tE (dOp fIx (dIxV 0 (dVar 3)) (dVar 4))) (tE (dCall 18 [.e (dIxV 1 (dVar 3)), .e (dIxV 1 (dVar 4))]))) (sRet (dC (.bl false))) sPass)
abbrev A20 : DS := (sFor (.v 4) (iR1 (dVar 2)) A20i)
theorem loop20 {m : Nat} (hm : 5 ≤ m) (o : Ok a b cs) {vs : List Qt} (hl : vs.length = cs.length) (hv : ∀ v ∈ vs, Sq v) : ∀ (l : List D) (s3 s4 : Sl), NV s3 → NV s4 → (∀ x ∈ l, x ∈ rg cs) → ∃ s3' s4', NV s3' ∧ NV s4' ∧ forL (.v 3) A20 (callN T m) l [.val (.lst (rows cs)), .val (vsD vs), .val (.int (cs.length : Int)), s3, s4] = if (l.any fun x => (rg cs).any fun y => hidB cs x y && lt2 (vs.getD (dn x) (0, 1)) (vs.getD (dn y) (0, 1))) = true then .ret (.d (.bl false)) [.val (.lst (rows cs)), .val (vsD vs), .val (.int (cs.length : Int)), s3', s4'] else .next [.val (.lst (rows cs)), .val (vsD vs), .val (.int (cs.length : Int)), s3', s4']
  | [], s3, s4, h3, h4, _ => ⟨s3, s4, h3, h4, rfl⟩
  | x :: l, s3, s4, h3, h4, hx => by
    obtain ⟨i, rfl, hi⟩ := mem_rng (hx x List.mem_cons_self)
    have on := o.n
    have bd : -16777216 < (cs.length : Int) ∧ (cs.length : Int) < 16777216 := by omega
    obtain ⟨s4', h4', lp⟩ := for_ret (C := callN T m) (i := 4) (A := A20i) (r := .bl false) (fun s => [.val (.lst (rows cs)), .val (vsD vs), .val (.int (cs.length : Int)), .val (.int (i : Int)), s]) (fun s x hs => st_nv1 hs rfl) (fun y => hidB cs (.int (i : Int)) y && lt2 (vs.getD (dn (.int (i : Int))) (0, 1)) (vs.getD (dn y) (0, 1))) (rg cs) s4 h4 fun y hy => by
      obtain ⟨j, rfl, hj⟩ := mem_rng hy
      have r1 := rows_ix (cs := cs) hi
      have r2 := row_ix (cs := cs) (i := i) hj
      have x1 := vs_ix (vs := vs) (k := i) (by omega)
      have x2 := vs_ix (vs := vs) (k := j) (by omega)
      have k := p_is_less (n := m) hm (vs_sq hv (k := i) (by omega)) (vs_sq hv (k := j) (by omega))
      rw [dn_nat, dn_nat]
      generalize (rg cs).map (fun y => D.bl (hidB cs (.int (i : Int)) y)) = RR at *
      generalize rows cs = R at *
      generalize vsD vs = VV at *
      generalize qD (vs.getD i (0, 1)) = v1 at *
      generalize qD (vs.getD j (0, 1)) = v2 at *
      generalize lt2 (vs.getD i (0, 1)) (vs.getD j (0, 1)) = lt at *
      cases e : hidB cs (.int (i : Int)) (.int (j : Int)) with
      | false => rw [e] at r2; rw [if_neg (by rw [Bool.false_and]; decide)]; simp_arith [r1, r2]
      | true =>
        rw [e] at r2
        cases lt with
        | false => rw [if_neg (by decide)]; simp_arith [r1, r2, x1, x2, k]
        | true => rw [if_pos (by decide)]; simp_arith [r1, r2, x1, x2, k]
    have step : A20 (callN T m) [.val (.lst (rows cs)), .val (vsD vs), .val (.int (cs.length : Int)), .val (.int (i : Int)), s4] = forL (.v 4) A20i (callN T m) (rg cs) [.val (.lst (rows cs)), .val (vsD vs), .val (.int (cs.length : Int)), .val (.int (i : Int)), s4] := by
      generalize rows cs = R at *
      generalize vsD vs = VV at *
      unfold A20
      simp_arith [asI, bd]
    rw [x_forC, st_nv1 h3 rfl, stK_some]
    show ∃ s3' s4', NV s3' ∧ NV s4' ∧ turnO _ _ (A20 (callN T m) [.val (.lst (rows cs)), .val (vsD vs), .val (.int (cs.length : Int)), .val (.int (i : Int)), s4]) = _
    rw [step, lp, List.any_cons]
    cases e : (rg cs).any fun y => hidB cs (.int (i : Int)) y && lt2 (vs.getD (dn (.int (i : Int))) (0, 1)) (vs.getD (dn y) (0, 1)) with
    | true => exact ⟨_, _, .inr ⟨_, rfl⟩, h4', rfl⟩
    | false =>
      obtain ⟨s3', s4'', h3', h4'', ih⟩ := loop20 hm o hl hv l (.val (.int (i : Int))) s4' (.inr ⟨_, rfl⟩) h4' fun y hy => hx y (List.mem_cons_of_mem _ hy)
      refine ⟨s3', s4'', h3', h4'', ?_⟩
      rw [if_neg Bool.false_ne_true, turn_next, Bool.false_or]
      exact ih
theorem p_rises_by (hn : 6 ≤ n) (o : Ok a b cs) {vs : List Qt} (hl : vs.length = cs.length) (hv : ∀ v ∈ vs, Sq v) : callN T n 20 [.d (.lst (rows cs)), .d (vsD vs)] = .ok (.d (.bl (!fls cs vs))) [] := by
  obtain ⟨m, rfl, hm⟩ := up hn
  rw [callN_eq (d := d20) (np := 2) (ns := 5) rfl rfl]
  unfold d20
  have on := o.n
  have bd : -16777216 < (cs.length : Int) ∧ (cs.length : Int) < 16777216 := by omega
  have ln : bLen [.lst (rows cs)] = some (.d (.int (cs.length : Int))) := by
    rw [lenL]
    unfold rows
    rw [List.length_map, rng_len']
  obtain ⟨s3, s4, _, _, lp⟩ := loop20 (m := m) hm o hl hv (rg cs) .none .none (.inl rfl) (.inl rfl) fun _ h => h
  have ef : ((rg cs).any fun x => (rg cs).any fun y => hidB cs x y && lt2 (vs.getD (dn x) (0, 1)) (vs.getD (dn y) (0, 1))) = fls cs vs := rfl
  rw [ef] at lp
  unfold A20 A20i at lp
  generalize rows cs = R at *
  generalize vsD vs = VV at *
  cases e : fls cs vs with
  | true =>
    rw [e, if_pos rfl] at lp
    simp_arith [ln, asI, bd, lp]
  | false =>
    rw [e, if_neg Bool.false_ne_true] at lp
    simp_arith [ln, asI, bd, lp]
/-! ### two orders compared -/
theorem eqvL_map {f g : D → D} : ∀ l : List D, eqvL (l.map f) (l.map g) = l.all fun x => (f x).eqv (g x)
  | [] => rfl
  | x :: l => by
    show ((f x).eqv (g x) && eqvL (l.map f) (l.map g)) = _
    rw [eqvL_map l, List.all_cons]
theorem rows_plain {cs : List Cs} : D.plain (.lst (rows cs)) = true := plainL_all fun y hy => by
  obtain ⟨x, _, rfl⟩ := List.mem_map.mp hy
  exact plainL_all fun z hz => by obtain ⟨_, _, rfl⟩ := List.mem_map.mp hz; rfl
theorem rows_dep {cs : List Cs} : (D.lst (rows cs)).dep ≤ 2 := by
  show depL (rows cs) + 1 ≤ 2
  have : depL (rows cs) ≤ 1 := depL_all fun y hy => by
    obtain ⟨x, _, rfl⟩ := List.mem_map.mp hy
    show depL _ + 1 ≤ 1
    have : depL ((rg cs).map fun z => D.bl (hidB cs x z)) ≤ 0 := depL_all fun z hz => by obtain ⟨_, _, rfl⟩ := List.mem_map.mp hz; exact Nat.le_refl _
    omega
  omega
theorem rows_eq (h : ds.length = cs.length) : fEq (.lst (rows cs)) (.lst (rows ds)) = some (.d (.bl (so cs ds))) := by
  have ok : cmpOk (.lst (rows cs)) (.lst (rows ds)) = true := by
    unfold cmpOk
    rw [rows_plain, rows_plain, decide_eq_true (by have := rows_dep (cs := cs); omega)]
    rfl
  show (if cmpOk (.lst (rows cs)) (.lst (rows ds)) = true then some (Ex.d (.bl (eqvL (rows cs) (rows ds)))) else none) = _
  rw [if_pos ok]
  have e : eqvL (rows cs) (rows ds) = so cs ds := by
    have er : rg ds = rg cs := by unfold rg; rw [h]
    unfold rows so
    rw [er, eqvL_map]
    congr 1
    funext x
    show eqvL _ _ = _
    rw [eqvL_map]
    rfl
  rw [e]
theorem p_same_order (hn : 9 ≤ n) (o : Ok a b cs) (o' : Ok a' b' ds) (hl : ds.length = cs.length) (hg : gd (bk ds) = true) (hc : nO cs.length (bk ds) = true) : callN T n 21 [.d (bk cs), .d (bk ds)] = .ok (.d (.bl (so cs ds))) [] := by
  obtain ⟨m, rfl, hm⟩ := up hn
  rw [callN_eq (d := d21) (np := 2) (ns := 2) rfl rfl]
  unfold d21
  have k := p_need_other (n := m) (cs := cs) (by omega) hg
  rw [if_pos hc] at k
  have k1 := p_hiding_rows (n := m) (by omega) o
  have k2 := p_hiding_rows (n := m) (by omega) o'
  have re := rows_eq hl
  generalize rows cs = R at *
  generalize rows ds = R' at *
  generalize bk cs = B at *
  generalize bk ds = B' at *
  simp_arith [k, k1, k2, re]
/-- refused for the other court -/
theorem p_same_order_x (hn : 9 ≤ n) (h : gd x = true) (hc : nO cs.length x = false) : callN T n 21 [.d (bk cs), .d x] = .exc 0 (err "other") := by
  obtain ⟨m, rfl, hm⟩ := up hn
  rw [callN_eq (d := d21) (np := 2) (ns := 2) rfl rfl]
  unfold d21
  have k := p_need_other (n := m) (cs := cs) (by omega) h
  rw [if_neg (by rw [hc]; exact Bool.false_ne_true)] at k
  generalize bk cs = B at *
  simp_arith [k]
theorem p_parting_x (hn : 9 ≤ n) (h : gd x = true) (hc : nO cs.length x = false) : callN T n 22 [.d (bk cs), .d x] = .exc 0 (err "other") := by
  obtain ⟨m, rfl, hm⟩ := up hn
  rw [callN_eq (d := d22) (np := 2) (ns := 10) rfl rfl]
  unfold d22
  have k := p_need_other (n := m) (cs := cs) (by omega) h
  rw [if_neg (by rw [hc]; exact Bool.false_ne_true)] at k
  generalize bk cs = B at *
  simp_arith [k]
theorem p_lets_parting_x (hn : 9 ≤ n) (h : gd x = true) (hc : nO cs.length x = false) (z : D) : callN T n 23 [.d (bk cs), .d x, .d z] = .exc 0 (err "other") := by
  obtain ⟨m, rfl, hm⟩ := up hn
  rw [callN_eq (d := d23) (np := 3) (ns := 10) rfl rfl]
  unfold d23
  have k := p_need_other (n := m) (cs := cs) (by omega) h
  rw [if_neg (by rw [hc]; exact Bool.false_ne_true)] at k
  generalize bk cs = B at *
  simp_arith [k]
end
end K10
set_option Elab.async false
set_option linter.all false
set_option maxRecDepth 100000
set_option maxHeartbeats 4000000
namespace K10
open PySem RX RY MQ
/-! ### parting -/
/-- the order that lacks the pair -/
def lack (cs ds : List Cs) (i j : Nat) : List Cs := if hb cs i j = true then ds else cs
def pm (ls : List Cs) (L j : Nat) : List Qt := (List.range L).map fun k => if hb ls k j = true then (1, 1) else (0, 1)
def pD (cs ds : List Cs) (i j : Nat) : D := .tup [.int (i : Int), .int (j : Int), vsD (pm (lack cs ds i j) cs.length j)]
section
variable {n a b a' b' : Nat} {cs ds : List Cs} {x y z : D}
abbrev V22 (B B' : D) (cs ds : List Cs) (s5 s6 : Sl) : RX.Env := [.val B, .val B', .own (rows cs), .own (rows ds), .val (.int (cs.length : Int)), s5, s6, .none, .none, .none]
abbrev A22i : DS := (sIf (tCmpB fNe (dOp fIx (dIxV 2 (dVar 5)) (dVar 6)) (dOp fIx (dIxV 3 (dVar 5)) (dVar 6))) (sSeq (sSet 7 (dIf (tE (dOp fIx (dIxV 2 (dVar 5)) (dVar 6))) (dVar 3) (dVar 2))) (sSeq (sSet 8 (dB bTup [(dComp [9] (iR1 (dVar 4)) (.v 9) (tests []) (dIf (tE (dOp fIx (dIxV 7 (dVar 9)) (dVar 6))) (dTup [(dC (.int 1)), (dC (.int 1))]) (dTup [(dC (.int 0)), (dC (.int 1))])))])) (sRet (dTup [(dVar 5), (dVar 6), (dVar 8)])))) sPass)
theorem comp22 {m : Nat} {B B' : D} {ls : List Cs} {L : Nat} (h1 : ls.length = L) (h8 : L ≤ 8) {j : Nat} (hj : j < L) {s2 s3 s5 s8 : Sl} : dComp [9] (iR1 (dVar 4)) (.v 9) (tests []) (dIf (tE (dOp fIx (dIxV 7 (dVar 9)) (dVar 6))) (dTup [(dC (.int 1)), (dC (.int 1))]) (dTup [(dC (.int 0)), (dC (.int 1))])) (callN T m) [.val B, .val B', s2, s3, .val (.int (L : Int)), s5, .val (.int (j : Int)), .val (.lst (rows ls)), s8, .none] = .ok (.fresh ((pm ls L j).map qD)) [.val B, .val B', s2, s3, .val (.int (L : Int)), s5, .val (.int (j : Int)), .val (.lst (rows ls)), s8, .none] := by
  have bd : -16777216 < (L : Int) ∧ (L : Int) < 16777216 := by omega
  have c := comp_e (C := callN T m) (ρ := [.val B, .val B', s2, s3, .val (.int (L : Int)), s5, .val (.int (j : Int)), .val (.lst (rows ls)), s8, .none]) (it := iR1 (dVar 4)) (i := 9) (l := rng 0 (L : Int)) (elt := dIf (tE (dOp fIx (dIxV 7 (dVar 9)) (dVar 6))) (dTup [(dC (.int 1)), (dC (.int 1))]) (dTup [(dC (.int 0)), (dC (.int 1))])) (g := fun x => qD (if hb ls (dn x) j = true then (1, 1) else (0, 1))) (s := .none) (by simp_arith [asI, bd]) rfl (.inl rfl) (by rw [rng_len']; omega) fun x hx => by
    obtain ⟨k, rfl, hk⟩ := mem_rng hx
    have r1 := rows_ix (cs := ls) (i := k) (by omega)
    have r2 := row_ix (cs := ls) (i := k) (j := j) (by omega)
    rw [dn_nat]
    unfold hb
    generalize (rg ls).map (fun y => D.bl (hidB ls (.int (k : Int)) y)) = RR at *
    generalize rows ls = R at *
    cases e : hidB ls (.int (k : Int)) (.int (j : Int)) with
    | false =>
      rw [e] at r2
      have q : qD (if false = true then (1, 1) else (0, 1)) = .tup [.int 0, .int 1] := rfl
      rw [q]
      simp_arith [r1, r2]
    | true =>
      rw [e] at r2
      have q : qD (if true = true then (1, 1) else (0, 1)) = .tup [.int 1, .int 1] := rfl
      rw [q]
      simp_arith [r1, r2]
  have e : (rng 0 (L : Int)).map (fun x => qD (if hb ls (dn x) j = true then (1, 1) else (0, 1))) = (pm ls L j).map qD := by
    unfold pm
    rw [rng_nat, List.map_map, List.map_map]
    apply List.map_congr_left
    intro k _
    show qD (if hb ls (dn (.int (k : Int))) j = true then (1, 1) else (0, 1)) = _
    rw [dn_nat]
    rfl
  rw [e] at c
  exact c
theorem inner22 {m : Nat} (on : cs.length ≤ 8) (hl : ds.length = cs.length) {B B' : D} {i : Nat} (hi : i < cs.length) : ∀ (l : List D) (s6 : Sl), NV s6 → (∀ y ∈ l, y ∈ rg cs) →
    ((l.all fun y => hidB cs (.int (i : Int)) y == hidB ds (.int (i : Int)) y) = true ∧ ∃ s6', NV s6' ∧ forL (.v 6) A22i (callN T m) l (V22 B B' cs ds (.val (.int (i : Int))) s6) = .next (V22 B B' cs ds (.val (.int (i : Int))) s6')) ∨
    ((l.all fun y => hidB cs (.int (i : Int)) y == hidB ds (.int (i : Int)) y) = false ∧ ∃ (j : Nat) (ρ' : RX.Env), j < cs.length ∧ hb cs i j ≠ hb ds i j ∧ forL (.v 6) A22i (callN T m) l (V22 B B' cs ds (.val (.int (i : Int))) s6) = .ret (.d (pD cs ds i j)) ρ')
  | [], s6, h6, _ => .inl ⟨rfl, s6, h6, rfl⟩
  | y :: l, s6, h6, hy => by
    obtain ⟨j, rfl, hj⟩ := mem_rng (hy y List.mem_cons_self)
    have r1 := rows_ix (cs := cs) hi
    have r2 := row_ix (cs := cs) (i := i) hj
    have t1 := rows_ix (cs := ds) (i := i) (by omega)
    have t2 := row_ix (cs := ds) (i := i) (j := j) (by omega)
    rw [x_forC, st_nv1 h6 rfl, stK_some, List.all_cons]
    show _ ∨ (_ ∧ ∃ (j' : Nat) (ρ' : RX.Env), _ ∧ _ ∧ turnO _ _ (A22i (callN T m) (V22 B B' cs ds (.val (.int (i : Int))) (.val (.int (j : Int))))) = _)
    show (_ ∧ ∃ s6', _ ∧ turnO _ _ (A22i (callN T m) (V22 B B' cs ds (.val (.int (i : Int))) (.val (.int (j : Int))))) = _) ∨ _
    have nq : fNe (.bl (hidB cs (.int (i : Int)) (.int (j : Int)))) (.bl (hidB ds (.int (i : Int)) (.int (j : Int)))) = some (.d (.bl (!(hidB cs (.int (i : Int)) (.int (j : Int)) == hidB ds (.int (i : Int)) (.int (j : Int)))))) := rfl
    cases e : hidB cs (.int (i : Int)) (.int (j : Int)) == hidB ds (.int (i : Int)) (.int (j : Int)) with
    | true =>
      rw [e] at nq
      have nq : fNe (.bl (hidB cs (.int (i : Int)) (.int (j : Int)))) (.bl (hidB ds (.int (i : Int)) (.int (j : Int)))) = some (.d (.bl false)) := nq
      have step : A22i (callN T m) (V22 B B' cs ds (.val (.int (i : Int))) (.val (.int (j : Int)))) = .next (V22 B B' cs ds (.val (.int (i : Int))) (.val (.int (j : Int)))) := by
        unfold V22
        generalize (rg cs).map (fun y => D.bl (hidB cs (.int (i : Int)) y)) = RR at *
        generalize (rg ds).map (fun y => D.bl (hidB ds (.int (i : Int)) y)) = RR' at *
        generalize rows cs = R at *
        generalize rows ds = R' at *
        simp_arith [r1, r2, t1, t2, nq]
      rw [step, turn_next, Bool.true_and]
      exact inner22 on hl hi l (.val (.int (j : Int))) (.inr ⟨_, rfl⟩) fun z hz => hy z (List.mem_cons_of_mem _ hz)
    | false =>
      rw [e] at nq
      have nq : fNe (.bl (hidB cs (.int (i : Int)) (.int (j : Int)))) (.bl (hidB ds (.int (i : Int)) (.int (j : Int)))) = some (.d (.bl true)) := nq
      have e' : hb cs i j ≠ hb ds i j := beq_eq_false_iff_ne.mp e
      refine .inr ⟨by rw [Bool.false_and], j, ?_⟩
      have bt : bTup [.lst ((pm (lack cs ds i j) cs.length j).map qD)] = some (.d (vsD (pm (lack cs ds i j) cs.length j))) := rfl
      have ep : pD cs ds i j = .tup [.int (i : Int), .int (j : Int), vsD (pm (lack cs ds i j) cs.length j)] := rfl
      rw [ep]
      cases e1 : hidB cs (.int (i : Int)) (.int (j : Int)) with
      | true =>
        have el : lack cs ds i j = ds := if_pos e1
        rw [el] at bt ⊢
        have c := comp22 (m := m) (B := B) (B' := B') (ls := ds) (L := cs.length) hl on hj (s2 := .own (rows cs)) (s3 := .val (.lst (rows ds))) (s5 := .val (.int (i : Int))) (s8 := .none)
        rw [e1] at r2 nq
        refine ⟨[.val B, .val B', .own (rows cs), .val (.lst (rows ds)), .val (.int (cs.length : Int)), .val (.int (i : Int)), .val (.int (j : Int)), .val (.lst (rows ds)), .val (vsD (pm ds cs.length j)), .none], hj, e', ?_⟩
        have step : A22i (callN T m) (V22 B B' cs ds (.val (.int (i : Int))) (.val (.int (j : Int)))) = .ret (.d (.tup [.int (i : Int), .int (j : Int), vsD (pm ds cs.length j)])) [.val B, .val B', .own (rows cs), .val (.lst (rows ds)), .val (.int (cs.length : Int)), .val (.int (i : Int)), .val (.int (j : Int)), .val (.lst (rows ds)), .val (vsD (pm ds cs.length j)), .none] := by
          unfold V22
          generalize (pm ds cs.length j).map qD = PP at *
          generalize vsD (pm ds cs.length j) = VP at *
          generalize (rg cs).map (fun y => D.bl (hidB cs (.int (i : Int)) y)) = RR at *
          generalize (rg ds).map (fun y => D.bl (hidB ds (.int (i : Int)) y)) = RR' at *
          generalize rows cs = R at *
          generalize rows ds = R' at *
          simp_arith [r1, r2, t1, t2, nq, c, bt]
        rw [step, turn_ret]
      | false =>
        have el : lack cs ds i j = cs := if_neg (show ¬ hb cs i j = true by show ¬ hidB cs (.int (i : Int)) (.int (j : Int)) = true; rw [e1]; exact Bool.false_ne_true)
        rw [el] at bt ⊢
        have c := comp22 (m := m) (B := B) (B' := B') (ls := cs) (L := cs.length) rfl on hj (s2 := .val (.lst (rows cs))) (s3 := .own (rows ds)) (s5 := .val (.int (i : Int))) (s8 := .none)
        rw [e1] at r2 nq
        refine ⟨[.val B, .val B', .val (.lst (rows cs)), .own (rows ds), .val (.int (cs.length : Int)), .val (.int (i : Int)), .val (.int (j : Int)), .val (.lst (rows cs)), .val (vsD (pm cs cs.length j)), .none], hj, e', ?_⟩
        have step : A22i (callN T m) (V22 B B' cs ds (.val (.int (i : Int))) (.val (.int (j : Int)))) = .ret (.d (.tup [.int (i : Int), .int (j : Int), vsD (pm cs cs.length j)])) [.val B, .val B', .val (.lst (rows cs)), .own (rows ds), .val (.int (cs.length : Int)), .val (.int (i : Int)), .val (.int (j : Int)), .val (.lst (rows cs)), .val (vsD (pm cs cs.length j)), .none] := by
          unfold V22
          generalize (pm cs cs.length j).map qD = PP at *
          generalize vsD (pm cs cs.length j) = VP at *
          generalize (rg cs).map (fun y => D.bl (hidB cs (.int (i : Int)) y)) = RR at *
          generalize (rg ds).map (fun y => D.bl (hidB ds (.int (i : Int)) y)) = RR' at *
          generalize rows cs = R at *
          generalize rows ds = R' at *
          simp_arith [r1, r2, t1, t2, nq, c, bt]
        rw [step, turn_ret]
abbrev A22 : DS := (sFor (.v 6) (iR1 (dVar 4)) A22i)
theorem outer22 {m : Nat} (on : cs.length ≤ 8) (hl : ds.length = cs.length) {B B' : D} : ∀ (l : List D) (s5 s6 : Sl), NV s5 → NV s6 → (∀ y ∈ l, y ∈ rg cs) →
    ((l.all fun x => (rg cs).all fun y => hidB cs x y == hidB ds x y) = true ∧ ∃ s5' s6', forL (.v 5) A22 (callN T m) l (V22 B B' cs ds s5 s6) = .next (V22 B B' cs ds s5' s6')) ∨
    ((l.all fun x => (rg cs).all fun y => hidB cs x y == hidB ds x y) = false ∧ ∃ (i j : Nat) (ρ' : RX.Env), i < cs.length ∧ j < cs.length ∧ hb cs i j ≠ hb ds i j ∧ forL (.v 5) A22 (callN T m) l (V22 B B' cs ds s5 s6) = .ret (.d (pD cs ds i j)) ρ')
  | [], s5, s6, _, _, _ => .inl ⟨rfl, s5, s6, rfl⟩
  | x :: l, s5, s6, h5, h6, hx => by
    obtain ⟨i, rfl, hi⟩ := mem_rng (hx x List.mem_cons_self)
    have bd : -16777216 < (cs.length : Int) ∧ (cs.length : Int) < 16777216 := by omega
    have step : A22 (callN T m) (V22 B B' cs ds (.val (.int (i : Int))) s6) = forL (.v 6) A22i (callN T m) (rg cs) (V22 B B' cs ds (.val (.int (i : Int))) s6) := by
      unfold V22 A22
      generalize rows cs = R at *
      generalize rows ds = R' at *
      simp_arith [asI, bd]
    rw [x_forC, st_nv1 h5 rfl, stK_some, List.all_cons]
    show (_ ∧ ∃ s5' s6', turnO _ _ (A22 (callN T m) (V22 B B' cs ds (.val (.int (i : Int))) s6)) = _) ∨ (_ ∧ ∃ (i' j' : Nat) (ρ' : RX.Env), _ ∧ _ ∧ _ ∧ turnO _ _ (A22 (callN T m) (V22 B B' cs ds (.val (.int (i : Int))) s6)) = _)
    rw [step]
    rcases inner22 (m := m) on hl (B := B) (B' := B') hi (rg cs) s6 h6 fun _ h => h with ⟨e, s6', h6', lp⟩ | ⟨e, j, ρ', hj, ne, lp⟩
    · rw [lp, e, turn_next, Bool.true_and]
      exact outer22 on hl l (.val (.int (i : Int))) s6' (.inr ⟨_, rfl⟩) h6' fun z hz => hx z (List.mem_cons_of_mem _ hz)
    · exact .inr ⟨by rw [e, Bool.false_and], i, j, ρ', hi, hj, ne, by rw [lp, turn_ret]⟩
theorem p_parting (hn : 9 ≤ n) (o : Ok a b cs) (o' : Ok a' b' ds) (hl : ds.length = cs.length) (hg : gd (bk ds) = true) (hc : nO cs.length (bk ds) = true) : (so cs ds = true ∧ callN T n 22 [.d (bk cs), .d (bk ds)] = .ok (.d .non) []) ∨ (so cs ds = false ∧ ∃ i j : Nat, i < cs.length ∧ j < cs.length ∧ hb cs i j ≠ hb ds i j ∧ callN T n 22 [.d (bk cs), .d (bk ds)] = .ok (.d (pD cs ds i j)) []) := by
  obtain ⟨m, rfl, hm⟩ := up hn
  rw [callN_eq (d := d22) (np := 2) (ns := 10) rfl rfl]
  unfold d22
  have on := o.n
  have bd : -16777216 < (cs.length : Int) ∧ (cs.length : Int) < 16777216 := by omega
  have k := p_need_other (n := m) (cs := cs) (by omega) hg
  rw [if_pos hc] at k
  have k1 := p_hiding_rows (n := m) (by omega) o
  have k2 := p_hiding_rows (n := m) (by omega) o'
  have bl := bk_len (cs := cs)
  rcases outer22 (m := m) on hl (B := bk cs) (B' := bk ds) (rg cs) .none .none (.inl rfl) (.inl rfl) fun _ h => h with ⟨e, s5, s6, lp⟩ | ⟨e, i, j, ρ', hi, hj, ne, lp⟩
  · refine .inl ⟨e, ?_⟩
    unfold A22 A22i V22 at lp
    generalize rows cs = R at *
    generalize rows ds = R' at *
    generalize bk cs = B at *
    generalize bk ds = B' at *
    simp_arith [k, k1, k2, bl, asI, bd, lp]
  · refine .inr ⟨e, i, j, hi, hj, ne, ?_⟩
    unfold A22 A22i V22 at lp
    generalize pD cs ds i j = PP at *
    generalize rows cs = R at *
    generalize rows ds = R' at *
    generalize bk cs = B at *
    generalize bk ds = B' at *
    simp_arith [k, k1, k2, bl, asI, bd, lp]
end
end K10
set_option Elab.async false
set_option linter.all false
set_option maxRecDepth 100000
set_option maxHeartbeats 4000000
namespace K10
open PySem RX RY MQ
/-! ### what a thing is as a parting -/
def qv : D → Qt
  | .tup [.int a, .int b] => (a, b)
  | _ => (0, 1)
theorem qv_qD (v : Qt) : qv (qD v) = v := rfl
theorem isQ_ok {y : D} (h : isQ y = true) : y = qD (qv y) ∧ 0 < (qv y).2 := by
  unfold isQ at h
  split at h
  · rename_i a b
    exact ⟨rfl, of_decide_eq_true (Bool.and_eq_true_iff.mp h).1⟩
  · cases h
def qs : D → List Qt
  | .tup l => l.map qv
  | _ => []
/-- no number too great in the rights -/
def Sml (x : D) : Prop := ∀ p q l, x = .tup [p, q, .tup l] → ∀ y ∈ l, isQ y = true → Sm 60 (qv y).1 ∧ Sm 60 (qv y).2
theorem tb_ok {L : Nat} {l : List D} (h : isTb (L : Int) (.tup l) = true) (hs : ∀ y ∈ l, isQ y = true → Sm 60 (qv y).1 ∧ Sm 60 (qv y).2) : .tup l = vsD (qs (.tup l)) ∧ (qs (.tup l)).length = L ∧ ∀ v ∈ qs (.tup l), Sq v := by
  obtain ⟨h1, h2⟩ := Bool.and_eq_true_iff.mp (show (((l.length : Int) == (L : Int)) && l.all isQ) = true from h)
  have hl : l.length = L := by have := eq_of_beq h1; omega
  have ha := List.all_eq_true.mp h2
  refine ⟨?_, by show (l.map qv).length = L; rw [List.length_map, hl], fun v hv => ?_⟩
  · show D.tup l = .tup ((l.map qv).map qD)
    rw [List.map_map]
    congr 1
    have : l.map (qD ∘ qv) = l.map id := List.map_congr_left fun y hy => ((isQ_ok (ha y hy)).1).symm
    rw [this, List.map_id]
  · obtain ⟨y, hy, rfl⟩ := List.mem_map.mp hv
    have hq := ha y hy
    obtain ⟨e, p⟩ := isQ_ok hq
    obtain ⟨s1, s2⟩ := hs y hy hq
    exact ⟨s1, s2, p, by rw [← e]; exact hq⟩
def rgt (cs ds : List Cs) (i j : Nat) (r : D) : Bool := isTb (cs.length : Int) r && (!fls (lack cs ds i j) (qs r) && lt2 ((qs r).getD i (0, 1)) ((qs r).getD j (0, 1)))
def vdF (cs ds : List Cs) : D → Except (Str × Int) Nat
  | .tup [p, q, r] => if (unl cs.length p q && !(hidB cs p q == hidB ds p q)) = true then (if rgt cs ds (dn p) (dn q) r = true then .ok (if hidB cs p q = true then 1 else 0) else .error ("rights", 2)) else .error ("pair", 0)
  | _ => .error ("shape", -1)
theorem len3 {l : List D} (h : l.length = 3) : ∃ p q r, l = [p, q, r] := by
  match l, h with
  | [p, q, r], _ => exact ⟨p, q, r, rfl⟩
theorem vdF_no {cs ds : List Cs} {x : D} (h : isTp x = false) : vdF cs ds x = .error ("shape", -1) := by
  unfold vdF
  split
  · cases h
  · rfl
theorem vdF_len {cs ds : List Cs} {l : List D} (h : l.length ≠ 3) : vdF cs ds (.tup l) = .error ("shape", -1) := by
  unfold vdF
  split
  · rename_i e
    cases e
    exact absurd rfl h
  · rfl
theorem bl3 {p q r : D} : bLen [.tup [p, q, r]] = some (.d (.int 3)) := rfl
def exE (w : Str) (k : Int) : List (Str × D) := [("word", .str w), ("at", .int k)]
section
variable {n a b a' b' : Nat} {cs ds : List Cs} {x y z : D}
abbrev V23 (B B' X p q r : D) (L : Nat) (s7 s8 s9 : Sl) : RX.Env := [.val B, .val B', .val X, .val p, .val q, .val r, .val (.int (L : Int)), s7, s8, s9]
abbrev W0 : DS := (sExpr (dCall 19 [.v 0, .v 1]))
abbrev W1 : DS := (sIf (tOr (tNot (tE (dB1 (bIsi .tuple) 2))) (tCmpB fNe (dB1 bLen 2) (dC (.int 3)))) (sRaise 1 ["word", "at"] [(dC (.str "shape")), (dUn fNeg (dC (.int 1)))]) sPass)
abbrev W2 : DS := (sUnp [3, 4, 5] (dVar 2))
abbrev W3 : DS := (sSet 6 (dB1 bLen 0))
abbrev W4 : DS := (sIf (tNot (tE (dCall 4 [.v 6, .e (dTup [(dVar 3), (dVar 4)])]))) (sRaise 1 ["word", "at"] [(dC (.str "pair")), (dC (.int 0))]) sPass)
abbrev W5 : DS := (sSet 7 (dCall 7 [.v 0]))
abbrev W6 : DS := (sSet 8 (dCall 7 [.v 1]))
abbrev W7 : DS := (sIf (tCmpB fEq (dOp fIx (dIxV 7 (dVar 3)) (dVar 4)) (dOp fIx (dIxV 8 (dVar 3)) (dVar 4))) (sRaise 1 ["word", "at"] [(dC (.str "pair")), (dC (.int 0))]) sPass)
abbrev W8 : DS := (sSet 9 (dIf (tE (dOp fIx (dIxV 7 (dVar 3)) (dVar 4))) (dVar 8) (dVar 7)))
abbrev W9 : DS := (sIf (tOr (tNot (tE (dCall 3 [.e (dVar 6), .e (dVar 5)]))) (tNot (tE (dCall 20 [.v 9, .v 5])))) (sRaise 1 ["word", "at"] [(dC (.str "rights")), (dC (.int 2))]) sPass)
abbrev W10 : DS := (sIf (tNot (tE (dCall 18 [.e (dIxV 5 (dVar 3)), .e (dIxV 5 (dVar 4))]))) (sRaise 1 ["word", "at"] [(dC (.str "rights")), (dC (.int 2))]) sPass)
abbrev W11 : DS := (sRet (dIf (tE (dOp fIx (dIxV 7 (dVar 3)) (dVar 4))) (dC (.int 1)) (dC (.int 0))))
theorem Weq : d23 = (sSeq W0 (sSeq W1 (sSeq W2 (sSeq W3 (sSeq W4 (sSeq W5 (sSeq W6 (sSeq W7 (sSeq W8 (sSeq W9 (sSeq W10 W11))))))))))) := rfl
abbrev J7 : DS := (sSet 9 (dIf (tE (dOp fIx (dIxV 7 (dVar 3)) (dVar 4))) (dVar 8) (dVar 7)))
abbrev J8 : DS := (sIf (tOr (tNot (tE (dCall 3 [.e (dVar 6), .e (dVar 5)]))) (tNot (tE (dCall 20 [.v 9, .v 5])))) (sRaise 1 ["word", "at"] [(dC (.str "rights")), (dC (.int 2))]) sPass)
abbrev J9 : DS := (sIf (tNot (tE (dCall 18 [.e (dIxV 5 (dVar 3)), .e (dIxV 5 (dVar 4))]))) (sRaise 1 ["word", "at"] [(dC (.str "rights")), (dC (.int 2))]) sPass)
abbrev J10 : DS := (sRet (dIf (tE (dOp fIx (dIxV 7 (dVar 3)) (dVar 4))) (dC (.int 1)) (dC (.int 0))))
def endX : Except (Str × Int) Nat → RX.Env → Out
  | .ok k, ρ => .ret (.d (.int (k : Int))) ρ
  | .error (w, k), ρ => .exc 1 (exE w k) ρ
/-- the tail, once which order lacks the pair is told -/
theorem tail23 {m : Nat} (hm : 6 ≤ m) {ls : List Cs} {c d : Nat} (o : Ok c d ls) {B B' X : D} {L : Nat} (hL : ls.length = L) {i j : Nat} (hi : i < L) (hj : j < L) {r : D} (hr : gd r = true) (hs : ∀ l, r = .tup l → ∀ y ∈ l, isQ y = true → Sm 60 (qv y).1 ∧ Sm 60 (qv y).2) {s7 s8 : Sl} {R : D} (h7 : s7 = .val R ∨ ∃ l, s7 = .own l ∧ R = .lst l) {RR : D} (r1 : fIx R (.int (i : Int)) = some (.d RR)) {t : Bool} (r2 : fIx RR (.int (j : Int)) = some (.d (.bl t))) :
    ∃ ρ', (sSeq J8 (sSeq J9 J10)) (callN T m) (V23 B B' X (.int (i : Int)) (.int (j : Int)) r L s7 s8 (.val (.lst (rows ls)))) = endX (if (isTb (L : Int) r && (!fls ls (qs r) && lt2 ((qs r).getD i (0, 1)) ((qs r).getD j (0, 1)))) = true then .ok (if t = true then 1 else 0) else .error ("rights", 2)) ρ' := by
  have k3 := p_is_table (n := m) (by omega) hr (w := (L : Int))
  refine ⟨V23 B B' X (.int (i : Int)) (.int (j : Int)) r L s7 s8 (.val (.lst (rows ls))), ?_⟩
  cases e : isTb (L : Int) r with
  | false =>
    rw [e] at k3
    rw [Bool.false_and, if_neg Bool.false_ne_true]
    unfold endX exE
    generalize rows ls = RL at *
    simp_arith [k3, List.zip_cons_cons, List.zip_nil_left, List.zip_nil_right]
  | true =>
    rw [e] at k3
    obtain ⟨l, rfl⟩ : ∃ l, r = .tup l := by
      cases r with
      | tup l => exact ⟨l, rfl⟩
      | _ => cases e
    obtain ⟨ev', lv, sv⟩ := tb_ok e (hs l rfl)
    generalize hvs : qs (.tup l) = vs at *
    rw [ev'] at k3 ⊢
    have k20 := p_rises_by (n := m) hm o (vs := vs) (by rw [lv, hL]) sv
    rw [Bool.true_and]
    cases e2 : fls ls vs with
    | true =>
      rw [e2] at k20
      have k20 : callN T m 20 [.d (.lst (rows ls)), .d (vsD vs)] = .ok (.d (.bl false)) [] := k20
      rw [show (!true && lt2 (vs.getD i (0, 1)) (vs.getD j (0, 1))) = false from rfl, if_neg Bool.false_ne_true]
      unfold endX exE
      generalize rows ls = RL at *
      generalize vsD vs = VV at *
      simp_arith [k3, k20, List.zip_cons_cons, List.zip_nil_left, List.zip_nil_right]
    | false =>
      rw [e2] at k20
      have k20 : callN T m 20 [.d (.lst (rows ls)), .d (vsD vs)] = .ok (.d (.bl true)) [] := k20
      have x1 := vs_ix (vs := vs) (k := i) (by omega)
      have x2 := vs_ix (vs := vs) (k := j) (by omega)
      have k18 := p_is_less (n := m) (by omega) (vs_sq sv (k := i) (by omega)) (vs_sq sv (k := j) (by omega))
      rw [show (!false && lt2 (vs.getD i (0, 1)) (vs.getD j (0, 1))) = lt2 (vs.getD i (0, 1)) (vs.getD j (0, 1)) from rfl]
      cases e3 : lt2 (vs.getD i (0, 1)) (vs.getD j (0, 1)) with
      | false =>
        rw [e3] at k18
        rw [if_neg Bool.false_ne_true]
        unfold endX exE
        generalize rows ls = RL at *
        generalize vsD vs = VV at *
        generalize qD (vs.getD i (0, 1)) = v1 at *
        generalize qD (vs.getD j (0, 1)) = v2 at *
        simp_arith [k3, k20, x1, x2, k18, List.zip_cons_cons, List.zip_nil_left, List.zip_nil_right]
      | true =>
        rw [e3] at k18
        rw [if_pos rfl]
        unfold endX
        generalize rows ls = RL at *
        generalize vsD vs = VV at *
        generalize qD (vs.getD i (0, 1)) = v1 at *
        generalize qD (vs.getD j (0, 1)) = v2 at *
        have h8 : J8 (callN T m) (V23 B B' X (.int (i : Int)) (.int (j : Int)) VV L s7 s8 (.val (.lst RL))) = .next (V23 B B' X (.int (i : Int)) (.int (j : Int)) VV L s7 s8 (.val (.lst RL))) := by simp_arith [k3, k20]
        have h9 : J9 (callN T m) (V23 B B' X (.int (i : Int)) (.int (j : Int)) VV L s7 s8 (.val (.lst RL))) = .next (V23 B B' X (.int (i : Int)) (.int (j : Int)) VV L s7 s8 (.val (.lst RL))) := by simp_arith [x1, x2, k18]
        rw [seq_next h8, seq_next h9]
        rcases h7 with rfl | ⟨ll, rfl, rfl⟩
        · cases t with
          | true => rw [if_pos rfl]; simp_arith [r1, r2]; rfl
          | false => rw [if_neg Bool.false_ne_true]; simp_arith [r1, r2]; rfl
        · cases t with
          | true => rw [if_pos rfl]; simp_arith [r1, r2]; rfl
          | false => rw [if_neg Bool.false_ne_true]; simp_arith [r1, r2]; rfl
theorem p_lets_parting (hn : 9 ≤ n) (o : Ok a b cs) (o' : Ok a' b' ds) (hl : ds.length = cs.length) (hg : gd (bk ds) = true) (hc : nO cs.length (bk ds) = true) (hx : gd x = true) (hs : Sml x) : callN T n 23 [.d (bk cs), .d (bk ds), .d x] = match vdF cs ds x with
    | .ok k => .ok (.d (.int (k : Int))) []
    | .error (w, k) => .exc 1 (exE w k) := by
  obtain ⟨m, rfl, hm⟩ := up hn
  rw [callN_eq (d := d23) (np := 3) (ns := 10) rfl rfl]
  have on := o.n
  have k := p_need_other (n := m) (cs := cs) (by omega) hg
  rw [if_pos hc] at k
  have k1 := p_hiding_rows (n := m) (by omega) o
  have k2 := p_hiding_rows (n := m) (by omega) o'
  have bl := bk_len (cs := cs)
  have t := isi_tup (gd_plain hx)
  cases e : isTp x with
  | false =>
    rw [e] at t
    rw [vdF_no e]
    unfold exE d23
    generalize bk cs = B at *
    generalize bk ds = B' at *
    simp_arith [k, t, List.zip_cons_cons, List.zip_nil_left, List.zip_nil_right]
  | true =>
    rw [e] at t
    obtain ⟨l, rfl⟩ := isTp_ok e
    by_cases h3 : l.length = 3
    · obtain ⟨p, q, r, rfl⟩ := len3 h3
      obtain ⟨_, hgl⟩ := gd_tup.mp hx
      have gr := hgl r (by simp)
      have ne : fNe (.int 3) (.int 3) = some (.d (.bl false)) := rfl
      have k4 := p_is_unlike_pair (n := m) (L := cs.length) (by omega) (gd_plain (hgl p (by simp))) (gd_plain (hgl q (by simp)))
      have ef : vdF cs ds (.tup [p, q, r]) = if (unl cs.length p q && !(hidB cs p q == hidB ds p q)) = true then (if rgt cs ds (dn p) (dn q) r = true then .ok (if hidB cs p q = true then 1 else 0) else .error ("rights", 2)) else .error ("pair", 0) := rfl
      rw [ef]
      cases e4 : unl cs.length p q with
      | false =>
        rw [e4] at k4
        rw [Bool.false_and, if_neg Bool.false_ne_true]
        unfold exE d23
        generalize bk cs = B at *
        generalize bk ds = B' at *
        simp_arith [k, t, bl3, ne, bl, k4, List.zip_cons_cons, List.zip_nil_left, List.zip_nil_right]
      | true =>
        rw [e4] at k4
        obtain ⟨i, j, rfl, rfl, hi, hj, _⟩ := unl_ok e4
        have r1 := rows_ix (cs := cs) hi
        have r2 := row_ix (cs := cs) (i := i) hj
        have t1 := rows_ix (cs := ds) (i := i) (by omega)
        have t2 := row_ix (cs := ds) (i := i) (j := j) (by omega)
        have fe : fEq (.bl (hidB cs (.int (i : Int)) (.int (j : Int)))) (.bl (hidB ds (.int (i : Int)) (.int (j : Int)))) = some (.d (.bl (hidB cs (.int (i : Int)) (.int (j : Int)) == hidB ds (.int (i : Int)) (.int (j : Int))))) := rfl
        rw [Bool.true_and, dn_nat, dn_nat]
        cases e5 : hidB cs (.int (i : Int)) (.int (j : Int)) == hidB ds (.int (i : Int)) (.int (j : Int)) with
        | true =>
          rw [e5] at fe
          rw [if_neg (show ¬ (!true) = true by decide)]
          unfold exE d23
          generalize (rg cs).map (fun y => D.bl (hidB cs (.int (i : Int)) y)) = RR at *
          generalize (rg ds).map (fun y => D.bl (hidB ds (.int (i : Int)) y)) = RR' at *
          generalize rows cs = R at *
          generalize rows ds = R' at *
          generalize bk cs = B at *
          generalize bk ds = B' at *
          simp_arith [k, t, bl3, ne, bl, k4, k1, k2, r1, r2, t1, t2, fe, List.zip_cons_cons, List.zip_nil_left, List.zip_nil_right]
        | false =>
          rw [e5] at fe
          rw [if_pos (show (!false) = true from rfl)]
          have hs' : ∀ l, r = .tup l → ∀ y ∈ l, isQ y = true → Sm 60 (qv y).1 ∧ Sm 60 (qv y).2 := fun l e => by subst e; exact hs _ _ l rfl
          have pre : fEq (.bl (hidB cs (.int (i : Int)) (.int (j : Int)))) (.bl (hidB ds (.int (i : Int)) (.int (j : Int)))) = some (.d (.bl false)) → (sSeq W0 (sSeq W1 (sSeq W2 (sSeq W3 (sSeq W4 (sSeq W5 (sSeq W6 (sSeq W7 (sSeq W8 (sSeq W9 (sSeq W10 W11))))))))))) (callN T m) ([RX.Arg.d (bk cs), .d (bk ds), .d (.tup [.int (i : Int), .int (j : Int), r])].map RX.Arg.sl ++ List.replicate (10 - 3) .none) = (sSeq W8 (sSeq W9 (sSeq W10 W11))) (callN T m) (V23 (bk cs) (bk ds) (.tup [.int (i : Int), .int (j : Int), r]) (.int (i : Int)) (.int (j : Int)) r cs.length (.own (rows cs)) (.own (rows ds)) .none) := by
            intro fe
            generalize (rg cs).map (fun y => D.bl (hidB cs (.int (i : Int)) y)) = RR at *
            generalize (rg ds).map (fun y => D.bl (hidB ds (.int (i : Int)) y)) = RR' at *
            generalize rows cs = R at *
            generalize rows ds = R' at *
            generalize bk cs = B at *
            generalize bk ds = B' at *
            have g0 : W0 (callN T m) [.val B, .val B', .val (.tup [.int (i : Int), .int (j : Int), r]), .none, .none, .none, .none, .none, .none, .none] = .next [.val B, .val B', .val (.tup [.int (i : Int), .int (j : Int), r]), .none, .none, .none, .none, .none, .none, .none] := by simp_arith [k]
            have g1 : W1 (callN T m) [.val B, .val B', .val (.tup [.int (i : Int), .int (j : Int), r]), .none, .none, .none, .none, .none, .none, .none] = .next [.val B, .val B', .val (.tup [.int (i : Int), .int (j : Int), r]), .none, .none, .none, .none, .none, .none, .none] := by simp_arith [t, bl3, ne]
            have g2 : W2 (callN T m) [.val B, .val B', .val (.tup [.int (i : Int), .int (j : Int), r]), .none, .none, .none, .none, .none, .none, .none] = .next [.val B, .val B', .val (.tup [.int (i : Int), .int (j : Int), r]), .val (.int (i : Int)), .val (.int (j : Int)), .val r, .none, .none, .none, .none] := by simp_arith []
            have g3 : W3 (callN T m) [.val B, .val B', .val (.tup [.int (i : Int), .int (j : Int), r]), .val (.int (i : Int)), .val (.int (j : Int)), .val r, .none, .none, .none, .none] = .next [.val B, .val B', .val (.tup [.int (i : Int), .int (j : Int), r]), .val (.int (i : Int)), .val (.int (j : Int)), .val r, .val (.int (cs.length : Int)), .none, .none, .none] := by simp_arith [bl]
            have g4 : W4 (callN T m) [.val B, .val B', .val (.tup [.int (i : Int), .int (j : Int), r]), .val (.int (i : Int)), .val (.int (j : Int)), .val r, .val (.int (cs.length : Int)), .none, .none, .none] = .next [.val B, .val B', .val (.tup [.int (i : Int), .int (j : Int), r]), .val (.int (i : Int)), .val (.int (j : Int)), .val r, .val (.int (cs.length : Int)), .none, .none, .none] := by simp_arith [k4]
            have g5 : W5 (callN T m) [.val B, .val B', .val (.tup [.int (i : Int), .int (j : Int), r]), .val (.int (i : Int)), .val (.int (j : Int)), .val r, .val (.int (cs.length : Int)), .none, .none, .none] = .next [.val B, .val B', .val (.tup [.int (i : Int), .int (j : Int), r]), .val (.int (i : Int)), .val (.int (j : Int)), .val r, .val (.int (cs.length : Int)), .own R, .none, .none] := by simp_arith [k1]
            have g6 : W6 (callN T m) [.val B, .val B', .val (.tup [.int (i : Int), .int (j : Int), r]), .val (.int (i : Int)), .val (.int (j : Int)), .val r, .val (.int (cs.length : Int)), .own R, .none, .none] = .next [.val B, .val B', .val (.tup [.int (i : Int), .int (j : Int), r]), .val (.int (i : Int)), .val (.int (j : Int)), .val r, .val (.int (cs.length : Int)), .own R, .own R', .none] := by simp_arith [k2]
            have g7 : W7 (callN T m) [.val B, .val B', .val (.tup [.int (i : Int), .int (j : Int), r]), .val (.int (i : Int)), .val (.int (j : Int)), .val r, .val (.int (cs.length : Int)), .own R, .own R', .none] = .next [.val B, .val B', .val (.tup [.int (i : Int), .int (j : Int), r]), .val (.int (i : Int)), .val (.int (j : Int)), .val r, .val (.int (cs.length : Int)), .own R, .own R', .none] := by simp_arith [r1, r2, t1, t2, fe]
            show (sSeq W0 _) (callN T m) [.val B, .val B', .val (.tup [.int (i : Int), .int (j : Int), r]), .none, .none, .none, .none, .none, .none, .none] = _
            rw [seq_next g0, seq_next g1, seq_next g2, seq_next g3, seq_next g4, seq_next g5, seq_next g6, seq_next g7]
          rw [show d23 = _ from Weq]
          cases e1 : hidB cs (.int (i : Int)) (.int (j : Int)) with
          | true =>
            have el : lack cs ds i j = ds := if_pos e1
            obtain ⟨ρ', tl⟩ := tail23 (m := m) (by omega) o' (B := bk cs) (B' := bk ds) (X := .tup [.int (i : Int), .int (j : Int), r]) hl hi hj gr hs' (s7 := .own (rows cs)) (s8 := .val (.lst (rows ds))) (.inr ⟨_, rfl, rfl⟩) r1 r2
            have er : rgt cs ds i j r = (isTb (cs.length : Int) r && (!fls ds (qs r) && lt2 ((qs r).getD i (0, 1)) ((qs r).getD j (0, 1)))) := by unfold rgt; rw [el]
            rw [e1] at r2 fe tl
            rw [er]
            have h8 : W8 (callN T m) (V23 (bk cs) (bk ds) (.tup [.int (i : Int), .int (j : Int), r]) (.int (i : Int)) (.int (j : Int)) r cs.length (.own (rows cs)) (.own (rows ds)) .none) = .next (V23 (bk cs) (bk ds) (.tup [.int (i : Int), .int (j : Int), r]) (.int (i : Int)) (.int (j : Int)) r cs.length (.own (rows cs)) (.val (.lst (rows ds))) (.val (.lst (rows ds)))) := by
              clear tl
              generalize (rg cs).map (fun y => D.bl (hidB cs (.int (i : Int)) y)) = RR at *
              generalize rows cs = R at *
              generalize rows ds = R' at *
              generalize bk cs = B at *
              generalize bk ds = B' at *
              simp_arith [r1, r2]
            have go := pre (by rw [e1]; exact fe)
            rw [go, seq_next h8]
            have tl : (sSeq W9 (sSeq W10 W11)) (callN T m) _ = _ := tl
            rw [tl]
            generalize (isTb (cs.length : Int) r && (!fls ds (qs r) && lt2 ((qs r).getD i (0, 1)) ((qs r).getD j (0, 1)))) = RG at *
            cases RG <;> rfl
          | false =>
            have el : lack cs ds i j = cs := if_neg (show ¬ hb cs i j = true by show ¬ hidB cs (.int (i : Int)) (.int (j : Int)) = true; rw [e1]; exact Bool.false_ne_true)
            obtain ⟨ρ', tl⟩ := tail23 (m := m) (by omega) o (B := bk cs) (B' := bk ds) (X := .tup [.int (i : Int), .int (j : Int), r]) rfl hi hj gr hs' (s7 := .val (.lst (rows cs))) (s8 := .own (rows ds)) (.inl rfl) r1 r2
            have er : rgt cs ds i j r = (isTb (cs.length : Int) r && (!fls cs (qs r) && lt2 ((qs r).getD i (0, 1)) ((qs r).getD j (0, 1)))) := by unfold rgt; rw [el]
            rw [e1] at r2 fe tl
            rw [er]
            have h8 : W8 (callN T m) (V23 (bk cs) (bk ds) (.tup [.int (i : Int), .int (j : Int), r]) (.int (i : Int)) (.int (j : Int)) r cs.length (.own (rows cs)) (.own (rows ds)) .none) = .next (V23 (bk cs) (bk ds) (.tup [.int (i : Int), .int (j : Int), r]) (.int (i : Int)) (.int (j : Int)) r cs.length (.val (.lst (rows cs))) (.own (rows ds)) (.val (.lst (rows cs)))) := by
              clear tl
              generalize (rg cs).map (fun y => D.bl (hidB cs (.int (i : Int)) y)) = RR at *
              generalize rows cs = R at *
              generalize rows ds = R' at *
              generalize bk cs = B at *
              generalize bk ds = B' at *
              simp_arith [r1, r2]
            have go := pre (by rw [e1]; exact fe)
            rw [go, seq_next h8]
            have tl : (sSeq W9 (sSeq W10 W11)) (callN T m) _ = _ := tl
            rw [tl]
            generalize (isTb (cs.length : Int) r && (!fls cs (qs r) && lt2 ((qs r).getD i (0, 1)) ((qs r).getD j (0, 1)))) = RG at *
            cases RG <;> rfl
    · rw [vdF_len h3]
      have k3 : ((l.length : Int) == 3) = false := beq_eq_false_iff_ne.mpr (by omega)
      unfold exE d23
      generalize bk cs = B at *
      generalize bk ds = B' at *
      simp_arith [k, t, lenT, k3, List.zip_cons_cons, List.zip_nil_left, List.zip_nil_right]
end
end K10
set_option Elab.async false
set_option linter.all false
set_option maxRecDepth 100000
set_option maxHeartbeats 4000000
namespace K10
open PySem RX RY MQ
/-! ### the law's own order -/
def df (p q : List Int) : List Int := (List.range p.length).map fun k => p.getD k 0 - q.getD k 0
theorem df_wi : ∀ {p q : List Int}, p.length ≤ q.length → (df p q).all (fun x => decide (0 ≤ x)) = wi q p
  | [], [], _ => rfl
  | [], _ :: _, _ => rfl
  | _ :: _, [], h => by simp at h
  | x :: xs, y :: ys, h => by
    have ih := df_wi (p := xs) (q := ys) (by simpa using h)
    unfold df at ih ⊢
    rw [List.length_cons, List.range_succ_eq_map, List.map_cons, List.all_cons, List.map_map]
    have e0 : (x :: xs).getD 0 0 - (y :: ys).getD 0 0 = x - y := rfl
    have e1 : ((fun k => (x :: xs).getD k 0 - (y :: ys).getD k 0) ∘ Nat.succ) = fun k => xs.getD k 0 - ys.getD k 0 := rfl
    rw [e1, ih, e0]
    show _ = (decide (y ≤ x) && wi ys xs)
    congr 1
    by_cases e : y ≤ x
    · rw [decide_eq_true e, decide_eq_true (by omega)]
    · rw [decide_eq_false e, decide_eq_false (by omega)]
theorem min0 (l : List Int) : (minI l 0 == 0) = l.all (fun x => decide (0 ≤ x)) := by
  obtain ⟨g1, g2⟩ := minI_le (l := l) (m := 0)
  rw [Bool.eq_iff_iff, List.all_eq_true]
  constructor
  · intro e x hx
    have e := eq_of_beq e
    have := g2 x hx
    exact decide_eq_true (by omega)
  · intro h
    rcases minI_mem (l := l) (m := 0) with e | e
    · rw [e]; rfl
    · have := of_decide_eq_true (h _ e)
      exact beq_iff_eq.mpr (by omega)
theorem intsOf_map : ∀ l : List Int, intsOf (l.map D.int) = some l
  | [] => rfl
  | x :: r => by
    show (intsOf (r.map D.int)).map (fun l => x :: l) = _
    rw [intsOf_map r]
    rfl
theorem min_cat {u v : List Int} : bMin [.lst (([.int 0] ++ u.map .int) ++ v.map .int)] = some (.d (.int (minI (u ++ v) 0))) := by
  show (match intsOf (.int 0 :: (u.map D.int ++ v.map D.int)) with
    | some (n :: ns) => some (Ex.d (.int (minI ns n)))
    | _ => none) = _
  have e2 : intsOf (.int 0 :: (u.map D.int ++ v.map D.int)) = some (0 :: (u ++ v)) := by
    show (intsOf (u.map D.int ++ v.map D.int)).map (fun l => 0 :: l) = _
    rw [← List.map_append, intsOf_map]
    rfl
  rw [e2]
section
variable {n a b a' b' : Nat} {cs ds : List Cs} {x y z : D}
theorem ixF {c : Cs} : fIx (.tup [.tup (c.h0.map .int), .tup (c.h1.map .int)]) (.int 0) = some (.d (.tup (c.h0.map .int))) := rfl
theorem ixS {c : Cs} : fIx (.tup [.tup (c.h0.map .int), .tup (c.h1.map .int)]) (.int 1) = some (.d (.tup (c.h1.map .int))) := rfl
abbrev V34 (B : D) (acc : List D) (s2 s3 s4 s6 : Sl) : RX.Env := [.val B, .own acc, s2, s3, s4, .none, s6]
abbrev O0 : DS := (sSet 4 (dComp [5] (iR1 (dB bLen [(dOp fIx (dOp fIx (dIxV 0 (dVar 2)) (dC (.int 3))) (dC (.int 0)))])) (.v 5) (tests []) (dOp fSub (dOp fIx (dOp fIx (dOp fIx (dIxV 0 (dVar 2)) (dC (.int 3))) (dC (.int 0))) (dVar 5)) (dOp fIx (dOp fIx (dOp fIx (dIxV 0 (dVar 3)) (dC (.int 3))) (dC (.int 0))) (dVar 5)))))
abbrev O1 : DS := (sSet 6 (dComp [5] (iR1 (dB bLen [(dOp fIx (dOp fIx (dIxV 0 (dVar 2)) (dC (.int 3))) (dC (.int 1)))])) (.v 5) (tests []) (dOp fSub (dOp fIx (dOp fIx (dOp fIx (dIxV 0 (dVar 3)) (dC (.int 3))) (dC (.int 1))) (dVar 5)) (dOp fIx (dOp fIx (dOp fIx (dIxV 0 (dVar 2)) (dC (.int 3))) (dC (.int 1))) (dVar 5)))))
abbrev O2 : DS := (sIf (tAnd (tCmpB fNe (dVar 2) (dVar 3)) (tAnd (tCmpB fEq (dOp fIx (dIxV 0 (dVar 2)) (dC (.int 4))) (dOp fIx (dIxV 0 (dVar 3)) (dC (.int 4)))) (tCmpB fEq (dB bMin [(dOp fAdd (dOp fAdd (dLst [(dC (.int 0))]) (dVar 4)) (dVar 6))]) (dC (.int 0))))) (sApp 1 (dTup [(dVar 2), (dVar 3)])) sPass)
abbrev A34 : DS := sSeq O0 (sSeq O1 O2)
theorem tl_at {f i j : Nat} {c d : Cs} (hc : cs[i]? = some c) (hd : cs[j]? = some d) : tl cs f i j = ((c.s == d.s) && wi (d.h f) (c.h f)) := by
  unfold tl
  rw [hc, hd]
theorem row34 {m : Nat} (o : Ok a b cs) {i j : Nat} (hi : i < cs.length) (hj : j < cs.length) {acc : List D} (ha : acc.length < 1000) {s4 s6 : Sl} (h4 : WV s4) (h6 : WV s6) : ∃ s4' s6', WV s4' ∧ WV s6' ∧ A34 (callN T m) (V34 (bk cs) acc (.val (.int (i : Int))) (.val (.int (j : Int))) s4 s6) = .next (V34 (bk cs) (if (!(i == j) && hidB cs (.int (i : Int)) (.int (j : Int))) = true then acc ++ [.tup [.int (i : Int), .int (j : Int)]] else acc) (.val (.int (i : Int))) (.val (.int (j : Int))) s4' s6') := by
  obtain ⟨c, hc, c0, c1⟩ := o.at hi
  obtain ⟨d, hd, d0, d1⟩ := o.at hj
  have a8 := o.a8
  have b8 := o.b8
  have bi := bk_ix hc
  have bj := bk_ix hd
  have l0 : bLen [.tup (c.h0.map .int)] = some (.d (.int (c.h0.length : Int))) := by rw [lenT, List.length_map]
  have l1 : bLen [.tup (c.h1.map .int)] = some (.d (.int (c.h1.length : Int))) := by rw [lenT, List.length_map]
  have b0 : -16777216 < (c.h0.length : Int) ∧ (c.h0.length : Int) < 16777216 := by omega
  have b1 : -16777216 < (c.h1.length : Int) ∧ (c.h1.length : Int) < 16777216 := by omega
  have hC := c_h (c := c)
  have hD := c_h (c := d)
  have e0 : ∀ (p q : List Int) (L : Nat), p.length = L → (rng 0 (L : Int)).map (fun x => D.int (p.getD (dn x) 0 - q.getD (dn x) 0)) = (df p q).map .int := by
    intro p q L hL
    unfold df
    rw [hL, rng_nat, List.map_map, List.map_map]
    apply List.map_congr_left
    intro k _
    show D.int (p.getD (dn (.int (k : Int))) 0 - q.getD (dn (.int (k : Int))) 0) = _
    rw [dn_nat]
    rfl
  have k0 := comp_e (C := callN T m) (ρ := V34 (bk cs) acc (.val (.int (i : Int))) (.val (.int (j : Int))) s4 s6) (it := iR1 (dB bLen [(dOp fIx (dOp fIx (dIxV 0 (dVar 2)) (dC (.int 3))) (dC (.int 0)))])) (i := 5) (l := rng 0 (c.h0.length : Int)) (elt := dOp fSub (dOp fIx (dOp fIx (dOp fIx (dIxV 0 (dVar 2)) (dC (.int 3))) (dC (.int 0))) (dVar 5)) (dOp fIx (dOp fIx (dOp fIx (dIxV 0 (dVar 3)) (dC (.int 3))) (dC (.int 0))) (dVar 5))) (g := fun x => .int (c.h0.getD (dn x) 0 - d.h0.getD (dn x) 0)) (s := .none) (by
      generalize bk cs = B at *
      simp_arith [bi, hC, ixF, l0, asI, b0]) rfl (.inl rfl) (by rw [rng_len']; omega) fun x hx => by
    obtain ⟨k, rfl, hk⟩ := mem_rng hx
    have x1 := ixI (l := c.h0) hk
    have x2 := ixI (l := d.h0) (k := k) (by omega)
    rw [dn_nat]
    generalize bk cs = B at *
    simp_arith [bi, bj, hC, hD, ixF, x1, x2]
  rw [e0 _ _ _ rfl] at k0
  have q0 : ∃ s, WV s ∧ s = .own ((df c.h0 d.h0).map .int) ∧ O0 (callN T m) (V34 (bk cs) acc (.val (.int (i : Int))) (.val (.int (j : Int))) s4 s6) = .next (V34 (bk cs) acc (.val (.int (i : Int))) (.val (.int (j : Int))) s s6) := by
    refine ⟨_, .inr ⟨_, rfl⟩, rfl, ?_⟩
    generalize (df c.h0 d.h0).map D.int = DL at *
    generalize bk cs = B at *
    rcases h4 with (rfl | ⟨d', rfl⟩) | ⟨l, rfl⟩ <;> simp_arith [k0]
  obtain ⟨_, _, rfl, q0⟩ := q0
  have k1 := comp_e (C := callN T m) (ρ := V34 (bk cs) acc (.val (.int (i : Int))) (.val (.int (j : Int))) (.own ((df c.h0 d.h0).map .int)) s6) (it := iR1 (dB bLen [(dOp fIx (dOp fIx (dIxV 0 (dVar 2)) (dC (.int 3))) (dC (.int 1)))])) (i := 5) (l := rng 0 (c.h1.length : Int)) (elt := dOp fSub (dOp fIx (dOp fIx (dOp fIx (dIxV 0 (dVar 3)) (dC (.int 3))) (dC (.int 1))) (dVar 5)) (dOp fIx (dOp fIx (dOp fIx (dIxV 0 (dVar 2)) (dC (.int 3))) (dC (.int 1))) (dVar 5))) (g := fun x => .int (d.h1.getD (dn x) 0 - c.h1.getD (dn x) 0)) (s := .none) (by
      generalize (df c.h0 d.h0).map D.int = DL at *
      generalize bk cs = B at *
      simp_arith [bi, hC, ixS, l1, asI, b1]) rfl (.inl rfl) (by rw [rng_len']; omega) fun x hx => by
    obtain ⟨k, rfl, hk⟩ := mem_rng hx
    have x1 := ixI (l := c.h1) hk
    have x2 := ixI (l := d.h1) (k := k) (by omega)
    rw [dn_nat]
    generalize (df c.h0 d.h0).map D.int = DL at *
    generalize bk cs = B at *
    simp_arith [bi, bj, hC, hD, ixS, x1, x2]
  rw [e0 d.h1 c.h1 c.h1.length (by omega)] at k1
  have q1 : O1 (callN T m) (V34 (bk cs) acc (.val (.int (i : Int))) (.val (.int (j : Int))) (.own ((df c.h0 d.h0).map .int)) s6) = .next (V34 (bk cs) acc (.val (.int (i : Int))) (.val (.int (j : Int))) (.own ((df c.h0 d.h0).map .int)) (.own ((df d.h1 c.h1).map .int))) := by
    generalize (df c.h0 d.h0).map D.int = DL at *
    generalize (df d.h1 c.h1).map D.int = DL2 at *
    generalize bk cs = B at *
    rcases h6 with (rfl | ⟨d', rfl⟩) | ⟨l, rfl⟩ <;> simp_arith [k1]
  have ad1 := fAddL (a := [.int 0]) (b := (df c.h0 d.h0).map .int) (by unfold df; rw [List.length_map, List.length_map, List.length_range, List.length_singleton]; omega)
  have ad2 := fAddL (a := [.int 0] ++ (df c.h0 d.h0).map .int) (b := (df d.h1 c.h1).map .int) (by unfold df; rw [List.length_append, List.length_map, List.length_map, List.length_range, List.length_singleton, List.length_map, List.length_map, List.length_range]; omega)
  have mc := min_cat (u := df c.h0 d.h0) (v := df d.h1 c.h1)
  have ez : (minI (df c.h0 d.h0 ++ df d.h1 c.h1) 0 == 0) = (wi d.h0 c.h0 && wi c.h1 d.h1) := by
    rw [min0, List.all_append, df_wi (by omega), df_wi (by omega)]
  have eh : hidB cs (.int (i : Int)) (.int (j : Int)) = ((c.s == d.s) && (wi d.h0 c.h0 && wi c.h1 d.h1)) := by
    rw [hidB_i, tl_at hc hd, tl_at hd hc]
    show ((c.s == d.s) && wi d.h0 c.h0 && ((d.s == c.s) && wi c.h1 d.h1)) = _
    rw [show (d.s == c.s) = (c.s == d.s) from BEq.comm]
    cases c.s == d.s <;> cases wi d.h0 c.h0 <;> cases wi c.h1 d.h1 <;> rfl
  rw [eh]
  unfold A34
  rw [seq_next q0, seq_next q1]
  have cs1 := c_s (c := c)
  have cs2 := c_s (c := d)
  have nn : fNe (.int (i : Int)) (.int (j : Int)) = some (.d (.bl (!(i == j)))) := by
    show some (Ex.d (.bl (!((i : Int) == (j : Int))))) = _
    rw [nat_beq]
  have ap : ∀ s4 s6, sApp 1 (dTup [(dVar 2), (dVar 3)]) (callN T m) (V34 (bk cs) acc (.val (.int (i : Int))) (.val (.int (j : Int))) s4 s6) = .next (V34 (bk cs) (acc ++ [.tup [.int (i : Int), .int (j : Int)]]) (.val (.int (i : Int))) (.val (.int (j : Int))) s4 s6) := fun s4 s6 => by
    have := appX (C := callN T m) (i := 1) (e := dTup [(dVar 2), (dVar 3)]) (ρ := V34 (bk cs) acc (.val (.int (i : Int))) (.val (.int (j : Int))) s4 s6) (ρ1 := V34 (bk cs) acc (.val (.int (i : Int))) (.val (.int (j : Int))) s4 s6) (acc := acc) (y := .tup [.int (i : Int), .int (j : Int)]) rfl (by generalize bk cs = B at *; simp_arith []) rfl (by omega)
    exact this
  have av2 : fAdd (.lst (D.int 0 :: (df c.h0 d.h0).map .int)) (.lst ((df d.h1 c.h1).map .int)) = some (.fresh ([.int 0] ++ (df c.h0 d.h0).map .int ++ (df d.h1 c.h1).map .int)) := ad2
  have mc : bMin [.lst ([.int 0] ++ (df c.h0 d.h0).map .int ++ (df d.h1 c.h1).map .int)] = some (.d (.int (minI (df c.h0 d.h0 ++ df d.h1 c.h1) 0))) := mc
  have av1 : fAdd (.lst [.int 0]) (.lst ((df c.h0 d.h0).map .int)) = some (.fresh (D.int 0 :: (df c.h0 d.h0).map .int)) := ad1
  clear ad1 ad2
  generalize hS3 : [D.int 0] ++ (df c.h0 d.h0).map .int ++ (df d.h1 c.h1).map .int = S3 at *
  generalize minI (df c.h0 d.h0 ++ df d.h1 c.h1) 0 = M at *
  generalize hS2 : D.int 0 :: (df c.h0 d.h0).map .int = S2 at *
  generalize (df c.h0 d.h0).map D.int = DL at *
  generalize (df d.h1 c.h1).map D.int = DL2 at *
  generalize bk cs = B at *
  generalize (wi d.h0 c.h0 && wi c.h1 d.h1) = WW at *
  cases e1 : i == j with
  | true =>
    rw [e1] at nn
    have nn : fNe (.int (i : Int)) (.int (j : Int)) = some (.d (.bl false)) := nn
    rw [if_neg (by rw [Bool.not_true, Bool.false_and]; exact Bool.false_ne_true)]
    exact ⟨.own DL, .own DL2, .inr ⟨_, rfl⟩, .inr ⟨_, rfl⟩, by simp_arith [nn]⟩
  | false =>
    rw [e1] at nn
    have nn : fNe (.int (i : Int)) (.int (j : Int)) = some (.d (.bl true)) := nn
    cases e2 : c.s == d.s with
    | false =>
      rw [if_neg (by rw [Bool.false_and, Bool.and_false]; exact Bool.false_ne_true)]
      exact ⟨.own DL, .own DL2, .inr ⟨_, rfl⟩, .inr ⟨_, rfl⟩, by simp_arith [nn, bi, bj, cs1, cs2, e2]⟩
    | true =>
      cases WW with
      | false =>
        rw [if_neg (by decide)]
        exact ⟨.val (.lst DL), .val (.lst DL2), .inl (.inr ⟨_, rfl⟩), .inl (.inr ⟨_, rfl⟩), by simp_arith [nn, bi, bj, cs1, cs2, e2, av1, av2, mc, ez]⟩
      | true =>
        rw [if_pos (by decide)]
        exact ⟨.val (.lst DL), .val (.lst DL2), .inl (.inr ⟨_, rfl⟩), .inl (.inr ⟨_, rfl⟩), by simp_arith [nn, bi, bj, cs1, cs2, e2, av1, av2, mc, ez, ap]⟩
abbrev B34 : DS := (sFor (.v 3) (iR1 (dB1 bLen 0)) A34)
def ordR (cs : List Cs) (x : D) (l : List D) : List D := (l.filter fun y => !(dn x == dn y) && hidB cs x y).map fun y => .tup [x, y]
theorem ord_eq : ordP cs = (rg cs).flatMap fun x => ordR cs x (rg cs) := rfl
theorem inner34 {m : Nat} (o : Ok a b cs) {i : Nat} (hi : i < cs.length) {acc : List D} (ha : acc.length ≤ 64) {s3 s4 s6 : Sl} (h3 : NV s3) (h4 : WV s4) (h6 : WV s6) : ∃ s3' s4' s6', NV s3' ∧ WV s4' ∧ WV s6' ∧ B34 (callN T m) (V34 (bk cs) acc (.val (.int (i : Int))) s3 s4 s6) = .next (V34 (bk cs) (acc ++ ordR cs (.int (i : Int)) (rg cs)) (.val (.int (i : Int))) s3' s4' s6') := by
  have on := o.n
  have bd : -16777216 < (cs.length : Int) ∧ (cs.length : Int) < 16777216 := by omega
  have bl := bk_len (cs := cs)
  obtain ⟨ρ', lp, s3', s4', s6', rfl, h3', h4', h6'⟩ := for_rng (C := callN T m) (tg := .v 3) (A := A34) (ρ := V34 (bk cs) acc (.val (.int (i : Int))) s3 s4 s6) (fun j ρ => ∃ s3 s4 s6, ρ = V34 (bk cs) (acc ++ ordR cs (.int (i : Int)) ((rg cs).take j)) (.val (.int (i : Int))) s3 s4 s6 ∧ NV s3 ∧ WV s4 ∧ WV s6) (n := cs.length)
    ⟨s3, s4, s6, by rw [List.take_zero]; show _ = V34 _ (acc ++ []) _ _ _ _; rw [List.append_nil], h3, h4, h6⟩ fun j ρ hj ⟨s3, s4, s6, e, h3, h4, h6⟩ => by
      subst e
      have la : (acc ++ ordR cs (.int (i : Int)) ((rg cs).take j)).length < 1000 := by
        unfold ordR
        rw [List.length_append, List.length_map]
        have h1 := List.length_filter_le (fun y => !(dn (.int (i : Int)) == dn y) && hidB cs (.int (i : Int)) y) ((rg cs).take j)
        rw [List.length_take, rg_len] at h1
        omega
      obtain ⟨s4', s6', h4', h6', rw1⟩ := row34 (m := m) o hi hj la h4 h6
      refine ⟨_, _, st_nv1 h3 rfl, .inl rw1, .val (.int (j : Int)), s4', s6', ?_, .inr ⟨_, rfl⟩, h4', h6'⟩
      have e : ordR cs (.int (i : Int)) ((rg cs).take (j + 1)) = ordR cs (.int (i : Int)) ((rg cs).take j) ++ (if (!(i == j) && hidB cs (.int (i : Int)) (.int (j : Int))) = true then [.tup [.int (i : Int), .int (j : Int)]] else []) := by
        unfold ordR
        rw [filt_take (rg_at hj), List.map_append, dn_nat, dn_nat]
        congr 1
        split <;> rfl
      rw [e]
      congr 1
      split
      · rw [List.append_assoc]
      · rw [List.append_nil]
  have er : (rg cs).take cs.length = rg cs := List.take_of_length_le (by rw [rg_len]; exact Nat.le_refl _)
  rw [er] at lp
  refine ⟨s3', s4', s6', h3', h4', h6', ?_⟩
  unfold B34
  unfold A34 at lp ⊢
  generalize ordR cs (.int (i : Int)) (rg cs) = OR at *
  generalize acc ++ OR = AO at *
  generalize bk cs = B at *
  simp_arith [bl, asI, bd, lp]
theorem l_order (hn : 2 ≤ n) (o : Ok a b cs) : callN T n 34 [.d (bk cs)] = .ok (.d (.tup (ordP cs))) [] := by
  obtain ⟨m, rfl, hm⟩ := up hn
  rw [callN_eq (d := d34) (np := 1) (ns := 7) rfl rfl]
  unfold d34
  have on := o.n
  have bd : -16777216 < (cs.length : Int) ∧ (cs.length : Int) < 16777216 := by omega
  have bl := bk_len (cs := cs)
  obtain ⟨ρ', lp, s2, s3, s4, s6, rfl, _, _, _, _⟩ := for_rng (C := callN T m) (tg := .v 2) (A := B34) (ρ := V34 (bk cs) [] .none .none .none .none) (fun i ρ => ∃ s2 s3 s4 s6, ρ = V34 (bk cs) (((rg cs).take i).flatMap fun x => ordR cs x (rg cs)) s2 s3 s4 s6 ∧ NV s2 ∧ NV s3 ∧ WV s4 ∧ WV s6) (n := cs.length)
    ⟨.none, .none, .none, .none, rfl, .inl rfl, .inl rfl, .inl (.inl rfl), .inl (.inl rfl)⟩ fun i ρ hi ⟨s2, s3, s4, s6, e, h2, h3, h4, h6⟩ => by
      subst e
      have la : (((rg cs).take i).flatMap fun x => ordR cs x (rg cs)).length ≤ 64 := by
        have h1 := ord_len (cs := cs) on
        rw [ord_eq, ← List.take_append_drop i (rg cs), List.flatMap_append, List.length_append, List.take_append_drop] at h1
        omega
      obtain ⟨s3', s4', s6', h3', h4', h6', st⟩ := inner34 (m := m) o hi la h3 h4 h6
      refine ⟨_, _, st_nv1 h2 rfl, .inl st, .val (.int (i : Int)), s3', s4', s6', ?_, .inr ⟨_, rfl⟩, h3', h4', h6'⟩
      rw [flat_take (rg_at hi)]
  have er : (rg cs).take cs.length = rg cs := List.take_of_length_le (by rw [rg_len]; exact Nat.le_refl _)
  rw [er, ← ord_eq] at lp
  have eb : bTup [.lst (ordP cs)] = some (.d (.tup (ordP cs))) := rfl
  unfold B34 A34 at lp
  generalize ordP cs = OP at *
  generalize bk cs = B at *
  simp_arith [bl, asI, bd, lp, eb]
end
end K10
set_option Elab.async false
set_option linter.all false
set_option maxRecDepth 100000
set_option maxHeartbeats 4000000
namespace K10
open PySem RX RY MQ
/-! ### the law's own verdict -/
def orsD (cs ds : List Cs) : D := .tup [.tup (ordP cs), .tup (ordP ds)]
def vrD : Except (Str × Int) Nat → D
  | .error (w, k) => .tup [.str w, .int k]
  | .ok k => .int (k : Int)
def e0 : D → Nat
  | .tup [.int i, _] => i.toNat
  | _ => 0
def e1 : D → Nat
  | .tup [_, .int i] => i.toNat
  | _ => 0
theorem lt2_irr {v : Qt} : lt2 v v = false := decide_eq_false (Int.lt_irrefl _)
theorem fls_any {ls : List Cs} {vs : List Qt} : (ordP ls).any (fun z => lt2 (vs.getD (e0 z) (0, 1)) (vs.getD (e1 z) (0, 1))) = fls ls vs := by
  rw [Bool.eq_iff_iff, List.any_eq_true]
  unfold fls
  rw [List.any_eq_true]
  constructor
  · rintro ⟨z, hz, h⟩
    obtain ⟨i, j, hi, hj, rfl, e⟩ := mem_ord.mp hz
    refine ⟨.int (i : Int), List.mem_of_getElem? (rg_at hi), List.any_eq_true.mpr ⟨.int (j : Int), List.mem_of_getElem? (rg_at hj), ?_⟩⟩
    rw [(Bool.and_eq_true_iff.mp e).2]
    exact h
  · rintro ⟨x, hx, h⟩
    obtain ⟨i, rfl, hi⟩ := mem_rng hx
    obtain ⟨y, hy, h⟩ := List.any_eq_true.mp h
    obtain ⟨j, rfl, hj⟩ := mem_rng hy
    obtain ⟨h1, h2⟩ := Bool.and_eq_true_iff.mp h
    refine ⟨.tup [.int (i : Int), .int (j : Int)], mem_ord.mpr ⟨i, j, hi, hj, rfl, ?_⟩, h2⟩
    rw [h1, Bool.and_true]
    cases e : i == j with
    | false => rfl
    | true =>
      have : i = j := eq_of_beq e
      subst this
      rw [lt2_irr] at h2
      cases h2
section
variable {n a b a' b' : Nat} {cs ds : List Cs} {x y z : D}
theorem in_any (on : cs.length ≤ 8) {p q : Int} : fIn (.tup [.int p, .int q]) (.tup (ordP cs)) = some (.d (.bl (unl cs.length (.int p) (.int q) && hidB cs (.int p) (.int q)))) := by
  cases h : unl cs.length (.int p) (.int q) with
  | true =>
    obtain ⟨i, j, e1, e2, hi, hj, ne⟩ := unl_ok h
    cases e1
    cases e2
    rw [in_ord hi hj, beq_eq_false_iff_ne.mpr ne]
    rfl
  | false =>
    refine fInT rfl (fun y hy => ?_) (Nat.le_of_ble_eq_true rfl) ?_
    · obtain ⟨i, j, _, _, rfl, _⟩ := mem_ord.mp hy
      rfl
    · rw [Bool.false_and]
      refine List.any_eq_false.mpr fun y hy => ?_
      obtain ⟨i, j, hi, hj, rfl, e⟩ := mem_ord.mp hy
      show ¬ (((i : Int) == p) && (((j : Int) == q) && true)) = true
      intro hh
      obtain ⟨h1, h2⟩ := Bool.and_eq_true_iff.mp hh
      have h1 : (i : Int) = p := eq_of_beq h1
      have h2 : (j : Int) = q := eq_of_beq (Bool.and_eq_true_iff.mp h2).1
      subst h1
      subst h2
      have hne : i ≠ j := by
        have := (Bool.and_eq_true_iff.mp e).1
        intro z
        subst z
        rw [beq_self_eq_true] at this
        cases this
      rw [unl_nat hi hj hne] at h
      cases h
theorem or_0 : fIx (orsD cs ds) (.int 0) = some (.d (.tup (ordP cs))) := rfl
theorem or_1 : fIx (orsD cs ds) (.int 1) = some (.d (.tup (ordP ds))) := rfl
theorem i30 {p q r : D} : fIx (.tup [p, q, r]) (.int 0) = some (.d p) := rfl
theorem i31 {p q r : D} : fIx (.tup [p, q, r]) (.int 1) = some (.d q) := rfl
theorem i32 {p q r : D} : fIx (.tup [p, q, r]) (.int 2) = some (.d r) := rfl
abbrev Q0 : DS := (sIf (tOr (tNot (tE (dB1 (bIsi .tuple) 2))) (tCmpB fNe (dB1 bLen 2) (dC (.int 3)))) (sRet (dTup [(dC (.str "shape")), (dUn fNeg (dC (.int 1)))])) sPass)
abbrev Q1 : DS := (sSet 3 (dTup [(dIxV 2 (dC (.int 0))), (dIxV 2 (dC (.int 1)))]))
abbrev Q2 : DS := (sIf (tOr (tNot (tE (dCall 27 [.e (dIxV 3 (dC (.int 0)))]))) (tOr (tNot (tE (dCall 27 [.e (dIxV 3 (dC (.int 1)))]))) (tCmpB fEq (dOp fIn (dVar 3) (dIxV 0 (dC (.int 0)))) (dOp fIn (dVar 3) (dIxV 0 (dC (.int 1))))))) (sRet (dTup [(dC (.str "pair")), (dC (.int 0))])) sPass)
abbrev Q3 : DS := (sSet 4 (dB bInt [(dOp fIn (dVar 3) (dIxV 0 (dC (.int 0))))]))
abbrev Q4 : DS := (sSet 5 (dIxV 2 (dC (.int 2))))
abbrev Q5 : DS := (sIf (tOr (tNot (tE (dB1 (bIsi .tuple) 5))) (tCmpB fNe (dB1 bLen 5) (dVar 1))) (sRet (dTup [(dC (.str "rights")), (dC (.int 2))])) sPass)
abbrev Q6 : DS := (sFor (.v 6) (iE (dVar 5)) (sIf (tNot (tE (dCall 29 [.v 6]))) (sRet (dTup [(dC (.str "rights")), (dC (.int 2))])) sPass))
abbrev Q7 : DS := (sFor (.v 7) (iE (dIxV 0 (dVar 4))) (sIf (tE (dCall 30 [.e (dIxV 5 (dIxV 7 (dC (.int 0)))), .e (dIxV 5 (dIxV 7 (dC (.int 1))))])) (sRet (dTup [(dC (.str "rights")), (dC (.int 2))])) sPass))
abbrev Q8 : DS := (sIf (tNot (tE (dCall 30 [.e (dIxV 5 (dIxV 3 (dC (.int 0)))), .e (dIxV 5 (dIxV 3 (dC (.int 1))))]))) (sRet (dTup [(dC (.str "rights")), (dC (.int 2))])) sPass)
abbrev Q9 : DS := (sRetV 4)
theorem Qeq : d35 = (sSeq Q0 (sSeq Q1 (sSeq Q2 (sSeq Q3 (sSeq Q4 (sSeq Q5 (sSeq Q6 (sSeq Q7 (sSeq Q8 Q9))))))))) := rfl
abbrev V35 (O : D) (L : Nat) (X : D) (s3 s4 s5 s6 s7 : Sl) : RX.Env := [.val O, .val (.int (L : Int)), .val X, s3, s4, s5, s6, s7]
abbrev Q6i : DS := (sIf (tNot (tE (dCall 29 [.v 6]))) (sRet (dTup [(dC (.str "rights")), (dC (.int 2))])) sPass)
abbrev Q7i : DS := (sIf (tE (dCall 30 [.e (dIxV 5 (dIxV 7 (dC (.int 0)))), .e (dIxV 5 (dIxV 7 (dC (.int 1))))])) (sRet (dTup [(dC (.str "rights")), (dC (.int 2))])) sPass)
/-- the tail: what the rights are -/
theorem tail35 {m : Nat} (hm : 3 ≤ m) {ls : List Cs} (on : ls.length ≤ 8) {O X : D} {i j : Nat} (hi : i < ls.length) (hj : j < ls.length) {r : D} (hr : gd r = true) (hs : ∀ l, r = .tup l → ∀ y ∈ l, isQ y = true → Sm 60 (qv y).1 ∧ Sm 60 (qv y).2) {t : Nat} (ho : fIx O (.int (t : Int)) = some (.d (.tup (ordP ls)))) :
    ∃ ρ', (sSeq Q5 (sSeq Q6 (sSeq Q7 (sSeq Q8 Q9)))) (callN T m) (V35 O ls.length X (.val (.tup [.int (i : Int), .int (j : Int)])) (.val (.int (t : Int))) (.val r) .none .none) = .ret (.d (vrD (if (isTb (ls.length : Int) r && (!fls ls (qs r) && lt2 ((qs r).getD i (0, 1)) ((qs r).getD j (0, 1)))) = true then .ok t else .error ("rights", 2)))) ρ' := by
  have ti := isi_tup (gd_plain hr)
  have er : vrD (.error ("rights", 2)) = .tup [.str "rights", .int 2] := rfl
  cases e : isTp r with
  | false =>
    rw [e] at ti
    have q : isTb (ls.length : Int) r = false := (ntp e).2.2.2.2 _
    rw [q, Bool.false_and, if_neg Bool.false_ne_true, er]
    exact ⟨_, by simp_arith [ti]; rfl⟩
  | true =>
    rw [e] at ti
    obtain ⟨l, rfl⟩ := isTp_ok e
    obtain ⟨hl, hg⟩ := gd_tup.mp hr
    have qt : isTb (ls.length : Int) (.tup l) = (((l.length : Int) == (ls.length : Int)) && l.all isQ) := rfl
    cases e2 : (l.length : Int) == (ls.length : Int) with
    | false =>
      rw [qt, e2, Bool.false_and, Bool.false_and, if_neg Bool.false_ne_true, er]
      exact ⟨_, by simp_arith [ti, lenT, e2]; rfl⟩
    | true =>
      have h5 : Q5 (callN T m) (V35 O ls.length X (.val (.tup [.int (i : Int), .int (j : Int)])) (.val (.int (t : Int))) (.val (.tup l)) .none .none) = .next (V35 O ls.length X (.val (.tup [.int (i : Int), .int (j : Int)])) (.val (.int (t : Int))) (.val (.tup l)) .none .none) := by simp_arith [ti, lenT, e2]
      rw [seq_next h5]
      obtain ⟨s6, h6, lp6⟩ := for_ret (C := callN T m) (i := 6) (A := Q6i) (r := .tup [.str "rights", .int 2]) (fun s => V35 O ls.length X (.val (.tup [.int (i : Int), .int (j : Int)])) (.val (.int (t : Int))) (.val (.tup l)) s .none) (fun s x hs => st_nv1 hs rfl) (fun y => !isQ y) l .none (.inl rfl) fun y hy => by
        have k := l_quotient (n := m) (by omega) (hg y hy)
        cases f : isQ y with
        | true => rw [f] at k; rw [if_neg (by decide)]; simp_arith [k]
        | false => rw [f] at k; rw [if_pos (by decide)]; simp_arith [k]
      rw [any_not] at lp6
      have h6e : Q6 (callN T m) (V35 O ls.length X (.val (.tup [.int (i : Int), .int (j : Int)])) (.val (.int (t : Int))) (.val (.tup l)) .none .none) = forL (.v 6) Q6i (callN T m) l (V35 O ls.length X (.val (.tup [.int (i : Int), .int (j : Int)])) (.val (.int (t : Int))) (.val (.tup l)) .none .none) := rfl
      cases e3 : l.all isQ with
      | false =>
        rw [e3, if_pos (by decide)] at lp6
        rw [qt, e3, Bool.and_false, Bool.false_and, if_neg Bool.false_ne_true, er]
        rw [lp6] at h6e
        exact ⟨_, by rw [x_Seq, h6e, obnd_ret]⟩
      | true =>
        rw [e3, if_neg (by decide)] at lp6
        rw [lp6] at h6e
        rw [seq_next h6e]
        have tb : isTb (ls.length : Int) (.tup l) = true := by rw [qt, e2, e3]; rfl
        obtain ⟨ev', lv, sv⟩ := tb_ok tb (hs l rfl)
        rw [tb, Bool.true_and]
        generalize hvs : qs (.tup l) = vs at *
        rw [ev']
        obtain ⟨s7, h7, lp7⟩ := for_ret (C := callN T m) (i := 7) (A := Q7i) (r := .tup [.str "rights", .int 2]) (fun s => V35 O ls.length X (.val (.tup [.int (i : Int), .int (j : Int)])) (.val (.int (t : Int))) (.val (vsD vs)) s6 s) (fun s x hs => st_nv1 hs rfl) (fun z => lt2 (vs.getD (e0 z) (0, 1)) (vs.getD (e1 z) (0, 1))) (ordP ls) .none (.inl rfl) fun z hz => by
          obtain ⟨p, q, hp, hq, rfl, _⟩ := mem_ord.mp hz
          have a0 : e0 (.tup [.int (p : Int), .int (q : Int)]) = p := Int.toNat_natCast p
          have a1 : e1 (.tup [.int (p : Int), .int (q : Int)]) = q := Int.toNat_natCast q
          rw [a0, a1]
          have x1 := vs_ix (vs := vs) (k := p) (by omega)
          have x2 := vs_ix (vs := vs) (k := q) (by omega)
          have k := l_less (n := m) (by omega) (vs_sq sv (k := p) (by omega)) (vs_sq sv (k := q) (by omega))
          generalize vsD vs = VV at *
          generalize qD (vs.getD p (0, 1)) = v1 at *
          generalize qD (vs.getD q (0, 1)) = v2 at *
          cases f : lt2 (vs.getD p (0, 1)) (vs.getD q (0, 1)) with
          | true => rw [f] at k; rw [if_pos rfl]; simp_arith [cq0, cq1, x1, x2, k]
          | false => rw [f] at k; rw [if_neg Bool.false_ne_true]; simp_arith [cq0, cq1, x1, x2, k]
        rw [fls_any] at lp7
        have h7e : Q7 (callN T m) (V35 O ls.length X (.val (.tup [.int (i : Int), .int (j : Int)])) (.val (.int (t : Int))) (.val (vsD vs)) s6 .none) = forL (.v 7) Q7i (callN T m) (ordP ls) (V35 O ls.length X (.val (.tup [.int (i : Int), .int (j : Int)])) (.val (.int (t : Int))) (.val (vsD vs)) s6 .none) := by
          generalize vsD vs = VV at *
          unfold Q7 Q7i
          generalize ordP ls = OL at *
          simp_arith [ho]
        cases e4 : fls ls vs with
        | true =>
          rw [e4, if_pos rfl] at lp7
          rw [lp7] at h7e
          rw [show (!true && lt2 (vs.getD i (0, 1)) (vs.getD j (0, 1))) = false from rfl, if_neg Bool.false_ne_true, er]
          exact ⟨_, by rw [x_Seq, h7e, obnd_ret]⟩
        | false =>
          rw [e4, if_neg Bool.false_ne_true] at lp7
          rw [lp7] at h7e
          rw [seq_next h7e, show (!false && lt2 (vs.getD i (0, 1)) (vs.getD j (0, 1))) = lt2 (vs.getD i (0, 1)) (vs.getD j (0, 1)) from rfl]
          have x1 := vs_ix (vs := vs) (k := i) (by omega)
          have x2 := vs_ix (vs := vs) (k := j) (by omega)
          have k := l_less (n := m) (by omega) (vs_sq sv (k := i) (by omega)) (vs_sq sv (k := j) (by omega))
          generalize vsD vs = VV at *
          generalize qD (vs.getD i (0, 1)) = v1 at *
          generalize qD (vs.getD j (0, 1)) = v2 at *
          refine ⟨V35 O ls.length X (.val (.tup [.int (i : Int), .int (j : Int)])) (.val (.int (t : Int))) (.val VV) s6 s7, ?_⟩
          cases f : lt2 (vs.getD i (0, 1)) (vs.getD j (0, 1)) with
          | true => rw [f] at k; rw [if_pos rfl]; simp_arith [cq0, cq1, x1, x2, k]; rfl
          | false => rw [f] at k; rw [if_neg Bool.false_ne_true, er]; simp_arith [cq0, cq1, x1, x2, k]
end
end K10
set_option Elab.async false
set_option linter.all false
set_option maxRecDepth 100000
set_option maxHeartbeats 4000000
namespace K10
open PySem RX RY MQ
section
variable {n a b a' b' : Nat} {cs ds : List Cs} {x y z : D}
theorem isI_no {x : D} (h : isI x = false) {L : Nat} {y : D} : unl L x y = false ∧ unl L y x = false := by
  cases x <;> first | (cases y <;> exact ⟨rfl, rfl⟩) | cases h
theorem l_verdict (hn : 4 ≤ n) (on : cs.length ≤ 8) (hl : ds.length = cs.length) (hx : gd x = true) (hs : Sml x) : callN T n 35 [.d (orsD cs ds), .d (.int (cs.length : Int)), .d x] = .ok (.d (vrD (vdF cs ds x))) [] := by
  obtain ⟨m, rfl, hm⟩ := up hn
  rw [callN_eq (d := d35) (np := 3) (ns := 8) rfl rfl]
  have t := isi_tup (gd_plain hx)
  have n1 : fNeg (.int 1) = some (.d (.int (-1))) := rfl
  have e1' : vrD (.error ("shape", -1)) = .tup [.str "shape", .int (-1)] := rfl
  have e2' : vrD (.error ("pair", 0)) = .tup [.str "pair", .int 0] := rfl
  cases e : isTp x with
  | false =>
    rw [e] at t
    rw [vdF_no e, e1']
    unfold d35
    generalize orsD cs ds = O at *
    simp_arith [t, n1]
  | true =>
    rw [e] at t
    obtain ⟨l, rfl⟩ := isTp_ok e
    by_cases h3 : l.length = 3
    · obtain ⟨p, q, r, rfl⟩ := len3 h3
      obtain ⟨_, hgl⟩ := gd_tup.mp hx
      have gr := hgl r (by simp)
      have ne : fNe (.int 3) (.int 3) = some (.d (.bl false)) := rfl
      have kp := l_whole (n := m) (x := p) (by omega) (gd_plain (hgl p (by simp)))
      have kq := l_whole (n := m) (x := q) (by omega) (gd_plain (hgl q (by simp)))
      have ef : vdF cs ds (.tup [p, q, r]) = if (unl cs.length p q && !(hidB cs p q == hidB ds p q)) = true then (if rgt cs ds (dn p) (dn q) r = true then .ok (if hidB cs p q = true then 1 else 0) else .error ("rights", 2)) else .error ("pair", 0) := rfl
      rw [ef]
      cases ip : isI p with
      | false =>
        rw [ip] at kp
        rw [(isI_no ip).1, Bool.false_and, if_neg Bool.false_ne_true, e2']
        unfold d35
        generalize orsD cs ds = O at *
        simp_arith [t, bl3, ne, i30, i31, cq0, cq1, kp]
      | true =>
        rw [ip] at kp
        cases iq : isI q with
        | false =>
          rw [iq] at kq
          rw [(isI_no iq).2, Bool.false_and, if_neg Bool.false_ne_true, e2']
          unfold d35
          generalize orsD cs ds = O at *
          simp_arith [t, bl3, ne, i30, i31, cq0, cq1, kp, kq]
        | true =>
          rw [iq] at kq
          obtain ⟨p, rfl⟩ := isI_ok ip
          obtain ⟨q, rfl⟩ := isI_ok iq
          have a1 := in_any (cs := cs) on (p := p) (q := q)
          have a2 := in_any (cs := ds) (by omega) (p := p) (q := q)
          rw [hl] at a2
          have o0 := or_0 (cs := cs) (ds := ds)
          have o1 := or_1 (cs := cs) (ds := ds)
          have fe : ∀ u v : Bool, fEq (.bl u) (.bl v) = some (.d (.bl (u == v))) := fun _ _ => rfl
          cases hu : unl cs.length (.int p) (.int q) with
          | false =>
            rw [hu, Bool.false_and] at a1 a2
            have fe := fe false false
            have fe : fEq (.bl false) (.bl false) = some (.d (.bl true)) := rfl
            rw [Bool.false_and, if_neg Bool.false_ne_true, e2']
            unfold d35
            generalize orsD cs ds = O at *
            generalize D.tup (ordP cs) = P1 at *
            generalize D.tup (ordP ds) = P2 at *
            simp_arith [t, bl3, ne, i30, i31, cq0, cq1, kp, kq, o0, o1, a1, a2, fe]
          | true =>
            rw [hu, Bool.true_and] at a1 a2
            have fe := fe (hidB cs (.int p) (.int q)) (hidB ds (.int p) (.int q))
            rw [Bool.true_and]
            obtain ⟨i, j, ei, ej, hi, hj, _⟩ := unl_ok hu
            cases ei
            cases ej
            rw [dn_nat, dn_nat]
            cases h5 : hidB cs (.int (i : Int)) (.int (j : Int)) == hidB ds (.int (i : Int)) (.int (j : Int)) with
            | true =>
              rw [h5] at fe
              rw [if_neg (show ¬ (!true) = true by decide), e2']
              unfold d35
              generalize orsD cs ds = O at *
              generalize D.tup (ordP cs) = P1 at *
              generalize D.tup (ordP ds) = P2 at *
              simp_arith [t, bl3, ne, i30, i31, cq0, cq1, kp, kq, o0, o1, a1, a2, fe]
            | false =>
              rw [h5] at fe
              rw [if_pos (show (!false) = true from rfl)]
              have hs' : ∀ l, r = .tup l → ∀ y ∈ l, isQ y = true → Sm 60 (qv y).1 ∧ Sm 60 (qv y).2 := fun l e => by subst e; exact hs _ _ l rfl
              have h0 : Q0 (callN T m) (V35 (orsD cs ds) cs.length (.tup [.int (i : Int), .int (j : Int), r]) .none .none .none .none .none) = .next (V35 (orsD cs ds) cs.length (.tup [.int (i : Int), .int (j : Int), r]) .none .none .none .none .none) := by
                generalize orsD cs ds = O at *
                simp_arith [t, bl3, ne]
              have h1 : Q1 (callN T m) (V35 (orsD cs ds) cs.length (.tup [.int (i : Int), .int (j : Int), r]) .none .none .none .none .none) = .next (V35 (orsD cs ds) cs.length (.tup [.int (i : Int), .int (j : Int), r]) (.val (.tup [.int (i : Int), .int (j : Int)])) .none .none .none .none) := by
                generalize orsD cs ds = O at *
                simp_arith [i30, i31]
              have h2 : Q2 (callN T m) (V35 (orsD cs ds) cs.length (.tup [.int (i : Int), .int (j : Int), r]) (.val (.tup [.int (i : Int), .int (j : Int)])) .none .none .none .none) = .next (V35 (orsD cs ds) cs.length (.tup [.int (i : Int), .int (j : Int), r]) (.val (.tup [.int (i : Int), .int (j : Int)])) .none .none .none .none) := by
                generalize orsD cs ds = O at *
                generalize D.tup (ordP cs) = P1 at *
                generalize D.tup (ordP ds) = P2 at *
                simp_arith [cq0, cq1, kp, kq, o0, o1, a1, a2, fe]
              have h3' : Q3 (callN T m) (V35 (orsD cs ds) cs.length (.tup [.int (i : Int), .int (j : Int), r]) (.val (.tup [.int (i : Int), .int (j : Int)])) .none .none .none .none) = .next (V35 (orsD cs ds) cs.length (.tup [.int (i : Int), .int (j : Int), r]) (.val (.tup [.int (i : Int), .int (j : Int)])) (.val (.int (if hidB cs (.int (i : Int)) (.int (j : Int)) = true then 1 else 0))) .none .none .none) := by
                generalize orsD cs ds = O at *
                generalize D.tup (ordP cs) = P1 at *
                simp_arith [o0, a1, bInt_b]
              have h4 : ∀ s4, Q4 (callN T m) (V35 (orsD cs ds) cs.length (.tup [.int (i : Int), .int (j : Int), r]) (.val (.tup [.int (i : Int), .int (j : Int)])) s4 .none .none .none) = .next (V35 (orsD cs ds) cs.length (.tup [.int (i : Int), .int (j : Int), r]) (.val (.tup [.int (i : Int), .int (j : Int)])) s4 (.val r) .none .none) := fun s4 => by
                generalize orsD cs ds = O at *
                simp_arith [i32]
              rw [show d35 = _ from Qeq]
              have si : ([RX.Arg.d (orsD cs ds), .d (.int (cs.length : Int)), .d (.tup [.int (i : Int), .int (j : Int), r])].map RX.Arg.sl ++ List.replicate (8 - 3) .none) = V35 (orsD cs ds) cs.length (.tup [.int (i : Int), .int (j : Int), r]) .none .none .none .none .none := rfl
              rw [si, seq_next h0, seq_next h1, seq_next h2, seq_next h3', seq_next (h4 _)]
              cases h6 : hidB cs (.int (i : Int)) (.int (j : Int)) with
              | true =>
                have el : lack cs ds i j = ds := if_pos h6
                obtain ⟨ρ', tl⟩ := tail35 (m := m) (by omega) (ls := ds) (by omega) (O := orsD cs ds) (X := .tup [.int (i : Int), .int (j : Int), r]) (i := i) (j := j) (by omega) (by omega) gr hs' (t := 1) o1
                rw [hl] at tl
                have er : rgt cs ds i j r = (isTb (cs.length : Int) r && (!fls ds (qs r) && lt2 ((qs r).getD i (0, 1)) ((qs r).getD j (0, 1)))) := by unfold rgt; rw [el]
                rw [if_pos rfl, er]
                have tl : (sSeq Q5 (sSeq Q6 (sSeq Q7 (sSeq Q8 Q9)))) (callN T m) (V35 (orsD cs ds) cs.length (.tup [.int (i : Int), .int (j : Int), r]) (.val (.tup [.int (i : Int), .int (j : Int)])) (.val (.int 1)) (.val r) .none .none) = _ := tl
                rw [tl]
                rfl
              | false =>
                have el : lack cs ds i j = cs := if_neg (show ¬ hb cs i j = true by show ¬ hidB cs (.int (i : Int)) (.int (j : Int)) = true; rw [h6]; exact Bool.false_ne_true)
                obtain ⟨ρ', tl⟩ := tail35 (m := m) (by omega) (ls := cs) on (O := orsD cs ds) (X := .tup [.int (i : Int), .int (j : Int), r]) (i := i) (j := j) hi hj gr hs' (t := 0) o0
                have er : rgt cs ds i j r = (isTb (cs.length : Int) r && (!fls cs (qs r) && lt2 ((qs r).getD i (0, 1)) ((qs r).getD j (0, 1)))) := by unfold rgt; rw [el]
                rw [if_neg Bool.false_ne_true, er]
                have tl : (sSeq Q5 (sSeq Q6 (sSeq Q7 (sSeq Q8 Q9)))) (callN T m) (V35 (orsD cs ds) cs.length (.tup [.int (i : Int), .int (j : Int), r]) (.val (.tup [.int (i : Int), .int (j : Int)])) (.val (.int 0)) (.val r) .none .none) = _ := tl
                rw [tl]
                rfl
    · rw [vdF_len h3, e1']
      have k3 : ((l.length : Int) == 3) = false := beq_eq_false_iff_ne.mpr (by omega)
      unfold d35
      generalize orsD cs ds = O at *
      simp_arith [t, lenT, k3, n1]
end
end K10
set_option Elab.async false
set_option linter.all false
set_option maxRecDepth 100000
set_option maxHeartbeats 4000000
namespace K10
open PySem RX RY MQ
/-! ### asked, and what is told -/
theorem mI1 : m_InvalidPaper 1 = true := rfl
theorem mI0 : m_InvalidPaper 0 = false := rfl
theorem mC0 : m_CourtError 0 = true := rfl
theorem kP1 : k_PaperError 1 = true := rfl
theorem kN0 : k_NotUsable 0 = true := rfl
theorem kT0 : k_TableError 0 = true := rfl
theorem lkw {w k : D} : List.lookup ("word" : Str) ([("word", w), ("at", k)] : List (Str × D)) = some w := rfl
theorem lka {w k : D} : List.lookup ("at" : Str) ([("word", w), ("at", k)] : List (Str × D)) = some k := rfl
section
variable {m : Nat} {C O X v : D} {w : Str} {k : Int}
theorem a0 (h : callN T m 23 [.d C, .d O, .d X] = .ok (.d v) []) : callN T (m + 1) 36 [.d (.int 0), .d C, .d O, .d X] = .ok (.fresh [.int 0, v]) [] := by
  rw [callN_eq (d := d36) (np := 4) (ns := 5) rfl rfl]
  unfold d36
  have e0 : ((0 : Int) == 0) = true := rfl
  simp_arith [e0, h]
theorem a0e (h : callN T m 23 [.d C, .d O, .d X] = .exc 1 (exE w k)) : callN T (m + 1) 36 [.d (.int 0), .d C, .d O, .d X] = .ok (.fresh [.int 1, .str w, .int k]) [] := by
  rw [callN_eq (d := d36) (np := 4) (ns := 5) rfl rfl]
  unfold d36
  unfold exE at h
  have e0 : ((0 : Int) == 0) = true := rfl
  have b0 : bInt [.bl false] = some (.d (.int 0)) := rfl
  have e1 : (1 : Int) + 0 = 1 := rfl
  simp_arith [e0, h, try2_1 mI1, x_IsE, isKE_e, kP1, b0, e1, fldK_some (lkw (w := .str w) (k := .int k)), fldK_some (lka (w := .str w) (k := .int k))]
theorem a0x (h : callN T m 23 [.d C, .d O, .d X] = .exc 0 (err w)) : callN T (m + 1) 36 [.d (.int 0), .d C, .d O, .d X] = .ok (.fresh [.int 3, .str w, .int (-1)]) [] := by
  rw [callN_eq (d := d36) (np := 4) (ns := 5) rfl rfl]
  unfold d36
  unfold err at h
  have e0 : ((0 : Int) == 0) = true := rfl
  simp_arith [e0, h, try2_2 mI0 mC0, x_IsE, isKE_e, kN0, kT0, fldK_some (lkw (w := .str w) (k := .int (-1))), fldK_some (lka (w := .str w) (k := .int (-1)))]
theorem a1 (h : callN T m 21 [.d C, .d O] = .ok (.d v) []) : callN T (m + 1) 36 [.d (.int 1), .d C, .d O, .d X] = .ok (.fresh [.int 0, v]) [] := by
  rw [callN_eq (d := d36) (np := 4) (ns := 5) rfl rfl]
  unfold d36
  have e0 : ((1 : Int) == 0) = false := rfl
  have e1 : ((1 : Int) == 1) = true := rfl
  simp_arith [e0, e1, h]
theorem a1x (h : callN T m 21 [.d C, .d O] = .exc 0 (err w)) : callN T (m + 1) 36 [.d (.int 1), .d C, .d O, .d X] = .ok (.fresh [.int 3, .str w, .int (-1)]) [] := by
  rw [callN_eq (d := d36) (np := 4) (ns := 5) rfl rfl]
  unfold d36
  unfold err at h
  have e0 : ((1 : Int) == 0) = false := rfl
  have e1 : ((1 : Int) == 1) = true := rfl
  simp_arith [e0, e1, h, try2_2 mI0 mC0, x_IsE, isKE_e, kN0, kT0, fldK_some (lkw (w := .str w) (k := .int (-1))), fldK_some (lka (w := .str w) (k := .int (-1)))]
theorem a2 (h : callN T m 22 [.d C, .d O] = .ok (.d v) []) : callN T (m + 1) 36 [.d (.int 2), .d C, .d O, .d X] = .ok (.fresh [.int 0, v]) [] := by
  rw [callN_eq (d := d36) (np := 4) (ns := 5) rfl rfl]
  unfold d36
  have e0 : ((2 : Int) == 0) = false := rfl
  have e1 : ((2 : Int) == 1) = false := rfl
  simp_arith [e0, e1, h]
theorem a2x (h : callN T m 22 [.d C, .d O] = .exc 0 (err w)) : callN T (m + 1) 36 [.d (.int 2), .d C, .d O, .d X] = .ok (.fresh [.int 3, .str w, .int (-1)]) [] := by
  rw [callN_eq (d := d36) (np := 4) (ns := 5) rfl rfl]
  unfold d36
  unfold err at h
  have e0 : ((2 : Int) == 0) = false := rfl
  have e1 : ((2 : Int) == 1) = false := rfl
  simp_arith [e0, e1, h, try2_2 mI0 mC0, x_IsE, isKE_e, kN0, kT0, fldK_some (lkw (w := .str w) (k := .int (-1))), fldK_some (lka (w := .str w) (k := .int (-1)))]
end
section
variable {n : Nat} {w : Str} {i k : Int}
theorem named_o (hn : 2 ≤ n) : callN T n 37 [.own [.int i, .str w, .int k], .d (.int i), .d (.str w), .d (.int k)] = .ok (.d (.bl true)) [[.int i, .str w, .int k]] := by
  obtain ⟨m, rfl, hm⟩ := up hn
  rw [callN_eq (d := d37) (np := 4) (ns := 4) rfl rfl]
  unfold d37
  have kw := l_whole (n := m) (x := .int k) (by omega) rfl
  have kw : callN T m 27 [.d (.int k)] = .ok (.d (.bl true)) [] := kw
  have is : bIsi .str [.str w] = some (.d (.bl true)) := rfl
  have fs := f_eqS (x := w) (y := w)
  rw [beq_self_eq_true] at fs
  show endF _ _ = CR.ok (.d (.bl true)) [[.int i, .str w, .int k]]
  simp_arith [l3_0, l3_1, l3_2, is, fs, kw]
theorem named_d (hn : 2 ≤ n) : callN T n 37 [.d (.lst [.int i, .str w, .int k]), .d (.int i), .d (.str w), .d (.int k)] = .ok (.d (.bl true)) [] := by
  obtain ⟨m, rfl, hm⟩ := up hn
  rw [callN_eq (d := d37) (np := 4) (ns := 4) rfl rfl]
  unfold d37
  have kw := l_whole (n := m) (x := .int k) (by omega) rfl
  have kw : callN T m 27 [.d (.int k)] = .ok (.d (.bl true)) [] := kw
  have is : bIsi .str [.str w] = some (.d (.bl true)) := rfl
  have fs := f_eqS (x := w) (y := w)
  rw [beq_self_eq_true] at fs
  simp_arith [l3_0, l3_1, l3_2, is, fs, kw]
end
/-! ### two courts beside one another -/
structure Two (a b a' b' : Nat) (cs ds : List Cs) : Prop where
  o : Ok a b cs
  o' : Ok a' b' ds
  l : ds.length = cs.length
  g : gd (bk cs) = true
  g' : gd (bk ds) = true
  c : crt (bk cs) = none
  c' : crt (bk ds) = none
section
variable {n a b a' b' : Nat} {cs ds : List Cs} {x : D}
theorem Two.swap (t : Two a b a' b' cs ds) : Two a' b' a b ds cs := ⟨t.o', t.o, t.l.symm, t.g', t.g, t.c', t.c⟩
theorem nO_ok {L : Nat} (h : crt (bk cs) = none) (hl : cs.length = L) : nO L (bk cs) = true := by
  unfold nO
  rw [h]
  show (true && ((((cs.map Cs.d).length : Int)) == (L : Int))) = true
  rw [List.length_map, hl, beq_self_eq_true]
  rfl
theorem Two.ot (t : Two a b a' b' cs ds) : nO cs.length (bk ds) = true := nO_ok t.c' t.l
theorem vd3 {p q r : D} : vdF cs ds (.tup [p, q, r]) = if (unl cs.length p q && !(hidB cs p q == hidB ds p q)) = true then (if rgt cs ds (dn p) (dn q) r = true then .ok (if hidB cs p q = true then 1 else 0) else .error (("rights" : Str), 2)) else .error (("pair" : Str), 0) := rfl
theorem vd_swap (hl : ds.length = cs.length) : vdF ds cs x = match vdF cs ds x with
    | .error e => .error e
    | .ok k => .ok (1 - k) := by
  cases e : isTp x with
  | false => rw [vdF_no e, vdF_no e]
  | true =>
    obtain ⟨l, rfl⟩ := isTp_ok e
    by_cases h3 : l.length = 3
    · obtain ⟨p, q, r, rfl⟩ := len3 h3
      rw [vd3, vd3]
      rw [hl, show (hidB ds p q == hidB cs p q) = (hidB cs p q == hidB ds p q) from BEq.comm]
      cases hu : unl cs.length p q with
      | false => rfl
      | true =>
        rw [Bool.true_and]
        obtain ⟨i, j, rfl, rfl, _, _, _⟩ := unl_ok hu
        cases h5 : hidB cs (.int (i : Int)) (.int (j : Int)) == hidB ds (.int (i : Int)) (.int (j : Int)) with
        | true => rfl
        | false =>
          have hne := beq_eq_false_iff_ne.mp h5
          rw [dn_nat, dn_nat, if_pos (show (!false) = true from rfl), if_pos (show (!false) = true from rfl)]
          have hr : rgt ds cs i j r = rgt cs ds i j r := by
            unfold rgt lack hb
            rw [hl]
            cases h6 : hidB cs (.int (i : Int)) (.int (j : Int)) <;> cases h7 : hidB ds (.int (i : Int)) (.int (j : Int))
            · rw [h6, h7] at hne; exact absurd rfl hne
            · rfl
            · rfl
            · rw [h6, h7] at hne; exact absurd rfl hne
          rw [hr]
          cases rgt cs ds i j r with
          | false => rfl
          | true =>
            cases h6 : hidB cs (.int (i : Int)) (.int (j : Int)) <;> cases h7 : hidB ds (.int (i : Int)) (.int (j : Int))
            · rw [h6, h7] at hne; exact absurd rfl hne
            · rfl
            · rfl
            · rw [h6, h7] at hne; exact absurd rfl hne
    · rw [vdF_len h3, vdF_len h3]
theorem vd_le {k : Nat} (h : vdF cs ds x = .ok k) : k ≤ 1 := by
  unfold vdF at h
  split at h
  · split at h
    · split at h
      · cases h
        split <;> omega
      · cases h
    · cases h
  · cases h
abbrev bksD (cs ds : List Cs) : D := .tup [bk cs, bk ds]
theorem s38 (hn : 11 ≤ n) (t : Two a b a' b' cs ds) (hx : gd x = true) (hs : Sml x) : callN T n 38 [.d (bksD cs ds), .d (orsD cs ds), .d x] = .ok (.d (.bl true)) [] := by
  obtain ⟨m0, rfl, hm0⟩ := up hn
  obtain ⟨m, rfl, hm⟩ := up hm0
  rw [callN_eq (d := d38) (np := 3) (ns := 6) rfl rfl]
  unfold d38
  have kv := l_verdict (n := m + 1) (by omega) t.o.n t.l hx hs
  have k1 := p_lets_parting (n := m) (by omega) t.o t.o' t.l t.g' t.ot hx hs
  have k2 := p_lets_parting (n := m) (by omega) t.o' t.o t.l.symm t.g t.swap.ot hx hs
  rw [vd_swap t.l] at k2
  have b0 : fIx (bksD cs ds) (.int 0) = some (.d (bk cs)) := rfl
  have b1 : fIx (bksD cs ds) (.int 1) = some (.d (bk ds)) := rfl
  have bl := bk_len (cs := cs)
  cases e : vdF cs ds x with
  | error wk =>
    obtain ⟨w, k⟩ := wk
    rw [e] at kv k1 k2
    have A1 := a0e (X := x) k1
    have A2 := a0e (X := x) k2
    have ev' : vrD (.error (w, k)) = .tup [.str w, .int k] := rfl
    rw [ev'] at kv
    have N := named_o (n := m + 1) (w := w) (k := k) (i := 1) (by omega)
    have ti : bIsi .tuple [.tup [.str w, .int k]] = some (.d (.bl true)) := rfl
    generalize bksD cs ds = BB at *
    generalize orsD cs ds = O at *
    generalize bk cs = B at *
    generalize bk ds = B' at *
    simp_arith [b0, b1, bl, kv, A1, A2, ti, cq0, cq1, N]
  | ok k =>
    have hk := vd_le e
    rw [e] at kv k1 k2
    have A1 := a0 (X := x) k1
    have A2 := a0 (X := x) k2
    have ev' : vrD (.ok k) = .int (k : Int) := rfl
    rw [ev'] at kv
    have ti : bIsi .tuple [.int (k : Int)] = some (.d (.bl false)) := rfl
    have w1 := l_whole (n := m + 1) (x := .int (k : Int)) (by omega) rfl
    have w1 : callN T (m + 1) 27 [.d (.int (k : Int))] = .ok (.d (.bl true)) [] := w1
    have w2 := l_whole (n := m + 1) (x := .int ((1 - k : Nat) : Int)) (by omega) rfl
    have w2 : callN T (m + 1) 27 [.d (.int ((1 - k : Nat) : Int))] = .ok (.d (.bl true)) [] := w2
    have e1 : (((1 - k : Nat) : Int) == 1 - (k : Int)) = true := beq_iff_eq.mpr (by omega)
    have e0 : ((0 : Int) == 0) = true := rfl
    have n0 : fNe (.int 0) (.int 0) = some (.d (.bl false)) := rfl
    generalize ((1 - k : Nat) : Int) = k' at *
    generalize bksD cs ds = BB at *
    generalize orsD cs ds = O at *
    generalize bk cs = B at *
    generalize bk ds = B' at *
    simp_arith [b0, b1, bl, kv, A1, A2, ti, l2_0, l2_1, n0, w1, w2, e1]
end
end K10
set_option Elab.async false
set_option linter.all false
set_option maxRecDepth 100000
set_option maxHeartbeats 4000000
namespace K10
open PySem RX RY MQ
/-! ### courts that are courts -/
structure GC (c : Cs) : Prop where
  w : 1 ≤ c.w
  p : isQ c.p = true
  gp : gd c.p = true
  q : isF c.q = true
  gq : gd c.q = true
  g0 : ∀ i ∈ c.h0, 0 ≤ i ∧ i ≤ 3
  g1 : ∀ i ∈ c.h1, 0 ≤ i ∧ i ≤ 3
  s : 0 ≤ c.s
abbrev hD (h0 h1 : List Int) : D := .tup [.tup (h0.map .int), .tup (h1.map .int)]
section
variable {n a b a' b' : Nat} {cs ds : List Cs} {x : D}
theorem pr_hD {h0 h1 : List Int} (z0 : ∀ i ∈ h0, 0 ≤ i) (z1 : ∀ i ∈ h1, 0 ≤ i) : pr (hD h0 h1) = true := by
  show ((h0.map D.int).all isNn && (h1.map D.int).all isNn) = true
  rw [all_nat z0, all_nat z1]
  rfl
theorem cf_cs {c : Cs} (g : GC c) {y : Option D} (hy : yq y (hD c.h0 c.h1) = true) : cf y c.d = none := by
  show (if isP (.int c.w) = false then some ("weight" : Str) else if isQ c.p = false then some ("right" : Str) else if isF c.q = false then some ("factors" : Str) else if pr (hD c.h0 c.h1) = false then some ("holdings" : Str)
    else if yq y (hD c.h0 c.h1) = false then some ("holdings" : Str) else if isNn (.int c.s) = false then some ("sight" : Str) else none) = none
  rw [show isP (.int c.w) = true from decide_eq_true g.w, g.p, g.q, pr_hD (fun i hi => (g.g0 i hi).1) (fun i hi => (g.g1 i hi).1), hy, show isNn (.int c.s) = true from decide_eq_true g.s]
  rfl
theorem wk_none {c : D → Option Str} : ∀ {l : List D} {k : Nat}, (∀ x ∈ l, c x = none) → wk c k l = none
  | [], _, _ => rfl
  | x :: l, k, h => by
    unfold wk
    rw [h x List.mem_cons_self]
    exact wk_none fun y hy => h y (List.mem_cons_of_mem _ hy)
theorem crt_good (o : Ok a b cs) (h : ∀ c ∈ cs, GC c) : crt (bk cs) = none := by
  have o1 := o.one
  cases cs with
  | nil => exact absurd o1 (by decide)
  | cons c r =>
    have e : crt (.tup (c.d :: r.map Cs.d)) = (wk (cf (some (hold c.d))) 1 (r.map Cs.d)).map fun p => (p.1, (p.2 : Int)) := crt_n (cf_cs (h c List.mem_cons_self) rfl)
    show crt (.tup (c.d :: r.map Cs.d)) = none
    rw [e, wk_none fun x hx => ?_]
    · rfl
    · obtain ⟨d, hd, rfl⟩ := List.mem_map.mp hx
      refine cf_cs (h d (List.mem_cons_of_mem _ hd)) ?_
      have lc := o.l c List.mem_cons_self
      have ld := o.l d (List.mem_cons_of_mem _ hd)
      show (((d.h0.map D.int).length == (c.h0.map D.int).length) && ((d.h1.map D.int).length == (c.h1.map D.int).length)) = true
      rw [List.length_map, List.length_map, List.length_map, List.length_map, lc.1, lc.2, ld.1, ld.2, beq_self_eq_true, beq_self_eq_true]
      rfl
theorem gd_cs {c : Cs} (g : GC c) (h0 : c.h0.length < 900) (h1 : c.h1.length < 900) : gd c.d = true := gdt (gdc rfl (gdc g.gp (gdc g.gq (gdc (gdt (gdc (gd_ints (by omega)) (gdc (gd_ints (by omega)) rfl)) rfl) (gdc rfl rfl))))) rfl
theorem gd_good (o : Ok a b cs) (h : ∀ c ∈ cs, GC c) : gd (bk cs) = true := gd_tup.mpr ⟨by rw [List.length_map]; have := o.n; omega, fun y hy => by
  obtain ⟨c, hc, rfl⟩ := List.mem_map.mp hy
  have l := o.l c hc
  have := o.a8
  have := o.b8
  exact gd_cs (h c hc) (by omega) (by omega)⟩
/-! ### drawn holdings, a drawn court -/
abbrev G0 : DS := (sSet 3 (dCallG 26 [.v 0, .e (dC (.int 3))] 2))
abbrev G1 : DS := (sSet 4 (dCallG 26 [.v 0, .e (dC (.int 3))] 2))
abbrev G2 : DS := (sSet 5 (dCallG 26 [.v 0, .e (dC (.int 2))] 2))
abbrev G3 : DS := (sIf (tCmpB fEq (dVar 1) (dC (.int 0))) (sRet (dTup [(dTup [(dVar 3)]), (dTup []), (dC (.int 0))])) sPass)
abbrev G4 : DS := (sIf (tCmpB fEq (dVar 1) (dC (.int 1))) (sRet (dTup [(dTup [(dOp fMod (dB1 bInt 3) (dC (.int 2))), (dVar 5)]), (dTup []), (dC (.int 0))])) sPass)
abbrev G5 : DS := (sIf (tCmpB fEq (dVar 1) (dC (.int 2))) (sRet (dTup [(dTup [(dVar 3)]), (dTup [(dOp fAdd (dOp fSub (dC (.int 2)) (dVar 3)) (dVar 5))]), (dC (.int 1))])) sPass)
abbrev G6 : DS := (sIf (tCmpB fEq (dVar 1) (dC (.int 3))) (sRet (dTup [(dTup [(dVar 3), (dVar 5)]), (dTup [(dVar 3)]), (dC (.int 0))])) sPass)
abbrev G7 : DS := (sIf (tCmpB fEq (dVar 1) (dC (.int 4))) (sRet (dTup [(dTup []), (dTup [(dVar 4), (dVar 5)]), (dC (.int 8))])) sPass)
abbrev G8 : DS := (sIf (tCmpB fEq (dVar 1) (dC (.int 5))) (sRet (dTup [(dTup [(dC (.int 1))]), (dTup [(dC (.int 1)), (dC (.int 0))]), (dC (.int 0))])) sPass)
abbrev G9 : DS := (sIf (tCmpB fEq (dVar 1) (dC (.int 6))) (sRet (dTup [(dTup [(dVar 3)]), (dTup [(dB bInt [(dOp fGt (dVar 4) (dC (.int 1)))])]), (dOp fMul (dC (.int 900000)) (dVar 5))])) sPass)
abbrev G10 : DS := (sRet (dTup [(dTup [(dVar 5), (dVar 4)]), (dTup [(dB bMin [(dC (.int 3)), (dOp fAdd (dVar 3) (dVar 5))])]), (dC (.int 0))]))
theorem Geq : d31 = (sSeq G0 (sSeq G1 (sSeq G2 (sSeq G3 (sSeq G4 (sSeq G5 (sSeq G6 (sSeq G7 (sSeq G8 (sSeq G9 G10)))))))))) := rfl
def Hl (h0 h1 : List Int) (s : Int) : D := .tup [.tup (h0.map .int), .tup (h1.map .int), .int s]
def la : Nat → Nat
  | 0 => 1 | 1 => 2 | 2 => 1 | 3 => 2 | 4 => 0 | 5 => 1 | 6 => 1 | _ => 2
def lb : Nat → Nat
  | 0 => 0 | 1 => 0 | 2 => 1 | 3 => 1 | 4 => 2 | 5 => 2 | 6 => 1 | _ => 1
abbrev V31 (k : Dk) (sort up down odd : Int) : RX.Env := [.par k.l, .val (.int sort), .gh k.gl, .val (.int up), .val (.int down), .val (.int odd)]
abbrev r31 : DS := (sSeq G3 (sSeq G4 (sSeq G5 (sSeq G6 (sSeq G7 (sSeq G8 (sSeq G9 G10)))))))
def G3s (l : List Int) : Prop := ∀ i ∈ l, 0 ≤ i ∧ i ≤ 3
theorem g3_0 : G3s [] := fun i hi => nomatch hi
theorem g3_1 {x : Int} (h : 0 ≤ x ∧ x ≤ 3) : G3s [x] := fun i hi => by cases List.mem_singleton.mp hi; exact h
theorem g3_2 {x y : Int} (h : 0 ≤ x ∧ x ≤ 3) (h' : 0 ≤ y ∧ y ≤ 3) : G3s [x, y] := fun i hi => by
  rcases List.mem_cons.mp hi with rfl | hi
  · exact h
  · cases List.mem_singleton.mp hi; exact h'
theorem t31 {C : Calls} {k : Dk} {sort : Nat} {up down odd : Int} (hs : sort < 8) (hu : 0 ≤ up ∧ up ≤ 2) (hd : 0 ≤ down ∧ down ≤ 2) (ho : 0 ≤ odd ∧ odd ≤ 1) : ∃ (h0 h1 : List Int) (s : Int), r31 C (V31 k (sort : Int) up down odd) = .ret (.d (Hl h0 h1 s)) (V31 k (sort : Int) up down odd) ∧ h0.length = la sort ∧ h1.length = lb sort ∧ G3s h0 ∧ G3s h1 ∧ 0 ≤ s := by
  have m1 := modK (i := up) (j := 2) (by decide)
  have c0 := fmod_bd (i := up) (w := 2) (by decide)
  have hu' : 0 ≤ up ∧ up ≤ 3 := by omega
  have hd' : 0 ≤ down ∧ down ≤ 3 := by omega
  have ho' : 0 ≤ odd ∧ odd ≤ 3 := by omega
  have h1' : (0 : Int) ≤ 1 ∧ (1 : Int) ≤ 3 := by decide
  have h0' : (0 : Int) ≤ 0 ∧ (0 : Int) ≤ 3 := by decide
  have mo : mulOk 900000 odd = true := mk (k := 20) (m := 20) (by show (900000 : Int).natAbs < 2 ^ 20; decide) (by unfold Sm; omega) (by omega)
  rcases (show sort = 0 ∨ sort = 1 ∨ sort = 2 ∨ sort = 3 ∨ sort = 4 ∨ sort = 5 ∨ sort = 6 ∨ sort = 7 by omega) with rfl | rfl | rfl | rfl | rfl | rfl | rfl | rfl
  · refine ⟨[up], [], 0, ?_, rfl, rfl, g3_1 hu', g3_0, by decide⟩
    show r31 C (V31 k 0 up down odd) = .ret _ (V31 k 0 up down odd)
    simp_arith [Hl, Int.reduceBEq]
  · refine ⟨[up.fmod 2, odd], [], 0, ?_, rfl, rfl, g3_2 (by omega) ho', g3_0, by decide⟩
    show r31 C (V31 k 1 up down odd) = .ret _ (V31 k 1 up down odd)
    simp_arith [Hl, bInt_i, m1, Int.reduceBEq]
  · refine ⟨[up], [2 - up + odd], 1, ?_, rfl, rfl, g3_1 hu', g3_1 (by omega), by decide⟩
    show r31 C (V31 k 2 up down odd) = .ret _ (V31 k 2 up down odd)
    simp_arith [Hl, Int.reduceBEq]
  · refine ⟨[up, odd], [up], 0, ?_, rfl, rfl, g3_2 hu' ho', g3_1 hu', by decide⟩
    show r31 C (V31 k 3 up down odd) = .ret _ (V31 k 3 up down odd)
    simp_arith [Hl, Int.reduceBEq]
  · refine ⟨[], [down, odd], 8, ?_, rfl, rfl, g3_0, g3_2 hd' ho', by decide⟩
    show r31 C (V31 k 4 up down odd) = .ret _ (V31 k 4 up down odd)
    simp_arith [Hl, Int.reduceBEq]
  · refine ⟨[1], [1, 0], 0, ?_, rfl, rfl, g3_1 h1', g3_2 h1' h0', by decide⟩
    show r31 C (V31 k 5 up down odd) = .ret _ (V31 k 5 up down odd)
    simp_arith [Hl, Int.reduceBEq]
  · refine ⟨[up], [if decide (1 < down) = true then 1 else 0], 900000 * odd, ?_, rfl, rfl, g3_1 hu', g3_1 (by split <;> omega), by omega⟩
    show r31 C (V31 k 6 up down odd) = .ret _ (V31 k 6 up down odd)
    simp_arith [Hl, bInt_b, mo, Int.reduceBEq]
  · refine ⟨[odd, down], [if up + odd < 3 then up + odd else 3], 0, ?_, rfl, rfl, g3_2 ho' hd', g3_1 (by split <;> omega), by decide⟩
    show r31 C (V31 k 7 up down odd) = .ret _ (V31 k 7 up down odd)
    simp_arith [Hl, bMn, Int.reduceBEq]
theorem s31 (hn : 2 ≤ n) (k : Dk) (hk : k.ok) {sort : Nat} (hs : sort < 8) : ∃ (h0 h1 : List Int) (s : Int) (k' : Dk), callN T n 31 [.own k.l, .d (.int (sort : Int)), .gh k.gl] = .ok (.d (Hl h0 h1 s)) [k'.l, k'.gl] ∧ h0.length = la sort ∧ h1.length = lb sort ∧ G3s h0 ∧ G3s h1 ∧ 0 ≤ s ∧ k'.ok := by
  obtain ⟨m, rfl, hm⟩ := up hn
  obtain ⟨p, k1, t1, b1, o1⟩ := takeN (n := m) (by omega) k hk (w := 3) (by decide) (by decide)
  obtain ⟨q, k2, t2, b2, o2⟩ := takeN (n := m) (by omega) k1 o1 (w := 3) (by decide) (by decide)
  obtain ⟨r, k3, t3, b3, o3⟩ := takeN (n := m) (by omega) k2 o2 (w := 2) (by decide) (by decide)
  obtain ⟨h0, h1, s, h, l0, l1, g0, g1, s0⟩ := t31 (C := callN T m) (k := k3) (up := (p : Int)) (down := (q : Int)) (odd := (r : Int)) hs (by omega) (by omega) (by omega)
  refine ⟨h0, h1, s, k3, ?_, l0, l1, g0, g1, s0, o3⟩
  rw [callN_eqG (np := 2) (ng := 1) (ns := 6) (d := d31) rfl rfl rfl, Geq]
  have q0 : G0 (callN T m) ([RX.Arg.own k.l, .d (.int (sort : Int)), .gh k.gl].map RX.Arg.sl ++ List.replicate (6 - (2 + 1)) .none) = .next [.par k1.l, .val (.int (sort : Int)), .gh k1.gl, .val (.int (p : Int)), .none, .none] := by simp_arith [t1]
  have q1 : G1 (callN T m) [.par k1.l, .val (.int (sort : Int)), .gh k1.gl, .val (.int (p : Int)), .none, .none] = .next [.par k2.l, .val (.int (sort : Int)), .gh k2.gl, .val (.int (p : Int)), .val (.int (q : Int)), .none] := by simp_arith [t2]
  have q2 : G2 (callN T m) [.par k2.l, .val (.int (sort : Int)), .gh k2.gl, .val (.int (p : Int)), .val (.int (q : Int)), .none] = .next (V31 k3 (sort : Int) (p : Int) (q : Int) (r : Int)) := by simp_arith [t3]
  rw [seq_next q0, seq_next q1, seq_next q2]
  unfold r31 at h
  rw [h]
  rfl
abbrev V32 (k : Dk) (many sort : Nat) (L : List D) (s5 s6 s7 : Sl) : RX.Env := [.par k.l, .val (.int (many : Int)), .gh k.gl, .val (.int (sort : Int)), .own L, s5, s6, s7]
abbrev B32 : DS := (sSeq (sSet 6 (dCallG 31 [.v 0, .v 3] 2)) (sSeq (sSet 7 (dOp fIx (dTup [(dTup [(dC (.int 0)), (dC (.int 1))]), (dTup [(dC (.int 1)), (dC (.int 1))]), (dTup [(dC (.int 5)), (dC (.int 2))]), (dTup [(dUn fNeg (dC (.int 4))), (dC (.int 3))])]) (dCallG 26 [.v 0, .e (dC (.int 4))] 2))) (sApp 4 (dTup [(dOp fAdd (dC (.int 1)) (dCallG 26 [.v 0, .e (dC (.int 7))] 2)), (dVar 7), (dTup [(dOp fAdd (dC (.int 1)) (dCallG 26 [.v 0, .e (dC (.int 2))] 2)), (dC (.int 1))]), (dTup [(dIxV 6 (dC (.int 0))), (dIxV 6 (dC (.int 1)))]), (dIxV 6 (dC (.int 2)))]))))
theorem turn32 {m : Nat} (hm : 2 ≤ m) {k : Dk} (hk : k.ok) {many sort : Nat} (hs : sort < 8) {cs : List Cs} (hc : cs.length ≤ 8) {s5 s6 s7 : Sl} (h6 : NV s6) (h7 : NV s7) : ∃ (c : Cs) (k' : Dk) (s6' s7' : Sl), B32 (callN T m) (V32 k many sort (cs.map Cs.d) s5 s6 s7) = .next (V32 k' many sort ((cs ++ [c]).map Cs.d) s5 s6' s7') ∧ c.h0.length = la sort ∧ c.h1.length = lb sort ∧ GC c ∧ k'.ok ∧ NV s6' ∧ NV s7' := by
  obtain ⟨h0, h1, s, k1, t1, l0, l1, g0, g1, s0, o1⟩ := s31 (n := m) hm k hk (sort := sort) hs
  obtain ⟨q2, k2, t2, b2, o2⟩ := takeN (n := m) (by omega) k1 o1 (w := 4) (by decide) (by decide)
  obtain ⟨q3, k3, t3, b3, o3⟩ := takeN (n := m) (by omega) k2 o2 (w := 7) (by decide) (by decide)
  obtain ⟨q4, k4, t4, b4, o4⟩ := takeN (n := m) (by omega) k3 o3 (w := 2) (by decide) (by decide)
  obtain ⟨r, e2, gr, qr⟩ : ∃ r, fIx (.tup [.tup [.int 0, .int 1], .tup [.int 1, .int 1], .tup [.int 5, .int 2], .tup [.int (-4), .int 3]]) (.int (q2 : Int)) = some (.d r) ∧ gd r = true ∧ isQ r = true := by
    rcases (show q2 = 0 ∨ q2 = 1 ∨ q2 = 2 ∨ q2 = 3 by omega) with rfl | rfl | rfl | rfl
    · exact ⟨_, rfl, rfl, rfl⟩
    · exact ⟨_, rfl, rfl, rfl⟩
    · exact ⟨_, rfl, rfl, rfl⟩
    · exact ⟨_, rfl, rfl, rfl⟩
  have sp : Hl h0 h1 s = .tup [.tup (h0.map .int), .tup (h1.map .int), .int s] := rfl
  have x0 : fIx (.tup [.tup (h0.map .int), .tup (h1.map .int), .int s]) (.int 0) = some (.d (.tup (h0.map .int))) := rfl
  have x1 : fIx (.tup [.tup (h0.map .int), .tup (h1.map .int), .int s]) (.int 1) = some (.d (.tup (h1.map .int))) := rfl
  have x2 : fIx (.tup [.tup (h0.map .int), .tup (h1.map .int), .int s]) (.int 2) = some (.d (.int s)) := rfl
  have n4 : fNeg (.int 4) = some (.d (.int (-4))) := rfl
  rw [sp] at t1
  let c : Cs := ⟨1 + (q3 : Int), r, .tup [.int (1 + (q4 : Int)), .int 1], h0, h1, s⟩
  have hcd : c.d = .tup [.int (1 + (q3 : Int)), r, .tup [.int (1 + (q4 : Int)), .int 1], .tup [.tup (h0.map .int), .tup (h1.map .int)], .int s] := rfl
  have ap := appX (C := callN T m) (i := 4) (e := dTup [(dOp fAdd (dC (.int 1)) (dCallG 26 [.v 0, .e (dC (.int 7))] 2)), (dVar 7), (dTup [(dOp fAdd (dC (.int 1)) (dCallG 26 [.v 0, .e (dC (.int 2))] 2)), (dC (.int 1))]), (dTup [(dIxV 6 (dC (.int 0))), (dIxV 6 (dC (.int 1)))]), (dIxV 6 (dC (.int 2)))])
    (ρ := V32 k2 many sort (cs.map Cs.d) s5 (.val (.tup [.tup (h0.map .int), .tup (h1.map .int), .int s])) (.val r))
    (ρ1 := V32 k4 many sort (cs.map Cs.d) s5 (.val (.tup [.tup (h0.map .int), .tup (h1.map .int), .int s])) (.val r)) (acc := cs.map Cs.d) (y := c.d) rfl (by rw [hcd]; simp_arith [t3, t4, x0, x1, x2]) rfl (by rw [List.length_map]; omega)
  have hm2 : cs.map Cs.d ++ [c.d] = (cs ++ [c]).map Cs.d := by rw [List.map_append]; rfl
  rw [hm2] at ap
  unfold V32 at ap ⊢
  simp only [List.set_cons_succ, List.set_cons_zero] at ap
  refine ⟨c, k4, .val (.tup [.tup (h0.map .int), .tup (h1.map .int), .int s]), .val r, ?_, l0, l1, ⟨by show 1 ≤ 1 + (q3 : Int); omega, qr, gr, ?_, rfl, g0, g1, s0⟩, o4, .inr ⟨_, rfl⟩, .inr ⟨_, rfl⟩⟩
  · generalize (cs ++ [c]).map Cs.d = L1 at *
    generalize cs.map Cs.d = L0 at *
    rcases h6 with rfl | ⟨d9, rfl⟩ <;> rcases h7 with rfl | ⟨d10, rfl⟩ <;> simp_arith [t1, n4, t2, e2, ap]
  · show (isP (.int (1 + (q4 : Int))) && isP (.int 1)) = true
    rw [show isP (.int (1 + (q4 : Int))) = true from decide_eq_true (by omega)]
    rfl
theorem s32 (hn : 4 ≤ n) (k : Dk) (hk : k.ok) {many : Nat} (h1 : 1 ≤ many) (h7 : many ≤ 7) : ∃ (a b : Nat) (cs : List Cs) (k' : Dk), callN T n 32 [.own k.l, .d (.int (many : Int)), .gh k.gl] = .ok (.d (bk cs)) [k'.l, k'.gl] ∧ Ok a b cs ∧ (∀ c ∈ cs, GC c) ∧ cs.length = many ∧ k'.ok ∧ a ≤ 2 ∧ b ≤ 2 := by
  obtain ⟨m, rfl, hm⟩ := up hn
  obtain ⟨sort, k2, t2, b2, o2⟩ := takeN (n := m) (by omega) k hk (w := 8) (by decide) (by decide)
  obtain ⟨ρ', lp, k5, cs, s5, s6, s7, rfl, o5, hlen, hall, _, _, _⟩ := for_rng (C := callN T m) (tg := .v 5) (A := B32) (ρ := V32 k2 many sort [] .none .none .none) (fun i ρ => ∃ (k : Dk) (cs : List Cs) (s5 s6 s7 : Sl), ρ = V32 k many sort (cs.map Cs.d) s5 s6 s7 ∧ k.ok ∧ cs.length = i ∧ (∀ c ∈ cs, c.h0.length = la sort ∧ c.h1.length = lb sort ∧ GC c) ∧ NV s5 ∧ NV s6 ∧ NV s7) (n := many)
    ⟨k2, [], .none, .none, .none, rfl, o2, rfl, fun c hc => (nomatch hc), .inl rfl, .inl rfl, .inl rfl⟩ fun i ρ hi ⟨k, cs, s5, s6, s7, e, o, hl, hc, h5, h6, h7⟩ => by
      subst e
      obtain ⟨c, k', s6', s7', q, l0, l1, gc, o', n6, n7⟩ := turn32 (m := m) (by omega) o (many := many) (sort := sort) (s5 := .val (.int (i : Int))) (by omega) (cs := cs) (by omega) h6 h7
      refine ⟨_, _, st_nv1 h5 rfl, .inl q, k', cs ++ [c], _, _, _, rfl, o', by rw [List.length_append, hl]; rfl, fun x hx => ?_, .inr ⟨_, rfl⟩, n6, n7⟩
      rcases List.mem_append.mp hx with hx | hx
      · exact hc x hx
      · cases List.mem_singleton.mp hx
        exact ⟨l0, l1, gc⟩
  have bs : -16777216 < (many : Int) ∧ (many : Int) < 16777216 := by omega
  have la2 : la sort ≤ 2 := by unfold la; split <;> omega
  have lb2 : lb sort ≤ 2 := by unfold lb; split <;> omega
  refine ⟨la sort, lb sort, cs, k5, ?_, ⟨by omega, by omega, by omega, by omega, fun c hc => ⟨(hall c hc).1, (hall c hc).2.1⟩⟩, fun c hc => (hall c hc).2.2, hlen, o5, la2, lb2⟩
  rw [callN_eqG (np := 2) (ng := 1) (ns := 8) (d := d32) rfl rfl rfl]
  unfold d32
  have eb : bTup [.lst (cs.map Cs.d)] = some (.d (bk cs)) := rfl
  unfold B32 at lp
  unfold V32 at lp
  show endF _ _ = CR.ok _ [k5.l, k5.gl]
  generalize bk cs = BB at *
  generalize cs.map Cs.d = L0 at *
  simp_arith [t2, asI, bs, lp, eb]
end
end K10
set_option Elab.async false
set_option linter.all false
set_option maxRecDepth 100000
set_option maxHeartbeats 4000000
namespace K10
open PySem RX RY MQ
section
variable {n a b a' b' : Nat} {cs ds : List Cs} {x : D}
/-! ### the other court -/
abbrev V33 (k : Dk) (B : D) (way seat grip : Int) (L : List D) (s7 s8 s9 s10 s11 : Sl) : RX.Env := [.par k.l, .val B, .gh k.gl, .val (.int way), .val (.int seat), .val (.int grip), .own L, s7, s8, s9, s10, s11, .none]
abbrev R0 : DS := (sSet 8 (dOp fIx (dOp fIx (dIxV 1 (dVar 7)) (dC (.int 3))) (dC (.int 0))))
abbrev R1 : DS := (sSet 9 (dOp fIx (dOp fIx (dIxV 1 (dVar 7)) (dC (.int 3))) (dC (.int 1))))
abbrev R2 : DS := (sSet 10 (dOp fIx (dIxV 1 (dVar 7)) (dC (.int 4))))
abbrev R3 : DS := (sSet 11 (dOp fIx (dIxV 1 (dVar 7)) (dC (.int 1))))
abbrev R4a : DS := (sSet 8 (dOp fAdd (dOp fAdd (dSlV 8 none (some (dVar 5))) (dTup [(dOp fSub (dC (.int 3)) (dIxV 8 (dVar 5)))])) (dSlV 8 (some (dOp fAdd (dVar 5) (dC (.int 1)))) none)))
abbrev R4b : DS := (sSet 9 (dOp fAdd (dTup [(dOp fSub (dC (.int 3)) (dIxV 9 (dC (.int 0))))]) (dSlV 9 (some (dC (.int 1))) none)))
abbrev R4c : DS := (sSeq (sSet 8 (dB bTup [(dComp [12] (iE (dOp fIx (dOp fIx (dIxV 1 (dVar 7)) (dC (.int 3))) (dC (.int 1)))) (.v 12) (tests []) (dOp fSub (dC (.int 3)) (dVar 12)))])) (sSet 9 (dB bTup [(dComp [12] (iE (dOp fIx (dOp fIx (dIxV 1 (dVar 7)) (dC (.int 3))) (dC (.int 0)))) (.v 12) (tests []) (dOp fSub (dC (.int 3)) (dVar 12)))])))
abbrev R4 : DS := (sIf (tAnd (tCmpB fEq (dVar 3) (dC (.int 0))) (tAnd (tCmpB fEq (dVar 7) (dVar 4)) (tCmpB fLt (dVar 5) (dB1 bLen 8)))) R4a (sIf (tAnd (tCmpB fEq (dVar 3) (dC (.int 0))) (tAnd (tCmpB fEq (dVar 7) (dVar 4)) (tCmpB fGt (dB1 bLen 9) (dC (.int 0))))) R4b (sIf (tCmpB fEq (dVar 3) (dC (.int 1))) R4c (sIf (tAnd (tCmpB fEq (dVar 3) (dC (.int 2))) (tCmpB fEq (dVar 7) (dVar 4))) (sSet 10 (dOp fAdd (dVar 10) (dC (.int 1)))) (sIf (tCmpB fEq (dVar 3) (dC (.int 4))) (sSeq (sSet 8 (dOp fIx (dOp fIx (dIxV 1 (dVar 7)) (dC (.int 3))) (dC (.int 1)))) (sSet 9 (dOp fIx (dOp fIx (dIxV 1 (dVar 7)) (dC (.int 3))) (dC (.int 0))))) (sIf (tCmpB fEq (dVar 3) (dC (.int 5))) (sSet 8 (dOp fAdd (dVar 8) (dTup [(dB bInt [(dOr (dOp fEq (dVar 7) (dVar 4)) (dOp fLt (dVar 7) (dVar 5)))])]))) (sIf (tCmpB fEq (dVar 3) (dC (.int 6))) (sSet 9 (dOp fAdd (dVar 9) (dTup [(dB bInt [(dOr (dOp fEq (dVar 7) (dVar 4)) (dOp fGt (dVar 7) (dVar 5)))])]))) (sSet 11 (dTup [(dOp fAdd (dVar 7) (dC (.int 1))), (dC (.int 1))])))))))))
abbrev R5 : DS := (sApp 6 (dTup [(dOp fAdd (dOp fIx (dIxV 1 (dVar 7)) (dC (.int 0))) (dVar 7)), (dVar 11), (dTup [(dC (.int 3)), (dOp fAdd (dC (.int 1)) (dVar 5))]), (dTup [(dVar 8), (dVar 9)]), (dVar 10)]))
abbrev A33 : DS := sSeq R0 (sSeq R1 (sSeq R2 (sSeq R3 (sSeq R4 R5))))
def nfa (way a b : Nat) : Nat := if way = 1 ∨ way = 4 then b else if way = 5 then a + 1 else a
def nfb (way a b : Nat) : Nat := if way = 1 ∨ way = 4 then a else if way = 6 then b + 1 else b
theorem G3s_put {h : List Int} (g : G3s h) {k : Nat} (hk : k < h.length) : G3s (h.take k ++ [3 - h.getD k 0] ++ h.drop (k + 1)) := fun i hi => by
  rcases List.mem_append.mp hi with hi | hi
  · rcases List.mem_append.mp hi with hi | hi
    · exact g i (List.mem_of_mem_take hi)
    · cases List.mem_singleton.mp hi
      rw [List.getD_eq_getElem?_getD, List.getElem?_eq_getElem hk]
      have := g _ (List.getElem_mem hk)
      show 0 ≤ 3 - h[k] ∧ 3 - h[k] ≤ 3
      omega
  · exact g i (List.mem_of_mem_drop hi)
theorem G3s_app {h : List Int} (g : G3s h) {x : Int} (hx : 0 ≤ x ∧ x ≤ 3) : G3s (h ++ [x]) := fun i hi => by
  rcases List.mem_append.mp hi with hi | hi
  · exact g i hi
  · cases List.mem_singleton.mp hi; exact hx
theorem G3s_neg {h : List Int} (g : G3s h) : G3s (h.map fun x => 3 - x) := fun i hi => by
  obtain ⟨x, hx, rfl⟩ := List.mem_map.mp hi
  have := g x hx
  omega
theorem neg33 {m : Nat} {k : Dk} {B : D} {way seat grip : Int} {L : List D} {s7 s8 s9 s10 s11 : Sl} {it : ID} {h : List Int} (hl : h.length ≤ 100) (hit : it (callN T m) (V33 k B way seat grip L s7 s8 s9 s10 s11) = .ok (h.map .int) (V33 k B way seat grip L s7 s8 s9 s10 s11)) : dComp [12] it (.v 12) (tests []) (dOp fSub (dC (.int 3)) (dVar 12)) (callN T m) (V33 k B way seat grip L s7 s8 s9 s10 s11) = .ok (.fresh ((h.map fun x => 3 - x).map .int)) (V33 k B way seat grip L s7 s8 s9 s10 s11) := by
  have c := comp_e (C := callN T m) (i := 12) (elt := dOp fSub (dC (.int 3)) (dVar 12)) (g := fun d => match d with | .int i => .int (3 - i) | _ => .non) (s := .none) hit rfl (.inl rfl) (by rw [List.length_map]; omega) fun d hd => by
    obtain ⟨i, _, rfl⟩ := List.mem_map.mp hd
    simp_arith []
  rw [List.map_map] at c ⊢
  exact c
theorem one33 {x y : Bool} : 0 ≤ (if (x || y) = true then (1 : Int) else 0) ∧ (if (x || y) = true then (1 : Int) else 0) ≤ 3 := by split <;> omega
theorem pz33 {k : Nat} : isQ (.tup [.int ((k : Int) + 1), .int 1]) = true := by
  show (decide ((0 : Int) < 1) && (Nat.gcd ((k : Int) + 1).natAbs 1 == 1)) = true
  rw [Nat.gcd_one_right]
  rfl
theorem chain33 {m : Nat} (o : Ok a b cs) (ha : a ≤ 3) (hb : b ≤ 3) (hG : ∀ c ∈ cs, GC c) {dk : Dk} {way seat grip k : Nat} (hw : way < 8) (h3 : way ≠ 3) {c : Cs} (hc : cs[k]? = some c) {L : List D} : ∃ (h0 h1 : List Int) (s : Int) (p : D), R4 (callN T m) (V33 dk (bk cs) (way : Int) (seat : Int) (grip : Int) L (.val (.int (k : Int))) (.val (.tup (c.h0.map .int))) (.val (.tup (c.h1.map .int))) (.val (.int c.s)) (.val c.p)) = .next (V33 dk (bk cs) (way : Int) (seat : Int) (grip : Int) L (.val (.int (k : Int))) (.val (.tup (h0.map .int))) (.val (.tup (h1.map .int))) (.val (.int s)) (.val p)) ∧ h0.length = nfa way a b ∧ h1.length = nfb way a b ∧ G3s h0 ∧ G3s h1 ∧ 0 ≤ s ∧ isQ p = true ∧ gd p = true := by
  have bx := bk_ix hc
  have mc := List.mem_of_getElem? hc
  obtain ⟨l0, l1⟩ := o.l c mc
  have g := hG c mc
  have hC := c_h (c := c)
  have n0 : bLen [.tup (c.h0.map .int)] = some (.d (.int (c.h0.length : Int))) := by rw [lenT, List.length_map]
  have n1 : bLen [.tup (c.h1.map .int)] = some (.d (.int (c.h1.length : Int))) := by rw [lenT, List.length_map]
  have pz := pz33 (k := k)
  rcases (show way = 0 ∨ way = 1 ∨ way = 2 ∨ way = 4 ∨ way = 5 ∨ way = 6 ∨ way = 7 by omega) with rfl | rfl | rfl | rfl | rfl | rfl | rfl
  · cases e1 : (k : Int) == (seat : Int) with
    | false =>
      refine ⟨c.h0, c.h1, c.s, .tup [.int ((k : Int) + 1), .int 1], ?_, l0, l1, g.g0, g.g1, g.s, pz, rfl⟩
      show R4 (callN T m) (V33 dk (bk cs) 0 (seat : Int) (grip : Int) L _ _ _ _ _) = .next (V33 dk (bk cs) 0 (seat : Int) (grip : Int) L _ _ _ _ _)
      generalize bk cs = B at *
      simp_arith [e1, Int.reduceBEq]
    | true =>
      by_cases hg : (grip : Int) < (c.h0.length : Int)
      · have e2 : decide ((grip : Int) < (c.h0.length : Int)) = true := decide_eq_true hg
        refine ⟨c.h0.take grip ++ [3 - c.h0.getD grip 0] ++ c.h0.drop (grip + 1), c.h1, c.s, c.p, ?_, ?_, l1, G3s_put g.g0 (by omega), g.g1, g.s, g.p, g.gp⟩
        · have x1 := ixI (l := c.h0) (k := grip) (by omega)
          have f1 : fSl (.tup (c.h0.map .int)) none (some (grip : Int)) = some (.d (.tup ((c.h0.take grip).map .int))) := by
            rw [fslT, cut_take (by rw [List.length_map]; omega), List.map_take]
          have f2 : fAdd (.tup ((c.h0.take grip).map .int)) (.tup [.int (3 - c.h0.getD grip 0)]) = some (.d (.tup ((c.h0.take grip).map .int ++ [.int (3 - c.h0.getD grip 0)]))) := fAddT (by rw [List.length_map, List.length_take, List.length_singleton]; omega)
          have f3 : fSl (.tup (c.h0.map .int)) (some ((grip : Int) + 1)) none = some (.d (.tup ((c.h0.drop (grip + 1)).map .int))) := by
            rw [fslT, cut_drop (by rw [List.length_map]; omega), List.map_drop]
          have f4 : fAdd (.tup ((c.h0.take grip).map .int ++ [.int (3 - c.h0.getD grip 0)])) (.tup ((c.h0.drop (grip + 1)).map .int)) = some (.d (.tup ((c.h0.take grip ++ [3 - c.h0.getD grip 0] ++ c.h0.drop (grip + 1)).map .int))) := by
            rw [fAddT (by rw [List.length_append, List.length_map, List.length_map, List.length_take, List.length_drop, List.length_singleton]; omega), List.map_append, List.map_append]
            rfl
          show R4 (callN T m) (V33 dk (bk cs) 0 (seat : Int) (grip : Int) L _ _ _ _ _) = .next (V33 dk (bk cs) 0 (seat : Int) (grip : Int) L _ _ _ _ _)
          generalize (c.h0.take grip ++ [3 - c.h0.getD grip 0] ++ c.h0.drop (grip + 1)).map D.int = P4 at *
          generalize (c.h0.take grip).map D.int ++ [.int (3 - c.h0.getD grip 0)] = P3 at *
          generalize (c.h0.take grip).map D.int = P2 at *
          generalize (c.h0.drop (grip + 1)).map D.int = P1 at *
          generalize bk cs = B at *
          simp_arith [e1, e2, n0, asI, x1, f1, f2, f3, f4, Int.reduceBEq]
        · rw [List.length_append, List.length_append, List.length_take, List.length_drop, List.length_singleton]
          show _ = a
          omega
      · have e2 : decide ((grip : Int) < (c.h0.length : Int)) = false := decide_eq_false hg
        by_cases hb0 : 0 < (c.h1.length : Int)
        · have e3 : decide ((0 : Int) < (c.h1.length : Int)) = true := decide_eq_true hb0
          refine ⟨c.h0, c.h1.take 0 ++ [3 - c.h1.getD 0 0] ++ c.h1.drop (0 + 1), c.s, c.p, ?_, l0, ?_, g.g0, G3s_put g.g1 (by omega), g.s, g.p, g.gp⟩
          · have x1 := ixI (l := c.h1) (k := 0) (by omega)
            have x1 : fIx (.tup (c.h1.map .int)) (.int 0) = some (.d (.int (c.h1.getD 0 0))) := x1
            have f3 : fSl (.tup (c.h1.map .int)) (some 1) none = some (.d (.tup ((c.h1.drop 1).map .int))) := by
              rw [fslT]
              have := cut_drop (l := c.h1.map D.int) (k := 0) (by rw [List.length_map]; omega)
              have : RX.cut (c.h1.map D.int) (some 1) none = (c.h1.map D.int).drop 1 := this
              rw [this, List.map_drop]
            have f4 : fAdd (.tup [.int (3 - c.h1.getD 0 0)]) (.tup ((c.h1.drop 1).map .int)) = some (.d (.tup ((c.h1.take 0 ++ [3 - c.h1.getD 0 0] ++ c.h1.drop (0 + 1)).map .int))) := by
              rw [fAddT (by rw [List.length_map, List.length_drop, List.length_singleton]; omega)]
              rfl
            show R4 (callN T m) (V33 dk (bk cs) 0 (seat : Int) (grip : Int) L _ _ _ _ _) = .next (V33 dk (bk cs) 0 (seat : Int) (grip : Int) L _ _ _ _ _)
            generalize (c.h1.take 0 ++ [3 - c.h1.getD 0 0] ++ c.h1.drop (0 + 1)).map D.int = P4 at *
            generalize (c.h1.drop 1).map D.int = P1 at *
            generalize bk cs = B at *
            simp_arith [e1, e2, e3, n0, n1, asI, x1, f3, f4, Int.reduceBEq]
          · rw [List.length_append, List.length_append, List.length_take, List.length_drop, List.length_singleton]
            show _ = b
            omega
        · have e3 : decide ((0 : Int) < (c.h1.length : Int)) = false := decide_eq_false hb0
          refine ⟨c.h0, c.h1, c.s, .tup [.int ((k : Int) + 1), .int 1], ?_, l0, l1, g.g0, g.g1, g.s, pz, rfl⟩
          show R4 (callN T m) (V33 dk (bk cs) 0 (seat : Int) (grip : Int) L _ _ _ _ _) = .next (V33 dk (bk cs) 0 (seat : Int) (grip : Int) L _ _ _ _ _)
          generalize bk cs = B at *
          simp_arith [e1, e2, e3, n0, n1, Int.reduceBEq]
  · refine ⟨c.h1.map fun x => 3 - x, c.h0.map fun x => 3 - x, c.s, c.p, ?_, by rw [List.length_map]; exact l1, by rw [List.length_map]; exact l0, G3s_neg g.g1, G3s_neg g.g0, g.s, g.p, g.gp⟩
    have k1 := neg33 (m := m) (k := dk) (B := bk cs) (way := 1) (seat := (seat : Int)) (grip := (grip : Int)) (L := L) (s7 := .val (.int (k : Int))) (s8 := .val (.tup (c.h0.map .int))) (s9 := .val (.tup (c.h1.map .int))) (s10 := .val (.int c.s)) (s11 := .val c.p) (h := c.h1) (it := iE (dOp fIx (dOp fIx (dIxV 1 (dVar 7)) (dC (.int 3))) (dC (.int 1)))) (by omega) (by
      generalize bk cs = B at *
      simp_arith [bx, hC, ixS])
    have k2 := neg33 (m := m) (k := dk) (B := bk cs) (way := 1) (seat := (seat : Int)) (grip := (grip : Int)) (L := L) (s7 := .val (.int (k : Int))) (s8 := .val (.tup ((c.h1.map fun x => 3 - x).map .int))) (s9 := .val (.tup (c.h1.map .int))) (s10 := .val (.int c.s)) (s11 := .val c.p) (h := c.h0) (it := iE (dOp fIx (dOp fIx (dIxV 1 (dVar 7)) (dC (.int 3))) (dC (.int 0)))) (by omega) (by
      generalize bk cs = B at *
      simp_arith [bx, hC, ixF])
    show R4 (callN T m) (V33 dk (bk cs) 1 (seat : Int) (grip : Int) L _ _ _ _ _) = .next (V33 dk (bk cs) 1 (seat : Int) (grip : Int) L _ _ _ _ _)
    generalize (c.h1.map fun x => 3 - x).map D.int = P1 at *
    generalize (c.h0.map fun x => 3 - x).map D.int = P0 at *
    generalize bk cs = B at *
    simp_arith [k1, k2, bTupL, Int.reduceBEq]
  · cases e1 : (k : Int) == (seat : Int) with
    | false =>
      refine ⟨c.h0, c.h1, c.s, .tup [.int ((k : Int) + 1), .int 1], ?_, l0, l1, g.g0, g.g1, g.s, pz, rfl⟩
      show R4 (callN T m) (V33 dk (bk cs) 2 (seat : Int) (grip : Int) L _ _ _ _ _) = .next (V33 dk (bk cs) 2 (seat : Int) (grip : Int) L _ _ _ _ _)
      generalize bk cs = B at *
      simp_arith [e1, Int.reduceBEq]
    | true =>
      refine ⟨c.h0, c.h1, c.s + 1, c.p, ?_, l0, l1, g.g0, g.g1, by have := g.s; omega, g.p, g.gp⟩
      show R4 (callN T m) (V33 dk (bk cs) 2 (seat : Int) (grip : Int) L _ _ _ _ _) = .next (V33 dk (bk cs) 2 (seat : Int) (grip : Int) L _ _ _ _ _)
      generalize bk cs = B at *
      simp_arith [e1, Int.reduceBEq]
  · refine ⟨c.h1, c.h0, c.s, c.p, ?_, l1, l0, g.g1, g.g0, g.s, g.p, g.gp⟩
    show R4 (callN T m) (V33 dk (bk cs) 4 (seat : Int) (grip : Int) L _ _ _ _ _) = .next (V33 dk (bk cs) 4 (seat : Int) (grip : Int) L _ _ _ _ _)
    generalize bk cs = B at *
    simp_arith [bx, hC, ixF, ixS, Int.reduceBEq]
  · refine ⟨c.h0 ++ [if (((k : Int) == (seat : Int)) || decide ((k : Int) < (grip : Int))) = true then 1 else 0], c.h1, c.s, c.p, ?_, by rw [List.length_append, l0]; rfl, l1, G3s_app g.g0 one33, g.g1, g.s, g.p, g.gp⟩
    have f4 : fAdd (.tup (c.h0.map .int)) (.tup [.int (if (((k : Int) == (seat : Int)) || decide ((k : Int) < (grip : Int))) = true then 1 else 0)]) = some (.d (.tup ((c.h0 ++ [if (((k : Int) == (seat : Int)) || decide ((k : Int) < (grip : Int))) = true then 1 else 0]).map .int))) := by
      rw [fAddT (by rw [List.length_map, List.length_singleton]; omega), List.map_append]
      rfl
    show R4 (callN T m) (V33 dk (bk cs) 5 (seat : Int) (grip : Int) L _ _ _ _ _) = .next (V33 dk (bk cs) 5 (seat : Int) (grip : Int) L _ _ _ _ _)
    generalize (c.h0 ++ [if (((k : Int) == (seat : Int)) || decide ((k : Int) < (grip : Int))) = true then 1 else 0]).map D.int = P0 at *
    generalize bk cs = B at *
    cases e1 : (k : Int) == (seat : Int) with
    | true => rw [e1, Bool.true_or, if_pos rfl] at f4; simp_arith [e1, bInt_b, f4, Int.reduceBEq]
    | false => rw [e1, Bool.false_or] at f4; simp_arith [e1, bInt_b, f4, Int.reduceBEq]
  · refine ⟨c.h0, c.h1 ++ [if (((k : Int) == (seat : Int)) || decide ((grip : Int) < (k : Int))) = true then 1 else 0], c.s, c.p, ?_, l0, by rw [List.length_append, l1]; rfl, g.g0, G3s_app g.g1 one33, g.s, g.p, g.gp⟩
    have f4 : fAdd (.tup (c.h1.map .int)) (.tup [.int (if (((k : Int) == (seat : Int)) || decide ((grip : Int) < (k : Int))) = true then 1 else 0)]) = some (.d (.tup ((c.h1 ++ [if (((k : Int) == (seat : Int)) || decide ((grip : Int) < (k : Int))) = true then 1 else 0]).map .int))) := by
      rw [fAddT (by rw [List.length_map, List.length_singleton]; omega), List.map_append]
      rfl
    show R4 (callN T m) (V33 dk (bk cs) 6 (seat : Int) (grip : Int) L _ _ _ _ _) = .next (V33 dk (bk cs) 6 (seat : Int) (grip : Int) L _ _ _ _ _)
    generalize (c.h1 ++ [if (((k : Int) == (seat : Int)) || decide ((grip : Int) < (k : Int))) = true then 1 else 0]).map D.int = P0 at *
    generalize bk cs = B at *
    cases e1 : (k : Int) == (seat : Int) with
    | true => rw [e1, Bool.true_or, if_pos rfl] at f4; simp_arith [e1, bInt_b, f4, Int.reduceBEq]
    | false => rw [e1, Bool.false_or] at f4; simp_arith [e1, bInt_b, f4, Int.reduceBEq]
  · refine ⟨c.h0, c.h1, c.s, .tup [.int ((k : Int) + 1), .int 1], ?_, l0, l1, g.g0, g.g1, g.s, pz, rfl⟩
    show R4 (callN T m) (V33 dk (bk cs) 7 (seat : Int) (grip : Int) L _ _ _ _ _) = .next (V33 dk (bk cs) 7 (seat : Int) (grip : Int) L _ _ _ _ _)
    generalize bk cs = B at *
    simp_arith [Int.reduceBEq]
theorem row33 {m : Nat} (o : Ok a b cs) (ha : a ≤ 3) (hb : b ≤ 3) (hG : ∀ c ∈ cs, GC c) {dk : Dk} {way seat grip k : Nat} (hw : way < 8) (h3 : way ≠ 3) (hk : k < cs.length) {ds : List Cs} (hd : ds.length ≤ 8) {s8 s9 s10 s11 : Sl} (h8 : NV s8) (h9 : NV s9) (h10 : NV s10) (h11 : NV s11) : ∃ (d : Cs) (s8' s9' s10' s11' : Sl), A33 (callN T m) (V33 dk (bk cs) (way : Int) (seat : Int) (grip : Int) (ds.map Cs.d) (.val (.int (k : Int))) s8 s9 s10 s11) = .next (V33 dk (bk cs) (way : Int) (seat : Int) (grip : Int) ((ds ++ [d]).map Cs.d) (.val (.int (k : Int))) s8' s9' s10' s11') ∧ d.h0.length = nfa way a b ∧ d.h1.length = nfb way a b ∧ GC d ∧ NV s8' ∧ NV s9' ∧ NV s10' ∧ NV s11' := by
  obtain ⟨c, hc, c0, c1⟩ := o.at hk
  have mc := List.mem_of_getElem? hc
  have g := hG c mc
  have bx := bk_ix hc
  have hC := c_h (c := c)
  have cs4 := c_s (c := c)
  have cw := r_0 (c := c)
  have cp := r_1 (c := c)
  obtain ⟨h0, h1, s, p, q4, l0, l1, g0, g1, s0, pq, pg⟩ := chain33 (m := m) o ha hb hG (dk := dk) (seat := seat) (grip := grip) hw h3 hc (L := ds.map Cs.d)
  have q0 : R0 (callN T m) (V33 dk (bk cs) (way : Int) (seat : Int) (grip : Int) (ds.map Cs.d) (.val (.int (k : Int))) s8 s9 s10 s11) = .next (V33 dk (bk cs) (way : Int) (seat : Int) (grip : Int) (ds.map Cs.d) (.val (.int (k : Int))) (.val (.tup (c.h0.map .int))) s9 s10 s11) := by
    clear q4
    generalize bk cs = B at *
    generalize ds.map Cs.d = L at *
    rcases h8 with rfl | ⟨d, rfl⟩ <;> simp_arith [bx, hC, ixF]
  have q1 : R1 (callN T m) (V33 dk (bk cs) (way : Int) (seat : Int) (grip : Int) (ds.map Cs.d) (.val (.int (k : Int))) (.val (.tup (c.h0.map .int))) s9 s10 s11) = .next (V33 dk (bk cs) (way : Int) (seat : Int) (grip : Int) (ds.map Cs.d) (.val (.int (k : Int))) (.val (.tup (c.h0.map .int))) (.val (.tup (c.h1.map .int))) s10 s11) := by
    clear q4
    generalize bk cs = B at *
    generalize ds.map Cs.d = L at *
    rcases h9 with rfl | ⟨d, rfl⟩ <;> simp_arith [bx, hC, ixS]
  have q2 : R2 (callN T m) (V33 dk (bk cs) (way : Int) (seat : Int) (grip : Int) (ds.map Cs.d) (.val (.int (k : Int))) (.val (.tup (c.h0.map .int))) (.val (.tup (c.h1.map .int))) s10 s11) = .next (V33 dk (bk cs) (way : Int) (seat : Int) (grip : Int) (ds.map Cs.d) (.val (.int (k : Int))) (.val (.tup (c.h0.map .int))) (.val (.tup (c.h1.map .int))) (.val (.int c.s)) s11) := by
    clear q4
    generalize bk cs = B at *
    generalize ds.map Cs.d = L at *
    rcases h10 with rfl | ⟨d, rfl⟩ <;> simp_arith [bx, cs4]
  have q3 : R3 (callN T m) (V33 dk (bk cs) (way : Int) (seat : Int) (grip : Int) (ds.map Cs.d) (.val (.int (k : Int))) (.val (.tup (c.h0.map .int))) (.val (.tup (c.h1.map .int))) (.val (.int c.s)) s11) = .next (V33 dk (bk cs) (way : Int) (seat : Int) (grip : Int) (ds.map Cs.d) (.val (.int (k : Int))) (.val (.tup (c.h0.map .int))) (.val (.tup (c.h1.map .int))) (.val (.int c.s)) (.val c.p)) := by
    clear q4
    generalize bk cs = B at *
    generalize ds.map Cs.d = L at *
    rcases h11 with rfl | ⟨d, rfl⟩ <;> simp_arith [bx, cp]
  have ap := appX (C := callN T m) (i := 6) (e := (dTup [(dOp fAdd (dOp fIx (dIxV 1 (dVar 7)) (dC (.int 0))) (dVar 7)), (dVar 11), (dTup [(dC (.int 3)), (dOp fAdd (dC (.int 1)) (dVar 5))]), (dTup [(dVar 8), (dVar 9)]), (dVar 10)])) (ρ := V33 dk (bk cs) (way : Int) (seat : Int) (grip : Int) (ds.map Cs.d) (.val (.int (k : Int))) (.val (.tup (h0.map .int))) (.val (.tup (h1.map .int))) (.val (.int s)) (.val p)) (ρ1 := V33 dk (bk cs) (way : Int) (seat : Int) (grip : Int) (ds.map Cs.d) (.val (.int (k : Int))) (.val (.tup (h0.map .int))) (.val (.tup (h1.map .int))) (.val (.int s)) (.val p)) (acc := ds.map Cs.d) (y := .tup [.int (c.w + (k : Int)), p, .tup [.int 3, .int (1 + (grip : Int))], .tup [.tup (h0.map .int), .tup (h1.map .int)], .int s]) rfl (by
    clear q4 q0 q1 q2 q3
    generalize bk cs = B at *
    generalize ds.map Cs.d = L at *
    simp_arith [bx, cw]) rfl (by rw [List.length_map]; omega)
  refine ⟨⟨c.w + (k : Int), p, .tup [.int 3, .int (1 + (grip : Int))], h0, h1, s⟩, .val (.tup (h0.map .int)), .val (.tup (h1.map .int)), .val (.int s), .val p, ?_, l0, l1, ⟨by show 1 ≤ c.w + (k : Int); have := g.w; omega, pq, pg, ?_, rfl, g0, g1, s0⟩, .inr ⟨_, rfl⟩, .inr ⟨_, rfl⟩, .inr ⟨_, rfl⟩, .inr ⟨_, rfl⟩⟩
  · rw [List.map_append]
    unfold A33
    rw [seq_next q0, seq_next q1, seq_next q2, seq_next q3, seq_next q4]
    exact ap
  · show (isP (.int 3) && isP (.int (1 + (grip : Int)))) = true
    rw [show isP (.int (1 + (grip : Int))) = true from decide_eq_true (by omega)]
    rfl
theorem nfa_le {way a b : Nat} (ha : a ≤ 2) (hb : b ≤ 2) : nfa way a b ≤ 3 ∧ nfb way a b ≤ 3 := by
  unfold nfa nfb
  constructor
  · split
    · omega
    · split <;> omega
  · split
    · omega
    · split <;> omega
theorem s33 (hn : 5 ≤ n) (o : Ok a b cs) (ha : a ≤ 2) (hb : b ≤ 2) (hG : ∀ c ∈ cs, GC c) (h7' : cs.length ≤ 7) (k : Dk) (hk : k.ok) : ∃ (a' b' : Nat) (ds : List Cs) (k' : Dk), callN T n 33 [.own k.l, .d (bk cs), .gh k.gl] = .ok (.d (bk ds)) [k'.l, k'.gl] ∧ Ok a' b' ds ∧ (∀ c ∈ ds, GC c) ∧ ds.length = cs.length ∧ k'.ok := by
  obtain ⟨m, rfl, hm⟩ := up hn
  have o1' := o.one
  have bl := bk_len (cs := cs)
  obtain ⟨way, k1, t1, b1, o1⟩ := takeN (n := m) (by omega) k hk (w := 8) (by decide) (by decide)
  rw [callN_eqG (np := 2) (ng := 1) (ns := 13) (d := d33) rfl rfl rfl]
  unfold d33
  by_cases hw3 : way = 3
  · subst hw3
    obtain ⟨a', b', ds, k2, c2, o2, g2, l2, ok2, _, _⟩ := s32 (n := m) (by omega) k1 o1 (many := cs.length) o1' h7'
    refine ⟨a', b', ds, k2, ?_, o2, g2, l2, ok2⟩
    have e3 : (((3 : Nat) : Int) == 3) = true := rfl
    show endF _ _ = CR.ok _ [k2.l, k2.gl]
    generalize bk cs = B at *
    generalize bk ds = B' at *
    simp_arith [t1, e3, bl, c2]
  · have e3 : ((way : Int) == 3) = false := beq_eq_false_iff_ne.mpr (by omega)
    obtain ⟨seat, k2, t2, b2, o2⟩ := takeN (n := m) (by omega) k1 o1 (w := (cs.length : Int)) (by omega) (by omega)
    obtain ⟨grip, k3, t3, b3, o3⟩ := takeN (n := m) (by omega) k2 o2 (w := 4) (by decide) (by decide)
    obtain ⟨ρ', lp, ds, s7, s8, s9, s10, s11, rfl, hlen, hall, _⟩ := for_rng (C := callN T m) (tg := .v 7) (A := A33) (ρ := V33 k3 (bk cs) (way : Int) (seat : Int) (grip : Int) [] .none .none .none .none .none) (fun i ρ => ∃ (ds : List Cs) (s7 s8 s9 s10 s11 : Sl), ρ = V33 k3 (bk cs) (way : Int) (seat : Int) (grip : Int) (ds.map Cs.d) s7 s8 s9 s10 s11 ∧ ds.length = i ∧ (∀ d ∈ ds, d.h0.length = nfa way a b ∧ d.h1.length = nfb way a b ∧ GC d) ∧ NV s7 ∧ NV s8 ∧ NV s9 ∧ NV s10 ∧ NV s11) (n := cs.length)
      ⟨[], .none, .none, .none, .none, .none, rfl, rfl, fun c hc => (nomatch hc), .inl rfl, .inl rfl, .inl rfl, .inl rfl, .inl rfl⟩ fun i ρ hi ⟨ds, s7, s8, s9, s10, s11, e, hl, hc, h7, h8, h9, h10, h11⟩ => by
        subst e
        obtain ⟨d, s8', s9', s10', s11', q, l0, l1, gd', n8, n9, n10, n11⟩ := row33 (m := m) o (by omega) (by omega) hG (dk := k3) (seat := seat) (grip := grip) (way := way) (by omega) hw3 hi (ds := ds) (by omega) h8 h9 h10 h11
        refine ⟨_, _, st_nv1 h7 rfl, .inl q, ds ++ [d], _, _, _, _, _, rfl, by rw [List.length_append, hl]; rfl, fun x hx => ?_, .inr ⟨_, rfl⟩, n8, n9, n10, n11⟩
        rcases List.mem_append.mp hx with hx | hx
        · exact hc x hx
        · cases List.mem_singleton.mp hx
          exact ⟨l0, l1, gd'⟩
    have nl := nfa_le (way := way) ha hb
    refine ⟨nfa way a b, nfb way a b, ds, k3, ?_, ⟨by omega, by omega, by omega, by omega, fun d hd => ⟨(hall d hd).1, (hall d hd).2.1⟩⟩, fun d hd => (hall d hd).2.2, hlen, o3⟩
    have bs : -16777216 < (cs.length : Int) ∧ (cs.length : Int) < 16777216 := by omega
    have eb : bTup [.lst (ds.map Cs.d)] = some (.d (bk ds)) := rfl
    unfold A33 R4 R4a R4b R4c R0 R1 R2 R3 R5 at lp
    unfold V33 at lp
    show endF _ _ = CR.ok _ [k3.l, k3.gl]
    generalize bk ds = B' at *
    generalize ds.map Cs.d = L0 at *
    generalize bk cs = B at *
    simp_arith [t1, e3, bl, t2, t3, asI, bs, lp, eb]
end
end K10
set_option Elab.async false
set_option linter.all false
set_option maxRecDepth 100000
set_option maxHeartbeats 4000000
namespace K10
open PySem RX RY MQ
/-! ### a thing made by hand -/
def M4 : List Qt := [(0, 1), (1, 2), (-3, 1), (5, 3)]
theorem m4_sq : ∀ v ∈ M4, Sq v := fun v hv => by
  rcases List.mem_cons.mp hv with rfl | hv
  · exact ⟨by unfold Sm; decide, by unfold Sm; decide, by decide, rfl⟩
  · rcases List.mem_cons.mp hv with rfl | hv
    · exact ⟨by unfold Sm; decide, by unfold Sm; decide, by decide, rfl⟩
    · rcases List.mem_cons.mp hv with rfl | hv
      · exact ⟨by unfold Sm; decide, by unfold Sm; decide, by decide, rfl⟩
      · cases List.mem_singleton.mp hv
        exact ⟨by unfold Sm; decide, by unfold Sm; decide, by decide, rfl⟩
theorem m4_sm : ∀ v ∈ M4, v.1.natAbs ≤ 5 ∧ v.2.natAbs ≤ 3 := fun v hv => by
  rcases List.mem_cons.mp hv with rfl | hv
  · decide
  · rcases List.mem_cons.mp hv with rfl | hv
    · decide
    · rcases List.mem_cons.mp hv with rfl | hv
      · decide
      · cases List.mem_singleton.mp hv
        decide
/-- small numbers, whatever they are as a quotient -/
def sm2 (v : Qt) : Prop := Sm 60 v.1 ∧ Sm 60 v.2
theorem qts_of {P : Qt → Prop} : ∀ {l : List D}, (∀ y ∈ l, ∃ v, y = qD v ∧ P v) → ∃ vs : List Qt, l = vs.map qD ∧ ∀ v ∈ vs, P v
  | [], _ => ⟨[], rfl, fun v h => nomatch h⟩
  | d :: l, h => by
    obtain ⟨v, rfl, hv⟩ := h d List.mem_cons_self
    obtain ⟨vs, rfl, hvs⟩ := qts_of fun y hy => h y (List.mem_cons_of_mem _ hy)
    exact ⟨v :: vs, rfl, fun w hw => by
      rcases List.mem_cons.mp hw with rfl | hw
      · exact hv
      · exact hvs w hw⟩
theorem P15 : fPow (.int 10) (.int 15) = some (.d (.int 1000000000000000)) := rfl
section
variable {n a b a' b' : Nat} {cs ds : List Cs} {x : D}
abbrev P0 : DS := (sSet 5 (dIxV 1 (dB bInt [(dOp fIn (dVar 3) (dIxV 1 (dC (.int 0))))])))
abbrev P1 : DS := (sSet 6 (dCallG 26 [.v 0, .e (dC (.int 4))] 4))
abbrev P2 : DS := (sSet 7 (dComp [8] (iR1 (dVar 2)) (.v 8) (tests []) (dOp fIx (dTup [(dTup [(dC (.int 0)), (dC (.int 1))]), (dTup [(dC (.int 1)), (dC (.int 2))]), (dTup [(dUn fNeg (dC (.int 3))), (dC (.int 1))]), (dTup [(dC (.int 5)), (dC (.int 3))])]) (dCallG 26 [.v 0, .e (dC (.int 4))] 4))))
abbrev P3 : DS := (sSet 9 (dLst []))
abbrev P4 : DS := (sFor (.v 8) (iR1 (dVar 2)) (sSeq (sSet 10 (dOr (dOp fEq (dVar 8) (dIxV 3 (dC (.int 1)))) (dOp fIn (dTup [(dVar 8), (dIxV 3 (dC (.int 1)))]) (dVar 5)))) (sSeq (sSet 11 (dIxV 7 (dVar 8))) (sSeq (sFor (.v 12) (iE (dVar 5)) (sIf (tAnd (tCmpB fEq (dIxV 12 (dC (.int 0))) (dVar 8)) (tE (dCall 30 [.v 11, .e (dIxV 7 (dIxV 12 (dC (.int 1))))]))) (sSet 11 (dIxV 7 (dIxV 12 (dC (.int 1))))) sPass)) (sSeq (sIf (tCmpB fEq (dVar 6) (dC (.int 0))) (sSet 11 (dTup [(dB1 bInt 10), (dC (.int 1))])) (sIf (tCmpB fEq (dVar 6) (dC (.int 1))) (sSet 11 (dTup [(dOp fAdd (dIxV 11 (dC (.int 0))) (dOp fMul (dOp fMul (dC (.int 10)) (dIxV 11 (dC (.int 1)))) (dB1 bInt 10))), (dIxV 11 (dC (.int 1)))])) (sIf (tCmpB fEq (dVar 6) (dC (.int 2))) (sSet 11 (dOp fIx (dTup [(dTup [(dC (.int 0)), (dC (.int 1))]), (dTup [(dC (.int 1)), (dOp fPow (dC (.int 10)) (dC (.int 15)))])]) (dB1 bInt 10))) (sSet 11 (dOp fIx (dTup [(dTup [(dUn fNeg (dC (.int 1))), (dC (.int 1))]), (dTup [(dOp fSub (dC (.int 1)) (dOp fPow (dC (.int 10)) (dC (.int 15)))), (dOp fPow (dC (.int 10)) (dC (.int 15)))])]) (dB1 bInt 10)))))) (sApp 9 (dVar 11)))))))
abbrev P5 : DS := (sRet (dTup [(dIxV 3 (dC (.int 0))), (dIxV 3 (dC (.int 1))), (dB1 bTup 9)]))
theorem Peq : d39 = (sSeq P0 (sSeq P1 (sSeq P2 (sSeq P3 (sSeq P4 P5))))) := rfl
abbrev V39 (k : Dk) (O : D) (L : Nat) (p : D) (s5 s6 s7 s8 s9 s10 s11 s12 : Sl) : RX.Env := [.par k.l, .val O, .val (.int (L : Int)), .val p, .gh k.gl, s5, s6, s7, s8, s9, s10, s11, s12]
abbrev S0 : DS := (sSet 10 (dOr (dOp fEq (dVar 8) (dIxV 3 (dC (.int 1)))) (dOp fIn (dTup [(dVar 8), (dIxV 3 (dC (.int 1)))]) (dVar 5))))
abbrev S1 : DS := (sSet 11 (dIxV 7 (dVar 8)))
abbrev S2i : DS := (sIf (tAnd (tCmpB fEq (dIxV 12 (dC (.int 0))) (dVar 8)) (tE (dCall 30 [.v 11, .e (dIxV 7 (dIxV 12 (dC (.int 1))))]))) (sSet 11 (dIxV 7 (dIxV 12 (dC (.int 1))))) sPass)
abbrev S2 : DS := (sFor (.v 12) (iE (dVar 5)) S2i)
abbrev S3 : DS := (sIf (tCmpB fEq (dVar 6) (dC (.int 0))) (sSet 11 (dTup [(dB1 bInt 10), (dC (.int 1))])) (sIf (tCmpB fEq (dVar 6) (dC (.int 1))) (sSet 11 (dTup [(dOp fAdd (dIxV 11 (dC (.int 0))) (dOp fMul (dOp fMul (dC (.int 10)) (dIxV 11 (dC (.int 1)))) (dB1 bInt 10))), (dIxV 11 (dC (.int 1)))])) (sIf (tCmpB fEq (dVar 6) (dC (.int 2))) (sSet 11 (dOp fIx (dTup [(dTup [(dC (.int 0)), (dC (.int 1))]), (dTup [(dC (.int 1)), (dOp fPow (dC (.int 10)) (dC (.int 15)))])]) (dB1 bInt 10))) (sSet 11 (dOp fIx (dTup [(dTup [(dUn fNeg (dC (.int 1))), (dC (.int 1))]), (dTup [(dOp fSub (dC (.int 1)) (dOp fPow (dC (.int 10)) (dC (.int 15)))), (dOp fPow (dC (.int 10)) (dC (.int 15)))])]) (dB1 bInt 10))))))
abbrev S4 : DS := (sApp 9 (dVar 11))
abbrev A39 : DS := sSeq S0 (sSeq S1 (sSeq S2 (sSeq S3 S4)))
theorem base_ix {bs : List Qt} {k : Nat} (h : k < bs.length) : fIx (.lst (bs.map qD)) (.int (k : Int)) = some (.d (qD (bs.getD k (0, 1)))) := by
  have hx : (bs.map qD)[k]? = some (qD (bs.getD k (0, 1))) := by
    rw [List.getElem?_map, List.getD_eq_getElem?_getD, List.getElem?_eq_getElem h]
    rfl
  exact (ix_nat hx).2
theorem base_m {bs : List Qt} (hb : ∀ v ∈ bs, v ∈ M4) {k : Nat} (h : k < bs.length) : bs.getD k (0, 1) ∈ M4 := by
  rw [List.getD_eq_getElem?_getD, List.getElem?_eq_getElem h]
  exact hb _ (List.getElem_mem h)
theorem row39 {m : Nat} (hm : 1 ≤ m) {ls : List Cs} {L : Nat} (on : ls.length ≤ 8) (hL : ls.length = L) {dk : Dk} {O : D} {i j k : Nat} (hk : k < L) {way : Nat} (hw : way < 4) {bs : List Qt} (hbl : bs.length = L) (hb : ∀ v ∈ bs, v ∈ M4) {vs : List Qt} (hvl : vs.length ≤ 8) {s10 s11 s12 : Sl} (h10 : NV s10) (h11 : NV s11) (h12 : NV s12) : ∃ (v : Qt) (s10' s11' s12' : Sl), A39 (callN T m) (V39 dk O L (.tup [.int (i : Int), .int (j : Int)]) (.val (.tup (ordP ls))) (.val (.int (way : Int))) (.own (bs.map qD)) (.val (.int (k : Int))) (.own (vs.map qD)) s10 s11 s12) = .next (V39 dk O L (.tup [.int (i : Int), .int (j : Int)]) (.val (.tup (ordP ls))) (.val (.int (way : Int))) (.own (bs.map qD)) (.val (.int (k : Int))) (.own ((vs ++ [v]).map qD)) s10' s11' s12') ∧ sm2 v ∧ NV s10' ∧ NV s11' ∧ NV s12' := by
  have ia := in_any (cs := ls) on (p := (k : Int)) (q := (j : Int))
  obtain ⟨t, q0⟩ : ∃ t : Bool, S0 (callN T m) (V39 dk O L (.tup [.int (i : Int), .int (j : Int)]) (.val (.tup (ordP ls))) (.val (.int (way : Int))) (.own (bs.map qD)) (.val (.int (k : Int))) (.own (vs.map qD)) s10 s11 s12) = .next (V39 dk O L (.tup [.int (i : Int), .int (j : Int)]) (.val (.tup (ordP ls))) (.val (.int (way : Int))) (.own (bs.map qD)) (.val (.int (k : Int))) (.own (vs.map qD)) (.val (.bl t)) s11 s12) := by
    generalize ordP ls = OL at *
    generalize bs.map qD = BL at *
    generalize vs.map qD = VL at *
    generalize (unl ls.length (.int (k : Int)) (.int (j : Int)) && hidB ls (.int (k : Int)) (.int (j : Int))) = uu at *
    cases e : (k : Int) == (j : Int) with
    | true => exact ⟨true, by rcases h10 with rfl | ⟨d, rfl⟩ <;> simp_arith [cq1, e]⟩
    | false => exact ⟨uu, by rcases h10 with rfl | ⟨d, rfl⟩ <;> simp_arith [cq1, e, ia]⟩
  have x1 := base_ix (bs := bs) (k := k) (by omega)
  have q1 : S1 (callN T m) (V39 dk O L (.tup [.int (i : Int), .int (j : Int)]) (.val (.tup (ordP ls))) (.val (.int (way : Int))) (.own (bs.map qD)) (.val (.int (k : Int))) (.own (vs.map qD)) (.val (.bl t)) s11 s12) = .next (V39 dk O L (.tup [.int (i : Int), .int (j : Int)]) (.val (.tup (ordP ls))) (.val (.int (way : Int))) (.own (bs.map qD)) (.val (.int (k : Int))) (.own (vs.map qD)) (.val (.bl t)) (.val (qD (bs.getD k (0, 1)))) s12) := by
    generalize ordP ls = OL at *
    generalize qD (bs.getD k (0, 1)) = B1 at *
    generalize bs.map qD = BL at *
    generalize vs.map qD = VL at *
    rcases h11 with rfl | ⟨d, rfl⟩ <;> simp_arith [x1]
  obtain ⟨ρ', lp, w, s12', rfl, hw4, h12'⟩ := for_keep (C := callN T m) (tg := .v 12) (A := S2i) (fun ρ => ∃ (w : Qt) (s12 : Sl), ρ = V39 dk O L (.tup [.int (i : Int), .int (j : Int)]) (.val (.tup (ordP ls))) (.val (.int (way : Int))) (.own (bs.map qD)) (.val (.int (k : Int))) (.own (vs.map qD)) (.val (.bl t)) (.val (qD w)) s12 ∧ w ∈ M4 ∧ NV s12) (l := ordP ls) (ρ := V39 dk O L (.tup [.int (i : Int), .int (j : Int)]) (.val (.tup (ordP ls))) (.val (.int (way : Int))) (.own (bs.map qD)) (.val (.int (k : Int))) (.own (vs.map qD)) (.val (.bl t)) (.val (qD (bs.getD k (0, 1)))) s12) ⟨_, s12, rfl, base_m hb (by omega), h12⟩ fun z hz ρ ⟨w, s12, e, hw4, h12⟩ => by
    subst e
    obtain ⟨p, q, hp, hq, rfl, _⟩ := mem_ord.mp hz
    have x2 := base_ix (bs := bs) (k := q) (by omega)
    have mq := base_m hb (k := q) (by omega)
    have kl := l_less (n := m) hm (m4_sq w hw4) (m4_sq _ mq)
    generalize hB : bs.getD q (0, 1) = v2 at *
    refine ⟨V39 dk O L (.tup [.int (i : Int), .int (j : Int)]) (.val (.tup (ordP ls))) (.val (.int (way : Int))) (.own (bs.map qD)) (.val (.int (k : Int))) (.own (vs.map qD)) (.val (.bl t)) (.val (qD w)) (.val (.tup [.int (p : Int), .int (q : Int)])), V39 dk O L (.tup [.int (i : Int), .int (j : Int)]) (.val (.tup (ordP ls))) (.val (.int (way : Int))) (.own (bs.map qD)) (.val (.int (k : Int))) (.own (vs.map qD)) (.val (.bl t)) (.val (qD (if (((p : Int) == (k : Int)) && lt2 w v2) = true then v2 else w))) (.val (.tup [.int (p : Int), .int (q : Int)])), st_nv1 h12 rfl, ?_, _, _, rfl, by split; exact mq; exact hw4, .inr ⟨_, rfl⟩⟩
    generalize ordP ls = OL at *
    generalize bs.map qD = BL at *
    generalize vs.map qD = VL at *
    cases e : (p : Int) == (k : Int) with
    | false =>
      rw [if_neg (by rw [Bool.false_and]; exact Bool.false_ne_true)]
      generalize qD w = W at *
      generalize qD v2 = W2 at *
      simp_arith [cq0, e]
    | true =>
      cases e2 : lt2 w v2 with
      | false =>
        rw [e2] at kl
        rw [if_neg (by decide)]
        generalize qD w = W at *
        generalize qD v2 = W2 at *
        simp_arith [cq0, cq1, e, x2, kl]
      | true =>
        rw [e2] at kl
        rw [if_pos (by decide)]
        generalize qD w = W at *
        generalize qD v2 = W2 at *
        simp_arith [cq0, cq1, e, x2, kl]
  have q2 : S2 (callN T m) (V39 dk O L (.tup [.int (i : Int), .int (j : Int)]) (.val (.tup (ordP ls))) (.val (.int (way : Int))) (.own (bs.map qD)) (.val (.int (k : Int))) (.own (vs.map qD)) (.val (.bl t)) (.val (qD (bs.getD k (0, 1)))) s12) = .next (V39 dk O L (.tup [.int (i : Int), .int (j : Int)]) (.val (.tup (ordP ls))) (.val (.int (way : Int))) (.own (bs.map qD)) (.val (.int (k : Int))) (.own (vs.map qD)) (.val (.bl t)) (.val (qD w)) s12') := lp
  obtain ⟨w1, w2⟩ := m4_sm w hw4
  obtain ⟨v, q3, sv⟩ : ∃ v : Qt, S3 (callN T m) (V39 dk O L (.tup [.int (i : Int), .int (j : Int)]) (.val (.tup (ordP ls))) (.val (.int (way : Int))) (.own (bs.map qD)) (.val (.int (k : Int))) (.own (vs.map qD)) (.val (.bl t)) (.val (qD w)) s12') = .next (V39 dk O L (.tup [.int (i : Int), .int (j : Int)]) (.val (.tup (ordP ls))) (.val (.int (way : Int))) (.own (bs.map qD)) (.val (.int (k : Int))) (.own (vs.map qD)) (.val (.bl t)) (.val (qD v)) s12') ∧ sm2 v := by
    clear lp q0 q1 q2
    generalize ordP ls = OL at *
    generalize bs.map qD = BL at *
    generalize vs.map qD = VL at *
    rcases (show way = 0 ∨ way = 1 ∨ way = 2 ∨ way = 3 by omega) with rfl | rfl | rfl | rfl
    · refine ⟨(if t = true then 1 else 0, 1), ?_, by unfold sm2 Sm; dsimp only; constructor; split <;> decide; decide⟩
      show S3 (callN T m) (V39 dk O L _ (.val (.tup OL)) (.val (.int 0)) _ _ _ _ _ _) = .next (V39 dk O L _ (.val (.tup OL)) (.val (.int 0)) _ _ _ _ _ _)
      have e : qD (if t = true then 1 else 0, 1) = .tup [.int (if t = true then 1 else 0), .int 1] := rfl
      rw [e]
      simp_arith [bInt_b, Int.reduceBEq]
    · refine ⟨(w.1 + 10 * w.2 * (if t = true then 1 else 0), w.2), ?_, by unfold sm2 Sm; dsimp only; constructor; split <;> omega; omega⟩
      show S3 (callN T m) (V39 dk O L _ (.val (.tup OL)) (.val (.int 1)) _ _ _ _ _ _) = .next (V39 dk O L _ (.val (.tup OL)) (.val (.int 1)) _ _ _ _ _ _)
      have m1 : mulOk 10 w.2 = true := mk (k := 5) (m := 5) (by unfold Sm; decide) (by unfold Sm; omega) (by omega)
      have m2 : mulOk (10 * w.2) (if t = true then (1 : Int) else 0) = true := mk (k := 20) (m := 5) (by unfold Sm; omega) (by unfold Sm; split <;> decide) (by omega)
      have e : qD (w.1 + 10 * w.2 * (if t = true then 1 else 0), w.2) = .tup [.int (w.1 + 10 * w.2 * (if t = true then 1 else 0)), .int w.2] := rfl
      rw [e]
      simp_arith [bInt_b, q0, K10.q0, K10.q1, m1, m2, Int.reduceBEq]
    · refine ⟨if t = true then (1, 1000000000000000) else (0, 1), ?_, by cases t <;> exact ⟨by unfold Sm; decide, by unfold Sm; decide⟩⟩
      show S3 (callN T m) (V39 dk O L _ (.val (.tup OL)) (.val (.int 2)) _ _ _ _ _ _) = .next (V39 dk O L _ (.val (.tup OL)) (.val (.int 2)) _ _ _ _ _ _)
      have b0 : bInt [.bl false] = some (.d (.int 0)) := rfl
      have b1 : bInt [.bl true] = some (.d (.int 1)) := rfl
      cases t with
      | true =>
        have e : qD (if true = true then (1, 1000000000000000) else (0, 1)) = .tup [.int 1, .int 1000000000000000] := rfl
        rw [e]
        simp_arith [b1, P15, cq1, Int.reduceBEq]
      | false =>
        have e : qD (if false = true then (1, 1000000000000000) else (0, 1)) = .tup [.int 0, .int 1] := rfl
        rw [e]
        simp_arith [b0, P15, cq0, Int.reduceBEq]
    · refine ⟨if t = true then (-999999999999999, 1000000000000000) else (-1, 1), ?_, by cases t <;> exact ⟨by unfold Sm; decide, by unfold Sm; decide⟩⟩
      show S3 (callN T m) (V39 dk O L _ (.val (.tup OL)) (.val (.int 3)) _ _ _ _ _ _) = .next (V39 dk O L _ (.val (.tup OL)) (.val (.int 3)) _ _ _ _ _ _)
      have b0 : bInt [.bl false] = some (.d (.int 0)) := rfl
      have b1 : bInt [.bl true] = some (.d (.int 1)) := rfl
      have n1 : fNeg (.int 1) = some (.d (.int (-1))) := rfl
      have e3 : (1 : Int) - 1000000000000000 = -999999999999999 := rfl
      cases t with
      | true =>
        have e : qD (if true = true then (-999999999999999, 1000000000000000) else (-1, 1)) = .tup [.int (-999999999999999), .int 1000000000000000] := rfl
        rw [e]
        simp_arith [b1, n1, P15, e3, cq1, Int.reduceBEq]
      | false =>
        have e : qD (if false = true then (-999999999999999, 1000000000000000) else (-1, 1)) = .tup [.int (-1), .int 1] := rfl
        rw [e]
        simp_arith [b0, n1, P15, e3, cq0, Int.reduceBEq]
  have ap := appX (C := callN T m) (i := 9) (e := dVar 11) (ρ := V39 dk O L (.tup [.int (i : Int), .int (j : Int)]) (.val (.tup (ordP ls))) (.val (.int (way : Int))) (.own (bs.map qD)) (.val (.int (k : Int))) (.own (vs.map qD)) (.val (.bl t)) (.val (qD v)) s12') (ρ1 := V39 dk O L (.tup [.int (i : Int), .int (j : Int)]) (.val (.tup (ordP ls))) (.val (.int (way : Int))) (.own (bs.map qD)) (.val (.int (k : Int))) (.own (vs.map qD)) (.val (.bl t)) (.val (qD v)) s12') (acc := vs.map qD) (y := qD v) rfl rfl rfl (by rw [List.length_map]; omega)
  refine ⟨v, .val (.bl t), .val (qD v), s12', ?_, sv, .inr ⟨_, rfl⟩, .inr ⟨_, rfl⟩, h12'⟩
  rw [List.map_append]
  unfold A39
  rw [seq_next q0, seq_next q1, seq_next q2, seq_next q3]
  exact ap
end
end K10
set_option Elab.async false
set_option linter.all false
set_option maxRecDepth 100000
set_option maxHeartbeats 4000000
namespace K10
open PySem RX RY MQ
section
variable {n a b a' b' : Nat} {cs ds : List Cs} {x : D}
theorem s39 (hn : 3 ≤ n) (on : cs.length ≤ 8) (hl : ds.length = cs.length) {i j : Nat} (k : Dk) (hk : k.ok) : ∃ (vs : List Qt) (k' : Dk), callN T n 39 [.own k.l, .d (orsD cs ds), .d (.int (cs.length : Int)), .d (.tup [.int (i : Int), .int (j : Int)]), .gh k.gl] = .ok (.d (.tup [.int (i : Int), .int (j : Int), vsD vs])) [k'.l, k'.gl] ∧ vs.length = cs.length ∧ (∀ v ∈ vs, sm2 v) ∧ k'.ok := by
  obtain ⟨m, rfl, hm⟩ := up hn
  obtain ⟨way, k1, t1, b1, o1⟩ := takeN (n := m) (by omega) k hk (w := 4) (by decide) (by decide)
  have bd : -16777216 < (cs.length : Int) ∧ (cs.length : Int) < 16777216 := by omega
  have ia := in_any (cs := cs) on (p := (i : Int)) (q := (j : Int))
  have n3 : fNeg (.int 3) = some (.d (.int (-3))) := rfl
  obtain ⟨ls, hls, q0⟩ : ∃ ls : List Cs, ls.length = cs.length ∧ P0 (callN T m) (V39 k (orsD cs ds) cs.length (.tup [.int (i : Int), .int (j : Int)]) .none .none .none .none .none .none .none .none) = .next (V39 k (orsD cs ds) cs.length (.tup [.int (i : Int), .int (j : Int)]) (.val (.tup (ordP ls))) .none .none .none .none .none .none .none) := by
    have o0 := or_0 (cs := cs) (ds := ds)
    have o1 := or_1 (cs := cs) (ds := ds)
    have b0 : bInt [.bl false] = some (.d (.int 0)) := rfl
    have b1 : bInt [.bl true] = some (.d (.int 1)) := rfl
    cases e : (unl cs.length (.int (i : Int)) (.int (j : Int)) && hidB cs (.int (i : Int)) (.int (j : Int))) with
    | true =>
      rw [e] at ia
      refine ⟨ds, hl, ?_⟩
      generalize orsD cs ds = O at *
      generalize D.tup (ordP cs) = X1 at *
      generalize D.tup (ordP ds) = X2 at *
      simp_arith [o0, o1, ia, b1]
    | false =>
      rw [e] at ia
      refine ⟨cs, rfl, ?_⟩
      generalize orsD cs ds = O at *
      generalize D.tup (ordP cs) = X1 at *
      generalize D.tup (ordP ds) = X2 at *
      simp_arith [o0, o1, ia, b0]
  have q1 : P1 (callN T m) (V39 k (orsD cs ds) cs.length (.tup [.int (i : Int), .int (j : Int)]) (.val (.tup (ordP ls))) .none .none .none .none .none .none .none) = .next (V39 k1 (orsD cs ds) cs.length (.tup [.int (i : Int), .int (j : Int)]) (.val (.tup (ordP ls))) (.val (.int (way : Int))) .none .none .none .none .none .none) := by
    generalize orsD cs ds = O at *
    generalize ordP ls = OL at *
    simp_arith [t1]
  obtain ⟨ys, k2, c, h1, h2, o2⟩ := comp_sd (C := callN T m) (i := 8) (elt := (dOp fIx (dTup [(dTup [(dC (.int 0)), (dC (.int 1))]), (dTup [(dC (.int 1)), (dC (.int 2))]), (dTup [(dUn fNeg (dC (.int 3))), (dC (.int 1))]), (dTup [(dC (.int 5)), (dC (.int 3))])]) (dCallG 26 [.v 0, .e (dC (.int 4))] 4))) (fun k s => V39 k (orsD cs ds) cs.length (.tup [.int (i : Int), .int (j : Int)]) (.val (.tup (ordP ls))) (.val (.int (way : Int))) .none s .none .none .none .none) (fun _ _ _ => rfl) (fun _ _ => rfl) (I := Dk.ok) (P := fun y => ∃ v, y = qD v ∧ v ∈ M4) (it := iR1 (dVar 2)) (l := rng 0 (cs.length : Int)) (ρ0 := V39 k1 (orsD cs ds) cs.length (.tup [.int (i : Int), .int (j : Int)]) (.val (.tup (ordP ls))) (.val (.int (way : Int))) .none .none .none .none .none .none) (f := k1) (s := .none) (.inl rfl) (by
      generalize orsD cs ds = O at *
      generalize ordP ls = OL at *
      simp_arith [asI, bd]) (by rw [rng_len']; omega) o1 fun f hf d hd => by
    obtain ⟨q, k1, t1, b1, o1⟩ := takeN (n := m) (by omega) f hf (w := 4) (by decide) (by decide)
    obtain ⟨v, ix, hv⟩ : ∃ v, fIx (.tup [.tup [.int 0, .int 1], .tup [.int 1, .int 2], .tup [.int (-3), .int 1], .tup [.int 5, .int 3]]) (.int (q : Int)) = some (.d (qD v)) ∧ v ∈ M4 := by
      rcases (show q = 0 ∨ q = 1 ∨ q = 2 ∨ q = 3 by omega) with rfl | rfl | rfl | rfl
      · exact ⟨(0, 1), rfl, .head _⟩
      · exact ⟨(1, 2), rfl, .tail _ (.head _)⟩
      · exact ⟨(-3, 1), rfl, .tail _ (.tail _ (.head _))⟩
      · exact ⟨(5, 3), rfl, .tail _ (.tail _ (.tail _ (.head _)))⟩
    refine ⟨qD v, k1, ?_, ⟨v, rfl, hv⟩, o1⟩
    generalize orsD cs ds = O at *
    generalize ordP ls = OL at *
    generalize qD v = V at *
    simp_arith [n3, t1, ix]
  obtain ⟨bs, rfl, hbs⟩ := qts_of h2
  rw [List.length_map, rng_len'] at h1
  have q2 : P2 (callN T m) (V39 k1 (orsD cs ds) cs.length (.tup [.int (i : Int), .int (j : Int)]) (.val (.tup (ordP ls))) (.val (.int (way : Int))) .none .none .none .none .none .none) = .next (V39 k2 (orsD cs ds) cs.length (.tup [.int (i : Int), .int (j : Int)]) (.val (.tup (ordP ls))) (.val (.int (way : Int))) (.own (bs.map qD)) .none .none .none .none .none) := by
    generalize orsD cs ds = O at *
    generalize ordP ls = OL at *
    generalize bs.map qD = BL at *
    simp_arith [c]
  have q3 : P3 (callN T m) (V39 k2 (orsD cs ds) cs.length (.tup [.int (i : Int), .int (j : Int)]) (.val (.tup (ordP ls))) (.val (.int (way : Int))) (.own (bs.map qD)) .none .none .none .none .none) = .next (V39 k2 (orsD cs ds) cs.length (.tup [.int (i : Int), .int (j : Int)]) (.val (.tup (ordP ls))) (.val (.int (way : Int))) (.own (bs.map qD)) .none (.own []) .none .none .none) := by
    generalize orsD cs ds = O at *
    generalize ordP ls = OL at *
    generalize bs.map qD = BL at *
    simp_arith []
  obtain ⟨ρ', lp, vs, s8, s10, s11, s12, rfl, hlen, hall, _⟩ := for_rng (C := callN T m) (tg := .v 8) (A := A39) (ρ := V39 k2 (orsD cs ds) cs.length (.tup [.int (i : Int), .int (j : Int)]) (.val (.tup (ordP ls))) (.val (.int (way : Int))) (.own (bs.map qD)) .none (.own []) .none .none .none) (fun t ρ => ∃ (vs : List Qt) (s8 s10 s11 s12 : Sl), ρ = V39 k2 (orsD cs ds) cs.length (.tup [.int (i : Int), .int (j : Int)]) (.val (.tup (ordP ls))) (.val (.int (way : Int))) (.own (bs.map qD)) s8 (.own (vs.map qD)) s10 s11 s12 ∧ vs.length = t ∧ (∀ v ∈ vs, sm2 v) ∧ NV s8 ∧ NV s10 ∧ NV s11 ∧ NV s12) (n := cs.length)
    ⟨[], .none, .none, .none, .none, rfl, rfl, fun v h => (nomatch h), .inl rfl, .inl rfl, .inl rfl, .inl rfl⟩ fun t ρ ht ⟨vs, s8, s10, s11, s12, e, hv, ha, h8, h10, h11, h12⟩ => by
      subst e
      obtain ⟨v, s10', s11', s12', st, sv, n10, n11, n12⟩ := row39 (m := m) (by omega) (ls := ls) (L := cs.length) (by omega) hls (dk := k2) (O := orsD cs ds) (i := i) (j := j) ht (way := way) (by omega) (bs := bs) h1 hbs (vs := vs) (by omega) h10 h11 h12
      refine ⟨_, _, st_nv1 h8 rfl, .inl st, vs ++ [v], .val (.int (t : Int)), s10', s11', s12', rfl, by rw [List.length_append, hv]; rfl, fun w hw => ?_, .inr ⟨_, rfl⟩, n10, n11, n12⟩
      rcases List.mem_append.mp hw with hw | hw
      · exact ha w hw
      · cases List.mem_singleton.mp hw; exact sv
  refine ⟨vs, k2, ?_, hlen, hall, o2⟩
  have q4 : P4 (callN T m) (V39 k2 (orsD cs ds) cs.length (.tup [.int (i : Int), .int (j : Int)]) (.val (.tup (ordP ls))) (.val (.int (way : Int))) (.own (bs.map qD)) .none (.own []) .none .none .none) = .next (V39 k2 (orsD cs ds) cs.length (.tup [.int (i : Int), .int (j : Int)]) (.val (.tup (ordP ls))) (.val (.int (way : Int))) (.own (bs.map qD)) s8 (.own (vs.map qD)) s10 s11 s12) := by
    unfold A39 S0 S1 S2 S2i S3 S4 at lp
    unfold P4
    generalize orsD cs ds = O at *
    generalize ordP ls = OL at *
    generalize bs.map qD = BL at *
    generalize vs.map qD = VL at *
    simp_arith [asI, bd, lp]
  have q5 : P5 (callN T m) (V39 k2 (orsD cs ds) cs.length (.tup [.int (i : Int), .int (j : Int)]) (.val (.tup (ordP ls))) (.val (.int (way : Int))) (.own (bs.map qD)) s8 (.own (vs.map qD)) s10 s11 s12) = .ret (.d (.tup [.int (i : Int), .int (j : Int), vsD vs])) (V39 k2 (orsD cs ds) cs.length (.tup [.int (i : Int), .int (j : Int)]) (.val (.tup (ordP ls))) (.val (.int (way : Int))) (.own (bs.map qD)) s8 (.own (vs.map qD)) s10 s11 s12) := by
    have eb : bTup [.lst (vs.map qD)] = some (.d (vsD vs)) := rfl
    generalize orsD cs ds = O at *
    generalize ordP ls = OL at *
    generalize bs.map qD = BL at *
    generalize vsD vs = VD at *
    generalize vs.map qD = VL at *
    simp_arith [cq0, cq1, eb]
  rw [callN_eqG (np := 4) (ng := 1) (ns := 13) (d := d39) rfl rfl rfl, Peq]
  have si : ([RX.Arg.own k.l, .d (orsD cs ds), .d (.int (cs.length : Int)), .d (.tup [.int (i : Int), .int (j : Int)]), .gh k.gl].map RX.Arg.sl ++ List.replicate (13 - (4 + 1)) .none) = V39 k (orsD cs ds) cs.length (.tup [.int (i : Int), .int (j : Int)]) .none .none .none .none .none .none .none .none := rfl
  rw [si, seq_next q0, seq_next q1, seq_next q2, seq_next q3, seq_next q4, q5]
  rfl
end
end K10
set_option Elab.async false
set_option linter.all false
set_option maxRecDepth 100000
set_option maxHeartbeats 4000000
namespace K10
open PySem RX RY MQ
/-! ### things bent -/
/-- a thing that may be judged -/
def okS (x : D) : Prop := gd x = true ∧ Sml x
def smD (y : D) : Prop := isQ y = true → Sm 60 (qv y).1 ∧ Sm 60 (qv y).2
theorem ok_no {x : D} (g : gd x = true) (h : ∀ p q l, x ≠ .tup [p, q, .tup l]) : okS x := ⟨g, fun p q l e => absurd e (h p q l)⟩
theorem ok_t {p q : D} {l : List D} (gp : gd p = true) (gq : gd q = true) (hl : l.length < 1000) (h : ∀ y ∈ l, gd y = true ∧ smD y) : okS (.tup [p, q, .tup l]) := by
  refine ⟨gdt (gdc gp (gdc gq (gdc (gd_tup.mpr ⟨hl, fun y hy => (h y hy).1⟩) rfl))) rfl, fun p' q' l' e y hy hq => ?_⟩
  cases e
  exact (h y hy).2 hq
theorem ok_3 {p q r : D} (gp : gd p = true) (gq : gd q = true) (gr : gd r = true) (hr : ∀ l, r ≠ .tup l) : okS (.tup [p, q, r]) := ok_no (gdt (gdc gp (gdc gq (gdc gr rfl))) rfl) fun p' q' l e => by cases e; exact hr l rfl
theorem smD_q {v : Qt} (h : sm2 v) : gd (qD v) = true ∧ smD (qD v) := ⟨gd_qD, fun _ => h⟩
theorem smD_vs {vs : List Qt} (h : ∀ v ∈ vs, sm2 v) : ∀ y ∈ vs.map qD, gd y = true ∧ smD y := fun y hy => by
  obtain ⟨v, hv, rfl⟩ := List.mem_map.mp hy
  exact smD_q (h v hv)
section
variable {n a b a' b' : Nat} {cs ds : List Cs} {x : D}
abbrev NN0 : DS := (sSet 4 (dIxV 2 (dC (.int 2))))
abbrev NN1 : DS := (sSet 5 (dCallG 26 [.v 0, .v 1] 3))
abbrev NN2 : DS := (sSet 6 (dTup [(dTup [(dC (.int 0)), (dC (.int 1))]), (dTup [(dC (.int 1)), (dC (.int 1))]), (dTup [(dC (.int 2)), (dC (.int 1))]), (dTup [(dC (.int 1)), (dC (.int 2))]), (dTup [(dUn fNeg (dC (.int 1))), (dC (.int 2))]), (dTup [(dC (.int 3)), (dC (.int 1))])]))
abbrev NN3 : DS := (sSet 7 (dB bTup [(dComp [8] (iR1 (dVar 1)) (.v 8) (tests []) (dIxV 6 (dCallG 26 [.v 0, .e (dC (.int 6))] 3)))]))
abbrev NN4 : DS := (sSet 9 (dOp fIx (dTup [(dTup [(dC (.int 2)), (dC (.int 2))]), (dTup [(dC (.int 1)), (dC (.bl true))]), (dTup [(dC (.int 1)), (dC (.int 0))]), (dTup [(dC (.int 0)), (dC (.int 2))]), (dC .non), (dLst [(dC (.int 0)), (dC (.int 1))]), (dTup [(dC (.int 3)), (dUn fNeg (dC (.int 1)))]), (dTup [(dC (.int 1)), (dC (.int 2)), (dC (.int 3))]), (dC (.int 0)), (dTup [(dUn fNeg (dC (.int 4))), (dC (.int 6))])]) (dCallG 26 [.v 0, .e (dC (.int 10))] 3)))
abbrev NN5 : DS := (sSet 10 (dOp fIx (dTup [(dVar 1), (dUn fNeg (dC (.int 1))), (dC (.bl true)), (dC .non), (dC (.str "0")), (dTup [(dC (.int 0))]), (dC (.bl false)), (dLst []), (dOp fAdd (dVar 1) (dC (.int 5)))]) (dCallG 26 [.v 0, .e (dC (.int 9))] 3)))
abbrev NN6 : DS := (sSet 11 (dLst [(dC .non), (dB1 bLst 2), (dSlV 2 none (some (dC (.int 2)))), (dOp fAdd (dVar 2) (dTup [(dC (.int 0))])), (dIxV 2 (dC (.int 2))), (dTup [(dIxV 2 (dC (.int 1))), (dIxV 2 (dC (.int 0))), (dVar 4)]), (dTup [(dIxV 2 (dC (.int 0))), (dIxV 2 (dC (.int 0))), (dVar 4)])]))
abbrev NN7 : DS := (sSet 11 (dOp fAdd (dVar 11) (dLst [(dTup [(dVar 10), (dIxV 2 (dC (.int 1))), (dVar 4)]), (dTup [(dIxV 2 (dC (.int 0))), (dVar 10), (dVar 4)]), (dTup [(dVar 10), (dVar 10), (dC .non)])])))
abbrev NN8 : DS := (sSet 11 (dOp fAdd (dVar 11) (dLst [(dTup [(dIxV 2 (dC (.int 0))), (dIxV 2 (dC (.int 1))), (dB1 bLst 4)]), (dTup [(dIxV 2 (dC (.int 0))), (dIxV 2 (dC (.int 1))), (dSlV 4 (some (dC (.int 1))) none)]), (dTup [(dIxV 2 (dC (.int 0))), (dIxV 2 (dC (.int 1))), (dC .non)])])))
abbrev NN9 : DS := (sSet 11 (dOp fAdd (dVar 11) (dLst [(dTup [(dIxV 2 (dC (.int 0))), (dIxV 2 (dC (.int 1))), (dOp fAdd (dVar 4) (dTup [(dTup [(dC (.int 0)), (dC (.int 1))])]))]), (dTup [(dIxV 2 (dC (.int 0))), (dIxV 2 (dC (.int 1))), (dOp fMul (dTup [(dTup [(dC (.int 1)), (dC (.int 1))])]) (dVar 1))])])))
abbrev NN10 : DS := (sSet 11 (dOp fAdd (dVar 11) (dLst [(dTup [(dIxV 2 (dC (.int 0))), (dIxV 2 (dC (.int 1))), (dOp fAdd (dOp fAdd (dSlV 4 none (some (dVar 5))) (dTup [(dVar 9)])) (dSlV 4 (some (dOp fAdd (dVar 5) (dC (.int 1)))) none))]), (dTup [(dIxV 2 (dC (.int 0))), (dIxV 2 (dC (.int 1))), (dVar 7)])])))
abbrev NN11 : DS := (sSet 11 (dOp fAdd (dVar 11) (dLst [(dTup [(dIxV 2 (dC (.int 0))), (dIxV 2 (dC (.int 1))), (dB bTup [(dComp [12] (iE (dVar 4)) (.v 12) (tests []) (dTup [(dUn fNeg (dIxV 12 (dC (.int 0)))), (dIxV 12 (dC (.int 1)))]))])])])))
abbrev NN12 : DS := (sSet 11 (dOp fAdd (dVar 11) (dLst [(dTup [(dCallG 26 [.v 0, .v 1] 3), (dCallG 26 [.v 0, .v 1] 3), (dVar 7)])])))
abbrev NN13 : DS := (sRetV 11)
theorem Neq : d40 = (sSeq NN0 (sSeq NN1 (sSeq NN2 (sSeq NN3 (sSeq NN4 (sSeq NN5 (sSeq NN6 (sSeq NN7 (sSeq NN8 (sSeq NN9 (sSeq NN10 (sSeq NN11 (sSeq NN12 NN13))))))))))))) := rfl
abbrev V40 (k : Dk) (L : Nat) (g : D) (s4 s5 s6 s7 s9 s10 s11 : Sl) : RX.Env := [.par k.l, .val (.int (L : Int)), .val g, .gh k.gl, s4, s5, s6, s7, .none, s9, s10, s11, .none]
abbrev gG (i j : Nat) (vs : List Qt) : D := .tup [.int (i : Int), .int (j : Int), vsD vs]
theorem g_0 {i j : Nat} {vs : List Qt} : fIx (gG i j vs) (.int 0) = some (.d (.int (i : Int))) := rfl
theorem g_1 {i j : Nat} {vs : List Qt} : fIx (gG i j vs) (.int 1) = some (.d (.int (j : Int))) := rfl
theorem g_2 {i j : Nat} {vs : List Qt} : fIx (gG i j vs) (.int 2) = some (.d (vsD vs)) := rfl
abbrev N7e : Den := dLst [(dTup [(dVar 10), (dIxV 2 (dC (.int 1))), (dVar 4)]), (dTup [(dIxV 2 (dC (.int 0))), (dVar 10), (dVar 4)]), (dTup [(dVar 10), (dVar 10), (dC .non)])]
/-- a pile grown by a list -/
theorem grow {C : Calls} {k : Dk} {L : Nat} {g : D} {s4 s5 s6 s7 s9 s10 : Sl} {X Y : List D} {e : Den} {k' : Dk} (h : e C (V40 k L g s4 s5 s6 s7 s9 s10 (.val (.lst X))) = .ok (.fresh Y) (V40 k' L g s4 s5 s6 s7 s9 s10 (.val (.lst X)))) (hl : X.length + Y.length ≤ 16777216) : sSet 11 (dOp fAdd (dVar 11) e) C (V40 k L g s4 s5 s6 s7 s9 s10 (.own X)) = .next (V40 k' L g s4 s5 s6 s7 s9 s10 (.own (X ++ Y))) := by
  have ad := fAddL (a := X) (b := Y) hl
  have hv : dVar 11 C (V40 k L g s4 s5 s6 s7 s9 s10 (.own X)) = .ok (.d (.lst X)) (V40 k L g s4 s5 s6 s7 s9 s10 (.val (.lst X))) := rfl
  have ho : dOp fAdd (dVar 11) e C (V40 k L g s4 s5 s6 s7 s9 s10 (.own X)) = .ok (.fresh (X ++ Y)) (V40 k' L g s4 s5 s6 s7 s9 s10 (.val (.lst X))) := by
    unfold dOp
    rw [hv]
    show (e C (V40 k L g s4 s5 s6 s7 s9 s10 (.val (.lst X)))).bind _ = _
    rw [h]
    show (match fAdd (.lst X) (.lst Y) with
      | some r => RX.R.ok r (V40 k' L g s4 s5 s6 s7 s9 s10 (.val (.lst X)))
      | none => .stuck) = _
    rw [ad]
  unfold sSet
  rw [ho]
  rfl
theorem s40 (hn : 2 ≤ n) {L i j : Nat} (h1 : 1 ≤ L) (h8 : L ≤ 8) {vs : List Qt} (hv : vs.length = L) (hs : ∀ v ∈ vs, sm2 v) (k : Dk) (hk : k.ok) : ∃ (pile : List D) (k' : Dk), callN T n 40 [.own k.l, .d (.int (L : Int)), .d (gG i j vs), .gh k.gl] = .ok (.fresh pile) [k'.l, k'.gl] ∧ pile.length ≤ 100 ∧ (∀ y ∈ pile, okS y) ∧ k'.ok := by
  obtain ⟨m, rfl, hm⟩ := up hn
  have bd : -16777216 < (L : Int) ∧ (L : Int) < 16777216 := by omega
  have n1 : fNeg (.int 1) = some (.d (.int (-1))) := rfl
  have n4 : fNeg (.int 4) = some (.d (.int (-4))) := rfl
  have gI : ∀ z : Int, gd (.int z) = true := fun _ => rfl
  have svs := smD_vs hs
  have lvs : (vs.map qD).length = L := by rw [List.length_map, hv]
  have gvs : gd (vsD vs) = true := gd_tup.mpr ⟨by rw [lvs]; omega, fun y hy => (svs y hy).1⟩
  have g0 := g_0 (i := i) (j := j) (vs := vs)
  have g1 := g_1 (i := i) (j := j) (vs := vs)
  have g2 := g_2 (i := i) (j := j) (vs := vs)
  obtain ⟨spot, k1, t1, b1, o1⟩ := takeN (n := m) (by omega) k hk (w := (L : Int)) (by omega) (by omega)
  have q0 : NN0 (callN T m) (V40 k L (gG i j vs) .none .none .none .none .none .none .none) = .next (V40 k L (gG i j vs) (.val (vsD vs)) .none .none .none .none .none .none) := by
    generalize gG i j vs = G at *
    generalize vsD vs = VD at *
    simp_arith [g2]
  have q1 : NN1 (callN T m) (V40 k L (gG i j vs) (.val (vsD vs)) .none .none .none .none .none .none) = .next (V40 k1 L (gG i j vs) (.val (vsD vs)) (.val (.int (spot : Int))) .none .none .none .none .none) := by
    generalize gG i j vs = G at *
    generalize vsD vs = VD at *
    simp_arith [t1]
  let ML : List Qt := [(0, 1), (1, 1), (2, 1), (1, 2), (-1, 2), (3, 1)]
  have q2 : NN2 (callN T m) (V40 k1 L (gG i j vs) (.val (vsD vs)) (.val (.int (spot : Int))) .none .none .none .none .none) = .next (V40 k1 L (gG i j vs) (.val (vsD vs)) (.val (.int (spot : Int))) (.val (vsD ML)) .none .none .none .none) := by
    have e : vsD ML = .tup [.tup [.int 0, .int 1], .tup [.int 1, .int 1], .tup [.int 2, .int 1], .tup [.int 1, .int 2], .tup [.int (-1), .int 2], .tup [.int 3, .int 1]] := rfl
    rw [e]
    generalize gG i j vs = G at *
    generalize vsD vs = VD at *
    simp_arith [n1]
  obtain ⟨ys, k2, c, l1, h2, o2⟩ := comp_sd (C := callN T m) (i := 8) (elt := (dIxV 6 (dCallG 26 [.v 0, .e (dC (.int 6))] 3))) (fun k s => [.par k.l, .val (.int (L : Int)), .val (gG i j vs), .gh k.gl, .val (vsD vs), .val (.int (spot : Int)), .val (vsD ML), .none, s, .none, .none, .none, .none]) (fun _ _ _ => rfl) (fun _ _ => rfl) (I := Dk.ok) (P := fun y => ∃ v, y = qD v ∧ sm2 v) (it := iR1 (dVar 1)) (l := rng 0 (L : Int)) (ρ0 := V40 k1 L (gG i j vs) (.val (vsD vs)) (.val (.int (spot : Int))) (.val (vsD ML)) .none .none .none .none) (f := k1) (s := .none) (.inl rfl) (by
      generalize vsD ML = MD at *
      generalize gG i j vs = G at *
      generalize vsD vs = VD at *
      simp_arith [asI, bd]) (by rw [rng_len']; omega) o1 fun f hf d hd => by
    obtain ⟨q, k1, t1, b1, o1⟩ := takeN (n := m) (by omega) f hf (w := 6) (by decide) (by decide)
    have ix := vs_ix (vs := ML) (k := q) (by show q < 6; omega)
    have sv : sm2 (ML.getD q (0, 1)) := by
      rcases (show q = 0 ∨ q = 1 ∨ q = 2 ∨ q = 3 ∨ q = 4 ∨ q = 5 by omega) with rfl | rfl | rfl | rfl | rfl | rfl <;> exact ⟨by unfold Sm; decide, by unfold Sm; decide⟩
    refine ⟨qD (ML.getD q (0, 1)), k1, ?_, ⟨_, rfl, sv⟩, o1⟩
    generalize qD (ML.getD q (0, 1)) = V at *
    generalize vsD ML = MD at *
    generalize gG i j vs = G at *
    generalize vsD vs = VD at *
    simp_arith [t1, ix]
  obtain ⟨dv, rfl, sdv⟩ := qts_of h2
  rw [List.length_map, rng_len'] at l1
  have q3 : NN3 (callN T m) (V40 k1 L (gG i j vs) (.val (vsD vs)) (.val (.int (spot : Int))) (.val (vsD ML)) .none .none .none .none) = .next (V40 k2 L (gG i j vs) (.val (vsD vs)) (.val (.int (spot : Int))) (.val (vsD ML)) (.val (vsD dv)) .none .none .none) := by
    have eb : bTup [.lst (dv.map qD)] = some (.d (vsD dv)) := rfl
    generalize vsD dv = DD at *
    generalize dv.map qD = DL at *
    generalize vsD ML = MD at *
    generalize gG i j vs = G at *
    generalize vsD vs = VD at *
    simp_arith [c, eb]
  obtain ⟨u, k3, t3, b3, o3⟩ := takeN (n := m) (by omega) k2 o2 (w := 10) (by decide) (by decide)
  obtain ⟨odd, io, go, so⟩ : ∃ y, fIx (.tup [.tup [.int 2, .int 2], .tup [.int 1, .bl true], .tup [.int 1, .int 0], .tup [.int 0, .int 2], .non, .lst [.int 0, .int 1], .tup [.int 3, .int (-1)], .tup [.int 1, .int 2, .int 3], .int 0, .tup [.int (-4), .int 6]]) (.int (u : Int)) = some (.d y) ∧ gd y = true ∧ smD y := by
    rcases (show u = 0 ∨ u = 1 ∨ u = 2 ∨ u = 3 ∨ u = 4 ∨ u = 5 ∨ u = 6 ∨ u = 7 ∨ u = 8 ∨ u = 9 by omega) with rfl | rfl | rfl | rfl | rfl | rfl | rfl | rfl | rfl | rfl <;> exact ⟨_, rfl, rfl, fun h => by cases h⟩
  have q4 : NN4 (callN T m) (V40 k2 L (gG i j vs) (.val (vsD vs)) (.val (.int (spot : Int))) (.val (vsD ML)) (.val (vsD dv)) .none .none .none) = .next (V40 k3 L (gG i j vs) (.val (vsD vs)) (.val (.int (spot : Int))) (.val (vsD ML)) (.val (vsD dv)) (.val odd) .none .none) := by
    generalize vsD dv = DD at *
    generalize vsD ML = MD at *
    generalize gG i j vs = G at *
    generalize vsD vs = VD at *
    simp_arith [n1, n4, t3, io]
  obtain ⟨w, k4, t4, b4, o4⟩ := takeN (n := m) (by omega) k3 o3 (w := 9) (by decide) (by decide)
  obtain ⟨str, is, gs⟩ : ∃ y, fIx (.tup [.int (L : Int), .int (-1), .bl true, .non, .str "0", .tup [.int 0], .bl false, .lst [], .int ((L : Int) + 5)]) (.int (w : Int)) = some (.d y) ∧ gd y = true := by
    rcases (show w = 0 ∨ w = 1 ∨ w = 2 ∨ w = 3 ∨ w = 4 ∨ w = 5 ∨ w = 6 ∨ w = 7 ∨ w = 8 by omega) with rfl | rfl | rfl | rfl | rfl | rfl | rfl | rfl | rfl <;> exact ⟨_, rfl, rfl⟩
  have q5 : NN5 (callN T m) (V40 k3 L (gG i j vs) (.val (vsD vs)) (.val (.int (spot : Int))) (.val (vsD ML)) (.val (vsD dv)) (.val odd) .none .none) = .next (V40 k4 L (gG i j vs) (.val (vsD vs)) (.val (.int (spot : Int))) (.val (vsD ML)) (.val (vsD dv)) (.val odd) (.val str) .none) := by
    generalize vsD dv = DD at *
    generalize vsD ML = MD at *
    generalize gG i j vs = G at *
    generalize vsD vs = VD at *
    simp_arith [n1, t4, is]
  have gG' : gd (gG i j vs) = true := gdt (gdc (gI _) (gdc (gI _) (gdc gvs rfl))) rfl
  have bl : bLst [gG i j vs] = some (.fresh [.int (i : Int), .int (j : Int), vsD vs]) := rfl
  have fs : fSl (gG i j vs) none (some 2) = some (.d (.tup [.int (i : Int), .int (j : Int)])) := rfl
  have fa0 : fAdd (gG i j vs) (.tup [.int 0]) = some (.d (.tup [.int (i : Int), .int (j : Int), vsD vs, .int 0])) := fAddT (by show 3 + 1 ≤ 16777216; decide)
  obtain ⟨X1, hX1, lX1, q6, oX1⟩ : ∃ X1 : List D, X1 = [.non, .lst [.int (i : Int), .int (j : Int), vsD vs], .tup [.int (i : Int), .int (j : Int)], .tup [.int (i : Int), .int (j : Int), vsD vs, .int 0], vsD vs, .tup [.int (j : Int), .int (i : Int), vsD vs], .tup [.int (i : Int), .int (i : Int), vsD vs]] ∧ X1.length ≤ 7 ∧ NN6 (callN T m) (V40 k4 L (gG i j vs) (.val (vsD vs)) (.val (.int (spot : Int))) (.val (vsD ML)) (.val (vsD dv)) (.val odd) (.val str) .none) = .next (V40 k4 L (gG i j vs) (.val (vsD vs)) (.val (.int (spot : Int))) (.val (vsD ML)) (.val (vsD dv)) (.val odd) (.val str) (.own X1)) ∧ ∀ y ∈ X1, okS y := by
    refine ⟨_, rfl, Nat.le_refl 7, ?_, ?_⟩
    · generalize vsD dv = DD at *
      generalize vsD ML = MD at *
      generalize gG i j vs = G at *
      generalize vsD vs = VD at *
      simp_arith [bl, asI, fs, fa0, g0, g1, g2]
    · intro y hy
      rcases List.mem_cons.mp hy with rfl | hy
      · exact ok_no rfl fun p q l e => by cases e
      rcases List.mem_cons.mp hy with rfl | hy
      · exact ok_no (gdl (gdc (gI _) (gdc (gI _) (gdc gvs rfl))) rfl) fun p q l e => by cases e
      rcases List.mem_cons.mp hy with rfl | hy
      · exact ok_no rfl fun p q l e => by cases e
      rcases List.mem_cons.mp hy with rfl | hy
      · exact ok_no (gdt (gdc (gI _) (gdc (gI _) (gdc gvs (gdc (gI _) rfl)))) rfl) fun p q l e => by cases e
      rcases List.mem_cons.mp hy with rfl | hy
      · refine ⟨gvs, fun p q l e y hy hq => ?_⟩
        have e : D.tup (vs.map qD) = .tup [p, q, .tup l] := e
        have hm : D.tup l ∈ vs.map qD := by
          rw [D.tup.inj e]
          exact .tail _ (.tail _ (.head _))
        obtain ⟨v, _, ev'⟩ := List.mem_map.mp hm
        have el : [D.int v.1, .int v.2] = l := D.tup.inj ev'
        subst el
        rcases List.mem_cons.mp hy with rfl | hy
        · cases hq
        · cases List.mem_singleton.mp hy; cases hq
      rcases List.mem_cons.mp hy with rfl | hy
      · exact ok_t (gI _) (gI _) (by rw [lvs]; omega) svs
      · cases List.mem_singleton.mp hy
        exact ok_t (gI _) (gI _) (by rw [lvs]; omega) svs
  clear hX1
  have q7 : NN7 (callN T m) (V40 k4 L (gG i j vs) (.val (vsD vs)) (.val (.int (spot : Int))) (.val (vsD ML)) (.val (vsD dv)) (.val odd) (.val str) (.own X1)) = .next (V40 k4 L (gG i j vs) (.val (vsD vs)) (.val (.int (spot : Int))) (.val (vsD ML)) (.val (vsD dv)) (.val odd) (.val str) (.own (X1 ++ [.tup [str, .int (j : Int), vsD vs], .tup [.int (i : Int), str, vsD vs], .tup [str, str, .non]]))) := grow (by
    clear q6
    generalize vsD dv = DD at *
    generalize vsD ML = MD at *
    generalize gG i j vs = G at *
    generalize vsD vs = VD at *
    simp_arith [g0, g1]) (by show X1.length + 3 ≤ 16777216; omega)
  have bv : bLst [vsD vs] = some (.fresh (vs.map qD)) := rfl
  have fv : fSl (vsD vs) (some 1) none = some (.d (.tup (RX.cut (vs.map qD) (some 1) none))) := rfl
  generalize hX2 : X1 ++ [.tup [str, .int (j : Int), vsD vs], .tup [.int (i : Int), str, vsD vs], .tup [str, str, .non]] = X2 at *
  have lX2 : X2.length ≤ 10 := by rw [← hX2, List.length_append]; show _ + 3 ≤ 10; omega
  have oX2 : ∀ y ∈ X2, okS y := fun y hy => by
    rw [← hX2] at hy
    rcases List.mem_append.mp hy with hy | hy
    · exact oX1 y hy
    rcases List.mem_cons.mp hy with rfl | hy
    · exact ok_t gs (gI _) (by rw [lvs]; omega) svs
    rcases List.mem_cons.mp hy with rfl | hy
    · exact ok_t (gI _) gs (by rw [lvs]; omega) svs
    · cases List.mem_singleton.mp hy
      exact ok_3 gs gs rfl fun l e => by cases e
  clear hX2
  have q8 : NN8 (callN T m) (V40 k4 L (gG i j vs) (.val (vsD vs)) (.val (.int (spot : Int))) (.val (vsD ML)) (.val (vsD dv)) (.val odd) (.val str) (.own X2)) = .next (V40 k4 L (gG i j vs) (.val (vsD vs)) (.val (.int (spot : Int))) (.val (vsD ML)) (.val (vsD dv)) (.val odd) (.val str) (.own (X2 ++ [.tup [.int (i : Int), .int (j : Int), .lst (vs.map qD)], .tup [.int (i : Int), .int (j : Int), .tup (RX.cut (vs.map qD) (some 1) none)], .tup [.int (i : Int), .int (j : Int), .non]]))) := grow (by
    clear q6 q7
    generalize vsD dv = DD at *
    generalize vsD ML = MD at *
    generalize gG i j vs = G at *
    generalize RX.cut (vs.map qD) (some 1) none = CV at *
    generalize vsD vs = VD at *
    generalize vs.map qD = VL at *
    simp_arith [g0, g1, bv, asI, fv]) (by show X2.length + 3 ≤ 16777216; omega)
  generalize hX3 : X2 ++ [.tup [.int (i : Int), .int (j : Int), .lst (vs.map qD)], .tup [.int (i : Int), .int (j : Int), .tup (RX.cut (vs.map qD) (some 1) none)], .tup [.int (i : Int), .int (j : Int), .non]] = X3 at *
  have lX3 : X3.length ≤ 13 := by rw [← hX3, List.length_append]; show _ + 3 ≤ 13; omega
  have oX3 : ∀ y ∈ X3, okS y := fun y hy => by
    rw [← hX3] at hy
    rcases List.mem_append.mp hy with hy | hy
    · exact oX2 y hy
    rcases List.mem_cons.mp hy with rfl | hy
    · exact ok_3 (gI _) (gI _) (gd_lst.mpr ⟨by rw [lvs]; omega, fun y hy => (svs y hy).1⟩) fun l e => by cases e
    rcases List.mem_cons.mp hy with rfl | hy
    · refine ok_t (gI _) (gI _) ?_ fun y hy => svs y (List.mem_of_mem_drop (List.mem_of_mem_take hy))
      show ((vs.map qD).drop _ |>.take _).length < 1000
      rw [List.length_take, List.length_drop, lvs]
      omega
    · cases List.mem_singleton.mp hy
      exact ok_3 (gI _) (gI _) rfl fun l e => by cases e
  clear hX3
  have fa1 : fAdd (vsD vs) (.tup [.tup [.int 0, .int 1]]) = some (.d (.tup (vs.map qD ++ [.tup [.int 0, .int 1]]))) := fAddT (by rw [lvs]; show L + 1 ≤ 16777216; omega)
  obtain ⟨ol, fm, lol, hol⟩ : ∃ ol, fMul (.tup [.tup [.int 1, .int 1]]) (.int (L : Int)) = some (.d (.tup ol)) ∧ ol.length ≤ 8 ∧ ∀ y ∈ ol, y = qD (1, 1) := by
    by_cases h2' : 2 ≤ L
    · refine ⟨(List.replicate (L : Int).toNat [D.tup [.int 1, .int 1]]).flatten, ?_, ?_, fun y hy => ?_⟩
      · show (if ([D.tup [.int 1, .int 1]] ≠ [] ∧ 2 ≤ (L : Int) ∧ (L : Int) ≤ 1000 ∧ [D.tup [.int 1, .int 1]].length ≤ 1000) then some (RX.Ex.d (.tup (List.replicate (L : Int).toNat [D.tup [.int 1, .int 1]]).flatten)) else if (L : Int) = 1 then some (.d (.tup [D.tup [.int 1, .int 1]])) else none) = _
        rw [if_pos ⟨List.cons_ne_nil _ _, by omega, by omega, by decide⟩]
      · rw [List.length_flatten, List.map_replicate, Int.toNat_natCast]
        rw [List.sum_replicate_nat]
        show L * 1 ≤ 8
        omega
      · obtain ⟨l, hl, hy⟩ := List.mem_flatten.mp hy
        rw [(List.mem_replicate.mp hl).2] at hy
        exact List.mem_singleton.mp hy
    · have : L = 1 := by omega
      subst this
      exact ⟨[.tup [.int 1, .int 1]], rfl, by decide, fun y hy => List.mem_singleton.mp hy⟩
  have q9 : NN9 (callN T m) (V40 k4 L (gG i j vs) (.val (vsD vs)) (.val (.int (spot : Int))) (.val (vsD ML)) (.val (vsD dv)) (.val odd) (.val str) (.own X3)) = .next (V40 k4 L (gG i j vs) (.val (vsD vs)) (.val (.int (spot : Int))) (.val (vsD ML)) (.val (vsD dv)) (.val odd) (.val str) (.own (X3 ++ [.tup [.int (i : Int), .int (j : Int), .tup (vs.map qD ++ [.tup [.int 0, .int 1]])], .tup [.int (i : Int), .int (j : Int), .tup ol]]))) := grow (by
    clear q6 q7 q8
    generalize vsD dv = DD at *
    generalize vsD ML = MD at *
    generalize gG i j vs = G at *
    generalize vs.map qD ++ [.tup [.int 0, .int 1]] = CV at *
    generalize vsD vs = VD at *
    simp_arith [g0, g1, fa1, fm]) (by show X3.length + 2 ≤ 16777216; omega)
  generalize hX4 : X3 ++ [.tup [.int (i : Int), .int (j : Int), .tup (vs.map qD ++ [.tup [.int 0, .int 1]])], .tup [.int (i : Int), .int (j : Int), .tup ol]] = X4 at *
  have lX4 : X4.length ≤ 15 := by rw [← hX4, List.length_append]; show _ + 2 ≤ 15; omega
  have oX4 : ∀ y ∈ X4, okS y := fun y hy => by
    rw [← hX4] at hy
    rcases List.mem_append.mp hy with hy | hy
    · exact oX3 y hy
    rcases List.mem_cons.mp hy with rfl | hy
    · refine ok_t (gI _) (gI _) (by rw [List.length_append, lvs]; show L + 1 < 1000; omega) fun y hy => ?_
      rcases List.mem_append.mp hy with hy | hy
      · exact svs y hy
      · cases List.mem_singleton.mp hy
        exact smD_q (v := (0, 1)) ⟨by unfold Sm; decide, by unfold Sm; decide⟩
    · cases List.mem_singleton.mp hy
      exact ok_t (gI _) (gI _) (by omega) fun y hy => by
        rw [hol y hy]
        exact smD_q ⟨by unfold Sm; decide, by unfold Sm; decide⟩
  clear hX4
  have f1 : fSl (vsD vs) none (some (spot : Int)) = some (.d (.tup ((vs.map qD).take spot))) := by
    unfold vsD
    rw [fslT, cut_take (by rw [lvs]; omega)]
  have f2 : fAdd (.tup ((vs.map qD).take spot)) (.tup [odd]) = some (.d (.tup ((vs.map qD).take spot ++ [odd]))) := fAddT (by rw [List.length_take, List.length_singleton]; omega)
  have f3 : fSl (vsD vs) (some ((spot : Int) + 1)) none = some (.d (.tup ((vs.map qD).drop (spot + 1)))) := by
    unfold vsD
    rw [fslT, cut_drop (by rw [lvs]; omega)]
  have f4 : fAdd (.tup ((vs.map qD).take spot ++ [odd])) (.tup ((vs.map qD).drop (spot + 1))) = some (.d (.tup ((vs.map qD).take spot ++ [odd] ++ (vs.map qD).drop (spot + 1)))) := fAddT (by rw [List.length_append, List.length_take, List.length_drop, List.length_singleton, lvs]; omega)
  have q10 : NN10 (callN T m) (V40 k4 L (gG i j vs) (.val (vsD vs)) (.val (.int (spot : Int))) (.val (vsD ML)) (.val (vsD dv)) (.val odd) (.val str) (.own X4)) = .next (V40 k4 L (gG i j vs) (.val (vsD vs)) (.val (.int (spot : Int))) (.val (vsD ML)) (.val (vsD dv)) (.val odd) (.val str) (.own (X4 ++ [.tup [.int (i : Int), .int (j : Int), .tup ((vs.map qD).take spot ++ [odd] ++ (vs.map qD).drop (spot + 1))], .tup [.int (i : Int), .int (j : Int), vsD dv]]))) := grow (by
    clear q6 q7 q8 q9
    generalize (vs.map qD).take spot ++ [odd] ++ (vs.map qD).drop (spot + 1) = P4 at *
    generalize (vs.map qD).take spot ++ [odd] = P3 at *
    generalize (vs.map qD).take spot = P2 at *
    generalize (vs.map qD).drop (spot + 1) = P1 at *
    generalize vsD dv = DD at *
    generalize vsD ML = MD at *
    generalize gG i j vs = G at *
    generalize vsD vs = VD at *
    simp_arith [g0, g1, asI, f1, f2, f3, f4]) (by show X4.length + 2 ≤ 16777216; omega)
  generalize hX5 : X4 ++ [.tup [.int (i : Int), .int (j : Int), .tup ((vs.map qD).take spot ++ [odd] ++ (vs.map qD).drop (spot + 1))], .tup [.int (i : Int), .int (j : Int), vsD dv]] = X5 at *
  have lX5 : X5.length ≤ 17 := by rw [← hX5, List.length_append]; show _ + 2 ≤ 17; omega
  have sdvs := smD_vs sdv
  have ldv : (dv.map qD).length = L := by rw [List.length_map, l1]
  have oX5 : ∀ y ∈ X5, okS y := fun y hy => by
    rw [← hX5] at hy
    rcases List.mem_append.mp hy with hy | hy
    · exact oX4 y hy
    rcases List.mem_cons.mp hy with rfl | hy
    · refine ok_t (gI _) (gI _) (by rw [List.length_append, List.length_append, List.length_take, List.length_drop, List.length_singleton, lvs]; omega) fun y hy => ?_
      rcases List.mem_append.mp hy with hy | hy
      · rcases List.mem_append.mp hy with hy | hy
        · exact svs y (List.mem_of_mem_take hy)
        · cases List.mem_singleton.mp hy; exact ⟨go, so⟩
      · exact svs y (List.mem_of_mem_drop hy)
    · cases List.mem_singleton.mp hy
      exact ok_t (gI _) (gI _) (by rw [ldv]; omega) sdvs
  clear hX5
  have cn := comp_e (C := callN T m) (ρ := V40 k4 L (gG i j vs) (.val (vsD vs)) (.val (.int (spot : Int))) (.val (vsD ML)) (.val (vsD dv)) (.val odd) (.val str) (.val (.lst X5))) (it := iE (dVar 4)) (i := 12) (l := vs.map qD) (elt := (dTup [(dUn fNeg (dIxV 12 (dC (.int 0)))), (dIxV 12 (dC (.int 1)))])) (g := fun d => qD (-(qv d).1, (qv d).2)) (s := .none) rfl rfl (.inl rfl) (by rw [lvs]; omega) fun d hd => by
    obtain ⟨v, _, rfl⟩ := List.mem_map.mp hd
    rw [qv_qD]
    have e : qD (-v.1, v.2) = .tup [.int (-v.1), .int v.2] := rfl
    have nv : fNeg (.int v.1) = some (.d (.int (-v.1))) := rfl
    rw [e]
    generalize vsD dv = DD at *
    generalize vsD ML = MD at *
    generalize gG i j vs = G at *
    generalize vsD vs = VD at *
    simp_arith [K10.q0, K10.q1, nv]
  have en : (vs.map qD).map (fun d => qD (-(qv d).1, (qv d).2)) = (vs.map fun v => (-v.1, v.2)).map qD := by
    rw [List.map_map, List.map_map]
    rfl
  rw [en] at cn
  have q11 : NN11 (callN T m) (V40 k4 L (gG i j vs) (.val (vsD vs)) (.val (.int (spot : Int))) (.val (vsD ML)) (.val (vsD dv)) (.val odd) (.val str) (.own X5)) = .next (V40 k4 L (gG i j vs) (.val (vsD vs)) (.val (.int (spot : Int))) (.val (vsD ML)) (.val (vsD dv)) (.val odd) (.val str) (.own (X5 ++ [.tup [.int (i : Int), .int (j : Int), vsD (vs.map fun v => (-v.1, v.2))]]))) := grow (by
    clear q6 q7 q8 q9 q10
    have eb : bTup [.lst ((vs.map fun v => ((-v.1, v.2) : Qt)).map qD)] = some (.d (vsD (vs.map fun v => (-v.1, v.2)))) := rfl
    generalize vsD (vs.map fun v => (-v.1, v.2)) = NV' at *
    generalize (vs.map fun v => ((-v.1, v.2) : Qt)).map qD = NL at *
    generalize vsD dv = DD at *
    generalize vsD ML = MD at *
    generalize gG i j vs = G at *
    generalize vsD vs = VD at *
    simp_arith [g0, g1, cn, eb]) (by show X5.length + 1 ≤ 16777216; omega)
  generalize hX6 : X5 ++ [.tup [.int (i : Int), .int (j : Int), vsD (vs.map fun v => (-v.1, v.2))]] = X6 at *
  have lX6 : X6.length ≤ 18 := by rw [← hX6, List.length_append]; show _ + 1 ≤ 18; omega
  have oX6 : ∀ y ∈ X6, okS y := fun y hy => by
    rw [← hX6] at hy
    rcases List.mem_append.mp hy with hy | hy
    · exact oX5 y hy
    · cases List.mem_singleton.mp hy
      refine ok_t (gI _) (gI _) (by rw [List.length_map, List.length_map]; omega) (smD_vs fun v hv => ?_)
      obtain ⟨w, hw, rfl⟩ := List.mem_map.mp hv
      exact ⟨(hs w hw).1.neg, (hs w hw).2⟩
  clear hX6
  obtain ⟨p, k5, t5, b5, o5⟩ := takeN (n := m) (by omega) k4 o4 (w := (L : Int)) (by omega) (by omega)
  obtain ⟨q, k6, t6, b6, o6⟩ := takeN (n := m) (by omega) k5 o5 (w := (L : Int)) (by omega) (by omega)
  have q12 : NN12 (callN T m) (V40 k4 L (gG i j vs) (.val (vsD vs)) (.val (.int (spot : Int))) (.val (vsD ML)) (.val (vsD dv)) (.val odd) (.val str) (.own X6)) = .next (V40 k6 L (gG i j vs) (.val (vsD vs)) (.val (.int (spot : Int))) (.val (vsD ML)) (.val (vsD dv)) (.val odd) (.val str) (.own (X6 ++ [.tup [.int (p : Int), .int (q : Int), vsD dv]]))) := grow (by
    clear q6 q7 q8 q9 q10 q11
    generalize vsD dv = DD at *
    generalize vsD ML = MD at *
    generalize gG i j vs = G at *
    generalize vsD vs = VD at *
    simp_arith [t5, t6]) (by show X6.length + 1 ≤ 16777216; omega)
  refine ⟨X6 ++ [.tup [.int (p : Int), .int (q : Int), vsD dv]], k6, ?_, by rw [List.length_append]; show X6.length + 1 ≤ 100; omega, fun y hy => ?_, o6⟩
  · rw [callN_eqG (np := 3) (ng := 1) (ns := 13) (d := d40) rfl rfl rfl, Neq]
    have si : ([RX.Arg.own k.l, .d (.int (L : Int)), .d (gG i j vs), .gh k.gl].map RX.Arg.sl ++ List.replicate (13 - (3 + 1)) .none) = V40 k L (gG i j vs) .none .none .none .none .none .none .none := rfl
    rw [si, seq_next q0, seq_next q1, seq_next q2, seq_next q3, seq_next q4, seq_next q5, seq_next q6, seq_next q7, seq_next q8, seq_next q9, seq_next q10, seq_next q11, seq_next q12]
    rfl
  · rcases List.mem_append.mp hy with hy | hy
    · exact oX6 y hy
    · cases List.mem_singleton.mp hy
      exact ok_t (gI _) (gI _) (by rw [ldv]; omega) sdvs
end
end K10
set_option Elab.async false
set_option linter.all false
set_option maxRecDepth 100000
set_option maxHeartbeats 4000000
namespace K10
open PySem RX RY MQ
theorem sif_t {x y : DS} {C : Calls} {ρ ρ1 : RX.Env} {t : TD} (h : t C ρ = .ok true ρ1) : sIf t x y C ρ = x C ρ1 := by
  rw [x_SIf, h]
  rfl
theorem sif_f {x y : DS} {C : Calls} {ρ ρ1 : RX.Env} {t : TD} (h : t C ρ = .ok false ρ1) : sIf t x y C ρ = y C ρ1 := by
  rw [x_SIf, h]
  rfl
theorem seq_ret {A B : DS} {C : Calls} {ρ ρ1 : RX.Env} {x : Ex} (h : A C ρ = .ret x ρ1) : sSeq A B C ρ = .ret x ρ1 := by rw [x_Seq, h, obnd_ret]
section
variable {n a b a' b' : Nat} {cs ds : List Cs} {x : D}
/-! ### the doors -/
theorem nO_no {L : Nat} (h : (crt x).isNone = false) : nO L x = false := by
  unfold nO
  rw [h, Bool.false_and]
theorem nO_len {L : Nat} {l : List D} (h : l.length ≠ L) : nO L (.tup l) = false := by
  unfold nO
  show ((crt (.tup l)).isNone && ((l.length : Int) == (L : Int))) = false
  rw [beq_eq_false_iff_ne.mpr (by omega), Bool.and_false]
theorem nO_cf {L : Nat} {y : D} {l : List D} {w : Str} (h : cf none y = some w) : nO L (.tup (y :: l)) = false := nO_no (by rw [crt_s h]; rfl)
theorem fMul1 {z : D} {L : Nat} (h1 : 1 ≤ L) (h8 : L ≤ 8) : ∃ r, fMul (.tup [z]) (.int (L : Int)) = some (.d (.tup (z :: r))) ∧ r.length + 1 = L ∧ ∀ y ∈ z :: r, y = z := by
  by_cases h2' : 2 ≤ L
  · obtain ⟨k, rfl⟩ : ∃ k, L = k + 1 := ⟨L - 1, by omega⟩
    have e : (List.replicate (((k + 1 : Nat) : Int)).toNat [z]).flatten = z :: List.replicate k z := by
      rw [Int.toNat_natCast, List.flatten_replicate_singleton]
      rfl
    refine ⟨List.replicate k z, ?_, by rw [List.length_replicate], fun y hy => ?_⟩
    · show (if ([z] ≠ [] ∧ 2 ≤ ((k + 1 : Nat) : Int) ∧ ((k + 1 : Nat) : Int) ≤ 1000 ∧ [z].length ≤ 1000) then some (RX.Ex.d (.tup (List.replicate ((k + 1 : Nat) : Int).toNat [z]).flatten)) else if ((k + 1 : Nat) : Int) = 1 then some (.d (.tup [z])) else none) = _
      rw [if_pos ⟨List.cons_ne_nil _ _, by omega, by omega, Nat.le_of_ble_eq_true rfl⟩, e]
    · rcases List.mem_cons.mp hy with rfl | hy
      · rfl
      · exact (List.mem_replicate.mp hy).2
  · have : L = 1 := by omega
    subst this
    exact ⟨[], rfl, rfl, fun y hy => List.mem_singleton.mp hy⟩
abbrev V41 (k : Dk) (BB X : D) (s4 s5 s6 s7 : Sl) : RX.Env := [.par k.l, .val BB, .val X, .gh k.gl, s4, s5, s6, s7]
abbrev B0 : DS := (sSet 4 (dIxV 1 (dC (.int 0))))
abbrev B1 : DS := (sSet 5 (dTup [(dC .non), (dB1 bLst 4), (dOp fAdd (dVar 4) (dTup [(dIxV 4 (dC (.int 0)))])), (dTup []), (dC (.int 0)), (dC (.bl true)), (dOp fMul (dTup [(dC .non)]) (dB1 bLen 4)), (dSlV 4 none (some (dUn fNeg (dC (.int 1))))), (dC (.str "court")), (dTup [(dVar 4)])]))
abbrev B2 : DS := (sSet 6 (dIxV 5 (dCallG 26 [.v 0, .e (dC (.int 10))] 3)))
abbrev B3a : DS := (sIf (tNot (tE (dCall 37 [.e (dCall 36 [.v 7, .v 4, .v 6, .v 2]), .e (dC (.int 3)), .e (dC (.str "other")), .e (dUn fNeg (dC (.int 1)))]))) (sRet (dC (.bl false))) sPass)
abbrev B3b : DS := (sIf (tCmpB fGt (dOp fIx (dCall 36 [.v 7, .v 4, .v 4, .v 2]) (dC (.int 0))) (dC (.int 1))) (sRet (dC (.bl false))) sPass)
abbrev B3 : DS := (sFor (.v 7) (iR1 (dC (.int 3))) (sSeq B3a B3b))
abbrev B4 : DS := (sRet (dCall 37 [.e (dCall 36 [.e (dC (.int 0)), .v 4, .v 6, .e (dC .non)]), .e (dC (.int 3)), .e (dC (.str "other")), .e (dUn fNeg (dC (.int 1)))]))
theorem Beq : d41 = (sSeq B0 (sSeq B1 (sSeq B2 (sSeq B3 B4)))) := rfl
theorem deed41 {m : Nat} (h10 : 10 ≤ m) (o : Ok a b cs) (hg : gd (bk cs) = true) (hc : crt (bk cs) = none) {bad : D} (gb : gd bad = true) (nb : nO cs.length bad = false) (hx : gd x = true) (hs : Sml x) {k : Nat} (hk : k < 3) :
    callN T m 36 [.d (.int (k : Int)), .d (bk cs), .d bad, .d x] = .ok (.fresh [.int 3, .str "other", .int (-1)]) [] ∧ ∃ (z : Int) (r : List D), callN T m 36 [.d (.int (k : Int)), .d (bk cs), .d (bk cs), .d x] = .ok (.fresh (.int z :: r)) [] ∧ z ≤ 1 := by
  obtain ⟨m, rfl, hm⟩ := up h10
  have ot : nO cs.length (bk cs) = true := nO_ok hc rfl
  rcases (show k = 0 ∨ k = 1 ∨ k = 2 by omega) with rfl | rfl | rfl
  · refine ⟨a0x (p_lets_parting_x hm gb nb x), ?_⟩
    have h := p_lets_parting hm o o rfl hg ot hx hs
    cases e : vdF cs cs x with
    | error wk =>
      rw [e] at h
      exact ⟨1, _, a0e h, by decide⟩
    | ok v =>
      rw [e] at h
      exact ⟨0, _, a0 h, by decide⟩
  · exact ⟨a1x (p_same_order_x hm gb nb), 0, _, a1 (p_same_order hm o o rfl hg ot), by decide⟩
  · refine ⟨a2x (p_parting_x hm gb nb), ?_⟩
    rcases p_parting hm o o rfl hg ot with ⟨_, h⟩ | ⟨_, i, j, _, _, ne, _⟩
    · exact ⟨0, _, a2 h, by decide⟩
    · exact absurd rfl ne
theorem bad41 (o : Ok a b cs) (hg : gd (bk cs) = true) {c : D} {r : List D} (e : bk cs = .tup (c :: r)) {ol : List D} (h1 : ol.length + 1 = cs.length) (ho : ∀ y ∈ D.non :: ol, y = .non) {u : Nat} (hu : u < 10) : ∃ y, fIx (.tup [.non, .lst (cs.map Cs.d), .tup (cs.map Cs.d ++ [c]), .tup [], .int 0, .bl true, .tup (.non :: ol), .tup (RX.cut (cs.map Cs.d) none (some (-1))), .str "court", .tup [bk cs]]) (.int (u : Int)) = some (.d y) ∧ gd y = true ∧ nO cs.length y = false := by
  have o1 := o.one
  have o8 := o.n
  have gl := (gd_tup.mp hg).2
  have hl : (cs.map Cs.d).length = cs.length := List.length_map ..
  have gc : gd c = true := gl c (by rw [D.tup.inj e]; exact .head _)
  rcases (show u = 0 ∨ u = 1 ∨ u = 2 ∨ u = 3 ∨ u = 4 ∨ u = 5 ∨ u = 6 ∨ u = 7 ∨ u = 8 ∨ u = 9 by omega) with rfl | rfl | rfl | rfl | rfl | rfl | rfl | rfl | rfl | rfl
  · exact ⟨_, rfl, rfl, nO_no rfl⟩
  · exact ⟨_, rfl, gd_lst.mpr (gd_tup.mp hg), nO_no rfl⟩
  · exact ⟨_, rfl, gd_app hg (gdt (gdc gc rfl) rfl) (by rw [hl, List.length_singleton]; omega), nO_len (by rw [List.length_append, hl, List.length_singleton]; omega)⟩
  · exact ⟨_, rfl, rfl, nO_no rfl⟩
  · exact ⟨_, rfl, rfl, nO_no rfl⟩
  · exact ⟨_, rfl, rfl, nO_no rfl⟩
  · refine ⟨_, rfl, gd_tup.mpr ⟨by rw [List.length_cons]; omega, fun y hy => by rw [ho y hy]; rfl⟩, nO_cf rfl⟩
  · have lc : (RX.cut (cs.map Cs.d) none (some (-1))).length < cs.length := by
      show ((cs.map Cs.d).drop 0 |>.take ((-1 + ((cs.map Cs.d).length : Int)).toNat - 0)).length < _
      rw [List.length_take, hl]
      omega
    refine ⟨_, rfl, gd_tup.mpr ⟨by omega, fun y hy => gl y (List.mem_of_mem_drop (List.mem_of_mem_take hy))⟩, nO_len (by omega)⟩
  · exact ⟨_, rfl, rfl, nO_no rfl⟩
  · refine ⟨_, rfl, gdt (gdc hg rfl) rfl, ?_⟩
    by_cases h1 : cs.length = 1
    · refine nO_cf (w := "case") (cf_len ?_)
      rw [hl]
      omega
    · exact nO_len (by rw [List.length_singleton]; omega)
theorem s41 (hn : 12 ≤ n) (t : Two a b a' b' cs ds) (hx : gd x = true) (hs : Sml x) (k : Dk) (hk : k.ok) : ∃ k' : Dk, callN T n 41 [.own k.l, .d (bksD cs ds), .d x, .gh k.gl] = .ok (.d (.bl true)) [k'.l, k'.gl] ∧ k'.ok := by
  obtain ⟨m, rfl, hm⟩ := up hn
  have o := t.o
  have hL := o.n
  have h1 := o.one
  obtain ⟨c, r, e⟩ := crt_tp t.c
  have fx : fIx (bk cs) (.int 0) = some (.d c) := by rw [e]; exact (ix_nat (l := c :: r) (i := 0) (x := c) rfl).1
  obtain ⟨ol, fm, l1, hol⟩ := fMul1 (z := .non) h1 hL
  obtain ⟨u, k1, t1, b1, o1⟩ := takeN (n := m) (by omega) k hk (w := 10) (by decide) (by decide)
  obtain ⟨bad, ib, gb, nb⟩ := bad41 o t.g e l1 hol (u := u) (by omega)
  have n1 : fNeg (.int 1) = some (.d (.int (-1))) := rfl
  have bb0 : fIx (bksD cs ds) (.int 0) = some (.d (bk cs)) := rfl
  generalize bksD cs ds = BB at *
  have q0 : B0 (callN T m) (V41 k BB x .none .none .none .none) = .next (V41 k BB x (.val (bk cs)) .none .none .none) := by
    generalize bk cs = B at *
    simp_arith [bb0]
  have bl := bk_len (cs := cs)
  have lst : bLst [bk cs] = some (.fresh (cs.map Cs.d)) := rfl
  have sl : fSl (bk cs) none (some (-1)) = some (.d (.tup (RX.cut (cs.map Cs.d) none (some (-1))))) := rfl
  have fa : fAdd (bk cs) (.tup [c]) = some (.d (.tup (cs.map Cs.d ++ [c]))) := fAddT (by rw [List.length_map, List.length_singleton]; omega)
  generalize RX.cut (cs.map Cs.d) none (some (-1)) = CU at *
  generalize D.non :: ol = NL at *
  generalize cs.map Cs.d ++ [c] = CA at *
  have q1 : B1 (callN T m) (V41 k BB x (.val (bk cs)) .none .none .none) = .next (V41 k BB x (.val (bk cs)) (.val (.tup [.non, .lst (cs.map Cs.d), .tup CA, .tup [], .int 0, .bl true, .tup NL, .tup CU, .str "court", .tup [bk cs]])) .none .none) := by
    generalize hb : bk cs = B at *
    generalize cs.map Cs.d = CL at *
    simp_arith [asI, bl, lst, sl, fa, fm, n1, fx]
  generalize D.tup [.non, .lst (cs.map Cs.d), .tup CA, .tup [], .int 0, .bl true, .tup NL, .tup CU, .str "court", .tup [bk cs]] = M at *
  have q2 : B2 (callN T m) (V41 k BB x (.val (bk cs)) (.val M) .none .none) = .next (V41 k1 BB x (.val (bk cs)) (.val M) (.val bad) .none) := by
    generalize bk cs = B at *
    simp_arith [t1, ib]
  obtain ⟨ρ', lp, s7, rfl, _⟩ := for_rng (C := callN T m) (tg := .v 7) (A := sSeq B3a B3b) (ρ := V41 k1 BB x (.val (bk cs)) (.val M) (.val bad) .none) (fun _ ρ => ∃ s7, ρ = V41 k1 BB x (.val (bk cs)) (.val M) (.val bad) s7 ∧ NV s7) (n := 3) ⟨.none, rfl, .inl rfl⟩ fun d ρ hd ⟨s7, e, h7⟩ => by
    subst e
    obtain ⟨A1, z, r, A2, hz⟩ := deed41 (m := m) (by omega) o t.g t.c gb nb hx hs hd
    have N := named_d (n := m) (w := "other") (i := 3) (k := -1) (by omega)
    have lx : fIx (.lst (.int z :: r)) (.int 0) = some (.d (.int z)) := (ix_nat (l := .int z :: r) (i := 0) (x := .int z) rfl).2
    have cz : decide (1 < z) = false := decide_eq_false (by omega)
    refine ⟨_, V41 k1 BB x (.val (bk cs)) (.val M) (.val bad) (.val (.int (d : Int))), st_nv1 h7 rfl, .inl ?_, _, rfl, .inr ⟨_, rfl⟩⟩
    show sSeq B3a B3b (callN T m) (V41 k1 BB x (.val (bk cs)) (.val M) (.val bad) (.val (.int (d : Int)))) = _
    generalize bk cs = B at *
    simp_arith [A1, A2, N, n1, lx, cz]
  have q3 : B3 (callN T m) (V41 k1 BB x (.val (bk cs)) (.val M) (.val bad) .none) = .next (V41 k1 BB x (.val (bk cs)) (.val M) (.val bad) s7) := by
    unfold B3a B3b at lp
    unfold B3
    generalize bk cs = B at *
    have lp : forL (.v 7) _ (callN T m) (rng 0 (3 : Int)) _ = _ := lp
    simp_arith [asI, lp]
  have A := a0x (X := D.non) (p_lets_parting_x (n := m - 1) (by omega) gb nb .non)
  rw [show m - 1 + 1 = m by omega] at A
  have N := named_d (n := m) (w := "other") (i := 3) (k := -1) (by omega)
  have q4 : B4 (callN T m) (V41 k1 BB x (.val (bk cs)) (.val M) (.val bad) s7) = .ret (.d (.bl true)) (V41 k1 BB x (.val (bk cs)) (.val M) (.val bad) s7) := by
    generalize bk cs = B at *
    simp_arith [A, N, n1]
  refine ⟨k1, ?_, o1⟩
  rw [callN_eqG (np := 3) (ng := 1) (ns := 8) (d := d41) rfl rfl rfl, Beq]
  have si : ([RX.Arg.own k.l, .d BB, .d x, .gh k.gl].map RX.Arg.sl ++ List.replicate (8 - (3 + 1)) .none) = V41 k BB x .none .none .none .none := rfl
  rw [si, seq_next q0, seq_next q1, seq_next q2, seq_next q3, q4]
  rfl
end
end K10
set_option Elab.async false
set_option linter.all false
set_option maxRecDepth 100000
set_option maxHeartbeats 4000000
namespace K10
open PySem RX RY MQ
/-! ### what the program's own parting is worth -/
theorem wi_trans : ∀ {p q r : List Int}, p.length = q.length → q.length = r.length → wi p q = true → wi q r = true → wi p r = true
  | [], _, _, _, _, _, _ => rfl
  | _ :: _, [], _, h, _, _, _ => by cases h
  | _ :: _, _ :: _, [], _, h, _, _ => by cases h
  | x :: p, y :: q, z :: r, h1, h2, h3, h4 => by
    obtain ⟨a1, a2⟩ := Bool.and_eq_true_iff.mp (show (decide (x ≤ y) && wi p q) = true from h3)
    obtain ⟨b1, b2⟩ := Bool.and_eq_true_iff.mp (show (decide (y ≤ z) && wi q r) = true from h4)
    have a1 := of_decide_eq_true a1
    have b1 := of_decide_eq_true b1
    show (decide (x ≤ z) && wi p r) = true
    rw [decide_eq_true (by omega), wi_trans (Nat.succ.inj h1) (Nat.succ.inj h2) a2 b2]
    rfl
section
variable {n a b a' b' : Nat} {cs ds : List Cs} {x : D}
theorem hb_at {i j : Nat} {c d : Cs} (hc : cs[i]? = some c) (hd : cs[j]? = some d) : hb cs i j = (((c.s == d.s) && wi d.h0 c.h0) && ((d.s == c.s) && wi c.h1 d.h1)) := by
  unfold hb
  rw [hidB_i, tl_at hc hd, tl_at hd hc]
  rfl
theorem hb_trans (o : Ok a b cs) {i j k : Nat} (hi : i < cs.length) (hj : j < cs.length) (hk : k < cs.length) (h1 : hb cs i j = true) (h2 : hb cs j k = true) : hb cs i k = true := by
  obtain ⟨c, hc, c0, c1⟩ := o.at hi
  obtain ⟨d, hd, d0, d1⟩ := o.at hj
  obtain ⟨e, he, e0, e1⟩ := o.at hk
  rw [hb_at hc hd] at h1
  rw [hb_at hd he] at h2
  rw [hb_at hc he]
  obtain ⟨p1, p2⟩ := Bool.and_eq_true_iff.mp h1
  obtain ⟨q1, q2⟩ := Bool.and_eq_true_iff.mp h2
  obtain ⟨p3, p4⟩ := Bool.and_eq_true_iff.mp p1
  obtain ⟨p5, p6⟩ := Bool.and_eq_true_iff.mp p2
  obtain ⟨q3, q4⟩ := Bool.and_eq_true_iff.mp q1
  obtain ⟨q5, q6⟩ := Bool.and_eq_true_iff.mp q2
  have s1 : c.s = e.s := (eq_of_beq p3).trans (eq_of_beq q3)
  rw [s1, beq_self_eq_true, wi_trans (by omega) (by omega) q4 p4, wi_trans (by omega) (by omega) p6 q6]
  rfl
theorem hb_refl {i : Nat} (hi : i < cs.length) : hb cs i i = true := hid_refl hi
theorem hb_ne {i j : Nat} (hl : ds.length = cs.length) (hi : i < cs.length) (h : hb cs i j ≠ hb ds i j) : i ≠ j := fun e => by
  subst e
  rw [hb_refl hi, hb_refl (by omega)] at h
  exact h rfl
theorem pm_at {ls : List Cs} {L j k : Nat} (hk : k < L) : (pm ls L j).getD k (0, 1) = if hb ls k j = true then (1, 1) else (0, 1) := by
  unfold pm
  rw [List.getD_eq_getElem?_getD, List.getElem?_map, List.getElem?_range hk]
  rfl
theorem pm_len {ls : List Cs} {L j : Nat} : (pm ls L j).length = L := by
  unfold pm
  rw [List.length_map, List.length_range]
theorem pm_mem {ls : List Cs} {L j : Nat} : ∀ v ∈ pm ls L j, v = (1, 1) ∨ v = (0, 1) := fun v hv => by
  obtain ⟨k, _, rfl⟩ := List.mem_map.mp hv
  by_cases h : hb ls k j = true
  · exact .inl (if_pos h)
  · exact .inr (if_neg h)
theorem qs_vs {vs : List Qt} : qs (vsD vs) = vs := by
  show (vs.map qD).map qv = vs
  rw [List.map_map]
  have : vs.map (qv ∘ qD) = vs.map id := List.map_congr_left fun y _ => rfl
  rw [this, List.map_id]
theorem rgt_pm {c d : Nat} {ls : List Cs} (o : Ok c d ls) {i j : Nat} (hlk : lack cs ds i j = ls) (hL : ls.length = cs.length) (hi : i < cs.length) (hj : j < cs.length) (h0 : hb ls i j = false) : rgt cs ds i j (vsD (pm ls cs.length j)) = true := by
  unfold rgt
  rw [hlk, qs_vs, pm_at hi, pm_at hj, h0, hb_refl (show j < ls.length by omega)]
  have t1 : isTb (cs.length : Int) (vsD (pm ls cs.length j)) = true := by
    show (((((pm ls cs.length j).map qD).length : Int) == (cs.length : Int)) && ((pm ls cs.length j).map qD).all isQ) = true
    rw [List.length_map, pm_len, beq_self_eq_true, Bool.true_and]
    refine List.all_eq_true.mpr fun y hy => ?_
    obtain ⟨v, hv, rfl⟩ := List.mem_map.mp hy
    rcases pm_mem v hv with rfl | rfl <;> rfl
  have t2 : fls ls (pm ls cs.length j) = false := by
    unfold fls
    refine List.any_eq_false.mpr fun x hx => ?_
    intro hh
    obtain ⟨y, hy, h⟩ := List.any_eq_true.mp hh
    obtain ⟨p, rfl, hp⟩ := mem_rng hx
    obtain ⟨q, rfl, hq⟩ := mem_rng hy
    obtain ⟨h1, h2⟩ := Bool.and_eq_true_iff.mp h
    rw [dn_nat, dn_nat, pm_at (by omega), pm_at (by omega)] at h2
    have h1 : hb ls p q = true := h1
    by_cases hq2 : hb ls q j = true
    · rw [if_pos (hb_trans o hp hq (by omega) h1 hq2), if_pos hq2] at h2
      exact absurd h2 (by decide)
    · rw [if_neg hq2] at h2
      split at h2
      · exact absurd h2 (by decide)
      · exact absurd h2 (by decide)
  rw [t1, t2]
  rfl
theorem vd_pD (o : Ok a b cs) (o' : Ok a' b' ds) (hl : ds.length = cs.length) {i j : Nat} (hi : i < cs.length) (hj : j < cs.length) (ne : hb cs i j ≠ hb ds i j) : ∃ k : Nat, vdF cs ds (pD cs ds i j) = .ok k := by
  have hne := hb_ne hl hi ne
  unfold pD
  rw [vd3, unl_nat hi hj hne, beq_eq_false_iff_ne.mpr (show hidB cs (.int (i : Int)) (.int (j : Int)) ≠ hidB ds (.int (i : Int)) (.int (j : Int)) from ne), dn_nat, dn_nat]
  rw [if_pos (show (true && !false) = true from rfl)]
  have r : rgt cs ds i j (vsD (pm (lack cs ds i j) cs.length j)) = true := by
    cases e : hb cs i j with
    | true =>
      have e2 : hb ds i j = false := by
        cases e3 : hb ds i j with
        | false => rfl
        | true => rw [e, e3] at ne; exact absurd rfl ne
      have el : lack cs ds i j = ds := if_pos e
      rw [el]
      exact rgt_pm o' el hl hi hj e2
    | false =>
      have el : lack cs ds i j = cs := if_neg (by rw [e]; exact Bool.false_ne_true)
      rw [el]
      exact rgt_pm o el rfl hi hj e
  rw [if_pos r]
  exact ⟨_, rfl⟩
theorem pD_swap (hl : ds.length = cs.length) {i j : Nat} (ne : hb cs i j ≠ hb ds i j) : pD ds cs i j = pD cs ds i j := by
  unfold pD lack
  rw [hl]
  cases e : hb cs i j <;> cases e2 : hb ds i j
  · rw [e, e2] at ne; exact absurd rfl ne
  · rfl
  · rfl
  · rw [e, e2] at ne; exact absurd rfl ne
theorem sm01 : sm2 (0, 1) := ⟨show (0 : Int).natAbs < 2 ^ 60 by decide, show (1 : Int).natAbs < 2 ^ 60 by decide⟩
theorem sm11 : sm2 (1, 1) := ⟨show (1 : Int).natAbs < 2 ^ 60 by decide, show (1 : Int).natAbs < 2 ^ 60 by decide⟩
theorem okS_pD (hn : cs.length ≤ 8) {i j : Nat} : okS (pD cs ds i j) := ok_t rfl rfl (by rw [List.length_map, pm_len]; omega) (smD_vs fun v hv => by
  rcases pm_mem v hv with rfl | rfl
  · exact sm11
  · exact sm01)
/-! ### the pairs of one order alone -/
def news (cs ds : List Cs) : List D := (ordP cs ++ ordP ds).filter fun z => !(((unl cs.length (.int ((e0 z : Nat) : Int)) (.int ((e1 z : Nat) : Int))) && hb cs (e0 z) (e1 z)) == ((unl cs.length (.int ((e0 z : Nat) : Int)) (.int ((e1 z : Nat) : Int))) && hb ds (e0 z) (e1 z)))
theorem mem_both (hl : ds.length = cs.length) {z : D} (h : z ∈ ordP cs ++ ordP ds) : ∃ i j : Nat, z = .tup [.int (i : Int), .int (j : Int)] ∧ i < cs.length ∧ j < cs.length ∧ i ≠ j := by
  rcases List.mem_append.mp h with h | h
  · obtain ⟨i, j, hi, hj, rfl, e⟩ := mem_ord.mp h
    refine ⟨i, j, rfl, hi, hj, fun q => ?_⟩
    subst q
    rw [beq_self_eq_true] at e
    cases e
  · obtain ⟨i, j, hi, hj, rfl, e⟩ := mem_ord.mp h
    refine ⟨i, j, rfl, by omega, by omega, fun q => ?_⟩
    subst q
    rw [beq_self_eq_true] at e
    cases e
theorem e0_p {i j : Nat} : e0 (.tup [.int (i : Int), .int (j : Int)]) = i := Int.toNat_natCast i
theorem e1_p {i j : Nat} : e1 (.tup [.int (i : Int), .int (j : Int)]) = j := Int.toNat_natCast j
theorem so_hb (h : so cs ds = true) {i j : Nat} (hi : i < cs.length) (hj : j < cs.length) : hb cs i j = hb ds i j := by
  have h1 := List.all_eq_true.mp h (.int (i : Int)) (List.mem_of_getElem? (rg_at hi))
  exact eq_of_beq (List.all_eq_true.mp h1 (.int (j : Int)) (List.mem_of_getElem? (rg_at hj)))
theorem news_same (hl : ds.length = cs.length) (h : so cs ds = true) : news cs ds = [] := by
  refine List.filter_eq_nil_iff.mpr fun z hz => ?_
  obtain ⟨i, j, rfl, hi, hj, ne⟩ := mem_both hl hz
  rw [e0_p, e1_p, so_hb h hi hj, beq_self_eq_true]
  exact Bool.false_ne_true
theorem news_ne (hl : ds.length = cs.length) {i j : Nat} (hi : i < cs.length) (hj : j < cs.length) (ne : hb cs i j ≠ hb ds i j) : news cs ds ≠ [] := by
  have hne := hb_ne hl hi ne
  have bne : (i == j) = false := beq_eq_false_iff_ne.mpr hne
  have hm : D.tup [.int (i : Int), .int (j : Int)] ∈ ordP cs ++ ordP ds := by
    cases e : hb cs i j with
    | true => exact List.mem_append_left _ (mem_ord.mpr ⟨i, j, hi, hj, rfl, by rw [bne]; exact e⟩)
    | false =>
      have e2 : hb ds i j = true := by
        cases e3 : hb ds i j with
        | true => rfl
        | false => rw [e, e3] at ne; exact absurd rfl ne
      exact List.mem_append_right _ (mem_ord.mpr ⟨i, j, by omega, by omega, rfl, by rw [bne]; exact e2⟩)
  have h : D.tup [.int (i : Int), .int (j : Int)] ∈ news cs ds := List.mem_filter.mpr ⟨hm, by
    rw [e0_p, e1_p, unl_nat hi hj hne, Bool.true_and, Bool.true_and, beq_eq_false_iff_ne.mpr ne]
    rfl⟩
  intro e
  rw [e] at h
  cases h
theorem news_len (hl : ds.length = cs.length) (on : cs.length ≤ 8) : (news cs ds).length ≤ 128 := by
  have h1 := ord_len (cs := cs) on
  have h2 := ord_len (cs := ds) (by omega)
  have h3 := List.length_filter_le (fun z => !(((unl cs.length (.int ((e0 z : Nat) : Int)) (.int ((e1 z : Nat) : Int))) && hb cs (e0 z) (e1 z)) == ((unl cs.length (.int ((e0 z : Nat) : Int)) (.int ((e1 z : Nat) : Int))) && hb ds (e0 z) (e1 z)))) (ordP cs ++ ordP ds)
  rw [List.length_append] at h3
  show (List.filter _ _).length ≤ 128
  omega
theorem f_neB {p q : Bool} : fNe (.bl p) (.bl q) = some (.d (.bl (!(p == q)))) := rfl
abbrev V42 (k : Dk) (BB O : D) (L : Nat) (s5 s7 s8 s9 s10 s11 s12 : Sl) : RX.Env := [.par k.l, .val BB, .val O, .val (.int (L : Int)), .gh k.gl, s5, .none, s7, s8, s9, s10, s11, s12]
abbrev K0 : DS := (sSet 5 (dComp [6] (iE (dOp fAdd (dIxV 2 (dC (.int 0))) (dIxV 2 (dC (.int 1))))) (.v 6) (tCmpB fNe (dOp fIn (dVar 6) (dIxV 2 (dC (.int 0)))) (dOp fIn (dVar 6) (dIxV 2 (dC (.int 1))))) (dVar 6)))
abbrev K1 : DS := (sSet 7 (dOp fEq (dB1 bLen 5) (dC (.int 0))))
abbrev K2a : DS := (sSet 9 (dCall 21 [.e (dIxV 1 (dVar 8)), .e (dIxV 1 (dOp fSub (dC (.int 1)) (dVar 8)))]))
abbrev K2b : DS := (sSet 10 (dCall 22 [.e (dIxV 1 (dVar 8)), .e (dIxV 1 (dOp fSub (dC (.int 1)) (dVar 8)))]))
abbrev K2c : DS := (sIf (tOr (tNot (tE (dB1 (bIsi .bool) 9))) (tOr (tCmpB fNe (dVar 9) (dVar 7)) (tCmpB fNe (dOp fIs (dVar 10) (dC .non)) (dVar 7)))) (sRet (dC (.bl false))) sPass)
abbrev K2d : DS := (sIf (tTv 7) (sSet 10 (dTup [(dC (.int 0)), (dOp fSub (dVar 3) (dC (.int 1))), (dOp fMul (dTup [(dTup [(dC (.int 0)), (dC (.int 1))])]) (dVar 3))])) (sIf (tE (dB (bIsi .tuple) [(dCall 35 [.v 2, .v 3, .v 10])])) (sRet (dC (.bl false))) sPass))
abbrev K2e : DS := (sIf (tNot (tE (dCall 38 [.v 1, .v 2, .v 10]))) (sRet (dC (.bl false))) sPass)
abbrev K2A : DS := (sSeq K2a (sSeq K2b (sSeq K2c (sSeq K2d K2e))))
abbrev K2 : DS := (sFor (.v 8) (iR1 (dC (.int 2))) K2A)
abbrev K3 : DS := (sIf (tTv 7) (sSet 5 (dLst [(dTup [(dOp fSub (dVar 3) (dC (.int 1))), (dC (.int 0))])])) sPass)
abbrev K4 : DS := (sSet 11 (dCallG 39 [.v 0, .v 2, .v 3, .e (dIxV 5 (dCallG 26 [.v 0, .e (dB1 bLen 5)] 4))] 4))
abbrev K5 : DS := (sIf (tNot (tE (dCall 38 [.v 1, .v 2, .v 11]))) (sRet (dC (.bl false))) sPass)
abbrev K6A : DS := (sIf (tNot (tE (dCall 38 [.v 1, .v 2, .v 12]))) (sRet (dC (.bl false))) sPass)
abbrev K6 : DS := (sFor (.v 12) (iE (dCallG 40 [.v 0, .v 3, .v 11] 4)) K6A)
abbrev K7 : DS := (sRet (dCallG 41 [.v 0, .v 1, .v 11] 4))
theorem Keq : d42 = (sSeq K0 (sSeq K1 (sSeq K2 (sSeq K3 (sSeq K4 (sSeq K5 (sSeq K6 K7))))))) := rfl
theorem k0 {m : Nat} (t : Two a b a' b' cs ds) {k : Dk} : K0 (callN T m) (V42 k (bksD cs ds) (orsD cs ds) cs.length .none .none .none .none .none .none .none) = .next (V42 k (bksD cs ds) (orsD cs ds) cs.length (.own (news cs ds)) .none .none .none .none .none .none) := by
  have o0 := or_0 (cs := cs) (ds := ds)
  have o1 := or_1 (cs := cs) (ds := ds)
  have h1 := ord_len (cs := cs) t.o.n
  have h2 := ord_len (cs := ds) t.o'.n
  have fa : fAdd (.tup (ordP cs)) (.tup (ordP ds)) = some (.d (.tup (ordP cs ++ ordP ds))) := fAddT (by omega)
  have c := comp_te (C := callN T m) (i := 6) (l := ordP cs ++ ordP ds) (it := iE (dOp fAdd (dIxV 2 (dC (.int 0))) (dIxV 2 (dC (.int 1))))) (ts := tCmpB fNe (dOp fIn (dVar 6) (dIxV 2 (dC (.int 0)))) (dOp fIn (dVar 6) (dIxV 2 (dC (.int 1))))) (elt := dVar 6)
    (p := fun z => !(((unl cs.length (.int ((e0 z : Nat) : Int)) (.int ((e1 z : Nat) : Int))) && hb cs (e0 z) (e1 z)) == ((unl cs.length (.int ((e0 z : Nat) : Int)) (.int ((e1 z : Nat) : Int))) && hb ds (e0 z) (e1 z)))) (g := fun z => z) (s := .none)
    (ρ0 := V42 k (bksD cs ds) (orsD cs ds) cs.length .none .none .none .none .none .none .none) (ρ := V42 k (bksD cs ds) (orsD cs ds) cs.length .none .none .none .none .none .none .none) (by
      generalize orsD cs ds = O at *
      generalize bksD cs ds = BB at *
      generalize ordP cs = X1 at *
      generalize ordP ds = X2 at *
      simp_arith [o0, o1, fa]) rfl (.inl rfl) (by rw [List.length_append]; omega) (fun z hz => by
      obtain ⟨i, j, rfl, hi, hj, ne⟩ := mem_both t.l hz
      have i1 := in_any (cs := cs) t.o.n (p := (i : Int)) (q := (j : Int))
      have i2 := in_any (cs := ds) t.o'.n (p := (i : Int)) (q := (j : Int))
      rw [t.l] at i2
      rw [e0_p, e1_p]
      unfold hb
      generalize D.tup [.int (i : Int), .int (j : Int)] = Z at *
      generalize (unl cs.length (.int (i : Int)) (.int (j : Int)) && hidB cs (.int (i : Int)) (.int (j : Int))) = B1 at *
      generalize (unl cs.length (.int (i : Int)) (.int (j : Int)) && hidB ds (.int (i : Int)) (.int (j : Int))) = B2 at *
      show tCmpB fNe (dOp fIn (dVar 6) (dIxV 2 (dC (.int 0)))) (dOp fIn (dVar 6) (dIxV 2 (dC (.int 1)))) (callN T m) [.par k.l, .val (bksD cs ds), .val (orsD cs ds), .val (.int (cs.length : Int)), .gh k.gl, .none, .val Z, .none, .none, .none, .none, .none, .none] = RX.R.ok (!(B1 == B2)) [.par k.l, .val (bksD cs ds), .val (orsD cs ds), .val (.int (cs.length : Int)), .gh k.gl, .none, .val Z, .none, .none, .none, .none, .none, .none]
      generalize orsD cs ds = O at *
      generalize bksD cs ds = BB at *
      generalize ordP cs = X1 at *
      generalize ordP ds = X2 at *
      simp_arith [o0, o1, i1, i2, f_neB]) fun z hz _ => by
      show dVar 6 (callN T m) [.par k.l, .val (bksD cs ds), .val (orsD cs ds), .val (.int (cs.length : Int)), .gh k.gl, .none, .val z, .none, .none, .none, .none, .none, .none] = RX.R.ok (.d z) [.par k.l, .val (bksD cs ds), .val (orsD cs ds), .val (.int (cs.length : Int)), .gh k.gl, .none, .val z, .none, .none, .none, .none, .none, .none]
      rfl
  rw [show (ordP cs ++ ordP ds).filter (fun z => !(((unl cs.length (.int ((e0 z : Nat) : Int)) (.int ((e1 z : Nat) : Int))) && hb cs (e0 z) (e1 z)) == ((unl cs.length (.int ((e0 z : Nat) : Int)) (.int ((e1 z : Nat) : Int))) && hb ds (e0 z) (e1 z)))) = news cs ds from rfl, map_id_d] at c
  generalize news cs ds = N at *
  generalize orsD cs ds = O at *
  generalize bksD cs ds = BB at *
  simp_arith [c]
/-- one turn: the books by turns -/
theorem turn42 {m : Nat} (hm : 11 ≤ m) (t : Two a b a' b' cs ds) {d : Nat} (hd : d < 2) {k : Dk} {s5 s9 s10 : Sl} (h9 : NV s9) (h10 : NV s10) {sv : Bool} (hsv : so cs ds = sv) : ∃ s9' s10', NV s9' ∧ NV s10' ∧ K2A (callN T m) (V42 k (bksD cs ds) (orsD cs ds) cs.length s5 (.val (.bl sv)) (.val (.int (d : Int))) s9 s10 .none .none) = .next (V42 k (bksD cs ds) (orsD cs ds) cs.length s5 (.val (.bl sv)) (.val (.int (d : Int))) s9' s10' .none .none) := by
  have on := t.o.n
  have one := t.o.one
  obtain ⟨X, Y, i0, i1, S, P⟩ : ∃ X Y : D, fIx (bksD cs ds) (.int (d : Int)) = some (.d X) ∧ fIx (bksD cs ds) (.int (1 - (d : Int))) = some (.d Y) ∧ callN T m 21 [.d X, .d Y] = .ok (.d (.bl sv)) [] ∧ ((sv = true ∧ callN T m 22 [.d X, .d Y] = .ok (.d .non) []) ∨ (sv = false ∧ ∃ i j : Nat, i < cs.length ∧ j < cs.length ∧ hb cs i j ≠ hb ds i j ∧ callN T m 22 [.d X, .d Y] = .ok (.d (pD cs ds i j)) [])) := by
    rcases (show d = 0 ∨ d = 1 by omega) with rfl | rfl
    · have S := p_same_order (n := m) (by omega) t.o t.o' t.l t.g' t.ot
      have P := p_parting (n := m) (by omega) t.o t.o' t.l t.g' t.ot
      rw [hsv] at S P
      exact ⟨bk cs, bk ds, rfl, rfl, S, P⟩
    · have es : so ds cs = so cs ds := by
        unfold so
        rw [show rg ds = rg cs by unfold rg; rw [t.l]]
        congr 1
        funext x
        congr 1
        funext y
        exact BEq.comm
      have S := p_same_order (n := m) (by omega) t.o' t.o t.l.symm t.g t.swap.ot
      have P := p_parting (n := m) (by omega) t.o' t.o t.l.symm t.g t.swap.ot
      rw [es, hsv] at S P
      refine ⟨bk ds, bk cs, rfl, rfl, S, ?_⟩
      rcases P with ⟨e, h⟩ | ⟨e, i, j, hi, hj, ne, h⟩
      · exact .inl ⟨e, h⟩
      · rw [pD_swap t.l fun q => ne q.symm] at h
        exact .inr ⟨e, i, j, by rw [← t.l]; exact hi, by rw [← t.l]; exact hj, fun q => ne q.symm, h⟩
  have tb : ∀ q : Bool, bIsi .bool [.bl q] = some (.d (.bl true)) := fun _ => rfl
  have qa : K2a (callN T m) (V42 k (bksD cs ds) (orsD cs ds) cs.length s5 (.val (.bl sv)) (.val (.int (d : Int))) s9 s10 .none .none) = .next (V42 k (bksD cs ds) (orsD cs ds) cs.length s5 (.val (.bl sv)) (.val (.int (d : Int))) (.val (.bl sv)) s10 .none .none) := by
    have c : dCall 21 [.e (dIxV 1 (dVar 8)), .e (dIxV 1 (dOp fSub (dC (.int 1)) (dVar 8)))] (callN T m) (V42 k (bksD cs ds) (orsD cs ds) cs.length s5 (.val (.bl sv)) (.val (.int (d : Int))) s9 s10 .none .none) = .ok (.d (.bl sv)) (V42 k (bksD cs ds) (orsD cs ds) cs.length s5 (.val (.bl sv)) (.val (.int (d : Int))) s9 s10 .none .none) := by
      generalize orsD cs ds = O at *
      generalize bksD cs ds = BB at *
      simp_arith [i0, i1, S]
    unfold K2a
    rw [x_Set, c, outK_ok]
    show toS (stSl _ 9 (.val _)) = _
    rw [st_wv (.inl h9) rfl]
    rfl
  have qb : ∀ TO, callN T m 22 [.d X, .d Y] = .ok (.d TO) [] → K2b (callN T m) (V42 k (bksD cs ds) (orsD cs ds) cs.length s5 (.val (.bl sv)) (.val (.int (d : Int))) (.val (.bl sv)) s10 .none .none) = .next (V42 k (bksD cs ds) (orsD cs ds) cs.length s5 (.val (.bl sv)) (.val (.int (d : Int))) (.val (.bl sv)) (.val TO) .none .none) := fun TO P => by
    have c : dCall 22 [.e (dIxV 1 (dVar 8)), .e (dIxV 1 (dOp fSub (dC (.int 1)) (dVar 8)))] (callN T m) (V42 k (bksD cs ds) (orsD cs ds) cs.length s5 (.val (.bl sv)) (.val (.int (d : Int))) (.val (.bl sv)) s10 .none .none) = .ok (.d TO) (V42 k (bksD cs ds) (orsD cs ds) cs.length s5 (.val (.bl sv)) (.val (.int (d : Int))) (.val (.bl sv)) s10 .none .none) := by
      generalize orsD cs ds = O at *
      generalize bksD cs ds = BB at *
      simp_arith [i0, i1, P]
    unfold K2b
    rw [x_Set, c, outK_ok]
    show toS (stSl _ 10 (.val _)) = _
    rw [st_wv (.inl h10) rfl]
    rfl
  rcases P with ⟨e, P⟩ | ⟨e, i, j, hi, hj, ne, P⟩
  · subst e
    obtain ⟨r, fm, rl, hr⟩ := fMul1 (z := .tup [.int 0, .int 1]) one on
    have ok : okS (.tup [.int 0, .int ((cs.length : Int) - 1), .tup (.tup [.int 0, .int 1] :: r)]) := ok_t rfl rfl (by rw [List.length_cons]; omega) fun y hy => by
      rw [hr y hy]
      exact smD_q (v := (0, 1)) sm01
    have k38 := s38 (n := m) hm t ok.1 ok.2
    have qb := qb _ P
    refine ⟨.val (.bl true), .val (.tup [.int 0, .int ((cs.length : Int) - 1), .tup (.tup [.int 0, .int 1] :: r)]), .inr ⟨_, rfl⟩, .inr ⟨_, rfl⟩, ?_⟩
    generalize orsD cs ds = O at *
    generalize bksD cs ds = BB at *
    have qc : K2c (callN T m) (V42 k BB O cs.length s5 (.val (.bl true)) (.val (.int (d : Int))) (.val (.bl true)) (.val .non) .none .none) = .next (V42 k BB O cs.length s5 (.val (.bl true)) (.val (.int (d : Int))) (.val (.bl true)) (.val .non) .none .none) := by
      simp_arith [tb, f_neB]
    have qd : K2d (callN T m) (V42 k BB O cs.length s5 (.val (.bl true)) (.val (.int (d : Int))) (.val (.bl true)) (.val .non) .none .none) = .next (V42 k BB O cs.length s5 (.val (.bl true)) (.val (.int (d : Int))) (.val (.bl true)) (.val (.tup [.int 0, .int ((cs.length : Int) - 1), .tup (.tup [.int 0, .int 1] :: r)])) .none .none) := by
      simp_arith [fm]
    generalize D.tup [.int 0, .int ((cs.length : Int) - 1), .tup (.tup [.int 0, .int 1] :: r)] = TO at *
    have qe : K2e (callN T m) (V42 k BB O cs.length s5 (.val (.bl true)) (.val (.int (d : Int))) (.val (.bl true)) (.val TO) .none .none) = .next (V42 k BB O cs.length s5 (.val (.bl true)) (.val (.int (d : Int))) (.val (.bl true)) (.val TO) .none .none) := by
      simp_arith [k38]
    show sSeq K2a _ _ _ = _
    rw [seq_next qa, seq_next qb, seq_next qc, seq_next qd, qe]
  · subst e
    have ok := okS_pD (cs := cs) (ds := ds) on (i := i) (j := j)
    have k38 := s38 (n := m) hm t ok.1 ok.2
    obtain ⟨u, hu⟩ := vd_pD t.o t.o' t.l hi hj ne
    have k35 := l_verdict (n := m) (by omega) t.o.n t.l ok.1 ok.2
    rw [hu] at k35
    have k35 : callN T m 35 [.d (orsD cs ds), .d (.int (cs.length : Int)), .d (pD cs ds i j)] = .ok (.d (.int (u : Int))) [] := k35
    have ti : bIsi .tuple [.int (u : Int)] = some (.d (.bl false)) := rfl
    have qb := qb _ P
    refine ⟨.val (.bl false), .val (pD cs ds i j), .inr ⟨_, rfl⟩, .inr ⟨_, rfl⟩, ?_⟩
    obtain ⟨TL, etl⟩ : ∃ TL, pD cs ds i j = .tup TL := ⟨_, rfl⟩
    rw [etl] at k38 k35 qb ⊢
    clear etl P ok hu
    generalize orsD cs ds = O at *
    generalize bksD cs ds = BB at *
    have qc : K2c (callN T m) (V42 k BB O cs.length s5 (.val (.bl false)) (.val (.int (d : Int))) (.val (.bl false)) (.val (.tup TL)) .none .none) = .next (V42 k BB O cs.length s5 (.val (.bl false)) (.val (.int (d : Int))) (.val (.bl false)) (.val (.tup TL)) .none .none) := by
      simp_arith [tb, f_neB]
    have qd : K2d (callN T m) (V42 k BB O cs.length s5 (.val (.bl false)) (.val (.int (d : Int))) (.val (.bl false)) (.val (.tup TL)) .none .none) = .next (V42 k BB O cs.length s5 (.val (.bl false)) (.val (.int (d : Int))) (.val (.bl false)) (.val (.tup TL)) .none .none) := by
      simp_arith [k35, ti]
    have qe : K2e (callN T m) (V42 k BB O cs.length s5 (.val (.bl false)) (.val (.int (d : Int))) (.val (.bl false)) (.val (.tup TL)) .none .none) = .next (V42 k BB O cs.length s5 (.val (.bl false)) (.val (.int (d : Int))) (.val (.bl false)) (.val (.tup TL)) .none .none) := by
      simp_arith [k38]
    show sSeq K2a _ _ _ = _
    rw [seq_next qa, seq_next qb, seq_next qc, seq_next qd, qe]
theorem so_false (hl : ds.length = cs.length) (h : so cs ds = false) : ∃ i j : Nat, i < cs.length ∧ j < cs.length ∧ hb cs i j ≠ hb ds i j := by
  have h' : ¬ so cs ds = true := by rw [h]; exact Bool.false_ne_true
  refine Classical.byContradiction fun q => h' (List.all_eq_true.mpr fun x hx => List.all_eq_true.mpr fun y hy => ?_)
  obtain ⟨i, rfl, hi⟩ := mem_rng hx
  obtain ⟨j, rfl, hj⟩ := mem_rng hy
  refine beq_iff_eq.mpr (Classical.byContradiction fun ne => q ⟨i, j, hi, hj, ne⟩)
theorem s42 (hn : 13 ≤ n) (t : Two a b a' b' cs ds) (k : Dk) (hk : k.ok) : ∃ k' : Dk, callN T n 42 [.own k.l, .d (bksD cs ds), .d (orsD cs ds), .d (.int (cs.length : Int)), .gh k.gl] = .ok (.d (.bl true)) [k'.l, k'.gl] ∧ k'.ok := by
  obtain ⟨m, rfl, hm⟩ := up hn
  have on := t.o.n
  have one := t.o.one
  have q0 := k0 (m := m) t (k := k)
  have nl := news_len t.l on
  have same : (((news cs ds).length : Int) == 0) = so cs ds := by
    cases e : so cs ds with
    | true => rw [news_same t.l e]; rfl
    | false =>
      obtain ⟨i, j, hi, hj, ne⟩ := so_false t.l e
      have := news_ne t.l hi hj ne
      refine beq_eq_false_iff_ne.mpr fun q => this (List.length_eq_zero_iff.mp (by omega))
  have q1 : K1 (callN T m) (V42 k (bksD cs ds) (orsD cs ds) cs.length (.own (news cs ds)) .none .none .none .none .none .none) = .next (V42 k (bksD cs ds) (orsD cs ds) cs.length (.own (news cs ds)) (.val (.bl (so cs ds))) .none .none .none .none .none) := by
    have ln := lenL (l := news cs ds)
    rw [← same]
    generalize news cs ds = N at *
    generalize orsD cs ds = O at *
    generalize bksD cs ds = BB at *
    simp_arith [ln]
  obtain ⟨ρ', lp, s8, s9, s10, rfl, h8, h9, h10⟩ := for_rng (C := callN T m) (tg := .v 8) (A := K2A) (ρ := V42 k (bksD cs ds) (orsD cs ds) cs.length (.own (news cs ds)) (.val (.bl (so cs ds))) .none .none .none .none .none) (fun _ ρ => ∃ s8 s9 s10, ρ = V42 k (bksD cs ds) (orsD cs ds) cs.length (.own (news cs ds)) (.val (.bl (so cs ds))) s8 s9 s10 .none .none ∧ NV s8 ∧ NV s9 ∧ NV s10) (n := 2) ⟨.none, .none, .none, rfl, .inl rfl, .inl rfl, .inl rfl⟩ fun d ρ hd ⟨s8, s9, s10, e, h8, h9, h10⟩ => by
    subst e
    obtain ⟨s9', s10', h9', h10', tt⟩ := turn42 (m := m) (by omega) t hd (k := k) (s5 := .own (news cs ds)) h9 h10 rfl
    exact ⟨_, _, st_nv1 h8 rfl, .inl tt, .val (.int (d : Int)), s9', s10', rfl, .inr ⟨_, rfl⟩, h9', h10'⟩
  have q2 : K2 (callN T m) (V42 k (bksD cs ds) (orsD cs ds) cs.length (.own (news cs ds)) (.val (.bl (so cs ds))) .none .none .none .none .none) = .next (V42 k (bksD cs ds) (orsD cs ds) cs.length (.own (news cs ds)) (.val (.bl (so cs ds))) s8 s9 s10 .none .none) := by
    have lp : forL (.v 8) _ (callN T m) (rng 0 (2 : Int)) _ = _ := lp
    have it : iR1 (dC (.int 2)) (callN T m) (V42 k (bksD cs ds) (orsD cs ds) cs.length (.own (news cs ds)) (.val (.bl (so cs ds))) .none .none .none .none .none) = .ok (rng 0 2) (V42 k (bksD cs ds) (orsD cs ds) cs.length (.own (news cs ds)) (.val (.bl (so cs ds))) .none .none .none .none .none) := by simp_arith [asI]
    unfold K2
    rw [x_For, it, outK_ok]
    exact lp
  obtain ⟨N, hN1, hN2, hN3, q3⟩ : ∃ N : List D, 1 ≤ N.length ∧ N.length ≤ 128 ∧ (∀ z ∈ N, ∃ i j : Nat, z = .tup [.int (i : Int), .int (j : Int)]) ∧ K3 (callN T m) (V42 k (bksD cs ds) (orsD cs ds) cs.length (.own (news cs ds)) (.val (.bl (so cs ds))) s8 s9 s10 .none .none) = .next (V42 k (bksD cs ds) (orsD cs ds) cs.length (.own N) (.val (.bl (so cs ds))) s8 s9 s10 .none .none) := by
    cases e : so cs ds with
    | true =>
      refine ⟨[.tup [.int ((cs.length : Int) - 1), .int 0]], Nat.le_refl 1, by show 1 ≤ 128; omega, fun z hz => ⟨cs.length - 1, 0, ?_⟩, ?_⟩
      · rw [List.mem_singleton.mp hz, show ((cs.length - 1 : Nat) : Int) = (cs.length : Int) - 1 by omega]
        rfl
      · generalize news cs ds = N at *
        generalize orsD cs ds = O at *
        generalize bksD cs ds = BB at *
        simp_arith []
    | false =>
      obtain ⟨i, j, hi, hj, ne⟩ := so_false t.l e
      have hne := news_ne t.l hi hj ne
      refine ⟨news cs ds, List.length_pos_iff.mpr hne, nl, fun z hz => ?_, ?_⟩
      · obtain ⟨i, j, rfl, _⟩ := mem_both t.l (List.mem_filter.mp hz).1
        exact ⟨i, j, rfl⟩
      · generalize news cs ds = N at *
        generalize orsD cs ds = O at *
        generalize bksD cs ds = BB at *
        simp_arith []
  obtain ⟨q, k1, t1, b1, o1⟩ := takeN (n := m) (by omega) k hk (w := (N.length : Int)) (by omega) (by omega)
  obtain ⟨z, hz, iz⟩ := ix_in (l := N) (i := (q : Int)) (by omega) (by omega)
  obtain ⟨i, j, rfl⟩ := hN3 z hz
  obtain ⟨vs, k2, t2, hvl, hvs, o2⟩ := s39 (n := m) (by omega) on t.l (i := i) (j := j) k1 o1
  obtain ⟨pile, k3, t3, pl, hp, o3⟩ := s40 (n := m) (by omega) (L := cs.length) (i := i) (j := j) one on hvl hvs k2 o2
  have gok : okS (gG i j vs) := ok_t rfl rfl (by rw [List.length_map]; omega) (smD_vs hvs)
  have g38 := s38 (n := m) (by omega) t gok.1 gok.2
  obtain ⟨k4, t4, o4⟩ := s41 (n := m) (by omega) t gok.1 gok.2 k3 o3
  have t2 : callN T m 39 [.own k1.l, .d (orsD cs ds), .d (.int (cs.length : Int)), .d (.tup [.int (i : Int), .int (j : Int)]), .gh k1.gl] = .ok (.d (gG i j vs)) [k2.l, k2.gl] := t2
  refine ⟨k4, ?_, o4⟩
  have ln := lenL (l := N)
  generalize gG i j vs = G at *
  have q4 : K4 (callN T m) (V42 k (bksD cs ds) (orsD cs ds) cs.length (.own N) (.val (.bl (so cs ds))) s8 s9 s10 .none .none) = .next (V42 k2 (bksD cs ds) (orsD cs ds) cs.length (.own N) (.val (.bl (so cs ds))) s8 s9 s10 (.val G) .none) := by
    generalize orsD cs ds = O at *
    generalize bksD cs ds = BB at *
    simp_arith [ln, t1, iz, t2]
  have q5 : K5 (callN T m) (V42 k2 (bksD cs ds) (orsD cs ds) cs.length (.own N) (.val (.bl (so cs ds))) s8 s9 s10 (.val G) .none) = .next (V42 k2 (bksD cs ds) (orsD cs ds) cs.length (.own N) (.val (.bl (so cs ds))) s8 s9 s10 (.val G) .none) := by
    generalize orsD cs ds = O at *
    generalize bksD cs ds = BB at *
    simp_arith [g38]
  obtain ⟨ρ', lp, s12, rfl, _⟩ := for_keep (C := callN T m) (tg := .v 12) (A := K6A) (fun ρ => ∃ s12, ρ = V42 k3 (bksD cs ds) (orsD cs ds) cs.length (.own N) (.val (.bl (so cs ds))) s8 s9 s10 (.val G) s12 ∧ NV s12) (l := pile) (ρ := V42 k3 (bksD cs ds) (orsD cs ds) cs.length (.own N) (.val (.bl (so cs ds))) s8 s9 s10 (.val G) .none) ⟨.none, rfl, .inl rfl⟩ fun x hx ρ ⟨s12, e, h12⟩ => by
    subst e
    have ok := hp x hx
    have k38 := s38 (n := m) (by omega) t ok.1 ok.2
    refine ⟨_, V42 k3 (bksD cs ds) (orsD cs ds) cs.length (.own N) (.val (.bl (so cs ds))) s8 s9 s10 (.val G) (.val x), st_nv1 h12 rfl, ?_, _, rfl, .inr ⟨_, rfl⟩⟩
    show K6A (callN T m) (V42 k3 (bksD cs ds) (orsD cs ds) cs.length (.own N) (.val (.bl (so cs ds))) s8 s9 s10 (.val G) (.val x)) = _
    generalize orsD cs ds = O at *
    generalize bksD cs ds = BB at *
    simp_arith [k38]
  have q6 : K6 (callN T m) (V42 k2 (bksD cs ds) (orsD cs ds) cs.length (.own N) (.val (.bl (so cs ds))) s8 s9 s10 (.val G) .none) = .next (V42 k3 (bksD cs ds) (orsD cs ds) cs.length (.own N) (.val (.bl (so cs ds))) s8 s9 s10 (.val G) s12) := by
    have it : iE (dCallG 40 [.v 0, .v 3, .v 11] 4) (callN T m) (V42 k2 (bksD cs ds) (orsD cs ds) cs.length (.own N) (.val (.bl (so cs ds))) s8 s9 s10 (.val G) .none) = .ok pile (V42 k3 (bksD cs ds) (orsD cs ds) cs.length (.own N) (.val (.bl (so cs ds))) s8 s9 s10 (.val G) .none) := by
      generalize orsD cs ds = O at *
      generalize bksD cs ds = BB at *
      simp_arith [t3]
    unfold K6
    rw [x_For, it, outK_ok]
    exact lp
  have q7 : K7 (callN T m) (V42 k3 (bksD cs ds) (orsD cs ds) cs.length (.own N) (.val (.bl (so cs ds))) s8 s9 s10 (.val G) s12) = .ret (.d (.bl true)) (V42 k4 (bksD cs ds) (orsD cs ds) cs.length (.own N) (.val (.bl (so cs ds))) s8 s9 s10 (.val G) s12) := by
    generalize orsD cs ds = O at *
    generalize bksD cs ds = BB at *
    simp_arith [t4]
  rw [callN_eqG (np := 4) (ng := 1) (ns := 13) (d := d42) rfl rfl rfl, Keq]
  have si : ([RX.Arg.own k.l, .d (bksD cs ds), .d (orsD cs ds), .d (.int (cs.length : Int)), .gh k.gl].map RX.Arg.sl ++ List.replicate (13 - (4 + 1)) .none) = V42 k (bksD cs ds) (orsD cs ds) cs.length .none .none .none .none .none .none .none := rfl
  rw [si, seq_next q0, seq_next q1, seq_next q2, seq_next q3, seq_next q4, seq_next q5, seq_next q6, q7]
  rfl
end
end K10
set_option Elab.async false
set_option linter.all false
set_option maxRecDepth 100000
set_option maxHeartbeats 4000000
namespace K10
open PySem RX RY MQ
section
variable {n a b a' b' : Nat} {cs ds : List Cs} {x : D}
theorem ord_plain : (D.tup (ordP cs)).plain = true := plainL_all fun y hy => by
  obtain ⟨i, j, _, _, rfl, _⟩ := mem_ord.mp hy
  rfl
theorem ord_dep : (D.tup (ordP cs)).dep ≤ 2 := by
  show depL (ordP cs) + 1 ≤ 2
  have : depL (ordP cs) ≤ 1 := depL_all fun y hy => by
    obtain ⟨i, j, _, _, rfl, _⟩ := mem_ord.mp hy
    exact Nat.le_refl _
  omega
theorem ord_cmp : cmpOk (.tup (ordP cs)) (.tup (ordP ds)) = true := by
  unfold cmpOk
  rw [ord_plain, ord_plain, decide_eq_true (by have := ord_dep (cs := cs); omega)]
  rfl
theorem ord_fEq : ∃ q : Bool, fEq (.tup (ordP cs)) (.tup (ordP ds)) = some (.d (.bl q)) := ⟨_, by
  show (if cmpOk (.tup (ordP cs)) (.tup (ordP ds)) = true then some (Ex.d (.bl ((D.tup (ordP cs)).eqv (.tup (ordP ds))))) else none) = _
  rw [if_pos ord_cmp]⟩
theorem eqvL_same : ∀ {l : List D}, (∀ x ∈ l, x.eqv x = true) → eqvL l l = true
  | [], _ => rfl
  | x :: r, h => by
    show (x.eqv x && eqvL r r) = true
    rw [h x List.mem_cons_self, eqvL_same fun y hy => h y (List.mem_cons_of_mem _ hy)]
    rfl
theorem ord_fNe : fNe (.tup (ordP cs)) (.tup (ordP cs)) = some (.d (.bl false)) := by
  show (if cmpOk (.tup (ordP cs)) (.tup (ordP cs)) = true then some (Ex.d (.bl (!eqvL (ordP cs) (ordP cs)))) else none) = _
  rw [if_pos ord_cmp, eqvL_same fun y hy => by
    obtain ⟨i, j, _, _, rfl, _⟩ := mem_ord.mp hy
    show (((i : Int) == (i : Int)) && (((j : Int) == (j : Int)) && true)) = true
    rw [beq_self_eq_true, beq_self_eq_true]
    rfl]
  rfl
theorem noG_ints : ∀ l : List Int, noGL (l.map D.int) = true
  | [] => rfl
  | _ :: r => noG_ints r
theorem seqD {C : Calls} {ns : List Int} {k : Dk} {d : DS} (h : C 25 [.d (.scr ns)] = .dk k.l k.gl []) : sSeqD 1 7 25 [.v 0] d C [.val (.scr ns), .none, .none, .none, .none, .none, .none, .none] = endD (d C [.val (.scr ns), .own k.l, .none, .none, .none, .none, .none, .gh k.gl]) := by
  have ar : argsE [.v 0] C [.val (.scr ns), .none, .none, .none, .none, .none, .none, .none] = .ok [.d (.scr ns)] [.val (.scr ns), .none, .none, .none, .none, .none, .none, .none] := rfl
  unfold sSeqD
  rw [ar]
  show (match C 25 [.d (.scr ns)] with
    | .dk l gl [] => if (1 : Nat) ≠ 7 ∧ 1 < 8 ∧ 7 < 8 ∧ ([.val (.scr ns), .none, .none, .none, .none, .none, .none, .none] : RX.Env).all calmS = true ∧ noGL gl = true then endD (d C ((([.val (.scr ns), .none, .none, .none, .none, .none, .none, .none] : RX.Env).set 1 (.own l)).set 7 (.gh gl))) else .stuck
    | _ => .stuck) = _
  rw [h]
  exact if_pos ⟨by decide, by decide, by decide, rfl, noG_ints _⟩
abbrev V43 (ns : List Int) (k : Dk) (s2 s3 s4 s5 s6 : Sl) : RX.Env := [.val (.scr ns), .own k.l, s2, s3, s4, s5, s6, .gh k.gl]
abbrev L0 : DS := (sSet 2 (dOp fIx (dTup [(dC (.int 2)), (dC (.int 3)), (dC (.int 4)), (dC (.int 5)), (dC (.int 3)), (dC (.int 4)), (dC (.int 2)), (dC (.int 3)), (dC (.int 4)), (dC (.int 3)), (dC (.int 4)), (dC (.int 3)), (dC (.int 4)), (dC (.int 2)), (dC (.int 1)), (dC (.int 7))]) (dCallG 26 [.v 1, .e (dC (.int 16))] 7)))
abbrev L1 : DS := (sSet 3 (dCallG 32 [.v 1, .v 2] 7))
abbrev L2 : DS := (sSet 4 (dCallG 33 [.v 1, .v 3] 7))
abbrev L3 : DS := (sIf (tAnd (tCmpB fGt (dCallG 26 [.v 1, .e (dC (.int 3))] 7) (dC (.int 0))) (tCmpB fEq (dCall 34 [.v 4]) (dCall 34 [.v 3]))) (sSet 4 (dCallG 32 [.v 1, .v 2] 7)) sPass)
abbrev L4 : DS := (sSet 5 (dTup [(dVar 3), (dVar 4)]))
abbrev L5 : DS := (sSet 6 (dTup [(dCall 34 [.v 3]), (dCall 34 [.v 4])]))
abbrev L6 : DS := (sIf (tOr (tCmpB fNe (dCall 24 [.v 3]) (dIxV 6 (dC (.int 0)))) (tCmpB fNe (dCall 24 [.e (dIxV 5 (dC (.int 1)))]) (dIxV 6 (dC (.int 1))))) (sRet (dC (.bl false))) sPass)
abbrev L7 : DS := (sRet (dCallG 42 [.v 1, .v 5, .v 6, .v 2] 7))
theorem Leq : d43 = sSeqD 1 7 25 [.v 0] (sSeq L0 (sSeq L1 (sSeq L2 (sSeq L3 (sSeq L4 (sSeq L5 (sSeq L6 L7))))))) := rfl
theorem many43 {q : Nat} (h : (q : Int) < 16) : ∃ m : Nat, fIx (.tup [.int 2, .int 3, .int 4, .int 5, .int 3, .int 4, .int 2, .int 3, .int 4, .int 3, .int 4, .int 3, .int 4, .int 2, .int 1, .int 7]) (.int (q : Int)) = some (.d (.int (m : Int))) ∧ 1 ≤ m ∧ m ≤ 7 := by
  rcases (show q = 0 ∨ q = 1 ∨ q = 2 ∨ q = 3 ∨ q = 4 ∨ q = 5 ∨ q = 6 ∨ q = 7 ∨ q = 8 ∨ q = 9 ∨ q = 10 ∨ q = 11 ∨ q = 12 ∨ q = 13 ∨ q = 14 ∨ q = 15 by omega) with rfl | rfl | rfl | rfl | rfl | rfl | rfl | rfl | rfl | rfl | rfl | rfl | rfl | rfl | rfl | rfl
  · exact ⟨2, rfl, by decide, by decide⟩
  · exact ⟨3, rfl, by decide, by decide⟩
  · exact ⟨4, rfl, by decide, by decide⟩
  · exact ⟨5, rfl, by decide, by decide⟩
  · exact ⟨3, rfl, by decide, by decide⟩
  · exact ⟨4, rfl, by decide, by decide⟩
  · exact ⟨2, rfl, by decide, by decide⟩
  · exact ⟨3, rfl, by decide, by decide⟩
  · exact ⟨4, rfl, by decide, by decide⟩
  · exact ⟨3, rfl, by decide, by decide⟩
  · exact ⟨4, rfl, by decide, by decide⟩
  · exact ⟨3, rfl, by decide, by decide⟩
  · exact ⟨4, rfl, by decide, by decide⟩
  · exact ⟨2, rfl, by decide, by decide⟩
  · exact ⟨1, rfl, by decide, by decide⟩
  · exact ⟨7, rfl, by decide, by decide⟩
theorem end43 {m : Nat} (hm : 13 ≤ m) (t : Two a b a' b' cs ds) {ns : List Int} (k : Dk) (hk : k.ok) : ∃ k' : Dk, sSeq L4 (sSeq L5 (sSeq L6 L7)) (callN T m) (V43 ns k (.val (.int (cs.length : Int))) (.val (bk cs)) (.val (bk ds)) .none .none) = .ret (.d (.bl true)) (V43 ns k' (.val (.int (cs.length : Int))) (.val (bk cs)) (.val (bk ds)) (.val (bksD cs ds)) (.val (orsD cs ds))) := by
  obtain ⟨k', h, ok⟩ := s42 (n := m) hm t k hk
  have e1 := l_order (n := m) (by omega) t.o
  have e2 := l_order (n := m) (by omega) t.o'
  have p1 := p_order_of (n := m) (by omega) t.o
  have p2 := p_order_of (n := m) (by omega) t.o'
  have o0 := or_0 (cs := cs) (ds := ds)
  have o1 := or_1 (cs := cs) (ds := ds)
  have f1 := ord_fNe (cs := cs)
  have f2 := ord_fNe (cs := ds)
  have b1 : fIx (bksD cs ds) (.int 1) = some (.d (bk ds)) := rfl
  refine ⟨k', ?_⟩
  have q4 : L4 (callN T m) (V43 ns k (.val (.int (cs.length : Int))) (.val (bk cs)) (.val (bk ds)) .none .none) = .next (V43 ns k (.val (.int (cs.length : Int))) (.val (bk cs)) (.val (bk ds)) (.val (bksD cs ds)) .none) := rfl
  have q5 : L5 (callN T m) (V43 ns k (.val (.int (cs.length : Int))) (.val (bk cs)) (.val (bk ds)) (.val (bksD cs ds)) .none) = .next (V43 ns k (.val (.int (cs.length : Int))) (.val (bk cs)) (.val (bk ds)) (.val (bksD cs ds)) (.val (orsD cs ds))) := by
    have eo : D.tup [.tup (ordP cs), .tup (ordP ds)] = orsD cs ds := rfl
    generalize orsD cs ds = O at *
    generalize bksD cs ds = BB at *
    generalize bk cs = B at *
    generalize bk ds = B' at *
    simp_arith [e1, e2, eo]
  have q6 : L6 (callN T m) (V43 ns k (.val (.int (cs.length : Int))) (.val (bk cs)) (.val (bk ds)) (.val (bksD cs ds)) (.val (orsD cs ds))) = .next (V43 ns k (.val (.int (cs.length : Int))) (.val (bk cs)) (.val (bk ds)) (.val (bksD cs ds)) (.val (orsD cs ds))) := by
    generalize orsD cs ds = O at *
    generalize bksD cs ds = BB at *
    generalize bk cs = B at *
    generalize bk ds = B' at *
    generalize D.tup (ordP cs) = X1 at *
    generalize D.tup (ordP ds) = X2 at *
    simp_arith [p1, p2, o0, o1, f1, f2, b1]
  have q7 : L7 (callN T m) (V43 ns k (.val (.int (cs.length : Int))) (.val (bk cs)) (.val (bk ds)) (.val (bksD cs ds)) (.val (orsD cs ds))) = .ret (.d (.bl true)) (V43 ns k' (.val (.int (cs.length : Int))) (.val (bk cs)) (.val (bk ds)) (.val (bksD cs ds)) (.val (orsD cs ds))) := by
    generalize orsD cs ds = O at *
    generalize bksD cs ds = BB at *
    generalize bk cs = B at *
    generalize bk ds = B' at *
    simp_arith [h]
  rw [seq_next q4, seq_next q5, seq_next q6, q7]
theorem s43 (hn : 15 ≤ n) {ns : List Int} (hl : ns.length ≤ 63) : callN T n 43 [.d (.scr ns)] = .ok (.d (.bl true)) [] := by
  obtain ⟨m, rfl, hm⟩ := up hn
  obtain ⟨k0, a25, o0⟩ := sDk (n := m) (by omega) hl
  obtain ⟨q, k1, t1, b1, o1⟩ := takeN (n := m) (by omega) k0 o0 (w := 16) (by decide) (by decide)
  obtain ⟨many, im, h1, h7⟩ := many43 b1
  obtain ⟨a, b, cs, k2, t2, oc, gc, lc, o2, ha, hb'⟩ := s32 (n := m) (by omega) k1 o1 h1 h7
  subst lc
  obtain ⟨a', b', ds, k3, t3, od, gd', ld, o3⟩ := s33 (n := m) (by omega) oc ha hb' gc h7 k2 o2
  obtain ⟨u, k4, t4, b4, o4⟩ := takeN (n := m) (by omega) k3 o3 (w := 3) (by decide) (by decide)
  have e1 := l_order (n := m) (by omega) oc
  have e2 := l_order (n := m) (by omega) od
  obtain ⟨eq, fe⟩ := ord_fEq (cs := ds) (ds := cs)
  rw [callN_eq (d := d43) (np := 1) (ns := 8) rfl rfl, Leq]
  rw [show [Arg.d (.scr ns)].map Arg.sl ++ List.replicate (8 - 1) .none = [.val (.scr ns), .none, .none, .none, .none, .none, .none, .none] from rfl, seqD a25]
  have q0 : L0 (callN T m) (V43 ns k0 .none .none .none .none .none) = .next (V43 ns k1 (.val (.int (cs.length : Int))) .none .none .none .none) := by simp_arith [t1, im]
  have q1 : L1 (callN T m) (V43 ns k1 (.val (.int (cs.length : Int))) .none .none .none .none) = .next (V43 ns k2 (.val (.int (cs.length : Int))) (.val (bk cs)) .none .none .none) := by
    generalize bk cs = B at *
    simp_arith [t2]
  have q2 : L2 (callN T m) (V43 ns k2 (.val (.int (cs.length : Int))) (.val (bk cs)) .none .none .none) = .next (V43 ns k3 (.val (.int (cs.length : Int))) (.val (bk cs)) (.val (bk ds)) .none .none) := by
    generalize bk cs = B at *
    generalize bk ds = B' at *
    simp_arith [t3]
  obtain ⟨a2, b2, es, k5, t, o5, q3⟩ : ∃ (a2 b2 : Nat) (es : List Cs) (k5 : Dk), Two a b a2 b2 cs es ∧ k5.ok ∧ L3 (callN T m) (V43 ns k3 (.val (.int (cs.length : Int))) (.val (bk cs)) (.val (bk ds)) .none .none) = .next (V43 ns k5 (.val (.int (cs.length : Int))) (.val (bk cs)) (.val (bk es)) .none .none) := by
    have td : Two a b a' b' cs ds := ⟨oc, od, ld, gd_good oc gc, gd_good od gd', crt_good oc gc, crt_good od gd'⟩
    by_cases hu : u = 0
    · subst hu
      have c0 : decide ((0 : Int) < ((0 : Nat) : Int)) = false := rfl
      refine ⟨a', b', ds, k4, td, o4, ?_⟩
      generalize bk cs = B at *
      generalize bk ds = B' at *
      simp_arith [t4, c0]
    · have c1 : decide ((0 : Int) < (u : Int)) = true := decide_eq_true (by omega)
      cases eq with
      | false =>
        refine ⟨a', b', ds, k4, td, o4, ?_⟩
        generalize bk cs = B at *
        generalize bk ds = B' at *
        generalize D.tup (ordP cs) = X1 at *
        generalize D.tup (ordP ds) = X2 at *
        simp_arith [t4, c1, e1, e2, fe]
      | true =>
        obtain ⟨a2, b2, es, k5, t5, oe, ge, le, o5, _, _⟩ := s32 (n := m) (by omega) k4 o4 h1 h7
        refine ⟨a2, b2, es, k5, ⟨oc, oe, le, gd_good oc gc, gd_good oe ge, crt_good oc gc, crt_good oe ge⟩, o5, ?_⟩
        generalize bk cs = B at *
        generalize bk ds = B' at *
        generalize bk es = B2 at *
        generalize D.tup (ordP cs) = X1 at *
        generalize D.tup (ordP ds) = X2 at *
        simp_arith [t4, c1, e1, e2, fe, t5]
  obtain ⟨k6, qe⟩ := end43 (m := m) (by omega) t (ns := ns) k5 o5
  rw [show ([.val (.scr ns), .own k0.l, .none, .none, .none, .none, .none, .gh k0.gl] : RX.Env) = V43 ns k0 .none .none .none .none .none from rfl, seq_next q0, seq_next q1, seq_next q2, seq_next q3, qe]
  rfl
end
end K10
theorem PySem.Challenge.cw_oneistrue_k10_whole_orders_parted_holds : PySem.Challenge.rw_oneistrue_k10_whole_orders_parted.Holds :=
  K10.holds_of fun ns hl => K10.s43 (by decide) hl
