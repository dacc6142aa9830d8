import PyProof.Rows.All
import PySem.Str
import PyProof.P3Statements
import PySem.Builtin.Int.Common
import HandS.ForMost
import HandS.ForExc
import HandS.IsInst
import HandS.ExcInit
import HandS.ExcField
import HandS.Wide
import HandS.WideBits
import HandS.TupAny
import HandS.TupMul
import HandS.Gcd
import HandS.Defaults
import HandS.Style
import KE.DataEq
import HandS.Zip
import HandS.Head0
import HandS.Head1
import HandS.Head2
import HandS.Head3
import HandS.HeadEnd
import HandS.HeadHook1
import HandS.HeadHook2
import PySem.Challenge.RW_oneistrue_k01_whole_quotients
set_option linter.all false
set_option autoImplicit false
/-! RXa: a pure big-step evaluator on plain data, as combinators. No heap, no program text here. -/
namespace RX
open PySem

/-- plain data: what a value stands for. fn k: the k-th def of the text; ty n: a built-in class; scr l: the law's own script, read alone -/
inductive D where
  | non | bl (b : Bool) | int (i : Int) | str (s : Str) | tup (l : List D) | lst (l : List D) | fn (k : Nat) | ty (n : String) | scr (l : List Int)

/-- what a name's slot holds. own: a list that only this slot knows; par: a list handed in by the caller, changed in place; exn: a caught exception -/
inductive Sl where
  | none | val (d : D) | own (l : List D) | par (l : List D) | exn (c : Nat) (fs : List (Str × D))
abbrev Env := List Sl
/-- a result: data, or a list that is new and known to nobody else -/
inductive Ex where
  | d (x : D) | fresh (l : List D)
def Ex.frz : Ex → D
  | .d x => x
  | .fresh l => .lst l
inductive R (α : Type) where
  | ok (a : α) (ρ : Env) | exc (c : Nat) (fs : List (Str × D)) (ρ : Env) | stuck
def R.bind {α β : Type} (x : R α) (f : α → Env → R β) : R β := match x with
  | .ok a ρ => f a ρ
  | .exc c fs ρ => .exc c fs ρ
  | .stuck => .stuck
inductive Arg where
  | d (x : D) | own (l : List D)
inductive CR where
  | ok (r : Ex) (outs : List (List D)) | exc (c : Nat) (fs : List (Str × D)) | stuck
abbrev Calls := Nat → List Arg → CR
abbrev Den := Calls → Env → R Ex
abbrev TD := Calls → Env → R Bool
/-- a statement's end -/
inductive Out where
  | next (ρ : Env) | brk (ρ : Env) | cont (ρ : Env) | ret (r : Ex) (ρ : Env) | exc (c : Nat) (fs : List (Str × D)) (ρ : Env) | stuck
abbrev DS := Calls → Env → Out
def R.out {α : Type} (x : R α) (f : α → Env → Out) : Out := match x with
  | .ok a ρ => f a ρ
  | .exc c fs ρ => .exc c fs ρ
  | .stuck => .stuck
def Out.bind (x : Out) (f : Env → Out) : Out := match x with
  | .next ρ => f ρ
  | .brk ρ => .brk ρ
  | .cont ρ => .cont ρ
  | .ret r ρ => .ret r ρ
  | .exc c fs ρ => .exc c fs ρ
  | .stuck => .stuck

/-- the model's greatest length -/
def LIM : Nat := 16777216
/-! ### data -/
mutual
def D.py : D → PyData
  | .non => .none
  | .bl b => .bool b
  | .int i => .int i
  | .str s => .str s
  | .tup l => .tuple (pyL l)
  | .lst l => .list (pyL l)
  | .fn _ => .none
  | .ty _ => .none
  | .scr _ => .none
def pyL : List D → List PyData
  | [] => []
  | d :: r => d.py :: pyL r
end
mutual
/-- no def, class or script within -/
def D.plain : D → Bool
  | .tup l => plainL l
  | .lst l => plainL l
  | .fn _ => false
  | .ty _ => false
  | .scr _ => false
  | _ => true
def plainL : List D → Bool
  | [] => true
  | d :: r => d.plain && plainL r
end
mutual
def D.dep : D → Nat
  | .tup l => depL l + 1
  | .lst l => depL l + 1
  | _ => 0
def depL : List D → Nat
  | [] => 0
  | d :: r => max d.dep (depL r)
end
mutual
/-- Python's == -/
def D.eqv : D → D → Bool
  | .non, .non => true
  | .bl a, .bl b => a == b
  | .bl a, .int j => (if a then 1 else 0) == j
  | .int i, .bl b => i == (if b then 1 else 0)
  | .int i, .int j => i == j
  | .str x, .str y => x == y
  | .lst l, .lst m => eqvL l m
  | .tup l, .tup m => eqvL l m
  | _, _ => false
def eqvL : List D → List D → Bool
  | [], [] => true
  | x :: xs, y :: ys => x.eqv y && eqvL xs ys
  | [], _ :: _ => false
  | _ :: _, [] => false
end

/-! ### operators -/
def mulOk (i j : Int) : Bool := decide (i.natAbs.log2 + j.natAbs.log2 < 134000000)
def divOk (j : Int) : Bool := decide (j ≠ 0) && decide (j.natAbs.log2 < 9000)
abbrev Op2 := D → D → Option Ex
def fAdd : Op2
  | .int i, .int j => some (.d (.int (i + j)))
  | .str i, .str j => if i.length + j.length ≤ LIM then some (.d (.str (i ++ j))) else none
  | .tup l, .tup m => if l.length + m.length ≤ LIM then some (.d (.tup (l ++ m))) else none
  | .lst l, .lst m => if l.length + m.length ≤ LIM then some (.fresh (l ++ m)) else none
  | _, _ => none
def fSub : Op2
  | .int i, .int j => some (.d (.int (i - j)))
  | _, _ => none
def fMul : Op2
  | .int i, .int j => if mulOk i j then some (.d (.int (i * j))) else none
  | .lst l, .int k => if 0 ≤ k ∧ k ≤ 1000000 ∧ l.length * k.toNat ≤ LIM then some (.fresh (List.replicate k.toNat l).flatten) else none
  | .tup l, .int k => if l ≠ [] ∧ 2 ≤ k ∧ k ≤ 1000 ∧ l.length ≤ 1000 then some (.d (.tup (List.replicate k.toNat l).flatten)) else none
  | _, _ => none
def fDiv : Op2
  | .int i, .int j => if divOk j then some (.d (.int (i.fdiv j))) else none
  | _, _ => none
def fMod : Op2
  | .int i, .int j => if j ≠ 0 then some (.d (.int (i.fmod j))) else none
  | _, _ => none
def fPow : Op2
  | .int i, .int j => if 0 ≤ j ∧ j ≤ 1000000 ∧ i.natAbs < 18446744073709551616 then some (.d (.int (i ^ j.toNat))) else none
  | _, _ => none
def fShl : Op2
  | .int i, .int j => if 0 ≤ j ∧ j ≤ 1000000 ∧ i.natAbs < 18446744073709551616 then some (.d (.int (i * 2 ^ j.toNat))) else none
  | _, _ => none
def fShr : Op2
  | .int i, .int j => if 0 ≤ j then some (.d (.int (i / 2 ^ j.toNat))) else none
  | _, _ => none
def fAnd : Op2
  | .int i, .int j => some (.d (.int (Builtin.bitAnd i j)))
  | _, _ => none
def fOr : Op2
  | .int i, .int j => some (.d (.int (Builtin.bitOr i j)))
  | _, _ => none
def cmpOk (x y : D) : Bool := x.plain && y.plain && decide (min x.dep y.dep ≤ 40)
def fEq : Op2 := fun x y => if cmpOk x y then some (.d (.bl (x.eqv y))) else none
def fNe : Op2 := fun x y => if cmpOk x y then some (.d (.bl (!x.eqv y))) else none
def fLt : Op2
  | .int i, .int j => some (.d (.bl (decide (i < j))))
  | _, _ => none
def fLe : Op2
  | .int i, .int j => some (.d (.bl (decide (i ≤ j))))
  | _, _ => none
def fGt : Op2
  | .int i, .int j => some (.d (.bl (decide (j < i))))
  | _, _ => none
def fGe : Op2
  | .int i, .int j => some (.d (.bl (decide (j ≤ i))))
  | _, _ => none
def D.isNon : D → Bool
  | .non => true
  | _ => false
def fIs : Op2
  | x, .non => some (.d (.bl x.isNon))
  | .bl a, .bl b => some (.d (.bl (a == b)))
  | _, _ => none
def fIsNot : Op2
  | x, .non => some (.d (.bl (!x.isNon)))
  | .bl a, .bl b => some (.d (.bl (!(a == b))))
  | _, _ => none
def inOk (x : D) (l : List D) : Bool := x.plain && plainL l && decide (min (depL l) x.dep ≤ 40)
def fIn : Op2
  | x, .tup l => if inOk x l then some (.d (.bl (l.any fun z => z.eqv x))) else none
  | x, .lst l => if inOk x l then some (.d (.bl (l.any fun z => z.eqv x))) else none
  | _, _ => none
def fNotIn : Op2
  | x, .tup l => if inOk x l then some (.d (.bl (!l.any fun z => z.eqv x))) else none
  | x, .lst l => if inOk x l then some (.d (.bl (!l.any fun z => z.eqv x))) else none
  | _, _ => none
abbrev Op1 := D → Option Ex
def fNeg : Op1
  | .int i => some (.d (.int (-i)))
  | _ => none
def truth : D → Option Bool
  | .non => some false
  | .bl b => some b
  | .int i => some (i != 0)
  | .str s => if s.length ≤ LIM then some ((s.length : Int) != 0) else none
  | .tup l => some (!l.isEmpty)
  | .lst l => some (!l.isEmpty)
  | .scr l => some (!l.isEmpty)
  | _ => none
/-- the place of an index in a sequence of n -/
def ixN (n : Nat) (i : Int) : Option Nat := if 0 ≤ i then (if i < n then some i.toNat else none) else if -(n : Int) ≤ i then some (i + n).toNat else none
def atD (l : List D) (i : Int) : Option D := (ixN l.length i).bind fun j => l[j]?
def fIx : Op2
  | .lst l, .int i => (atD l i).map .d
  | .tup l, .int i => (atD l i).map .d
  | .scr l, .int i => (atD (l.map .int) i).map .d
  | _, _ => none
/-- where a slice begins or ends -/
def sIx (n d : Nat) : Option Int → Nat
  | none => d
  | some i => if 0 ≤ i then min i.toNat n else (i + n).toNat
def cut (l : List D) (lo hi : Option Int) : List D := (l.drop (sIx l.length 0 lo)).take (sIx l.length l.length hi - sIx l.length 0 lo)
def fSl (x : D) (lo hi : Option Int) : Option Ex := match x with
  | .lst l => some (.fresh (cut l lo hi))
  | .tup l => some (.d (.tup (cut l lo hi)))
  | .scr l => some (.fresh (cut (l.map .int) lo hi))
  | _ => none
def D.asInt? : D → Option Int
  | .int i => some i
  | _ => none
def D.asBl? : D → Option Bool
  | .bl b => some b
  | _ => none
def D.items? : D → Option (List D)
  | .lst l => some l
  | .tup l => some l
  | .scr l => some (l.map .int)
  | _ => none
def D.lst? : D → Option (List D)
  | .lst l => some l
  | _ => none
/-! ### expressions -/
def dC (x : D) : Den := fun _ ρ => .ok (.d x) ρ
/-- a name as a value: a list that the slot alone knew is known to others from now on, and is never changed again -/
def dVar (i : Nat) : Den := fun _ ρ => match ρ[i]? with
  | some (.val d) => .ok (.d d) ρ
  | some (.own l) => .ok (.d (.lst l)) (ρ.set i (.val (.lst l)))
  | _ => .stuck
/-- what a name reads as, unchanged -/
def look (ρ : Env) (i : Nat) : Option D := match ρ[i]? with
  | some (.val d) => some d
  | some (.own l) => some (.lst l)
  | some (.par l) => some (.lst l)
  | _ => none
def isOwn : Option Sl → Bool
  | some (.own _) => true
  | some (.par _) => true
  | _ => false
def dOp (f : Op2) (a b : Den) : Den := fun C ρ => (a C ρ).bind fun x ρ1 => (b C ρ1).bind fun y ρ2 => match f x.frz y.frz with
  | some r => .ok r ρ2
  | none => .stuck
def dUn (f : Op1) (a : Den) : Den := fun C ρ => (a C ρ).bind fun x ρ1 => match f x.frz with
  | some r => .ok r ρ1
  | none => .stuck
/-- a op b op' c -/
def dChain (f g : Op2) (a b c : Den) : Den := fun C ρ => (a C ρ).bind fun x ρ1 => (b C ρ1).bind fun y ρ2 => match f x.frz y.frz with
  | some (.d (.bl true)) => (c C ρ2).bind fun z ρ3 => (match g y.frz z.frz with
    | some r => .ok r ρ3
    | none => .stuck)
  | some (.d (.bl false)) => .ok (.d (.bl false)) ρ2
  | _ => .stuck
def tE (a : Den) : TD := fun C ρ => (a C ρ).bind fun x ρ1 => match truth x.frz with
  | some b => .ok b ρ1
  | none => .stuck
def tNot (t : TD) : TD := fun C ρ => (t C ρ).bind fun b ρ1 => .ok (!b) ρ1
def tAnd (t u : TD) : TD := fun C ρ => (t C ρ).bind fun b ρ1 => if b then u C ρ1 else .ok false ρ1
def tOr (t u : TD) : TD := fun C ρ => (t C ρ).bind fun b ρ1 => if b then .ok true ρ1 else u C ρ1
/-- and, or, not as values: of bools -/
def dAnd (a b : Den) : Den := fun C ρ => (a C ρ).bind fun x ρ1 => match x.frz with
  | .bl true => b C ρ1
  | .bl false => .ok (.d (.bl false)) ρ1
  | _ => .stuck
def dOr (a b : Den) : Den := fun C ρ => (a C ρ).bind fun x ρ1 => match x.frz with
  | .bl true => .ok (.d (.bl true)) ρ1
  | .bl false => b C ρ1
  | _ => .stuck
def dNot (a : Den) : Den := fun C ρ => (a C ρ).bind fun x ρ1 => match x.frz with
  | .bl b => .ok (.d (.bl (!b))) ρ1
  | _ => .stuck
def dIf (t : TD) (a b : Den) : Den := fun C ρ => (t C ρ).bind fun c ρ1 => if c then a C ρ1 else b C ρ1
/-- several values, from the left -/
def dAll : List Den → Calls → Env → R (List D)
  | [], _, ρ => .ok [] ρ
  | a :: r, C, ρ => (a C ρ).bind fun x ρ1 => (dAll r C ρ1).bind fun xs ρ2 => .ok (x.frz :: xs) ρ2
def dTup (es : List Den) : Den := fun C ρ => (dAll es C ρ).bind fun xs ρ1 => .ok (.d (.tup xs)) ρ1
def dLst (es : List Den) : Den := fun C ρ => (dAll es C ρ).bind fun xs ρ1 => .ok (.fresh xs) ρ1
/-- x[e], x a name -/
def dIxV (i : Nat) (e : Den) : Den := fun C ρ => match look ρ i with
  | none => .stuck
  | some _ => (e C ρ).bind fun y ρ1 => match look ρ1 i with
    | some x => (match fIx x y.frz with
      | some r => .ok r ρ1
      | none => .stuck)
    | none => .stuck
def dPart : Option Den → Calls → Env → R (Option Int)
  | none, _, ρ => .ok none ρ
  | some e, C, ρ => (e C ρ).bind fun x ρ1 => match x.frz.asInt? with
    | some i => .ok (some i) ρ1
    | none => .stuck
def dSl (a : Den) (lo hi : Option Den) : Den := fun C ρ => (a C ρ).bind fun x ρ1 => (dPart lo C ρ1).bind fun l ρ2 => (dPart hi C ρ2).bind fun h ρ3 => match fSl x.frz l h with
  | some r => .ok r ρ3
  | none => .stuck
/-- x[lo:hi], x a name -/
def dSlV (i : Nat) (lo hi : Option Den) : Den := fun C ρ => match look ρ i with
  | none => .stuck
  | some _ => (dPart lo C ρ).bind fun l ρ2 => (dPart hi C ρ2).bind fun h ρ3 => match look ρ3 i with
    | some x => (match fSl x l h with
      | some r => .ok r ρ3
      | none => .stuck)
    | none => .stuck
/-- a built-in of data -/
abbrev Bf := List D → Option Ex
def dB (f : Bf) (es : List Den) : Den := fun C ρ => (dAll es C ρ).bind fun xs ρ1 => match f xs with
  | some r => .ok r ρ1
  | none => .stuck
/-- .. of one name, which it does not keep -/
def dB1 (f : Bf) (i : Nat) : Den := fun _ ρ => match look ρ i with
  | some x => (match f [x] with
    | some r => .ok r ρ
    | none => .stuck)
  | none => .stuck
/-- x.pop(), x.pop(k): x a name -/
def dPop (i : Nat) : Den := fun _ ρ => match ρ[i]? with
  | some (.own l) => (match l[l.length - 1]? with
    | some d => .ok (.d d) (ρ.set i (.own l.dropLast))
    | none => .stuck)
  | some (.par l) => (match l[l.length - 1]? with
    | some d => .ok (.d d) (ρ.set i (.par l.dropLast))
    | none => .stuck)
  | _ => .stuck
def popAt (l : List D) (k : Int) : Option (D × List D) := if -(9223372036854775808 : Int) ≤ k ∧ k < 9223372036854775808 then (ixN l.length k).bind fun j => (l[j]?).map fun d => (d, l.eraseIdx j) else none
def dPopAt (i : Nat) (e : Den) : Den := fun C ρ => match isOwn ρ[i]? with
  | false => .stuck
  | true => (e C ρ).bind fun y ρ1 => match y.frz.asInt? with
    | none => .stuck
    | some k => (match ρ1[i]? with
      | some (.own l) => (match popAt l k with
        | some (d, m) => .ok (.d d) (ρ1.set i (.own m))
        | none => .stuck)
      | some (.par l) => (match popAt l k with
        | some (d, m) => .ok (.d d) (ρ1.set i (.par m))
        | none => .stuck)
      | _ => .stuck)
/-- a field of a caught exception -/
def dFld (i : Nat) (f : Str) : Den := fun _ ρ => match ρ[i]? with
  | some (.exn _ fs) => (match fs.lookup f with
    | some d => .ok (.d d) ρ
    | none => .stuck)
  | _ => .stuck
/-! ### calls -/
/-- an argument: a name (its own list is handed on, to be changed in place), or a value -/
inductive AD where
  | v (i : Nat) | e (d : Den)
inductive AV where
  | own (i : Nat) | d (x : D)
def argsE : List AD → Calls → Env → R (List AV)
  | [], _, ρ => .ok [] ρ
  | .v i :: r, C, ρ => if isOwn ρ[i]? then (argsE r C ρ).bind fun xs ρ2 => .ok (.own i :: xs) ρ2 else (dVar i C ρ).bind fun x ρ1 => (argsE r C ρ1).bind fun xs ρ2 => .ok (.d x.frz :: xs) ρ2
  | .e a :: r, C, ρ => (a C ρ).bind fun x ρ1 => (argsE r C ρ1).bind fun xs ρ2 => .ok (.d x.frz :: xs) ρ2
def owns : List AV → List Nat
  | [] => []
  | .own i :: r => i :: owns r
  | .d _ :: r => owns r
def argOf (ρ : Env) : AV → Option Arg
  | .d x => some (.d x)
  | .own i => match ρ[i]? with
    | some (.own l) => some (.own l)
    | some (.par l) => some (.own l)
    | _ => none
def argsOf (ρ : Env) : List AV → Option (List Arg)
  | [] => some []
  | a :: r => (argOf ρ a).bind fun x => (argsOf ρ r).map fun xs => x :: xs
/-- the lists come back -/
def backTo (ρ : Env) : List Nat → List (List D) → Option Env
  | [], [] => some ρ
  | i :: r, l :: ls => (match ρ[i]? with
    | some (.own _) => backTo (ρ.set i (.own l)) r ls
    | some (.par _) => backTo (ρ.set i (.par l)) r ls
    | _ => none)
  | _, _ => none
def nodupN : List Nat → Bool
  | [] => true
  | i :: r => !r.contains i && nodupN r
def doCall (f : Nat) (as : List AV) (C : Calls) (ρ : Env) : R Ex :=
  if nodupN (owns as) then match argsOf ρ as with
    | none => .stuck
    | some xs => (match C f xs with
      | .ok r outs => (match backTo ρ (owns as) outs with
        | some ρ' => .ok r ρ'
        | none => .stuck)
      | .exc c fs => if (owns as).isEmpty then .exc c fs ρ else .stuck
      | .stuck => .stuck)
  else .stuck
/-- f(..): perm puts what was written into the parameters' order (keywords) -/
def dCall (f : Nat) (as : List AD) : Den := fun C ρ => (argsE as C ρ).bind fun xs ρ1 => doCall f xs C ρ1
def permL {α : Type} (p : List Nat) (xs : List α) : List α := p.filterMap fun i => xs[i]?
def dCallK (f : Nat) (p : List Nat) (as : List AD) : Den := fun C ρ => (argsE as C ρ).bind fun xs ρ1 => doCall f (permL p xs) C ρ1
/-- a name that holds a def, called -/
def dCallV (i : Nat) (as : List AD) : Den := fun C ρ => match ρ[i]? with
  | some (.val (.fn f)) => (argsE as C ρ).bind fun xs ρ1 => doCall f xs C ρ1
  | _ => .stuck
/-! ### targets, walks -/
inductive Tg where
  | v (i : Nat) | t (l : List Nat)
def stSl (ρ : Env) (i : Nat) (s : Sl) : Option Env := match ρ[i]? with
  | some (.par _) => none
  | some (.exn _ _) => none
  | some _ => some (ρ.set i s)
  | none => none
def stAll (ρ : Env) : List Nat → List D → Option Env
  | [], [] => some ρ
  | i :: r, d :: ds => (stSl ρ i (.val d)).bind fun ρ1 => stAll ρ1 r ds
  | _, _ => none
def Tg.st (ρ : Env) (d : D) : Tg → Option Env
  | .v i => stSl ρ i (.val d)
  | .t l => match d with
    | .tup ds => stAll ρ l ds
    | _ => none
/-- what a for walks: the items -/
abbrev ID := Calls → Env → R (List D)
def iE (a : Den) : ID := fun C ρ => (a C ρ).bind fun x ρ1 => match x.frz.items? with
  | some l => .ok l ρ1
  | none => .stuck
def rng (a b : Int) : List D := (List.range (b - a).toNat).map fun (k : Nat) => .int (a + k)
def iR1 (a : Den) : ID := fun C ρ => (a C ρ).bind fun x ρ1 => match x.frz.asInt? with
  | some n => if -16777216 < n ∧ n < 16777216 then .ok (rng 0 n) ρ1 else .stuck
  | none => .stuck
def iR2 (a b : Den) : ID := fun C ρ => (a C ρ).bind fun x ρ1 => (b C ρ1).bind fun y ρ2 => match x.frz.asInt?, y.frz.asInt? with
  | some i, some j => if -16777216 < i ∧ i < 16777216 ∧ -16777216 < j ∧ j < 16777216 then .ok (rng i j) ρ2 else .stuck
  | _, _ => .stuck
def enumL (n : Nat) : List D → List D
  | [] => []
  | d :: r => .tup [.int n, d] :: enumL (n + 1) r
def iEnum (a : Den) : ID := fun C ρ => (a C ρ).bind fun x ρ1 => match x.frz.items? with
  | some l => .ok (enumL 0 l) ρ1
  | none => .stuck
def zipL : List D → List D → List D
  | x :: xs, y :: ys => .tup [x, y] :: zipL xs ys
  | _, _ => []
def iZip (a b : Den) : ID := fun C ρ => (a C ρ).bind fun x ρ1 => (b C ρ1).bind fun y ρ2 => match x.frz, y.frz with
  | .lst l, .lst m => .ok (zipL l m) ρ2
  | .tup l, .tup m => .ok (zipL l m) ρ2
  | _, _ => .stuck
/-! ### comprehensions -/
def wipe (ρ : Env) : List Nat → Env
  | [] => ρ
  | v :: vs => (wipe ρ vs).set v .none
/-- the slots of the block's own names, as they were -/
def unwipe (ρ0 ρ : Env) : List Nat → Env
  | [] => ρ
  | v :: vs => match ρ0[v]? with
    | some s => (unwipe ρ0 ρ vs).set v s
    | none => unwipe ρ0 ρ vs
def free1 : Option Sl → Bool
  | some .none => true
  | some (.val _) => true
  | _ => false
def tests : List TD → TD
  | [] => fun _ ρ => .ok true ρ
  | [t] => t
  | _ => fun _ _ => .stuck
def compL (vs : List Nat) (tg : Tg) (ts : TD) (elt : Den) (C : Calls) : List D → Env → R (List D)
  | [], ρ => .ok [] (wipe ρ vs)
  | x :: xs, ρ => match tg.st (wipe ρ vs) x with
    | none => .stuck
    | some ρ1 => (ts C ρ1).bind fun b ρ2 => if b then (elt C ρ2).bind fun y ρ3 => (compL vs tg ts elt C xs ρ3).bind fun ys ρ4 => .ok (y.frz :: ys) ρ4 else compL vs tg ts elt C xs ρ2
/-- no exception comes out of a comprehension -/
def R.noExc {α : Type} : R α → R α
  | .exc _ _ _ => .stuck
  | x => x
def dComp (vs : List Nat) (it : ID) (tg : Tg) (ts : TD) (elt : Den) : Den := fun C ρ => (it C ρ).bind fun l ρ1 =>
  if l.length < LIM ∧ vs.all (fun v => free1 ρ1[v]?) then (compL vs tg ts elt C l (wipe ρ1 vs)).noExc.bind fun ys ρ2 => .ok (.fresh ys) (unwipe ρ1 ρ2 vs) else .stuck
/-- two fors: vs1 are the inner one's names -/
def comp2L (vs vs1 : List Nat) (tg : Tg) (ts : TD) (it1 : ID) (tg1 : Tg) (ts1 : TD) (elt : Den) (C : Calls) : List D → Env → R (List D)
  | [], ρ => .ok [] (wipe ρ vs)
  | x :: xs, ρ => match tg.st (wipe ρ vs) x with
    | none => .stuck
    | some ρ1 => (ts C ρ1).bind fun b ρ2 => if b then (it1 C ρ2).bind fun l ρ3 => if l.length < 4096 then (compL vs1 tg1 ts1 elt C l ρ3).bind fun ys ρ4 => (comp2L vs vs1 tg ts it1 tg1 ts1 elt C xs ρ4).bind fun zs ρ5 => .ok (ys ++ zs) ρ5 else .stuck else comp2L vs vs1 tg ts it1 tg1 ts1 elt C xs ρ2
def dComp2 (vs vs1 : List Nat) (it : ID) (tg : Tg) (ts : TD) (it1 : ID) (tg1 : Tg) (ts1 : TD) (elt : Den) : Den := fun C ρ => (it C ρ).bind fun l ρ1 =>
  if l.length < 4096 ∧ vs.all (fun v => free1 ρ1[v]?) then (comp2L vs vs1 tg ts it1 tg1 ts1 elt C l (wipe ρ1 vs)).noExc.bind fun ys ρ2 => .ok (.fresh ys) (unwipe ρ1 ρ2 vs) else .stuck
/-! ### statements -/
def sPass : DS := fun _ ρ => .next ρ
def sBrk : DS := fun _ ρ => .brk ρ
def sCont : DS := fun _ ρ => .cont ρ
def sSeq (a b : DS) : DS := fun C ρ => (a C ρ).bind fun ρ1 => b C ρ1
def sBlk : List DS → DS
  | [] => sPass
  | [a] => a
  | a :: b :: r => sSeq a (sBlk (b :: r))
def Ex.sl : Ex → Sl
  | .d x => .val x
  | .fresh l => .own l
def sSet (i : Nat) (a : Den) : DS := fun C ρ => (a C ρ).out fun x ρ1 => match stSl ρ1 i x.sl with
  | some ρ2 => .next ρ2
  | none => .stuck
/-- a, b = e -/
def sUnp (l : List Nat) (a : Den) : DS := fun C ρ => (a C ρ).out fun x ρ1 => match (Tg.t l).st ρ1 x.frz with
  | some ρ2 => .next ρ2
  | none => .stuck
/-- a, b = x, y -/
def sPar (i j : Nat) (a b : Den) : DS := fun C ρ => (dAll [a, b] C ρ).out fun xs ρ1 => match stAll ρ1 [i, j] xs with
  | some ρ2 => .next ρ2
  | none => .stuck
def sExpr (a : Den) : DS := fun C ρ => (a C ρ).out fun _ ρ1 => .next ρ1
def sRet (a : Den) : DS := fun C ρ => (a C ρ).out fun x ρ1 => .ret x ρ1
/-- return x, x a name -/
def sRetV (i : Nat) : DS := fun _ ρ => match ρ[i]? with
  | some (.val d) => .ret (.d d) ρ
  | some (.own l) => .ret (.fresh l) (ρ.set i .none)
  | _ => .stuck
def sRetN : DS := fun _ ρ => .ret (.d .non) ρ
def sIf (t : TD) (a b : DS) : DS := fun C ρ => (t C ρ).out fun c ρ1 => if c then a C ρ1 else b C ρ1
/-- x op= e -/
def sAug (i : Nat) (f : Op2) (a : Den) : DS := fun C ρ => match ρ[i]? with
  | some (.val x) => (a C ρ).out fun y ρ1 => (match f x y.frz with
    | some (.d z) => (match stSl ρ1 i (.val z) with
      | some ρ2 => .next ρ2
      | none => .stuck)
    | _ => .stuck)
  | _ => .stuck
/-- x[k] = e, x a name -/
def putAt (l : List D) (k : Int) (y : D) : Option (List D) := (ixN l.length k).map fun j => l.set j y
def sPut (i : Nat) (k e : Den) : DS := fun C ρ => (e C ρ).out fun y ρ1 => match isOwn ρ1[i]? with
  | false => .stuck
  | true => (k C ρ1).out fun z ρ2 => match z.frz.asInt? with
    | none => .stuck
    | some j => (match ρ2[i]? with
      | some (.own l) => (match putAt l j y.frz with
        | some m => .next (ρ2.set i (.own m))
        | none => .stuck)
      | some (.par l) => (match putAt l j y.frz with
        | some m => .next (ρ2.set i (.par m))
        | none => .stuck)
      | _ => .stuck)
/-- x.append(e), x a name -/
def sApp (i : Nat) (e : Den) : DS := fun C ρ => match isOwn ρ[i]? with
  | false => .stuck
  | true => (e C ρ).out fun y ρ1 => match ρ1[i]? with
    | some (.own l) => if l.length < LIM then .next (ρ1.set i (.own (l ++ [y.frz]))) else .stuck
    | some (.par l) => if l.length < LIM then .next (ρ1.set i (.par (l ++ [y.frz]))) else .stuck
    | _ => .stuck
def forL (tg : Tg) (b : DS) (C : Calls) : List D → Env → Out
  | [], ρ => .next ρ
  | x :: xs, ρ => match tg.st ρ x with
    | none => .stuck
    | some ρ1 => match b C ρ1 with
      | .next ρ2 => forL tg b C xs ρ2
      | .cont ρ2 => forL tg b C xs ρ2
      | .brk ρ2 => .next ρ2
      | .ret r ρ2 => .ret r ρ2
      | .exc c fs ρ2 => .exc c fs ρ2
      | .stuck => .stuck
def sFor (tg : Tg) (it : ID) (b : DS) : DS := fun C ρ => (it C ρ).out fun l ρ1 => forL tg b C l ρ1
def whileL (t : TD) (b : DS) (C : Calls) : Nat → Env → Out
  | 0, _ => .stuck
  | n + 1, ρ => (t C ρ).out fun c ρ1 => if c then (match b C ρ1 with
      | .next ρ2 => whileL t b C n ρ2
      | .cont ρ2 => whileL t b C n ρ2
      | .brk ρ2 => .next ρ2
      | .ret r ρ2 => .ret r ρ2
      | .exc c fs ρ2 => .exc c fs ρ2
      | .stuck => .stuck) else .next ρ1
/-- with turns enough -/
noncomputable def sWhile (t : TD) (b : DS) : DS := fun C ρ => open Classical in if h : ∃ n, whileL t b C n ρ ≠ .stuck then whileL t b C h.choose ρ else .stuck
theorem whileL_more {t : TD} {b : DS} {C : Calls} : ∀ {n m : Nat} {ρ : Env}, n ≤ m → whileL t b C n ρ ≠ .stuck → whileL t b C m ρ = whileL t b C n ρ
  | 0, _, _, _, h => absurd rfl h
  | n + 1, 0, _, h, _ => by omega
  | n + 1, m + 1, ρ, hm, h => by
    unfold whileL at h ⊢
    cases e : t C ρ with
    | exc c fs ρ1 => rfl
    | stuck => rfl
    | ok k ρ1 =>
      rw [e] at h
      cases k with
      | false => rfl
      | true =>
        simp only [R.out, if_true] at h ⊢
        cases e2 : b C ρ1 with
        | next ρ2 => simp only [e2] at h ⊢; exact whileL_more (by omega) h
        | cont ρ2 => simp only [e2] at h ⊢; exact whileL_more (by omega) h
        | brk ρ2 => rfl
        | ret r ρ2 => rfl
        | exc c fs ρ2 => rfl
        | stuck => rfl
theorem sWhile_eq {t : TD} {b : DS} {C : Calls} {n : Nat} {ρ : Env} {o : Out} (h : whileL t b C n ρ = o) (ho : o ≠ .stuck) : sWhile t b C ρ = o := by
  have e : ∃ n, whileL t b C n ρ ≠ .stuck := ⟨n, by rw [h]; exact ho⟩
  unfold sWhile
  rw [dif_pos e]
  have h1 := e.choose_spec
  have h2 : whileL t b C n ρ ≠ .stuck := by rw [h]; exact ho
  rcases Nat.le_total e.choose n with q | q
  · rw [← whileL_more q h1, h]
  · rw [whileL_more q h2, h]
def sRaise (c : Nat) (fl : List Str) (es : List Den) : DS := fun C ρ => (dAll es C ρ).out fun xs ρ1 => if xs.length = fl.length then .exc c (fl.zip xs) ρ1 else .stuck
/-- try: b except (one of the classes cs) as i: h -/
structure Hd where
  cs : Nat → Bool
  as_ : Option Nat
  h : DS
def Out.suite (ρ' : Option Nat) : Out → Out
  | .next ρ => .next (match ρ' with | some i => ρ.set i .none | none => ρ)
  | .ret r ρ => .ret r (match ρ' with | some i => ρ.set i .none | none => ρ)
  | .brk ρ => .brk (match ρ' with | some i => ρ.set i .none | none => ρ)
  | .cont ρ => .cont (match ρ' with | some i => ρ.set i .none | none => ρ)
  | _ => .stuck
def handle (C : Calls) (c : Nat) (fs : List (Str × D)) (ρ : Env) : List Hd → Out
  | [] => .exc c fs ρ
  | h :: r => if h.cs c = true then (match h.as_ with
      | none => (h.h C ρ).suite none
      | some i => (match stSl ρ i (.exn c fs) with
        | some ρ1 => (h.h C ρ1).suite (some i)
        | none => .stuck)) else handle C c fs ρ r
def sTry (b : DS) (hs : List Hd) : DS := fun C ρ => match b C ρ with
  | .exc c fs ρ1 => handle C c fs ρ1 hs
  | o => o
/-! ### defs -/
structure FD where
  np : Nat
  ns : Nat
  body : DS
def Arg.sl : Arg → Sl
  | .d x => .val x
  | .own l => .par l
def Arg.isOwn : Arg → Bool
  | .own _ => true
  | _ => false
def outsOf (ρ : Env) : Nat → List Arg → Option (List (List D))
  | _, [] => some []
  | k, .d _ :: r => outsOf ρ (k + 1) r
  | k, .own _ :: r => match ρ[k]? with
    | some (.par l) => (outsOf ρ (k + 1) r).map fun ls => l :: ls
    | _ => none
def finish (args : List Arg) (r : Ex) (ρ : Env) : CR := match outsOf ρ 0 args with
  | some ls => .ok r ls
  | none => .stuck
def runF (fd : FD) (C : Calls) (args : List Arg) : CR :=
  if args.length = fd.np then match fd.body C (args.map Arg.sl ++ List.replicate (fd.ns - fd.np) .none) with
    | .ret r ρ => finish args r ρ
    | .next ρ => finish args (.d .non) ρ
    | .exc c fs _ => if args.any Arg.isOwn then .stuck else .exc c fs
    | _ => .stuck
  else .stuck
def callN (T : List FD) : Nat → Calls
  | 0 => fun _ _ => .stuck
  | n + 1 => fun f args => match T[f]? with
    | some fd => runF fd (callN T n) args
    | none => .stuck
end RX
set_option autoImplicit true
set_option Elab.async false
set_option linter.all false
set_option maxRecDepth 100000
set_option maxHeartbeats 4000000
/-! RXb: what the evaluator's data are in the hand layer's heaps; the shape of the readings. -/
namespace RX
open PySem PySem.Spec PyProof.Rows L2
/-! ### data in a heap -/
/-- a list that nobody can change: locked, or of the module -/
def SqF (K : PySem.W.Frag) (H : Hp) (a : Addr) (xs : List V) : Prop := (∃ o, H a = some (.frz o (.lst xs))) ∨
  ∃ (o : Obj) (its : Array Value) (n : Nat), K.lookup a = some o ∧ o.cls = .type "list" ∧ o.dict = none ∧ o.data = .seq its n ∧ its.size ≤ sizeLine ∧ Vals xs its.toList
theorem SqF.l {K : PySem.W.Frag} {H : Hp} {a : Addr} {xs : List V} (h : SqF K H a xs) : SqL K H a xs := by
  rcases h with ⟨o, h⟩ | h
  · exact .inl (.inr ⟨o, h⟩)
  · exact .inr h
theorem SqF.of {K : PySem.W.Frag} {H : Hp} {a : Addr} {xs : List V} (O : Only H) (h : SqL K H a xs) : SqF K H a xs := by
  rcases h with (h | h) | h
  · rcases O a with e | ⟨o, ys, e⟩
    · rw [e] at h; cases h
    · rw [e] at h; cases h
  · exact .inl h
  · exact .inr h
section
variable (K : PySem.W.Frag) (fa : Nat → Addr)
mutual
/-- v is the data d: F tells the lists that nobody changes any more -/
inductive Rp (F : Addr → Prop) (H : Hp) : V → D → Prop
  | non : Rp F H .non .non
  | bl (b : Bool) : Rp F H (.bl b) (.bl b)
  | int (i : Int) : Rp F H (.int i) (.int i)
  | str (x : Str) : Rp F H (.str x) (.str x)
  | tup {a : Addr} {xs : List V} {ds : List D} : SqT K H a xs → RpL F H xs ds → Rp F H (.ref a) (.tup ds)
  | lst {a : Addr} {xs : List V} {ds : List D} : F a → H a = some (.lst xs) → RpL F H xs ds → Rp F H (.ref a) (.lst ds)
  | scr {a : Addr} {ns : List Int} : SqF K H a (ns.map V.int) → Rp F H (.ref a) (.scr ns)
  | fn (k : Nat) : Rp F H (.ref (fa k)) (.fn k)
  | ty (n : String) : Rp F H (.ty n) (.ty n)
inductive RpL (F : Addr → Prop) (H : Hp) : List V → List D → Prop
  | nil : RpL F H [] []
  | cons {v : V} {vs : List V} {d : D} {ds : List D} : Rp F H v d → RpL F H vs ds → RpL F H (v :: vs) (d :: ds)
end
end
/-- a later heap: what is frozen, the tuples, the locked things and the exceptions' dicts stand -/
structure Ext (F : Addr → Prop) (H : Hp) (F' : Addr → Prop) (H' : Hp) : Prop where
  fz : ∀ a, F a → F' a ∧ H' a = H a
  tup : ∀ a xs, H a = some (.tup xs) → H' a = some (.tup xs)
  frz : ∀ a o u, H a = some (.frz o u) → H' a = some (.frz o u)
  xd : ∀ a fs, H a = some (.xd fs) → H' a = some (.xd fs)
theorem Ext.refl {F : Addr → Prop} {H : Hp} : Ext F H F H := ⟨fun _ h => ⟨h, rfl⟩, fun _ _ h => h, fun _ _ _ h => h, fun _ _ h => h⟩
theorem Ext.trans {F F1 F2 : Addr → Prop} {H H1 H2 : Hp} (a : Ext F H F1 H1) (b : Ext F1 H1 F2 H2) : Ext F H F2 H2 :=
  ⟨fun x h => ⟨(b.fz x (a.fz x h).1).1, (b.fz x (a.fz x h).1).2.trans (a.fz x h).2⟩, fun x _ h => b.tup x _ (a.tup x _ h), fun x _ _ h => b.frz x _ _ (a.frz x _ _ h), fun x _ h => b.xd x _ (a.xd x _ h)⟩
theorem Ext.same {F : Addr → Prop} {H H' : Hp} (h : Same H H') (t : ∀ a, F a → ∃ xs, H a = some (.lst xs)) : Ext F H F H' :=
  ⟨fun a f => ⟨f, by obtain ⟨xs, e⟩ := t a f; rw [e, h _ _ e]⟩, fun _ _ e => h _ _ e, fun _ _ _ e => h _ _ e, fun _ _ e => h _ _ e⟩
theorem Ext.sqt {K : PySem.W.Frag} {F F' : Addr → Prop} {H H' : Hp} (e : Ext F H F' H') {a : Addr} {xs : List V} (h : SqT K H a xs) : SqT K H' a xs := by
  rcases h with (h | ⟨o, h⟩) | h
  · exact .inl (.inl (e.tup _ _ h))
  · exact .inl (.inr ⟨o, e.frz _ _ _ h⟩)
  · exact .inr h
theorem Ext.sqf {K : PySem.W.Frag} {F F' : Addr → Prop} {H H' : Hp} (e : Ext F H F' H') {a : Addr} {xs : List V} (h : SqF K H a xs) : SqF K H' a xs := by
  rcases h with ⟨o, h⟩ | h
  · exact .inl ⟨o, e.frz _ _ _ h⟩
  · exact .inr h
section
variable {K : PySem.W.Frag} {fa : Nat → Addr} {F F' : Addr → Prop} {H H' : Hp}
mutual
theorem Rp.ext (e : Ext F H F' H') : ∀ (d : D) (v : V), Rp K fa F H v d → Rp K fa F' H' v d
  | .non, _, h => by cases h; exact .non
  | .bl b, _, h => by cases h; exact .bl b
  | .int i, _, h => by cases h; exact .int i
  | .str x, _, h => by cases h; exact .str x
  | .tup ds, _, h => by
    cases h with
    | tup s r => exact .tup (e.sqt s) (RpL.ext e ds _ r)
  | .lst ds, _, h => by
    cases h with
    | lst f s r => exact .lst (e.fz _ f).1 ((e.fz _ f).2.trans s) (RpL.ext e ds _ r)
  | .fn k, _, h => by cases h; exact .fn k
  | .ty n, _, h => by cases h; exact .ty n
  | .scr l, _, h => by
    cases h with
    | scr s => exact .scr (e.sqf s)
theorem RpL.ext (e : Ext F H F' H') : ∀ (ds : List D) (vs : List V), RpL K fa F H vs ds → RpL K fa F' H' vs ds
  | [], _, h => by cases h; exact .nil
  | d :: ds, _, h => by
    cases h with
    | cons r t => exact .cons (Rp.ext e d _ r) (RpL.ext e ds _ t)
end
theorem RpL.length : ∀ {vs : List V} {ds : List D}, RpL K fa F H vs ds → vs.length = ds.length
  | _, _, .nil => rfl
  | _, _, .cons _ t => congrArg (· + 1) (RpL.length t)
theorem RpL.append : ∀ {vs ws : List V} {ds es : List D}, RpL K fa F H vs ds → RpL K fa F H ws es → RpL K fa F H (vs ++ ws) (ds ++ es)
  | _, _, _, _, .nil, h => h
  | _, _, _, _, .cons r t, h => .cons r (t.append h)
theorem RpL.get : ∀ {vs : List V} {ds : List D} {i : Nat} {d : D}, RpL K fa F H vs ds → ds[i]? = some d → ∃ v, vs[i]? = some v ∧ Rp K fa F H v d
  | _, _, _, _, .nil, e => by simp at e
  | _, _, 0, _, .cons r _, e => by simp at e; subst e; exact ⟨_, rfl, r⟩
  | _, _, i + 1, d, .cons _ t, e => by
    obtain ⟨v, h1, h2⟩ := RpL.get (i := i) t (by simpa using e)
    exact ⟨v, by simpa using h1, h2⟩
theorem RpL.getV : ∀ {vs : List V} {ds : List D} {i : Nat} {v : V}, RpL K fa F H vs ds → vs[i]? = some v → ∃ d, ds[i]? = some d ∧ Rp K fa F H v d
  | _, _, _, _, .nil, e => by simp at e
  | _, _, 0, _, .cons r _, e => by simp at e; subst e; exact ⟨_, rfl, r⟩
  | _, _, i + 1, d, .cons _ t, e => by
    obtain ⟨v, h1, h2⟩ := RpL.getV (i := i) t (by simpa using e)
    exact ⟨v, by simpa using h1, h2⟩
theorem RpL.take : ∀ {vs : List V} {ds : List D} (n : Nat), RpL K fa F H vs ds → RpL K fa F H (vs.take n) (ds.take n)
  | _, _, 0, _ => .nil
  | _, _, _ + 1, .nil => .nil
  | _, _, n + 1, .cons r t => .cons r (t.take n)
theorem RpL.drop : ∀ {vs : List V} {ds : List D} (n : Nat), RpL K fa F H vs ds → RpL K fa F H (vs.drop n) (ds.drop n)
  | _, _, 0, r => r
  | _, _, _ + 1, .nil => .nil
  | _, _, n + 1, .cons _ t => t.drop n
theorem RpL.set {v : V} {d : D} (r : Rp K fa F H v d) : ∀ {vs : List V} {ds : List D} (i : Nat), RpL K fa F H vs ds → RpL K fa F H (vs.set i v) (ds.set i d)
  | _, _, _, .nil => .nil
  | _, _, 0, .cons _ t => .cons r t
  | _, _, i + 1, .cons q t => .cons q (t.set r i)
theorem RpL.eraseIdx : ∀ {vs : List V} {ds : List D} (i : Nat), RpL K fa F H vs ds → RpL K fa F H (vs.eraseIdx i) (ds.eraseIdx i)
  | _, _, _, .nil => .nil
  | _, _, 0, .cons _ t => t
  | _, _, i + 1, .cons q t => .cons q (t.eraseIdx i)
theorem RpL.dropLast : ∀ {vs : List V} {ds : List D}, RpL K fa F H vs ds → RpL K fa F H vs.dropLast ds.dropLast
  | _, _, .nil => .nil
  | _, _, .cons r .nil => .nil
  | _, _, .cons r (.cons q t) => .cons r (RpL.dropLast (.cons q t))
theorem RpL.rep (n : Nat) {vs : List V} {ds : List D} (r : RpL K fa F H vs ds) : RpL K fa F H (List.replicate n vs).flatten (List.replicate n ds).flatten := by
  induction n with
  | zero => exact .nil
  | succ n ih =>
    rw [List.replicate_succ, List.replicate_succ, List.flatten_cons, List.flatten_cons]
    exact r.append ih
/-! without defs and classes: the layer's own data -/
mutual
theorem Rp.dp : ∀ (d : D) (v : V), Rp K fa F H v d → d.plain = true → Dp K H v d.py
  | .non, _, h, _ => by cases h; exact .non
  | .bl b, _, h, _ => by cases h; exact .bl b
  | .int i, _, h, _ => by cases h; exact .int i
  | .str x, _, h, _ => by cases h; exact .str x
  | .tup ds, _, h, p => by
    cases h with
    | tup s r => exact .tup s (RpL.dp ds _ r p)
  | .lst ds, _, h, p => by
    cases h with
    | lst f s r => exact .lst (.of s) (RpL.dp ds _ r p)
  | .fn k, _, _, p => by cases p
  | .ty n, _, _, p => by cases p
  | .scr n, _, _, p => by cases p
theorem RpL.dp : ∀ (ds : List D) (vs : List V), RpL K fa F H vs ds → plainL ds = true → DpAll K H vs (pyL ds)
  | [], _, h, _ => by cases h; exact .nil
  | d :: ds, _, h, p => by
    cases h with
    | cons r t =>
      have q : (d.plain && plainL ds) = true := p
      rw [Bool.and_eq_true] at q
      exact .cons (Rp.dp d _ r q.1) (RpL.dp ds _ t q.2)
end
end
mutual
theorem plain_py : ∀ d : D, d.py.plain = true
  | .non => rfl
  | .bl _ => rfl
  | .int _ => rfl
  | .str _ => rfl
  | .tup ds => plainL_py ds
  | .lst ds => plainL_py ds
  | .fn _ => rfl
  | .ty _ => rfl
  | .scr _ => rfl
theorem plainL_py : ∀ ds : List D, PyData.plainAll (pyL ds) = true
  | [] => rfl
  | d :: ds => by
    show (d.py.plain && PyData.plainAll (pyL ds)) = true
    rw [plain_py d, plainL_py ds]; rfl
end
mutual
theorem dep_py : ∀ d : D, d.py.depth = d.dep
  | .non => rfl
  | .bl _ => rfl
  | .int _ => rfl
  | .str _ => rfl
  | .tup ds => by show PyData.depthAll (pyL ds) + 1 = depL ds + 1; rw [depL_py ds]
  | .lst ds => by show PyData.depthAll (pyL ds) + 1 = depL ds + 1; rw [depL_py ds]
  | .fn _ => rfl
  | .ty _ => rfl
  | .scr _ => rfl
theorem depL_py : ∀ ds : List D, PyData.depthAll (pyL ds) = depL ds
  | [] => rfl
  | d :: ds => by show max d.py.depth (PyData.depthAll (pyL ds)) = max d.dep (depL ds); rw [dep_py d, depL_py ds]
end
mutual
theorem eqv_py : ∀ x y : D, x.plain = true → y.plain = true → PyData.eqv x.py y.py = x.eqv y
  | .non, .non, _, _ | .bl _, .bl _, _, _ | .bl _, .int _, _, _ | .int _, .bl _, _, _ | .int _, .int _, _, _ | .str _, .str _, _, _ => rfl
  | .tup l, .tup m, p, q => eqvL_py l m p q
  | .lst l, .lst m, p, q => eqvL_py l m p q
  | .non, .bl _, _, _ | .non, .int _, _, _ | .non, .str _, _, _ | .non, .tup _, _, _ | .non, .lst _, _, _ => rfl
  | .bl _, .non, _, _ | .bl _, .str _, _, _ | .bl _, .tup _, _, _ | .bl _, .lst _, _, _ => rfl
  | .int _, .non, _, _ | .int _, .str _, _, _ | .int _, .tup _, _, _ | .int _, .lst _, _, _ => rfl
  | .str _, .non, _, _ | .str _, .bl _, _, _ | .str _, .int _, _, _ | .str _, .tup _, _, _ | .str _, .lst _, _, _ => rfl
  | .tup _, .non, _, _ | .tup _, .bl _, _, _ | .tup _, .int _, _, _ | .tup _, .str _, _, _ | .tup _, .lst _, _, _ => rfl
  | .lst _, .non, _, _ | .lst _, .bl _, _, _ | .lst _, .int _, _, _ | .lst _, .str _, _, _ | .lst _, .tup _, _, _ => rfl
  | .fn _, _, p, _ => by cases p
  | .ty _, _, p, _ => by cases p
  | .scr _, _, p, _ => by cases p
  | _, .fn _, _, q => by cases q
  | _, .ty _, _, q => by cases q
  | _, .scr _, _, q => by cases q
theorem eqvL_py : ∀ l m : List D, plainL l = true → plainL m = true → PyData.eqvAll (pyL l) (pyL m) = eqvL l m
  | [], [], _, _ => rfl
  | [], _ :: _, _, _ => rfl
  | _ :: _, [], _, _ => rfl
  | x :: xs, y :: ys, p, q => by
    have p' : (x.plain && plainL xs) = true := p
    have q' : (y.plain && plainL ys) = true := q
    rw [Bool.and_eq_true] at p' q'
    show (PyData.eqv x.py y.py && PyData.eqvAll (pyL xs) (pyL ys)) = (x.eqv y && eqvL xs ys)
    rw [eqv_py x y p'.1 q'.1, eqvL_py xs ys p'.2 q'.2]
end
theorem any_py {x : D} (hx : x.plain = true) : ∀ {l : List D}, plainL l = true → (pyL l).any (fun z => PyData.eqv z x.py) = l.any fun z => z.eqv x
  | [], _ => rfl
  | y :: r, p => by
    have p' : (y.plain && plainL r) = true := p
    rw [Bool.and_eq_true] at p'
    show (PyData.eqv y.py x.py || (pyL r).any _) = (y.eqv x || r.any _)
    rw [eqv_py y x p'.1 hx, any_py hx p'.2]
end RX
set_option Elab.async false
set_option linter.all false
set_option maxRecDepth 100000
set_option maxHeartbeats 4000000
/-! RXc: slots, states, results; the readings' one form. -/
namespace RX
open PySem PySem.Spec PyProof.Rows L2
/-- what is fixed while a body runs: the heap and the frozen lists at the entry, the slots that hold the caller's lists; pin: what else stands as it is (a list that a comprehension makes) -/
structure Gh where
  H0 : Hp
  F0 : Addr → Prop
  pars : List (Nat × Addr)
  pin : Hp := fun _ => none
/-- where the exceptions' classes stand; the slot, address, class and dict of the exception that a suite holds -/
structure Cc where
  ca : Nat → Addr
  ex : Option (Nat × Addr × Value × Option Addr)
/-- an exception's class and dict say c and fs -/
def ExnR (K : PySem.W.Frag) (fa : Nat → Addr) (ca : Cc) (F : Addr → Prop) (H : Hp) (c : Nat) (fs : List (Str × D)) (cls : Value) (d : Option Addr) : Prop :=
  cls = .ref (ca.ca c) ∧ ∃ (dd : Addr) (gs : List (Str × V)), d = some dd ∧ H dd = some (.xd gs) ∧ ∀ f x, fs.lookup f = some x → ∃ v, gs.lookup f = some v ∧ Rp K fa F H v x
section
variable (K : PySem.W.Frag) (fa : Nat → Addr) (ca : Cc)
inductive SlR (G : Gh) (F : Addr → Prop) (H : Hp) (i : Nat) : Sl → Option (Option V) → Prop
  | none {o : Option (Option V)} : SlR G F H i .none o
  | val {v : V} {d : D} : Rp K fa F H v d → SlR G F H i (.val d) (some (some v))
  | own {a : Addr} {xs : List V} {l : List D} : H a = some (.lst xs) → ¬ F a → RpL K fa F H xs l → G.H0 a = Option.none → SlR G F H i (.own l) (some (some (.ref a)))
  | par {a : Addr} {xs : List V} {l : List D} : H a = some (.lst xs) → ¬ F a → RpL K fa F H xs l → (i, a) ∈ G.pars → SlR G F H i (.par l) (some (some (.ref a)))
  | exn {a : Addr} {c : Nat} {fs : List (Str × D)} {cls : Value} {d : Option Addr} : ca.ex = some (i, a, cls, d) → ExnR K fa ca F H c fs cls d → SlR G F H i (.exn c fs) (some (some (.ref a)))
/-- the slot i holds, as its own, the list at a -/
def OwnA (ρ : Env) (σ : L2.St) (i : Nat) (a : Addr) : Prop := ((∃ l, ρ[i]? = some (.own l)) ∨ ∃ l, ρ[i]? = some (.par l)) ∧ σ[i]? = some (some (.ref a))
structure SR (G : Gh) (F : Addr → Prop) (ρ : Env) (σ : L2.St) (H : Hp) : Prop where
  len : ρ.length = σ.length
  sl : ∀ i s, ρ[i]? = some s → SlR K fa ca G F H i s σ[i]?
  dis : ∀ i j a, OwnA ρ σ i a → OwnA ρ σ j a → i = j
  trk : ∀ a, F a → ∃ xs, H a = some (.lst xs)
  fr : ∀ a o, G.H0 a = some o → (∀ i, (i, a) ∉ G.pars) → H a = some o
  new : ∀ a, F a → G.F0 a ∨ G.H0 a = none
  up : ∀ a, G.F0 a → F a
  par : ∀ p ∈ G.pars, (∃ l, ρ[p.1]? = some (.par l)) ∧ σ[p.1]? = some (some (.ref p.2))
  gp : ∀ p ∈ G.pars, ∃ o, G.H0 p.2 = some o
  pn : ∀ a o, G.pin a = some o → H a = some o ∧ ¬ F a ∧ ∀ i, ¬ OwnA ρ σ i a
/-- a result -/
def RpEx (G : Gh) (F : Addr → Prop) (ρ : Env) (σ : L2.St) (H : Hp) : Ex → V → Prop
  | .d x, v => Rp K fa F H v x
  | .fresh l, v => ∃ b xs, v = .ref b ∧ H b = some (.lst xs) ∧ RpL K fa F H xs l ∧ ¬ F b ∧ (G.H0 b = none ∧ G.pin b = none) ∧ ∀ i, ¬ OwnA ρ σ i b
/-- what is wanted of a result: ok of a value, W of an exception -/
def RPost {α : Type} (G : Gh) (F : Addr → Prop) (H : Hp) (σ : L2.St) (W : WX) (x : R α) (ok : α → Env → Prop) : Prop := match x with
  | .ok a ρ => ok a ρ
  | .exc c fs ρ => ∀ F' H' cls d, SR K fa ca G F' ρ σ H' → Ext F H F' H' → ExnR K fa ca F' H' c fs cls d → W cls d σ H'
  | .stuck => False
def tSem (W : WX) (d : Den) (C : Calls) : TE := fun σ H Q => ∃ G F ρ, SR K fa ca G F ρ σ H ∧ RPost K fa ca G F H σ W (d C ρ) fun r ρ' => ∀ v F' H', SR K fa ca G F' ρ' σ H' → Ext F H F' H' → RpEx K fa G F' ρ' σ H' r v → Q v H'
def tSemT (W : WX) (d : TD) (C : Calls) : TT := fun σ H Q => ∃ G F ρ, SR K fa ca G F ρ σ H ∧ RPost K fa ca G F H σ W (d C ρ) fun b ρ' => ∀ F' H', SR K fa ca G F' ρ' σ H' → Ext F H F' H' → Q b H'
def tSemA (W : WX) (ds : List Den) (C : Calls) : TA := fun σ H Q => ∃ G F ρ, SR K fa ca G F ρ σ H ∧ RPost K fa ca G F H σ W (dAll ds C ρ) fun xs ρ' => ∀ vs F' H', SR K fa ca G F' ρ' σ H' → Ext F H F' H' → RpL K fa F' H' vs xs → Q vs H'
end
section
variable {K : PySem.W.Frag} {fa : Nat → Addr} {ca : Cc} {G : Gh} {F F' : Addr → Prop} {H H' : Hp} {σ : L2.St} {ρ ρ' : Env} {W : WX}
theorem RPost.bind {α β : Type} {x : R α} {f : α → Env → R β} {ok : β → Env → Prop} (h : RPost K fa ca G F H σ W (x.bind f) ok) : RPost K fa ca G F H σ W x fun a ρ1 => RPost K fa ca G F H σ W (f a ρ1) ok := by
  cases x with
  | ok a ρ => exact h
  | exc c fs ρ => exact h
  | stuck => exact h
theorem RPost.mono {α : Type} {x : R α} {ok ok' : α → Env → Prop} (h : RPost K fa ca G F H σ W x ok) (i : ∀ a ρ1, ok a ρ1 → ok' a ρ1) : RPost K fa ca G F H σ W x ok' := by
  cases x with
  | ok a ρ => exact i _ _ h
  | exc c fs ρ => exact h
  | stuck => exact h
/-- seen from a later heap -/
theorem RPost.later {α : Type} {x : R α} {ok : α → Env → Prop} (h : RPost K fa ca G F H σ W x ok) (e : Ext F H F' H') : RPost K fa ca G F' H' σ W x ok := by
  cases x with
  | ok a ρ => exact h
  | exc c fs ρ => exact fun F2 H2 cls d S e2 q => h F2 H2 cls d S (e.trans e2) q
  | stuck => exact h
theorem ExnR.ext {c : Nat} {fs : List (Str × D)} {cls : Value} {d : Option Addr} (e : Ext F H F' H') (h : ExnR K fa ca F H c fs cls d) : ExnR K fa ca F' H' c fs cls d := by
  obtain ⟨h1, dd, gs, h2, h3, h4⟩ := h
  exact ⟨h1, dd, gs, h2, e.xd _ _ h3, fun f x q => by
    obtain ⟨v, q1, q2⟩ := h4 f x q
    exact ⟨v, q1, Rp.ext e _ _ q2⟩⟩
theorem SlR.ext {i : Nat} {s : Sl} {o : Option (Option V)} (e : Ext F H F' H') (k : ∀ a xs, H a = some (.lst xs) → ¬ F a → (G.H0 a = Option.none ∨ (i, a) ∈ G.pars) → o = some (some (.ref a)) → (∀ d, s ≠ .val d) → H' a = some (.lst xs) ∧ ¬ F' a)
    (h : SlR K fa ca G F H i s o) : SlR K fa ca G F' H' i s o := by
  cases h with
  | none => exact .none
  | val r => exact .val (Rp.ext e _ _ r)
  | own h1 h2 h3 h4 => exact .own (k _ _ h1 h2 (.inl h4) rfl (fun _ z => by cases z)).1 (k _ _ h1 h2 (.inl h4) rfl (fun _ z => by cases z)).2 (RpL.ext e _ _ h3) h4
  | par h1 h2 h3 h4 => exact .par (k _ _ h1 h2 (.inr h4) rfl (fun _ z => by cases z)).1 (k _ _ h1 h2 (.inr h4) rfl (fun _ z => by cases z)).2 (RpL.ext e _ _ h3) h4
  | exn h1 h2 => exact .exn h1 (h2.ext e)
theorem SR.ext (S : SR K fa ca G F ρ σ H) (h : Same H H') : Ext F H F H' := Ext.same h S.trk
theorem SR.same (S : SR K fa ca G F ρ σ H) (h : Same H H') : SR K fa ca G F ρ σ H' where
  len := S.len
  sl := fun i s e => (S.sl i s e).ext (S.ext h) fun a xs q nf _ _ _ => ⟨h _ _ q, nf⟩
  dis := S.dis
  trk := fun a f => by obtain ⟨xs, e⟩ := S.trk a f; exact ⟨xs, h _ _ e⟩
  fr := fun a o e n => h _ _ (S.fr a o e n)
  new := S.new
  up := S.up
  par := S.par
  gp := S.gp
  pn := fun a o e => ⟨h _ _ (S.pn a o e).1, (S.pn a o e).2⟩
theorem SR.npin (S : SR K fa ca G F ρ σ H) {b : Addr} (h : H b = none) : G.pin b = none := by
  cases e : G.pin b with
  | none => rfl
  | some o => rw [(S.pn b o e).1] at h; cases h
theorem SR.nfr (S : SR K fa ca G F ρ σ H) {b : Addr} (h : H b = none) : G.H0 b = none := by
  cases e : G.H0 b with
  | none => rfl
  | some o =>
    by_cases q : ∃ i, (i, b) ∈ G.pars
    · obtain ⟨i, q⟩ := q
      obtain ⟨⟨l, e1⟩, e2⟩ := S.par _ q
      have := S.sl _ _ e1
      rw [e2] at this
      cases this with
      | par h1 => rw [h1] at h; cases h
    · have := S.fr b o e fun i z => q ⟨i, z⟩
      rw [this] at h; cases h
/-- a slot's own list is there -/
theorem SR.ownAt (S : SR K fa ca G F ρ σ H) {i : Nat} {a : Addr} (h : OwnA ρ σ i a) : (∃ xs, H a = some (.lst xs)) ∧ ¬ F a := by
  obtain ⟨h, e⟩ := h
  rcases h with ⟨l, h⟩ | ⟨l, h⟩
  · have := S.sl _ _ h
    rw [e] at this
    cases this with
    | own h1 h2 => exact ⟨⟨_, h1⟩, h2⟩
  · have := S.sl _ _ h
    rw [e] at this
    cases this with
    | par h1 h2 => exact ⟨⟨_, h1⟩, h2⟩
theorem SR.nown (S : SR K fa ca G F ρ σ H) {b : Addr} (h : H b = none) (i : Nat) : ¬ OwnA ρ σ i b := fun q => by
  obtain ⟨⟨xs, e⟩, _⟩ := S.ownAt q
  rw [e] at h; cases h
theorem SR.nF (S : SR K fa ca G F ρ σ H) {b : Addr} (h : H b = none) : ¬ F b := fun q => by
  obtain ⟨xs, e⟩ := S.trk _ q
  rw [e] at h; cases h
/-- one more list is never changed any more -/
theorem SR.addF (S : SR K fa ca G F ρ σ H) {b : Addr} {xs : List V} (h : H b = some (.lst xs)) (h0 : G.H0 b = none) (hp : G.pin b = none) (no : ∀ i, ¬ OwnA ρ σ i b) :
    SR K fa ca G (fun a => F a ∨ a = b) ρ σ H ∧ Ext F H (fun a => F a ∨ a = b) H := by
  have e : Ext F H (fun a => F a ∨ a = b) H := ⟨fun a f => ⟨.inl f, rfl⟩, fun _ _ q => q, fun _ _ _ q => q, fun _ _ q => q⟩
  refine ⟨⟨S.len, fun i s q => ?_, S.dis, fun a f => ?_, S.fr, fun a f => ?_, fun a f => .inl (S.up a f), S.par, S.gp, fun a o q => ⟨(S.pn a o q).1, fun z => (show F a ∨ a = b from z).elim (S.pn a o q).2.1 (fun y => by rw [y, hp] at q; cases q), (S.pn a o q).2.2⟩⟩, e⟩
  · have hs := S.sl i s q
    generalize eo : σ[i]? = o at hs
    cases hs with
    | none => exact .none
    | val r => exact .val (Rp.ext e _ _ r)
    | own h1 h2 h3 h4 =>
      refine .own h1 (fun z => ?_) (RpL.ext e _ _ h3) h4
      rcases z with z | z
      · exact h2 z
      · subst z; exact no i ⟨.inl ⟨_, q⟩, eo⟩
    | par h1 h2 h3 h4 =>
      refine .par h1 (fun z => ?_) (RpL.ext e _ _ h3) h4
      rcases z with z | z
      · exact h2 z
      · subst z; exact no i ⟨.inr ⟨_, q⟩, eo⟩
    | exn h1 h2 => exact .exn h1 (h2.ext e)
  · rcases f with f | f
    · exact S.trk a f
    · exact ⟨xs, by rw [f]; exact h⟩
  · rcases f with f | f
    · exact S.new a f
    · exact .inr (by rw [f]; exact h0)
/-- a result as data: a new list is shared from now on -/
theorem SR.frz (S : SR K fa ca G F ρ σ H) {r : Ex} {v : V} (h : RpEx K fa G F ρ σ H r v) : ∃ F1, SR K fa ca G F1 ρ σ H ∧ Ext F H F1 H ∧ Rp K fa F1 H v r.frz := by
  cases r with
  | d x => exact ⟨F, S, Ext.refl, h⟩
  | fresh l =>
    obtain ⟨b, xs, rfl, h1, h2, h3, h4, h5⟩ := h
    obtain ⟨S1, e1⟩ := S.addF h1 h4.1 h4.2 h5
    exact ⟨_, S1, e1, .lst (.inr rfl) h1 (RpL.ext e1 _ _ h2)⟩
theorem own_drop {i j : Nat} {a : Addr} (h : OwnA (ρ.set i .none) σ j a) : OwnA ρ σ j a := by
  obtain ⟨h, e⟩ := h
  by_cases z : i = j
  · subst z
    by_cases hl : i < ρ.length
    · rw [List.getElem?_set_self hl] at h
      rcases h with ⟨l, h⟩ | ⟨l, h⟩ <;> cases h
    · rw [List.getElem?_eq_none (by rw [List.length_set]; omega)] at h
      rcases h with ⟨l, h⟩ | ⟨l, h⟩ <;> cases h
  · rw [List.getElem?_set_ne z] at h; exact ⟨h, e⟩
/-- a slot forgotten (not the caller's) -/
theorem SR.drop (S : SR K fa ca G F ρ σ H) (i : Nat) (hp : ∀ l, ρ[i]? ≠ some (.par l)) : SR K fa ca G F (ρ.set i .none) σ H where
  len := by rw [List.length_set]; exact S.len
  sl := fun j s e => by
    by_cases h : i = j
    · subst h
      by_cases hl : i < ρ.length
      · rw [List.getElem?_set_self hl] at e; cases e; exact .none
      · rw [List.getElem?_eq_none (by rw [List.length_set]; omega)] at e; cases e
    · rw [List.getElem?_set_ne h] at e; exact S.sl j s e
  dis := fun j k a h1 h2 => S.dis j k a (own_drop h1) (own_drop h2)
  trk := S.trk
  fr := S.fr
  new := S.new
  up := S.up
  par := fun p hm => by
    obtain ⟨⟨l, h1⟩, h2⟩ := S.par p hm
    have z : i ≠ p.1 := fun z => by subst z; exact hp l h1
    exact ⟨⟨l, by rw [List.getElem?_set_ne z]; exact h1⟩, h2⟩
  gp := S.gp
  pn := fun a o q => ⟨(S.pn a o q).1, (S.pn a o q).2.1, fun j h => (S.pn a o q).2.2 j (own_drop h)⟩
theorem OwnA.of_set {i j : Nat} {s : Sl} {a : Addr} (h : i ≠ j) (q : OwnA (ρ.set i s) σ j a) : OwnA ρ σ j a := by
  obtain ⟨q, e⟩ := q
  rw [List.getElem?_set_ne h] at q
  exact ⟨q, e⟩
/-- a slot's description changed: the value stands; not the caller's -/
theorem SR.reset (S : SR K fa ca G F ρ σ H) {i : Nat} {v : V} {d : D} (hp : ∀ l, ρ[i]? ≠ some (.par l)) (hv : σ[i]? = some (some v)) (r : Rp K fa F H v d) : SR K fa ca G F (ρ.set i (.val d)) σ H := by
  have S1 := S.drop i hp
  have hl : i < ρ.length := by rw [S.len]; exact (List.getElem?_eq_some_iff.mp hv).1
  have e0 : (ρ.set i .none).set i (.val d) = ρ.set i (.val d) := by rw [List.set_set]
  have nw : ∀ j a, OwnA (ρ.set i (.val d)) σ j a → OwnA (ρ.set i .none) σ j a := fun j a h => by
    by_cases z : i = j
    · subst z
      obtain ⟨h, _⟩ := h
      rw [List.getElem?_set_self hl] at h
      rcases h with ⟨l, h⟩ | ⟨l, h⟩ <;> cases h
    · obtain ⟨h, e⟩ := h
      rw [List.getElem?_set_ne z] at h
      exact ⟨by rw [List.getElem?_set_ne z]; exact h, e⟩
  refine ⟨by rw [List.length_set]; exact S.len, fun j s e => ?_, fun j k a h1 h2 => S1.dis j k a (nw _ _ h1) (nw _ _ h2), S.trk, S.fr, S.new, S.up, fun p hm => ?_, S.gp, fun a o q => ⟨(S1.pn a o q).1, (S1.pn a o q).2.1, fun j h => (S1.pn a o q).2.2 j (nw _ _ h)⟩⟩
  · by_cases z : i = j
    · subst z
      rw [List.getElem?_set_self hl] at e
      cases e
      rw [hv]
      exact .val r
    · rw [List.getElem?_set_ne z] at e; exact S.sl j s e
  · obtain ⟨⟨l, h1⟩, h2⟩ := S.par p hm
    have z : i ≠ p.1 := fun z => by subst z; exact hp l h1
    exact ⟨⟨l, by rw [List.getElem?_set_ne z]; exact h1⟩, h2⟩
/-- a slot stored -/
theorem SR.store (S : SR K fa ca G F ρ σ H) {i : Nat} {v : V} {r : Ex} (hi : i < ρ.length) (hp : ∀ l, ρ[i]? ≠ some (.par l)) (h : RpEx K fa G F ρ σ H r v) : SR K fa ca G F (ρ.set i r.sl) (σ.set i (some v)) H := by
  have hσ : i < σ.length := by rw [← S.len]; exact hi
  have off : ∀ j a, i ≠ j → OwnA (ρ.set i r.sl) (σ.set i (some v)) j a → OwnA ρ σ j a := fun j a z h => by
    obtain ⟨h, e⟩ := h
    rw [List.getElem?_set_ne z] at h e
    exact ⟨h, e⟩
  refine ⟨by rw [List.length_set, List.length_set]; exact S.len, fun j s e => ?_, fun j k a h1 h2 => ?_, S.trk, S.fr, S.new, S.up, fun p hm => ?_, S.gp, fun a o q => ⟨(S.pn a o q).1, (S.pn a o q).2.1, fun j h1 => ?_⟩⟩
  · by_cases z : i = j
    · subst z
      rw [List.getElem?_set_self hi] at e
      rw [List.getElem?_set_self hσ]
      cases e
      cases r with
      | d x => exact .val h
      | fresh l =>
        obtain ⟨b, xs, rfl, h1, h2, h3, h4, h5⟩ := h
        exact .own h1 h3 h2 h4.1
    · rw [List.getElem?_set_ne z] at e
      rw [List.getElem?_set_ne z]
      exact S.sl j s e
  · by_cases z : i = j
    · by_cases y : i = k
      · rw [← z, ← y]
      · exfalso
        subst z
        have q := off k a y h2
        obtain ⟨h1, e1⟩ := h1
        rw [List.getElem?_set_self hi] at h1
        rw [List.getElem?_set_self hσ] at e1
        cases r with
        | d x => rcases h1 with ⟨l, h1⟩ | ⟨l, h1⟩ <;> cases h1
        | fresh l =>
          obtain ⟨b, xs, rfl, _, _, _, _, h5⟩ := h
          cases e1
          exact h5 k q
    · by_cases y : i = k
      · exfalso
        subst y
        have q := off j a z h1
        obtain ⟨h2, e2⟩ := h2
        rw [List.getElem?_set_self hi] at h2
        rw [List.getElem?_set_self hσ] at e2
        cases r with
        | d x => rcases h2 with ⟨l, h2⟩ | ⟨l, h2⟩ <;> cases h2
        | fresh l =>
          obtain ⟨b, xs, rfl, _, _, _, _, h5⟩ := h
          cases e2
          exact h5 j q
      · exact S.dis j k a (off j a z h1) (off k a y h2)
  · obtain ⟨⟨l, h1⟩, h2⟩ := S.par p hm
    have z : i ≠ p.1 := fun z => by subst z; exact hp l h1
    exact ⟨⟨l, by rw [List.getElem?_set_ne z]; exact h1⟩, by rw [List.getElem?_set_ne z]; exact h2⟩
  · by_cases z : i = j
    · subst z
      obtain ⟨h1, e1⟩ := h1
      rw [List.getElem?_set_self hi] at h1
      rw [List.getElem?_set_self hσ] at e1
      cases r with
      | d x => rcases h1 with ⟨l, h1⟩ | ⟨l, h1⟩ <;> cases h1
      | fresh l =>
        obtain ⟨b, xs, rfl, _, _, _, h4, _⟩ := h
        cases e1
        rw [h4.2] at q; cases q
    · exact (S.pn a o q).2.2 j (off j a z h1)
/-- a slot's list changed in place -/
inductive Mine : Sl → List D → (List D → Sl) → Prop
  | own (l : List D) : Mine (.own l) l .own
  | par (l : List D) : Mine (.par l) l .par
theorem SR.mine (S : SR K fa ca G F ρ σ H) {i : Nat} {s : Sl} {l : List D} {mk : List D → Sl} (m : Mine s l mk) (e : ρ[i]? = some s) : ∃ a xs, σ[i]? = some (some (.ref a)) ∧ H a = some (.lst xs) ∧ ¬ F a ∧ RpL K fa F H xs l := by
  have h := S.sl i s e
  cases m with
  | own l =>
    generalize σ[i]? = o at h
    cases h with
    | own h1 h2 h3 h4 => exact ⟨_, _, rfl, h1, h2, h3⟩
  | par l =>
    generalize σ[i]? = o at h
    cases h with
    | par h1 h2 h3 h4 => exact ⟨_, _, rfl, h1, h2, h3⟩
theorem SR.write (S : SR K fa ca G F ρ σ H) {i : Nat} {s : Sl} {l m : List D} {mk : List D → Sl} {a : Addr} {ys : List V} (M : Mine s l mk) (e : ρ[i]? = some s) (ea : σ[i]? = some (some (.ref a))) (r : RpL K fa F H ys m) :
    SR K fa ca G F (ρ.set i (mk m)) σ (upd H a (.lst ys)) ∧ Ext F H F (upd H a (.lst ys)) := by
  have hi : i < ρ.length := (List.getElem?_eq_some_iff.mp e).1
  have own : OwnA ρ σ i a := by
    cases M with
    | own l => exact ⟨.inl ⟨_, e⟩, ea⟩
    | par l => exact ⟨.inr ⟨_, e⟩, ea⟩
  obtain ⟨⟨xs, hx⟩, nf⟩ := S.ownAt own
  have ne : ∀ {b : Addr} {o : HO}, H b = some o → (∀ zs, o ≠ .lst zs) → b ≠ a := fun {b o} q d z => by subst z; rw [hx] at q; cases q; exact d _ rfl
  have E : Ext F H F (upd H a (.lst ys)) := ⟨fun b f => ⟨f, upd_ne fun z => nf (z ▸ f)⟩, fun b zs q => by rw [upd_ne (ne q fun _ z => by cases z)]; exact q, fun b o u q => by rw [upd_ne (ne q fun _ z => by cases z)]; exact q, fun b fs q => by rw [upd_ne (ne q fun _ z => by cases z)]; exact q⟩
  have back : ∀ j b, OwnA (ρ.set i (mk m)) σ j b → OwnA ρ σ j b := fun j b q => by
    by_cases z : i = j
    · subst z
      obtain ⟨_, q2⟩ := q
      rw [ea] at q2
      cases q2
      exact own
    · exact q.of_set z
  refine ⟨⟨by rw [List.length_set]; exact S.len, fun j t q => ?_, fun j k b h1 h2 => S.dis j k b (back _ _ h1) (back _ _ h2), fun b f => ?_, fun b o q n => ?_, S.new, S.up, fun p hm => ?_, S.gp, fun b o q => ⟨by rw [upd_ne fun (z : b = a) => (S.pn b o q).2.2 i (by rw [z]; exact own)]; exact (S.pn b o q).1, (S.pn b o q).2.1, fun j h => (S.pn b o q).2.2 j (back _ _ h)⟩⟩, E⟩
  · by_cases z : i = j
    · subst z
      rw [List.getElem?_set_self hi] at q
      cases q
      rw [ea]
      have h := S.sl i s e
      rw [ea] at h
      cases M with
      | own l =>
        cases h with
        | own h1 h2 h3 h4 => exact .own upd_same h2 (RpL.ext E _ _ r) h4
      | par l =>
        cases h with
        | par h1 h2 h3 h4 => exact .par upd_same h2 (RpL.ext E _ _ r) h4
    · rw [List.getElem?_set_ne z] at q
      have h := S.sl j t q
      generalize eo : σ[j]? = o at h
      cases h with
      | none => exact .none
      | val r => exact .val (Rp.ext E _ _ r)
      | own h1 h2 h3 h4 =>
        rename_i b zs l'
        have hb : b ≠ a := fun y => by subst y; exact z (S.dis _ _ _ own ⟨.inl ⟨_, q⟩, eo⟩)
        exact .own (by rw [upd_ne hb]; exact h1) h2 (RpL.ext E _ _ h3) h4
      | par h1 h2 h3 h4 =>
        rename_i b zs l'
        have hb : b ≠ a := fun y => by subst y; exact z (S.dis _ _ _ own ⟨.inr ⟨_, q⟩, eo⟩)
        exact .par (by rw [upd_ne hb]; exact h1) h2 (RpL.ext E _ _ h3) h4
      | exn h1 h2 => exact .exn h1 (h2.ext E)
  · obtain ⟨zs, q⟩ := S.trk b f
    exact ⟨zs, by rw [(E.fz b f).2]; exact q⟩
  · have hb : b ≠ a := fun y => by
      subst y
      have h := S.sl i s e
      rw [ea] at h
      cases M with
      | own l =>
        cases h with
        | own h1 h2 h3 h4 => rw [h4] at q; cases q
      | par l =>
        cases h with
        | par h1 h2 h3 h4 => exact n i h4
    rw [upd_ne hb]
    exact S.fr b o q n
  · obtain ⟨⟨l', h1⟩, h2⟩ := S.par p hm
    refine ⟨?_, h2⟩
    by_cases z : i = p.1
    · rw [← z] at h1
      rw [e] at h1
      cases M with
      | own l => cases h1
      | par l => exact ⟨m, by rw [← z, List.getElem?_set_self hi]⟩
    · exact ⟨l', by rw [List.getElem?_set_ne z]; exact h1⟩
theorem RpEx.of_new {r : Ex} {v : V} (S : SR K fa ca G F ρ σ H) (h : Same H H') (q : match r with
    | .d x => Rp K fa F H' v x
    | .fresh l => ∃ b xs, v = .ref b ∧ H b = none ∧ H' b = some (.lst xs) ∧ RpL K fa F H' xs l) : RpEx K fa G F ρ σ H' r v := by
  cases r with
  | d x => exact q
  | fresh l =>
    obtain ⟨b, xs, rfl, h0, h1, h2⟩ := q
    exact ⟨b, xs, rfl, h1, h2, S.nF h0, ⟨S.nfr h0, S.npin h0⟩, S.nown h0⟩
end
end RX
set_option Elab.async false
set_option linter.all false
set_option maxRecDepth 100000
set_option maxHeartbeats 4000000
/-! RXd: expressions. -/
namespace RX
open PySem PySem.Spec PyProof.Rows L2
def NewR (K : PySem.W.Frag) (fa : Nat → Addr) (F : Addr → Prop) (H H' : Hp) : Ex → V → Prop
  | .d x, v => Rp K fa F H' v x
  | .fresh l, v => ∃ b xs, v = .ref b ∧ H b = none ∧ H' b = some (.lst xs) ∧ RpL K fa F H' xs l
def Trk (F : Addr → Prop) (H : Hp) : Prop := ∀ a, F a → ∃ xs, H a = some (.lst xs)
/-- an operator's rule says what f says -/
def OpS (K : PySem.W.Frag) (fa : Nat → Addr) (f : Op2) (r : R2) : Prop := ∀ (x y : D) (e : Ex), f x y = some e → ∀ (F : Addr → Prop) (H : Hp) (v u : V) (Q : VK), Trk F H → Rp K fa F H v x → Rp K fa F H u y →
  (∀ v' H', Same H H' → NewR K fa F H H' e v' → Q v' H') → r v u H Q
def UnS (K : PySem.W.Frag) (fa : Nat → Addr) (f : Op1) (r : V → Hp → VK → Prop) : Prop := ∀ (x : D) (e : Ex), f x = some e → ∀ (F : Addr → Prop) (H : Hp) (v : V) (Q : VK), Trk F H → Rp K fa F H v x →
  (∀ v' H', Same H H' → NewR K fa F H H' e v' → Q v' H') → r v H Q
abbrev SimE (fa : Nat → Addr) (ca : Cc) (W : WX) (C : Calls) (X : Cx) (e : Expr) (d : Den) : Prop := PE X e (tSem X.K fa ca W d C)
abbrev SimT (fa : Nat → Addr) (ca : Cc) (W : WX) (C : Calls) (X : Cx) (e : Expr) (d : TD) : Prop := PT X e (tSemT X.K fa ca W d C)
abbrev SimA (fa : Nat → Addr) (ca : Cc) (W : WX) (C : Calls) (X : Cx) (es : List Expr) (ds : List Den) : Prop := PA X es (tSemA X.K fa ca W ds C)
theorem pe_le {X : Cx} {e : Expr} {t t' : TE} (h : PE X e t) (i : ∀ σ H Q, t' σ H Q → t σ H Q) : PE X e t' := ⟨fun pins s σ H Q I q => h.run pins s σ H Q I (i _ _ _ q)⟩
theorem pt_le {X : Cx} {e : Expr} {t t' : TT} (h : PT X e t) (i : ∀ σ H Q, t' σ H Q → t σ H Q) : PT X e t' := ⟨fun pins s σ H Q I q => h.run pins s σ H Q I (i _ _ _ q)⟩
theorem pw_le {X : Cx} {e : Expr} {t t' : TT} (h : PW X e t) (i : ∀ σ H Q, t' σ H Q → t σ H Q) : PW X e t' := ⟨fun wh pins s σ H Q I q => h.run wh pins s σ H Q I (i _ _ _ q)⟩
theorem pa_le {X : Cx} {es : List Expr} {t t' : TA} (h : PA X es t) (i : ∀ σ H Q, t' σ H Q → t σ H Q) : PA X es t' := ⟨fun pos pins s σ H Q I q => h.run pos pins s σ H Q I (i _ _ _ q)⟩
section
variable {fa : Nat → Addr} {ca : Cc} {W : WX} {C : Calls} {X : Cx} {G : Gh} {F F' : Addr → Prop} {H H' : Hp} {σ : L2.St} {ρ ρ' : Env} {K : PySem.W.Frag}
/-- from what an operator makes to a result -/
theorem fin_new {e : Ex} {Q : VK} {H0 : Hp} {F0 : Addr → Prop} (S : SR K fa ca G F ρ σ H) (E : Ext F0 H0 F H)
    (q : ∀ v F' H', SR K fa ca G F' ρ σ H' → Ext F0 H0 F' H' → RpEx K fa G F' ρ σ H' e v → Q v H') {v' : V} {H' : Hp} (h : Same H H') (n : NewR K fa F H H' e v') : Q v' H' :=
  q v' F H' (S.same h) (E.trans (S.ext h)) (RpEx.of_new S h (by cases e <;> exact n))
theorem sim_op {op : Operator} {a b : Expr} {da db : Den} {f : Op2} {r : R2} {pos : Pos} (ho : OpR X (binaryOp op) r) (hs : OpS X.K fa f r) (ha : SimE fa ca W C X a da) (hb : SimE fa ca W C X b db) : SimE fa ca W C X (.BinOp a op b pos) (dOp f da db) := by
  refine pe_le (pe_op ho ha hb) fun σ H Q h => ?_
  obtain ⟨G, F, ρ, S, h⟩ := h
  refine ⟨G, F, ρ, S, h.bind.mono fun x ρ1 h1 v F1 H1 S1 E1 r1 => ?_⟩
  obtain ⟨F1, S1, E1', p1⟩ := S1.frz r1
  refine ⟨G, F1, ρ1, S1, (h1.bind.later (E1.trans E1')).mono fun y ρ2 h2 u F2 H2 S2 E2 r2 => ?_⟩
  obtain ⟨F2, S2, E2', p2⟩ := S2.frz r2
  cases e : f x.frz y.frz with
  | none => rw [e] at h2; exact h2.elim
  | some z =>
    rw [e] at h2
    exact hs _ _ _ e F2 H2 v u Q S2.trk (Rp.ext (E2.trans E2') _ _ p1) p2 fun v' H' sm n => fin_new (S2) (((E1.trans E1').trans E2).trans E2') h2 sm n
theorem sim_cmp {op : CmpOp} {a b : Expr} {da db : Den} {f : Op2} {r : R2} {pos : Pos} (ho : OpR X (compareOp op) r) (hs : OpS X.K fa f r) (hm : behindInMarks op b = false) (ha : SimE fa ca W C X a da) (hb : SimE fa ca W C X b db) : SimE fa ca W C X (.Compare a [op] [b] pos) (dOp f da db) := by
  refine pe_le (pe_cmpR ho ha hb hm) fun σ H Q h => ?_
  obtain ⟨G, F, ρ, S, h⟩ := h
  refine ⟨G, F, ρ, S, h.bind.mono fun x ρ1 h1 v F1 H1 S1 E1 r1 => ?_⟩
  obtain ⟨F1, S1, E1', p1⟩ := S1.frz r1
  refine ⟨G, F1, ρ1, S1, (h1.bind.later (E1.trans E1')).mono fun y ρ2 h2 u F2 H2 S2 E2 r2 => ?_⟩
  obtain ⟨F2, S2, E2', p2⟩ := S2.frz r2
  cases e : f x.frz y.frz with
  | none => rw [e] at h2; exact h2.elim
  | some z =>
    rw [e] at h2
    exact hs _ _ _ e F2 H2 v u Q S2.trk (Rp.ext (E2.trans E2') _ _ p1) p2 fun v' H' sm n => fin_new (S2) (((E1.trans E1').trans E2).trans E2') h2 sm n
theorem sim_un {op : UnaryOp} {a : Expr} {da : Den} {f : Op1} {r : V → Hp → VK → Prop} {pos : Pos} (ho : UnR X (unaryOp op) r) (hs : UnS X.K fa f r) (ha : SimE fa ca W C X a da) (pu : ∀ {t}, PE X a t → PE X (.UnaryOp op a pos) (tUn r t)) : SimE fa ca W C X (.UnaryOp op a pos) (dUn f da) := by
  refine pe_le (pu ha) fun σ H Q h => ?_
  obtain ⟨G, F, ρ, S, h⟩ := h
  refine ⟨G, F, ρ, S, h.bind.mono fun x ρ1 h1 v F1 H1 S1 E1 r1 => ?_⟩
  obtain ⟨F1, S1, E1', p1⟩ := S1.frz r1
  cases e : f x.frz with
  | none => rw [e] at h1; exact h1.elim
  | some z =>
    rw [e] at h1
    exact hs _ _ e F1 H1 v Q S1.trk p1 fun v' H' sm n => fin_new S1 (E1.trans E1') h1 sm n
theorem sim_chain {op op' : CmpOp} {a b c : Expr} {da db dc : Den} {f g : Op2} {r r' : R2} {pos : Pos} (ho : OpR X (compareOp op) r) (ho' : OpR X (compareOp op') r') (hs : OpS X.K fa f r) (hs' : OpS X.K fa g r')
    (pc : ∀ {ta tb tc}, PE X a ta → PE X b tb → PE X c tc → PE X (.Compare a [op, op'] [b, c] pos) (tChain r r' ta tb tc)) (ha : SimE fa ca W C X a da) (hb : SimE fa ca W C X b db) (hc : SimE fa ca W C X c dc) :
    SimE fa ca W C X (.Compare a [op, op'] [b, c] pos) (dChain f g da db dc) := by
  refine pe_le (pc ha hb hc) fun σ H Q h => ?_
  obtain ⟨G, F, ρ, S, h⟩ := h
  refine ⟨G, F, ρ, S, h.bind.mono fun x ρ1 h1 v F1 H1 S1 E1 r1 => ?_⟩
  obtain ⟨F1, S1, E1', p1⟩ := S1.frz r1
  refine ⟨G, F1, ρ1, S1, (h1.bind.later (E1.trans E1')).mono fun y ρ2 h2 u F2 H2 S2 E2 r2 => ?_⟩
  obtain ⟨F2, S2, E2', p2⟩ := S2.frz r2
  have Ea := ((E1.trans E1').trans E2).trans E2'
  cases e : f x.frz y.frz with
  | none => rw [e] at h2; exact h2.elim
  | some z =>
    rw [e] at h2
    refine hs _ _ _ e F2 H2 v u _ S2.trk (Rp.ext (E2.trans E2') _ _ p1) p2 fun v' H' sm n => ?_
    cases z with
    | fresh l => exact h2.elim
    | d z =>
      cases z with
      | bl k =>
        cases n
        refine ⟨k, rfl, ?_⟩
        cases k with
        | false =>
          rw [if_neg Bool.false_ne_true]
          exact h2 _ F2 H' (S2.same sm) (Ea.trans (S2.ext sm)) (.bl false)
        | true =>
          rw [if_pos rfl]
          have S3 := S2.same sm
          refine ⟨G, F2, ρ2, S3, (h2.bind.later (Ea.trans (S2.ext sm))).mono fun z ρ3 h3 w F3 H3 S4 E3 r3 => ?_⟩
          obtain ⟨F3, S4, E3', p3⟩ := S4.frz r3
          cases e3 : g y.frz z.frz with
          | none => rw [e3] at h3; exact h3.elim
          | some k =>
            rw [e3] at h3
            exact hs' _ _ _ e3 F3 H3 u w Q S4.trk (Rp.ext (((S2.ext sm).trans E3).trans E3') _ _ p2) p3 fun v' H' sm' n => fin_new S4 (((Ea.trans (S2.ext sm)).trans E3).trans E3') h3 sm' n
      | _ => exact h2.elim
/-! ### names, constants -/
theorem sim_c {e : Expr} {v : V} {x : D} (he : PE X e (tC v)) (r : ∀ F H, Rp X.K fa F H v x) : SimE fa ca W C X e (dC x) := by
  refine pe_le he fun σ H Q h => ?_
  obtain ⟨G, F, ρ, S, h⟩ := h
  exact h v F H S Ext.refl (r _ _)
theorem sim_var {i : Nat} {e : Expr} (he : PE X e (tVar i)) : SimE fa ca W C X e (dVar i) := by
  refine pe_le he fun σ H Q h => ?_
  obtain ⟨G, F, ρ, S, h⟩ := h
  unfold dVar at h
  cases e : ρ[i]? with
  | none => rw [e] at h; exact h.elim
  | some s =>
    rw [e] at h
    have q := S.sl i s e
    cases s with
    | val d =>
      generalize eo : σ[i]? = o at q
      cases q with
      | val r => exact ⟨_, eo, h _ F H S Ext.refl r⟩
    | own l =>
      generalize eo : σ[i]? = o at q
      cases q with
      | own h1 h2 h3 h4 =>
        rename_i a xs
        have hp : ∀ l, ρ[i]? ≠ some (.par l) := fun l z => by rw [e] at z; cases z
        have S1 := S.drop i hp
        have no : ∀ j, ¬ OwnA (ρ.set i .none) σ j a := fun j z => by
          by_cases y : i = j
          · subst y
            obtain ⟨z, _⟩ := z
            rw [List.getElem?_set_self (List.getElem?_eq_some_iff.mp e).1] at z
            rcases z with ⟨l, z⟩ | ⟨l, z⟩ <;> cases z
          · exact y (S.dis _ _ _ ⟨.inl ⟨_, e⟩, eo⟩ (z.of_set y))
        obtain ⟨S2, E2⟩ := S1.addF h1 h4 (by
          cases ep : G.pin a with
          | none => rfl
          | some o => exact absurd ⟨.inl ⟨_, e⟩, eo⟩ ((S.pn a o ep).2.2 i)) no
        have r : Rp X.K fa (fun b => F b ∨ b = a) H (.ref a) (.lst l) := .lst (.inr rfl) h1 (RpL.ext E2 _ _ h3)
        have S3 := S2.reset (i := i) (v := .ref a) (d := .lst l) (fun m z => by
          rw [List.getElem?_set_self (List.getElem?_eq_some_iff.mp e).1] at z; cases z) eo r
        rw [List.set_set] at S3
        exact ⟨_, eo, h _ _ H S3 E2 r⟩
    | _ => exact h.elim
/-! ### and, or, not, if -/
theorem sim_if {c a b : Expr} {t : TD} {da db : Den} {pos : Pos} (hc : SimT fa ca W C X c t) (ha : SimE fa ca W C X a da) (hb : SimE fa ca W C X b db) : SimE fa ca W C X (.IfExp c a b pos) (dIf t da db) := by
  refine pe_le (pe_ifExp hc ha hb) fun σ H Q h => ?_
  obtain ⟨G, F, ρ, S, h⟩ := h
  refine ⟨G, F, ρ, S, h.bind.mono fun k ρ1 h1 F1 H1 S1 E1 => ?_⟩
  cases k with
  | true => rw [if_pos rfl] at h1 ⊢; exact ⟨G, F1, ρ1, S1, (h1.later E1).mono fun z ρ2 h2 v F2 H2 S2 E2 r2 => h2 v F2 H2 S2 (E1.trans E2) r2⟩
  | false => rw [if_neg Bool.false_ne_true] at h1 ⊢; exact ⟨G, F1, ρ1, S1, (h1.later E1).mono fun z ρ2 h2 v F2 H2 S2 E2 r2 => h2 v F2 H2 S2 (E1.trans E2) r2⟩
theorem sim_and {a b : Expr} {rest : List Expr} {da db : Den} {pos : Pos} (ha : SimE fa ca W C X a da) (hb : SimE fa ca W C X (.BoolOp .And (b :: rest) pos) db) : SimE fa ca W C X (.BoolOp .And (a :: b :: rest) pos) (dAnd da db) := by
  refine pe_le (pe_and ha hb) fun σ H Q h => ?_
  obtain ⟨G, F, ρ, S, h⟩ := h
  refine ⟨G, F, ρ, S, h.bind.mono fun x ρ1 h1 v F1 H1 S1 E1 r1 => ?_⟩
  obtain ⟨F1, S1, E1', p1⟩ := S1.frz r1
  generalize x.frz = d at h1 p1
  cases d with
  | bl k =>
    cases p1
    refine ⟨k, rfl, ?_⟩
    cases k with
    | true => rw [if_pos rfl]; exact ⟨G, F1, ρ1, S1, (h1.later (E1.trans E1')).mono fun z ρ2 h2 v F2 H2 S2 E2 r2 => h2 v F2 H2 S2 ((E1.trans E1').trans E2) r2⟩
    | false => rw [if_neg Bool.false_ne_true]; exact h1 _ F1 H1 S1 (E1.trans E1') (.bl false)
  | _ => exact h1.elim
theorem sim_or {a b : Expr} {rest : List Expr} {da db : Den} {pos : Pos} (ha : SimE fa ca W C X a da) (hb : SimE fa ca W C X (.BoolOp .Or (b :: rest) pos) db) : SimE fa ca W C X (.BoolOp .Or (a :: b :: rest) pos) (dOr da db) := by
  refine pe_le (pe_or ha hb) fun σ H Q h => ?_
  obtain ⟨G, F, ρ, S, h⟩ := h
  refine ⟨G, F, ρ, S, h.bind.mono fun x ρ1 h1 v F1 H1 S1 E1 r1 => ?_⟩
  obtain ⟨F1, S1, E1', p1⟩ := S1.frz r1
  generalize x.frz = d at h1 p1
  cases d with
  | bl k =>
    cases p1
    refine ⟨k, rfl, ?_⟩
    cases k with
    | false => rw [if_neg Bool.false_ne_true]; exact ⟨G, F1, ρ1, S1, (h1.later (E1.trans E1')).mono fun z ρ2 h2 v F2 H2 S2 E2 r2 => h2 v F2 H2 S2 ((E1.trans E1').trans E2) r2⟩
    | true => rw [if_pos rfl]; exact h1 _ F1 H1 S1 (E1.trans E1') (.bl true)
  | _ => exact h1.elim
theorem sim_not {a : Expr} {da : Den} {pos : Pos} (ha : SimE fa ca W C X a da) : SimE fa ca W C X (.UnaryOp .Not a pos) (dNot da) := by
  refine pe_le (pe_not ha) fun σ H Q h => ?_
  obtain ⟨G, F, ρ, S, h⟩ := h
  refine ⟨G, F, ρ, S, h.bind.mono fun x ρ1 h1 v F1 H1 S1 E1 r1 => ?_⟩
  obtain ⟨F1, S1, E1', p1⟩ := S1.frz r1
  generalize x.frz = d at h1 p1
  cases d with
  | bl k =>
    cases p1
    exact ⟨k, rfl, h1 _ F1 H1 S1 (E1.trans E1') (.bl _)⟩
  | _ => exact h1.elim
/-! ### tests -/
theorem truth_ok {x : D} {b : Bool} (e : truth x = some b) {v : V} (r : Rp K fa F H v x) : TruV K v H b := by
  cases r with
  | non => cases e; rfl
  | bl k => cases e; rfl
  | int i => cases e; rfl
  | str s =>
    have e' : (if s.length ≤ LIM then some ((s.length : Int) != 0) else none) = some b := e
    split at e'
    · rename_i h; cases e'; exact ⟨by rw [sizeLine_eq]; exact h, rfl⟩
    · cases e'
  | tup s r =>
    cases e
    refine .inr (.inl ⟨_, s, ?_⟩)
    cases r <;> rfl
  | lst f s r =>
    cases e
    refine .inl ⟨_, .of s, ?_⟩
    cases r <;> rfl
  | scr s =>
    cases e
    refine .inl ⟨_, s.l, ?_⟩
    rename_i ns
    cases ns <;> rfl
  | fn k => cases e
  | ty n => cases e
theorem sim_tE {e : Expr} {d : Den} (he : SimE fa ca W C X e d) (pt : ∀ {t}, PE X e t → PT X e (fun σ H Q => t σ H fun x H1 => ∃ k, TruV X.K x H1 k ∧ Q k H1)) : SimT fa ca W C X e (tE d) := by
  refine pt_le (pt he) fun σ H Q h => ?_
  obtain ⟨G, F, ρ, S, h⟩ := h
  refine ⟨G, F, ρ, S, h.bind.mono fun x ρ1 h1 v F1 H1 S1 E1 r1 => ?_⟩
  obtain ⟨F1, S1, E1', p1⟩ := S1.frz r1
  cases e : truth x.frz with
  | none => rw [e] at h1; exact h1.elim
  | some k => rw [e] at h1; exact ⟨k, truth_ok e p1, h1 F1 H1 S1 (E1.trans E1')⟩
theorem sim_tNot {a : Expr} {t : TD} {pos : Pos} (ha : SimT fa ca W C X a t) : SimT fa ca W C X (.UnaryOp .Not a pos) (tNot t) := by
  refine pt_le (pt_not ha) fun σ H Q h => ?_
  obtain ⟨G, F, ρ, S, h⟩ := h
  exact ⟨G, F, ρ, S, h.bind.mono fun k ρ1 h1 F1 H1 S1 E1 => h1 F1 H1 S1 E1⟩
abbrev SimW (fa : Nat → Addr) (ca : Cc) (W : WX) (C : Calls) (X : Cx) (e : Expr) (d : TD) : Prop := PW X e (tSemT X.K fa ca W d C)
theorem sim_tAnd {a b : Expr} {rest : List Expr} {t u : TD} {pos : Pos} (ha : SimT fa ca W C X a t) (hb : SimW fa ca W C X (.BoolOp .And (b :: rest) pos) u) : SimW fa ca W C X (.BoolOp .And (a :: b :: rest) pos) (tAnd t u) := by
  refine pw_le (pw_and ha hb) fun σ H Q h => ?_
  obtain ⟨G, F, ρ, S, h⟩ := h
  refine ⟨G, F, ρ, S, h.bind.mono fun k ρ1 h1 F1 H1 S1 E1 => ?_⟩
  cases k with
  | true => rw [if_pos rfl] at h1 ⊢; exact ⟨G, F1, ρ1, S1, (h1.later E1).mono fun z ρ2 h2 F2 H2 S2 E2 => h2 F2 H2 S2 (E1.trans E2)⟩
  | false => rw [if_neg Bool.false_ne_true] at h1 ⊢; exact h1 F1 H1 S1 E1
theorem sim_tOr {a b : Expr} {rest : List Expr} {t u : TD} {pos : Pos} (ha : SimT fa ca W C X a t) (hb : SimW fa ca W C X (.BoolOp .Or (b :: rest) pos) u) : SimW fa ca W C X (.BoolOp .Or (a :: b :: rest) pos) (tOr t u) := by
  refine pw_le (pw_or ha hb) fun σ H Q h => ?_
  obtain ⟨G, F, ρ, S, h⟩ := h
  refine ⟨G, F, ρ, S, h.bind.mono fun k ρ1 h1 F1 H1 S1 E1 => ?_⟩
  cases k with
  | true => rw [if_pos rfl] at h1 ⊢; exact h1 F1 H1 S1 E1
  | false => rw [if_neg Bool.false_ne_true] at h1 ⊢; exact ⟨G, F1, ρ1, S1, (h1.later E1).mono fun z ρ2 h2 F2 H2 S2 E2 => h2 F2 H2 S2 (E1.trans E2)⟩
/-! ### argument lists, displays -/
theorem sim_nil : SimA fa ca W C X [] [] := by
  refine pa_le pa_nil fun σ H Q h => ?_
  obtain ⟨G, F, ρ, S, h⟩ := h
  exact h [] F H S Ext.refl .nil
theorem sim_cons {e : Expr} {es : List Expr} {d : Den} {ds : List Den} (he : SimE fa ca W C X e d) (hr : SimA fa ca W C X es ds) (hs : starEach (e :: es) X.env = (false, eval e X.env) :: starEach es X.env) : SimA fa ca W C X (e :: es) (d :: ds) := by
  refine pa_le (pa_cons he hr hs) fun σ H Q h => ?_
  obtain ⟨G, F, ρ, S, h⟩ := h
  refine ⟨G, F, ρ, S, h.bind.mono fun x ρ1 h1 v F1 H1 S1 E1 r1 => ?_⟩
  obtain ⟨F1, S1, E1', p1⟩ := S1.frz r1
  refine ⟨G, F1, ρ1, S1, (h1.bind.later (E1.trans E1')).mono fun xs ρ2 h2 vs F2 H2 S2 E2 r2 => ?_⟩
  exact h2 _ F2 H2 S2 ((E1.trans E1').trans E2) (.cons (Rp.ext E2 _ _ p1) r2)
theorem same_new {H : Hp} {p : Addr} {o : HO} (h : H p = none) : Same H (upd H p o) := fun b x e => by
  rw [upd_ne (ne_of_none e h)]
  exact e
theorem RPost.eq {α : Type} {x : R α} {ok : α → Env → Prop} (h : RPost K fa ca G F H σ W x ok) : RPost K fa ca G F H σ W x fun a ρ1 => x = .ok a ρ1 ∧ ok a ρ1 := by
  cases x with
  | ok a ρ => exact ⟨rfl, h⟩
  | exc c fs ρ => exact h
  | stuck => exact h
theorem dAll_len : ∀ {ds : List Den} {ρ : Env} {xs : List D} {ρ' : Env}, dAll ds C ρ = .ok xs ρ' → xs.length = ds.length
  | [], _, _, _, e => by cases e; rfl
  | d :: ds, ρ, xs, ρ', e => by
    have e' : ((d C ρ).bind fun x ρ1 => (dAll ds C ρ1).bind fun xs ρ2 => .ok (x.frz :: xs) ρ2) = .ok xs ρ' := e
    cases e1 : d C ρ with
    | exc c fs ρ1 => rw [e1] at e'; cases e'
    | stuck => rw [e1] at e'; cases e'
    | ok x ρ1 =>
      rw [e1] at e'
      have e2 : ((dAll ds C ρ1).bind fun xs ρ2 => .ok (x.frz :: xs) ρ2) = .ok xs ρ' := e'
      cases e3 : dAll ds C ρ1 with
      | exc c fs ρ1 => rw [e3] at e2; cases e2
      | stuck => rw [e3] at e2; cases e2
      | ok ys ρ2 =>
        rw [e3] at e2
        cases e2
        exact congrArg (· + 1) (dAll_len e3)
theorem sim_tup {es : List Expr} {ds : List Den} {x1 : Nat} {pos : Pos} (h : SimA fa ca W C X es ds) (hl : ds.length ≤ 1000) : SimE fa ca W C X (.Tuple es x1 pos) (dTup ds) := by
  refine pe_le (pe_tup h) fun σ H Q h => ?_
  obtain ⟨G, F, ρ, S, h⟩ := h
  refine ⟨G, F, ρ, S, (RPost.bind (x := dAll ds C ρ) h).eq.mono fun xs ρ1 ⟨e, h1⟩ vs F1 H1 S1 E1 r1 => ⟨?_, fun p np => ?_⟩⟩
  · rw [r1.length, dAll_len e, sizeLine_eq]; omega
  · exact h1 _ F1 _ (S1.same (same_new np)) (E1.trans (S1.ext (same_new np))) (.tup (.of upd_same) (RpL.ext (S1.ext (same_new np)) _ _ r1))
theorem sim_lst {es : List Expr} {ds : List Den} {pos : Pos} (h : SimA fa ca W C X es ds) (hl : ds.length ≤ 1000) : SimE fa ca W C X (.List es pos) (dLst ds) := by
  refine pe_le (pe_lst h) fun σ H Q h => ?_
  obtain ⟨G, F, ρ, S, h⟩ := h
  refine ⟨G, F, ρ, S, (RPost.bind (x := dAll ds C ρ) h).eq.mono fun xs ρ1 ⟨e, h1⟩ vs F1 H1 S1 E1 r1 => ⟨?_, fun p np => ?_⟩⟩
  · rw [r1.length, dAll_len e, sizeLine_eq]; omega
  · exact h1 _ F1 _ (S1.same (same_new np)) (E1.trans (S1.ext (same_new np))) (RpEx.of_new (r := .fresh xs) S1 (same_new np) ⟨p, vs, rfl, np, upd_same, RpL.ext (S1.ext (same_new np)) _ _ r1⟩)
end
end RX
set_option Elab.async false
set_option linter.all false
set_option maxRecDepth 100000
set_option maxHeartbeats 4000000
/-! RXe: the operators say what the evaluator says. -/
namespace RX
open PySem PySem.Spec PyProof.Rows L2
theorem lim_eq : (sizeLine : Nat) = LIM := sizeLine_eq
section
variable {X : Cx}
theorem op_or {f : Value → Value → Sem Value} {r r' : R2} (h : OpR X f r) (h' : OpR X f r') : OpR X f (fun x y H Q => r x y H Q ∨ r' x y H Q) := OpR.or h h'
theorem opB {f : Value → Value → Sem Value} {C : Int → Int → Prop} {g : Int → Int → Int}
    (rule : ∀ (i j : Int) (t u : Tok) (s : Shared) (Q : Value → Shared → Prop) (E : Value → Shared → Prop), C i j → Q (.int (g i j) s.toks) { s with toks := s.toks + 1 } → wpAny (model X.prog X.w) X.A (f (.int i t) (.int j u)) Q E s) :
    OpR X f (rI C fun i j => .int (g i j)) := opI rule
theorem op_fdivZ : OpR X (binaryOp .FloorDiv) (rI (fun _ j => divOk j = true) fun i j => .int (i.fdiv j)) := opI fun i j _ _ _ _ _ hc q => by
  unfold divOk at hc
  rw [Bool.and_eq_true, decide_eq_true_eq, decide_eq_true_eq] at hc
  exact floordiv_int hc.1 q (.inl (PyProof.noPylong_of_log2 hc.2))
theorem intBits_le (x : Int) : Builtin.Int.intBits x ≤ x.natAbs.log2 + 1 := by
  unfold Builtin.Int.intBits
  split <;> omega
theorem op_mulZ : OpR X (binaryOp .Mult) (rI (fun i j => mulOk i j = true) fun i j => .int (i * j)) := opI fun i j _ _ _ _ _ hc q => by
  unfold mulOk at hc
  rw [decide_eq_true_eq] at hc
  have h1 := intBits_le i
  have h2 := intBits_le j
  exact mul_int q (CMulX.ok (by unfold CMulX; omega))
/-- == and != of plain data -/
def rEqP (K : PySem.W.Frag) (n : Bool) : R2 := fun x y H Q => ∃ d e, Dp K H x d ∧ Dp K H y e ∧ d.plain = true ∧ e.plain = true ∧ min d.depth e.depth ≤ 64 ∧ Q (.bl (if n then !PyData.eqv d e else PyData.eqv d e)) H
theorem op_eqP (hu : X.A.units + 65 < cLine) : OpR X (compareOp .Eq) (rEqP X.K false) := by
  intro pins s σ H x y v u Q I rx ry h
  obtain ⟨d, e, hd, he, pd, pe, hm, q⟩ := h
  obtain ⟨as, r1⟩ := Dp.reads I d x v hd rx
  obtain ⟨bs, r2⟩ := Dp.reads I e y u he ry
  exact SeqAt.eq_plain r1 r2 pd pe (by omega) ⟨.bl _, H, I, rfl, q⟩
theorem op_neP (hu : X.A.units + 65 < cLine) : OpR X (compareOp .NotEq) (rEqP X.K true) := by
  intro pins s σ H x y v u Q I rx ry h
  obtain ⟨d, e, hd, he, pd, pe, hm, q⟩ := h
  obtain ⟨as, r1⟩ := Dp.reads I d x v hd rx
  obtain ⟨bs, r2⟩ := Dp.reads I e y u he ry
  exact SeqAt.ne_plain r1 r2 pd pe (by omega) ⟨.bl _, H, I, rfl, q⟩
/-- in, not in: of plain data in a list or a tuple -/
def rInP (K : PySem.W.Frag) (n : Bool) : R2 := fun x y H Q => ∃ d ds, Dp K H x d ∧ (Dp K H y (.list ds) ∨ Dp K H y (.tuple ds)) ∧ d.plain = true ∧ PyData.plainAll ds = true ∧ min (PyData.depthAll ds) d.depth ≤ 60 ∧
  Q (.bl (if n then !ds.any (fun z => PyData.eqv z d) else ds.any (fun z => PyData.eqv z d))) H
theorem op_inP (hu : X.A.units + 65 < cLine) : OpR X (compareOp .In) (rInP X.K false) := by
  intro pins s σ H x y v u Q I rx ry h
  obtain ⟨d, ds, hd, he, pd, pe, hm, q⟩ := h
  obtain ⟨as, r1⟩ := Dp.reads I d x v hd rx
  rcases he with he | he
  · obtain ⟨bs, r2⟩ := Dp.reads I _ y u he ry
    exact SeqAt.in_list_data r2 r1 pe pd (by omega) ⟨.bl _, H, I, rfl, q⟩
  · obtain ⟨bs, r2⟩ := Dp.reads I _ y u he ry
    exact SeqAt.in_tuple_data r2 r1 pe pd (by omega) ⟨.bl _, H, I, rfl, q⟩
theorem op_ninP (hu : X.A.units + 65 < cLine) : OpR X (compareOp .NotIn) (rInP X.K true) := by
  intro pins s σ H x y v u Q I rx ry h
  obtain ⟨d, ds, hd, he, pd, pe, hm, q⟩ := h
  obtain ⟨as, r1⟩ := Dp.reads I d x v hd rx
  rcases he with he | he
  · obtain ⟨bs, r2⟩ := Dp.reads I _ y u he ry
    exact SeqAt.notIn_list_data r2 r1 pe pd (by omega) ⟨.bl _, H, I, rfl, q⟩
  · obtain ⟨bs, r2⟩ := Dp.reads I _ y u he ry
    exact SeqAt.notIn_tuple_data r2 r1 pe pd (by omega) ⟨.bl _, H, I, rfl, q⟩
end
section
variable {K : PySem.W.Frag} {fa : Nat → Addr}
theorem nl_get {p : Prop} [Decidable p] {α : Type} {a b : α} (h : (if p then some a else none) = some b) : p ∧ a = b := by
  split at h
  · rename_i q; exact ⟨q, Option.some.inj h⟩
  · cases h
/-- two ints -/
theorem ops_int {f : Op2} {C : Int → Int → Prop} {g : Int → Int → Int} (h : ∀ x y e, f x y = some e → ∃ i j, x = .int i ∧ y = .int j ∧ C i j ∧ e = .d (.int (g i j))) : OpS K fa f (rI C fun i j => .int (g i j)) := by
  intro x y e hf F H v u Q T rx ry q
  obtain ⟨i, j, rfl, rfl, c, rfl⟩ := h x y e hf
  cases rx; cases ry
  exact ⟨i, j, rfl, rfl, c, q _ H (Same.refl H) (.int _)⟩
theorem ops_int0 {f : Op2} {g : Int → Int → Int} (h : ∀ x y e, f x y = some e → ∃ i j, x = .int i ∧ y = .int j ∧ e = .d (.int (g i j))) : OpS K fa f (rI0 fun i j => .int (g i j)) := by
  intro x y e hf F H v u Q T rx ry q
  obtain ⟨i, j, rfl, rfl, rfl⟩ := h x y e hf
  cases rx; cases ry
  exact ⟨i, j, rfl, rfl, q _ H (Same.refl H) (.int _)⟩
theorem ops_bl0 {f : Op2} {g : Int → Int → Bool} (h : ∀ x y e, f x y = some e → ∃ i j, x = .int i ∧ y = .int j ∧ e = .d (.bl (g i j))) : OpS K fa f (rI0 fun i j => .bl (g i j)) := by
  intro x y e hf F H v u Q T rx ry q
  obtain ⟨i, j, rfl, rfl, rfl⟩ := h x y e hf
  cases rx; cases ry
  exact ⟨i, j, rfl, rfl, q _ H (Same.refl H) (.bl _)⟩
theorem s_sub : OpS K fa fSub (rI0 fun i j => .int (i - j)) := ops_int0 fun x y e h => by
  unfold fSub at h; split at h <;> first | exact ⟨_, _, rfl, rfl, (Option.some.inj h).symm⟩ | cases h
theorem s_and : OpS K fa fAnd (rI0 fun i j => .int (Builtin.bitAnd i j)) := ops_int0 fun x y e h => by
  unfold fAnd at h; split at h <;> first | exact ⟨_, _, rfl, rfl, (Option.some.inj h).symm⟩ | cases h
theorem s_or : OpS K fa fOr (rI0 fun i j => .int (Builtin.bitOr i j)) := ops_int0 fun x y e h => by
  unfold fOr at h; split at h <;> first | exact ⟨_, _, rfl, rfl, (Option.some.inj h).symm⟩ | cases h
theorem s_lt : OpS K fa fLt (rI0 fun i j => .bl (decide (i < j))) := ops_bl0 fun x y e h => by
  unfold fLt at h; split at h <;> first | exact ⟨_, _, rfl, rfl, (Option.some.inj h).symm⟩ | cases h
theorem s_le : OpS K fa fLe (rI0 fun i j => .bl (decide (i ≤ j))) := ops_bl0 fun x y e h => by
  unfold fLe at h; split at h <;> first | exact ⟨_, _, rfl, rfl, (Option.some.inj h).symm⟩ | cases h
theorem s_gt : OpS K fa fGt (rI0 fun i j => .bl (decide (j < i))) := ops_bl0 fun x y e h => by
  unfold fGt at h; split at h <;> first | exact ⟨_, _, rfl, rfl, (Option.some.inj h).symm⟩ | cases h
theorem s_ge : OpS K fa fGe (rI0 fun i j => .bl (decide (j ≤ i))) := ops_bl0 fun x y e h => by
  unfold fGe at h; split at h <;> first | exact ⟨_, _, rfl, rfl, (Option.some.inj h).symm⟩ | cases h
theorem s_div : OpS K fa fDiv (rI (fun _ j => divOk j = true) fun i j => .int (i.fdiv j)) := ops_int fun x y e h => by
  unfold fDiv at h; split at h
  · obtain ⟨c, q⟩ := nl_get h; exact ⟨_, _, rfl, rfl, c, q.symm⟩
  · cases h
theorem s_mod : OpS K fa fMod (rI (fun _ j => j ≠ 0) fun i j => .int (i.fmod j)) := ops_int fun x y e h => by
  unfold fMod at h; split at h
  · obtain ⟨c, q⟩ := nl_get h; exact ⟨_, _, rfl, rfl, c, q.symm⟩
  · cases h
theorem s_pow : OpS K fa fPow (rI CPow fun i j => .int (i ^ j.toNat)) := ops_int fun x y e h => by
  unfold fPow at h; split at h
  · obtain ⟨c, q⟩ := nl_get h; exact ⟨_, _, rfl, rfl, ⟨c.1, c.2.1, Nat.lt_of_lt_of_le c.2.2 (by decide)⟩, q.symm⟩
  · cases h
theorem s_shl : OpS K fa fShl (rI CPow fun i j => .int (i * 2 ^ j.toNat)) := ops_int fun x y e h => by
  unfold fShl at h; split at h
  · obtain ⟨c, q⟩ := nl_get h; exact ⟨_, _, rfl, rfl, ⟨c.1, c.2.1, Nat.lt_of_lt_of_le c.2.2 (by decide)⟩, q.symm⟩
  · cases h
theorem s_shr : OpS K fa fShr (rI (fun _ j => 0 ≤ j) fun i j => .int (i / 2 ^ j.toNat)) := ops_int fun x y e h => by
  unfold fShr at h; split at h
  · obtain ⟨c, q⟩ := nl_get h; exact ⟨_, _, rfl, rfl, c, q.symm⟩
  · cases h
abbrev rAddS : R2 := fun x y H Q => ∃ i j, x = .str i ∧ y = .str j ∧ i.length + j.length ≤ sizeLine ∧ Q (.str (i ++ j)) H
abbrev rAddZ (K : PySem.W.Frag) : R2 := fun x y H Q => rI0 (fun i j => .int (i + j)) x y H Q ∨ (rAddS x y H Q ∨ (rCatA K x y H Q ∨ rCat x y H Q))
theorem op_addZ {X : Cx} : OpR X (binaryOp .Add) (rAddZ X.K) := .or op_add (.or op_add_str (.or op_catA op_cat))
theorem s_add : OpS K fa fAdd (rAddZ K) := by
  intro x y e hf F H v u Q T rx ry q
  unfold fAdd at hf
  split at hf
  · cases hf; cases rx; cases ry
    exact .inl ⟨_, _, rfl, rfl, q _ H (Same.refl H) (.int _)⟩
  · obtain ⟨c, rfl⟩ := nl_get hf; cases rx; cases ry
    exact .inr (.inl ⟨_, _, rfl, rfl, by rw [lim_eq]; exact c, q _ H (Same.refl H) (.str _)⟩)
  · obtain ⟨c, rfl⟩ := nl_get hf
    rename_i l m
    cases rx with
    | @tup a xs _ s1 r1 =>
      cases ry with
      | @tup b ys _ s2 r2 =>
        refine .inr (.inr (.inl ⟨a, b, xs, ys, rfl, rfl, s1, s2, by rw [r1.length, r2.length, lim_eq]; exact c, fun z => ?_, fun _ z => ?_, fun _ _ p np => ?_⟩))
        · subst z; cases r1
          exact q _ H (Same.refl H) (.tup s2 r2)
        · subst z; cases r2
          exact q _ H (Same.refl H) (by show Rp K fa F H _ (.tup (l ++ [])); rw [List.append_nil]; exact .tup s1 r1)
        · exact q _ _ (same_new np) (.tup (.of upd_same) ((r1.append r2).ext (Ext.same (F := F) (same_new np) T) _ _))
  · obtain ⟨c, rfl⟩ := nl_get hf
    cases rx with
    | @lst a xs _ f1 s1 r1 =>
      cases ry with
      | @lst b ys _ f2 s2 r2 =>
        refine .inr (.inr (.inr ⟨a, b, xs, ys, rfl, rfl, s1, s2, by rw [r1.length, r2.length, lim_eq]; exact c, fun p np => ?_⟩))
        exact q _ _ (same_new np) ⟨p, _, rfl, np, upd_same, (r1.append r2).ext (Ext.same (F := F) (same_new np) T) _ _⟩
  · cases hf
abbrev rMulZ (K : PySem.W.Frag) : R2 := fun x y H Q => rI (fun i j => mulOk i j = true) (fun i j => .int (i * j)) x y H Q ∨ (rRep x y H Q ∨ rRepT K x y H Q)
theorem op_mulZZ {X : Cx} : OpR X (binaryOp .Mult) (rMulZ X.K) := .or op_mulZ (.or op_rep op_repT)
theorem s_mul : OpS K fa fMul (rMulZ K) := by
  intro x y e hf F H v u Q T rx ry q
  unfold fMul at hf
  split at hf
  · obtain ⟨c, rfl⟩ := nl_get hf; cases rx; cases ry
    exact .inl ⟨_, _, rfl, rfl, c, q _ H (Same.refl H) (.int _)⟩
  · obtain ⟨c, rfl⟩ := nl_get hf
    cases ry
    rename_i l k
    cases rx with
    | @lst a xs _ f1 s1 r1 =>
      refine .inr (.inl ⟨a, k, xs, rfl, rfl, s1, ?_, ?_, by rw [r1.length, lim_eq]; exact c.2.2, fun p np => ?_⟩)
      · have := c.1; omega
      · have := c.2.1; omega
      · exact q _ _ (same_new np) ⟨p, _, rfl, np, upd_same, (r1.rep k.toNat).ext (Ext.same (F := F) (same_new np) T) _ _⟩
  · obtain ⟨c, rfl⟩ := nl_get hf
    cases ry
    rename_i l k
    cases rx with
    | @tup a xs _ s1 r1 =>
      refine .inr (.inr ⟨a, k, xs, rfl, rfl, s1, ?_, c.2.1, c.2.2.1, by rw [r1.length]; exact c.2.2.2, fun p np => ?_⟩)
      · intro z; subst z; cases r1; exact c.1 rfl
      · exact q _ _ (same_new np) (.tup (.of upd_same) ((r1.rep k.toNat).ext (Ext.same (F := F) (same_new np) T) _ _))
  · cases hf
theorem cmp_ok {x y : D} (h : cmpOk x y = true) : x.plain = true ∧ y.plain = true ∧ min x.dep y.dep ≤ 40 := by
  unfold cmpOk at h
  rw [Bool.and_eq_true, Bool.and_eq_true, decide_eq_true_eq] at h
  exact ⟨h.1.1, h.1.2, h.2⟩
theorem s_eq : OpS K fa fEq (rEqP K false) := by
  intro x y e hf F H v u Q T rx ry q
  unfold fEq at hf
  obtain ⟨c, rfl⟩ := nl_get hf
  obtain ⟨p1, p2, hd⟩ := cmp_ok c
  refine ⟨x.py, y.py, rx.dp _ _ p1, ry.dp _ _ p2, plain_py x, plain_py y, by rw [dep_py, dep_py]; omega, ?_⟩
  rw [if_neg Bool.false_ne_true, eqv_py x y p1 p2]
  exact q _ H (Same.refl H) (.bl _)
theorem s_ne : OpS K fa fNe (rEqP K true) := by
  intro x y e hf F H v u Q T rx ry q
  unfold fNe at hf
  obtain ⟨c, rfl⟩ := nl_get hf
  obtain ⟨p1, p2, hd⟩ := cmp_ok c
  refine ⟨x.py, y.py, rx.dp _ _ p1, ry.dp _ _ p2, plain_py x, plain_py y, by rw [dep_py, dep_py]; omega, ?_⟩
  rw [if_pos rfl, eqv_py x y p1 p2]
  exact q _ H (Same.refl H) (.bl _)
theorem in_ok {x : D} {l : List D} (h : inOk x l = true) : x.plain = true ∧ plainL l = true ∧ min (depL l) x.dep ≤ 40 := by
  unfold inOk at h
  rw [Bool.and_eq_true, Bool.and_eq_true, decide_eq_true_eq] at h
  exact ⟨h.1.1, h.1.2, h.2⟩
theorem s_in : OpS K fa fIn (rInP K false) := by
  intro x y e hf F H v u Q T rx ry q
  unfold fIn at hf
  split at hf
  · obtain ⟨c, rfl⟩ := nl_get hf
    obtain ⟨p1, p2, hd⟩ := in_ok c
    refine ⟨_, _, rx.dp _ _ p1, .inr (ry.dp _ _ p2), plain_py _, plainL_py _, by rw [depL_py, dep_py]; omega, ?_⟩
    rw [if_neg Bool.false_ne_true, any_py p1 p2]
    exact q _ H (Same.refl H) (.bl _)
  · obtain ⟨c, rfl⟩ := nl_get hf
    obtain ⟨p1, p2, hd⟩ := in_ok c
    refine ⟨_, _, rx.dp _ _ p1, .inl (ry.dp _ _ p2), plain_py _, plainL_py _, by rw [depL_py, dep_py]; omega, ?_⟩
    rw [if_neg Bool.false_ne_true, any_py p1 p2]
    exact q _ H (Same.refl H) (.bl _)
  · cases hf
theorem s_notIn : OpS K fa fNotIn (rInP K true) := by
  intro x y e hf F H v u Q T rx ry q
  unfold fNotIn at hf
  split at hf
  · obtain ⟨c, rfl⟩ := nl_get hf
    obtain ⟨p1, p2, hd⟩ := in_ok c
    refine ⟨_, _, rx.dp _ _ p1, .inr (ry.dp _ _ p2), plain_py _, plainL_py _, by rw [depL_py, dep_py]; omega, ?_⟩
    rw [if_pos rfl, any_py p1 p2]
    exact q _ H (Same.refl H) (.bl _)
  · obtain ⟨c, rfl⟩ := nl_get hf
    obtain ⟨p1, p2, hd⟩ := in_ok c
    refine ⟨_, _, rx.dp _ _ p1, .inl (ry.dp _ _ p2), plain_py _, plainL_py _, by rw [depL_py, dep_py]; omega, ?_⟩
    rw [if_pos rfl, any_py p1 p2]
    exact q _ H (Same.refl H) (.bl _)
  · cases hf
theorem isNon_ok {x : D} {v : V} {F : Addr → Prop} {H : Hp} (r : Rp K fa F H v x) : decide (v = .non) = x.isNon := by
  cases r <;> rfl
abbrev rIsZ : R2 := fun x y H Q => (y = .non ∧ Q (.bl (decide (x = .non))) H) ∨ ∃ a b : Bool, x = .bl a ∧ y = .bl b ∧ Q (.bl (decide (a = b))) H
abbrev rIsNotZ : R2 := fun x y H Q => (y = .non ∧ Q (.bl (!decide (x = .non))) H) ∨ ∃ a b : Bool, x = .bl a ∧ y = .bl b ∧ Q (.bl (!decide (a = b))) H
theorem op_isZ {X : Cx} : OpR X (compareOp .Is) rIsZ := .or op_isN op_isBl
theorem op_isNotZ {X : Cx} : OpR X (compareOp .IsNot) rIsNotZ := .or op_notN op_notBl
theorem s_is : OpS K fa fIs rIsZ := by
  intro x y e hf F H v u Q T rx ry q
  unfold fIs at hf
  split at hf
  · cases hf; cases ry
    refine .inl ⟨rfl, ?_⟩
    rw [isNon_ok rx]
    exact q _ H (Same.refl H) (.bl _)
  · cases hf; cases rx; cases ry
    rename_i a b
    refine .inr ⟨a, b, rfl, rfl, ?_⟩
    rw [← Bool.beq_eq_decide_eq]
    exact q _ H (Same.refl H) (.bl _)
  · cases hf
theorem s_isNot : OpS K fa fIsNot rIsNotZ := by
  intro x y e hf F H v u Q T rx ry q
  unfold fIsNot at hf
  split at hf
  · cases hf; cases ry
    refine .inl ⟨rfl, ?_⟩
    rw [isNon_ok rx]
    exact q _ H (Same.refl H) (.bl _)
  · cases hf; cases rx; cases ry
    rename_i a b
    refine .inr ⟨a, b, rfl, rfl, ?_⟩
    rw [← Bool.beq_eq_decide_eq]
    exact q _ H (Same.refl H) (.bl _)
  · cases hf
theorem s_neg : UnS K fa fNeg (rU fun i => .int (-i)) := by
  intro x e hf F H v Q T rx q
  unfold fNeg at hf
  split at hf
  · cases hf; cases rx
    exact ⟨_, rfl, q _ H (Same.refl H) (.int _)⟩
  · cases hf
/-! ### subscripts -/
theorem ixN_eq (n : Nat) (i : Int) : RX.ixN n i = L2.ixN n i := rfl
theorem RpL.atI {F : Addr → Prop} {H : Hp} {vs : List V} {ds : List D} {i : Int} {d : D} (r : RpL K fa F H vs ds) (h : atD ds i = some d) : ∃ v, L2.atI vs i = some v ∧ Rp K fa F H v d := by
  unfold atD at h
  unfold L2.atI
  rw [r.length, ← ixN_eq]
  cases e : RX.ixN ds.length i with
  | none => rw [e] at h; cases h
  | some j =>
    rw [e] at h
    obtain ⟨v, h1, h2⟩ := r.get (show ds[j]? = some d from h)
    exact ⟨v, h1, h2⟩
theorem rpl_ints {F : Addr → Prop} {H : Hp} : ∀ ns : List Int, RpL K fa F H (ns.map V.int) (ns.map D.int)
  | [] => .nil
  | n :: ns => .cons (.int n) (rpl_ints ns)
theorem s_ix : OpS K fa fIx (rIx K) := by
  intro x y e hf F H v u Q T rx ry q
  unfold fIx at hf
  split at hf
  · rename_i l i
    cases ry
    cases e1 : atD l i with
    | none => rw [e1] at hf; cases hf
    | some d =>
      rw [e1] at hf
      cases hf
      cases rx with
      | @lst a xs _ f1 s1 r1 =>
        obtain ⟨w, h1, h2⟩ := r1.atI e1
        exact .inl ⟨a, xs, i, w, rfl, rfl, .of s1, h1, q w H (Same.refl H) h2⟩
  · rename_i l i
    cases ry
    cases e1 : atD l i with
    | none => rw [e1] at hf; cases hf
    | some d =>
      rw [e1] at hf
      cases hf
      cases rx with
      | @tup a xs _ s1 r1 =>
        obtain ⟨w, h1, h2⟩ := r1.atI e1
        exact .inr (.inl ⟨a, xs, i, w, rfl, rfl, s1, h1, q w H (Same.refl H) h2⟩)
  · rename_i l i
    cases ry
    cases e1 : atD (l.map .int) i with
    | none => rw [e1] at hf; cases hf
    | some d =>
      rw [e1] at hf
      cases hf
      cases rx with
      | @scr a _ s1 =>
        obtain ⟨w, h1, h2⟩ := (rpl_ints (K := K) (fa := fa) (F := F) (H := H) l).atI e1
        exact .inl ⟨a, _, i, w, rfl, rfl, s1.l, h1, q w H (Same.refl H) h2⟩
  · cases hf
theorem sIx_eq (n d : Nat) (o : Option Int) : RX.sIx n d o = HT.sIx n d o := by
  cases o with
  | none => rfl
  | some i =>
    show (if 0 ≤ i then min i.toNat n else (i + n).toNat) = (if i < 0 then (i + (n : Int)).toNat else min i.toNat n)
    by_cases h : 0 ≤ i
    · rw [if_pos h, if_neg (by omega)]
    · rw [if_neg h, if_pos (by omega)]
theorem RpL.cut {F : Addr → Prop} {H : Hp} {vs : List V} {ds : List D} (r : RpL K fa F H vs ds) (lo hi : Option Int) : RpL K fa F H (cutV vs lo hi) (RX.cut ds lo hi) := by
  unfold cutV RX.cut
  rw [r.length, ← sIx_eq, ← sIx_eq]
  exact (r.drop _).take _
theorem cut_all {ds : List D} {lo hi : Option Int} (h : HT.sIx ds.length 0 lo = 0 ∧ HT.sIx ds.length ds.length hi = ds.length) : RX.cut ds lo hi = ds := by
  unfold RX.cut
  rw [sIx_eq, sIx_eq, h.1, h.2, List.drop_zero, Nat.sub_zero, List.take_length]
abbrev rSlZ (K : PySem.W.Frag) : V → Option Int → Option Int → Hp → VK → Prop := fun x lo hi H Q => rSlA K x lo hi H Q ∨ rSlL K x lo hi H Q
theorem sl_Z {X : Cx} : L2.SlR X (rSlZ X.K) := L2.SlR.or sl_tupA sl_list
/-- a list or a tuple that may be read now -/
theorem s_sl {x : D} {lo hi : Option Int} {e : Ex} (hf : fSl x lo hi = some e) {F : Addr → Prop} {H : Hp} {v : V} {Q : VK} (T : Trk F H) (rx : Rp K fa F H v x) (q : ∀ v' H', Same H H' → NewR K fa F H H' e v' → Q v' H') : rSlZ K v lo hi H Q := by
  unfold fSl at hf
  split at hf
  · cases hf
    cases rx with
    | @lst a xs _ f1 s1 r1 =>
      refine .inr ⟨a, xs, rfl, .of s1, fun p np => ?_⟩
      exact q _ _ (same_new np) ⟨p, _, rfl, np, upd_same, (r1.cut lo hi).ext (Ext.same (F := F) (same_new np) T) _ _⟩
  · cases hf
    cases rx with
    | @tup a xs _ s1 r1 =>
      refine .inl ⟨a, xs, rfl, s1, fun z => ?_, fun z p np => ?_⟩
      · rw [r1.length] at z
        exact q _ H (Same.refl H) (by show Rp K fa F H _ (.tup _); rw [cut_all z]; exact .tup s1 r1)
      · exact q _ _ (same_new np) (.tup (.of upd_same) ((r1.cut lo hi).ext (Ext.same (F := F) (same_new np) T) _ _))
  · cases hf
    rename_i l
    cases rx with
    | @scr a _ s1 =>
      refine .inr ⟨a, _, rfl, s1.l, fun p np => ?_⟩
      exact q _ _ (same_new np) ⟨p, _, rfl, np, upd_same, ((rpl_ints l).cut lo hi).ext (Ext.same (F := F) (same_new np) T) _ _⟩
  · cases hf
end
end RX
set_option Elab.async false
set_option linter.all false
set_option maxRecDepth 100000
set_option maxHeartbeats 4000000
/-! RXf: names read unchanged, subscripts, slices, built-ins, pop, fields of exceptions. -/
namespace RX
open PySem PySem.Spec PyProof.Rows L2
/-- data that may be read now (a slot's own list too) -/
inductive RdR (K : PySem.W.Frag) (fa : Nat → Addr) (F : Addr → Prop) (H : Hp) : V → D → Prop
  | rp {v : V} {x : D} : Rp K fa F H v x → RdR K fa F H v x
  | lst {a : Addr} {xs : List V} {l : List D} : H a = some (.lst xs) → RpL K fa F H xs l → RdR K fa F H (.ref a) (.lst l)
inductive RdL (K : PySem.W.Frag) (fa : Nat → Addr) (F : Addr → Prop) (H : Hp) : List V → List D → Prop
  | nil : RdL K fa F H [] []
  | cons {v : V} {vs : List V} {x : D} {xs : List D} : RdR K fa F H v x → RdL K fa F H vs xs → RdL K fa F H (v :: vs) (x :: xs)
section
variable {K : PySem.W.Frag} {fa : Nat → Addr} {ca : Cc} {W : WX} {C : Calls} {X : Cx} {G : Gh} {F F' : Addr → Prop} {H H' : Hp} {σ : L2.St} {ρ ρ' : Env}
theorem RpL.rd : ∀ {vs : List V} {ds : List D}, RpL K fa F H vs ds → RdL K fa F H vs ds
  | _, _, .nil => .nil
  | _, _, .cons r t => .cons (.rp r) t.rd
/-- .. of a list, a tuple, the script -/
inductive Sq (K : PySem.W.Frag) (fa : Nat → Addr) (F : Addr → Prop) (H : Hp) : V → D → Prop
  | lst {a : Addr} {xs : List V} {l : List D} : SqL K H a xs → RpL K fa F H xs l → Sq K fa F H (.ref a) (.lst l)
  | tup {a : Addr} {xs : List V} {l : List D} : SqT K H a xs → RpL K fa F H xs l → Sq K fa F H (.ref a) (.tup l)
  | scr {a : Addr} {ns : List Int} : SqL K H a (ns.map V.int) → Sq K fa F H (.ref a) (.scr ns)
theorem RdR.lst_inv {v : V} {l : List D} (r : RdR K fa F H v (.lst l)) : ∃ a xs, v = .ref a ∧ H a = some (.lst xs) ∧ RpL K fa F H xs l := by
  cases r with
  | rp r =>
    cases r with
    | lst f s r => exact ⟨_, _, rfl, s, r⟩
  | lst s r => exact ⟨_, _, rfl, s, r⟩
theorem RdR.tup_inv {v : V} {l : List D} (r : RdR K fa F H v (.tup l)) : ∃ a xs, v = .ref a ∧ SqT K H a xs ∧ RpL K fa F H xs l := by
  cases r with
  | rp r =>
    cases r with
    | tup s r => exact ⟨_, _, rfl, s, r⟩
theorem RdR.scr_inv {v : V} {l : List Int} (r : RdR K fa F H v (.scr l)) : ∃ a, v = .ref a ∧ SqL K H a (l.map V.int) := by
  cases r with
  | rp r =>
    cases r with
    | scr s => exact ⟨_, rfl, s.l⟩
theorem RdR.flat {v : V} {x : D} (r : RdR K fa F H v x) (h : ∀ l, x ≠ .lst l) : Rp K fa F H v x := by
  cases r with
  | rp r => exact r
  | lst s r => exact absurd rfl (h _)
/-- a name as it reads -/
theorem SR.look (S : SR K fa ca G F ρ σ H) {i : Nat} {x : D} (h : look ρ i = some x) : ∃ v, σ[i]? = some (some v) ∧ RdR K fa F H v x := by
  unfold RX.look at h
  cases e : ρ[i]? with
  | none => rw [e] at h; cases h
  | some s =>
    rw [e] at h
    have q := S.sl i s e
    generalize σ[i]? = o at q
    cases q with
    | none => cases h
    | val r => cases h; exact ⟨_, rfl, .rp r⟩
    | own h1 h2 h3 h4 => cases h; exact ⟨_, rfl, .lst h1 h3⟩
    | par h1 h2 h3 h4 => cases h; exact ⟨_, rfl, .lst h1 h3⟩
    | exn h1 h2 => cases h
/-! ### subscripts, slices -/
theorem s_ixR {x y : D} {e : Ex} (hf : fIx x y = some e) {v u : V} {Q : VK} (rx : RdR K fa F H v x) (ry : Rp K fa F H u y) (q : ∀ v' H', Same H H' → NewR K fa F H H' e v' → Q v' H') : rIx K v u H Q := by
  unfold fIx at hf
  split at hf
  · rename_i l i
    cases ry
    cases e1 : atD l i with
    | none => rw [e1] at hf; cases hf
    | some d =>
      rw [e1] at hf
      cases hf
      obtain ⟨a, xs, rfl, s1, r1⟩ := rx.lst_inv
      obtain ⟨w, h1, h2⟩ := r1.atI e1
      exact .inl ⟨a, xs, i, w, rfl, rfl, .of s1, h1, q w H (Same.refl H) h2⟩
  · rename_i l i
    cases ry
    cases e1 : atD l i with
    | none => rw [e1] at hf; cases hf
    | some d =>
      rw [e1] at hf
      cases hf
      obtain ⟨a, xs, rfl, s1, r1⟩ := rx.tup_inv
      obtain ⟨w, h1, h2⟩ := r1.atI e1
      exact .inr (.inl ⟨a, xs, i, w, rfl, rfl, s1, h1, q w H (Same.refl H) h2⟩)
  · rename_i l i
    cases ry
    cases e1 : atD (l.map .int) i with
    | none => rw [e1] at hf; cases hf
    | some d =>
      rw [e1] at hf
      cases hf
      obtain ⟨a, rfl, s1⟩ := rx.scr_inv
      obtain ⟨w, h1, h2⟩ := (rpl_ints (K := K) (fa := fa) (F := F) (H := H) l).atI e1
      exact .inl ⟨a, _, i, w, rfl, rfl, s1, h1, q w H (Same.refl H) h2⟩
  · cases hf
theorem s_slR {x : D} {lo hi : Option Int} {e : Ex} (hf : fSl x lo hi = some e) {v : V} {Q : VK} (T : Trk F H) (rx : RdR K fa F H v x) (q : ∀ v' H', Same H H' → NewR K fa F H H' e v' → Q v' H') : rSlZ K v lo hi H Q := by
  unfold fSl at hf
  split at hf
  · cases hf
    obtain ⟨a, xs, rfl, s1, r1⟩ := rx.lst_inv
    refine .inr ⟨a, xs, rfl, .of s1, fun p np => ?_⟩
    exact q _ _ (same_new np) ⟨p, _, rfl, np, upd_same, (r1.cut lo hi).ext (Ext.same (F := F) (same_new np) T) _ _⟩
  · cases hf
    obtain ⟨a, xs, rfl, s1, r1⟩ := rx.tup_inv
    refine .inl ⟨a, xs, rfl, s1, fun z => ?_, fun z p np => ?_⟩
    · rw [r1.length] at z
      exact q _ H (Same.refl H) (by show Rp K fa F H _ (.tup _); rw [cut_all z]; exact .tup s1 r1)
    · exact q _ _ (same_new np) (.tup (.of upd_same) ((r1.cut lo hi).ext (Ext.same (F := F) (same_new np) T) _ _))
  · cases hf
    rename_i l
    obtain ⟨a, rfl, s1⟩ := rx.scr_inv
    refine .inr ⟨a, _, rfl, s1, fun p np => ?_⟩
    exact q _ _ (same_new np) ⟨p, _, rfl, np, upd_same, ((rpl_ints l).cut lo hi).ext (Ext.same (F := F) (same_new np) T) _ _⟩
  · cases hf
theorem sim_ix {a b : Expr} {da db : Den} {pos : Pos} (hp : PlainIx b) (ha : SimE fa ca W C X a da) (hb : SimE fa ca W C X b db) : SimE fa ca W C X (.Subscript a b pos) (dOp fIx da db) := by
  refine pe_le (pe_ix ix_seq ha hb hp) fun σ H Q h => ?_
  obtain ⟨G, F, ρ, S, h⟩ := h
  refine ⟨G, F, ρ, S, h.bind.mono fun x ρ1 h1 v F1 H1 S1 E1 r1 => ?_⟩
  obtain ⟨F1, S1, E1', p1⟩ := S1.frz r1
  refine ⟨G, F1, ρ1, S1, (h1.bind.later (E1.trans E1')).mono fun y ρ2 h2 u F2 H2 S2 E2 r2 => ?_⟩
  obtain ⟨F2, S2, E2', p2⟩ := S2.frz r2
  cases e : fIx x.frz y.frz with
  | none => rw [e] at h2; exact h2.elim
  | some z =>
    rw [e] at h2
    exact s_ixR e (.rp (Rp.ext (E2.trans E2') _ _ p1)) p2 fun v' H' sm n => fin_new (S2) (((E1.trans E1').trans E2).trans E2') h2 sm n
theorem sim_ixV {i : Nat} {a b : Expr} {db : Den} {pos : Pos} (hp : PlainIx b) (ha : PE X a (tVar i)) (hb : SimE fa ca W C X b db) : SimE fa ca W C X (.Subscript a b pos) (dIxV i db) := by
  refine pe_le (pe_ix ix_seq ha hb hp) fun σ H Q h => ?_
  obtain ⟨G, F, ρ, S, h⟩ := h
  unfold dIxV at h
  cases e : RX.look ρ i with
  | none => rw [e] at h; exact h.elim
  | some x0 =>
    rw [e] at h
    obtain ⟨v, hv, _⟩ := S.look e
    refine ⟨v, hv, G, F, ρ, S, h.bind.mono fun y ρ2 h2 u F2 H2 S2 E2 r2 => ?_⟩
    obtain ⟨F2, S2, E2', p2⟩ := S2.frz r2
    cases e2 : RX.look ρ2 i with
    | none => rw [e2] at h2; exact h2.elim
    | some x =>
      rw [e2] at h2
      obtain ⟨v', hv', r⟩ := S2.look e2
      rw [hv] at hv'
      cases hv'
      cases e3 : fIx x y.frz with
      | none => simp only [e3] at h2; exact h2.elim
      | some z =>
        simp only [e3] at h2
        exact s_ixR e3 r p2 fun v' H' sm n => fin_new S2 (E2.trans E2') h2 sm n
/-- a slice's part -/
def tSemP (K : PySem.W.Frag) (fa : Nat → Addr) (ca : Cc) (W : WX) (d : Option Den) (C : Calls) : TO := fun σ H Q => ∃ G F ρ, SR K fa ca G F ρ σ H ∧ RPost K fa ca G F H σ W (dPart d C ρ) fun o ρ' => ∀ F' H', SR K fa ca G F' ρ' σ H' → Ext F H F' H' → Q o H'
abbrev SimP (fa : Nat → Addr) (ca : Cc) (W : WX) (C : Calls) (X : Cx) (e : Option Expr) (d : Option Den) : Prop := PO X e (tSemP X.K fa ca W d C)
theorem po_le {X : Cx} {e : Option Expr} {t t' : TO} (h : PO X e t) (i : ∀ σ H Q, t' σ H Q → t σ H Q) : PO X e t' := ⟨fun pins s σ H Q I q => h.run pins s σ H Q I (i _ _ _ q)⟩
theorem sim_pnone : SimP fa ca W C X none none := by
  refine po_le po_none fun σ H Q h => ?_
  obtain ⟨G, F, ρ, S, h⟩ := h
  exact h F H S Ext.refl
theorem asInt_ok {x : D} {i : Int} (h : x.asInt? = some i) {v : V} (r : Rp K fa F H v x) : v = .int i := by
  cases r with
  | int j => cases h; rfl
  | _ => cases h
theorem sim_psome {e : Expr} {d : Den} (he : SimE fa ca W C X e d) : SimP fa ca W C X (some e) (some d) := by
  refine po_le (po_some he) fun σ H Q h => ?_
  obtain ⟨G, F, ρ, S, h⟩ := h
  refine ⟨G, F, ρ, S, RPost.mono (RPost.bind (x := d C ρ) h) fun x ρ1 h1 v F1 H1 S1 E1 r1 => ?_⟩
  obtain ⟨F1, S1, E1', p1⟩ := S1.frz r1
  cases e : x.frz.asInt? with
  | none => rw [e] at h1; exact h1.elim
  | some i =>
    rw [e] at h1
    exact ⟨i, asInt_ok e p1, h1 F1 H1 S1 (E1.trans E1')⟩
theorem sim_sl {a : Expr} {lo hi : Option Expr} {da : Den} {dl dh : Option Den} {p2 pos : Pos} (ha : SimE fa ca W C X a da) (hl : SimP fa ca W C X lo dl) (hh : SimP fa ca W C X hi dh)
    (pe : ∀ {t tl th}, PE X a t → PO X lo tl → PO X hi th → PE X (.Subscript a (.Slice lo hi none p2) pos) (tSl (rSlZ X.K) t tl th)) : SimE fa ca W C X (.Subscript a (.Slice lo hi none p2) pos) (dSl da dl dh) := by
  refine pe_le (pe ha hl hh) fun σ H Q h => ?_
  obtain ⟨G, F, ρ, S, h⟩ := h
  refine ⟨G, F, ρ, S, h.bind.mono fun x ρ1 h1 v F1 H1 S1 E1 r1 => ?_⟩
  obtain ⟨F1, S1, E1', p1⟩ := S1.frz r1
  refine ⟨G, F1, ρ1, S1, (h1.bind.later (E1.trans E1')).mono fun l ρ2 h2 F2 H2 S2 E2 => ?_⟩
  refine ⟨G, F2, ρ2, S2, (h2.bind.later ((E1.trans E1').trans E2)).mono fun u ρ3 h3 F3 H3 S3 E3 => ?_⟩
  cases e : fSl x.frz l u with
  | none => rw [e] at h3; exact h3.elim
  | some z =>
    rw [e] at h3
    exact s_slR e S3.trk (.rp (Rp.ext (E2.trans E3) _ _ p1)) fun v' H' sm n => fin_new S3 (((E1.trans E1').trans E2).trans E3) h3 sm n
theorem sim_slV {i : Nat} {a : Expr} {lo hi : Option Expr} {dl dh : Option Den} {p2 pos : Pos} (ha : PE X a (tVar i)) (hl : SimP fa ca W C X lo dl) (hh : SimP fa ca W C X hi dh)
    (pe : ∀ {t tl th}, PE X a t → PO X lo tl → PO X hi th → PE X (.Subscript a (.Slice lo hi none p2) pos) (tSl (rSlZ X.K) t tl th)) : SimE fa ca W C X (.Subscript a (.Slice lo hi none p2) pos) (dSlV i dl dh) := by
  refine pe_le (pe ha hl hh) fun σ H Q h => ?_
  obtain ⟨G, F, ρ, S, h⟩ := h
  unfold dSlV at h
  cases e : RX.look ρ i with
  | none => rw [e] at h; exact h.elim
  | some x0 =>
    rw [e] at h
    obtain ⟨v, hv, _⟩ := S.look e
    refine ⟨v, hv, G, F, ρ, S, h.bind.mono fun l ρ2 h2 F2 H2 S2 E2 => ?_⟩
    refine ⟨G, F2, ρ2, S2, (h2.bind.later E2).mono fun u ρ3 h3 F3 H3 S3 E3 => ?_⟩
    cases e2 : RX.look ρ3 i with
    | none => rw [e2] at h3; exact h3.elim
    | some x =>
      rw [e2] at h3
      obtain ⟨v', hv', r⟩ := S3.look e2
      rw [hv] at hv'
      cases hv'
      cases e3 : fSl x l u with
      | none => simp only [e3] at h3; exact h3.elim
      | some z =>
        simp only [e3] at h3
        exact s_slR e3 S3.trk r fun v' H' sm n => fin_new S3 (E2.trans E3) h3 sm n
/-! ### built-ins -/
def BfS (K : PySem.W.Frag) (fa : Nat → Addr) (f : Bf) (r : List V → Hp → VK → Prop) : Prop := ∀ (xs : List D) (e : Ex), f xs = some e → ∀ (F : Addr → Prop) (H : Hp) (vs : List V) (Q : VK), Trk F H → RdL K fa F H vs xs →
  (∀ v' H', Same H H' → NewR K fa F H H' e v' → Q v' H') → r vs H Q
theorem sim_b {e : Expr} {es : List Expr} {ds : List Den} {f : Bf} {r : List V → Hp → VK → Prop} (hs : BfS X.K fa f r) (ha : SimA fa ca W C X es ds) (pe : ∀ {t}, PA X es t → PE X e (tCB r t)) : SimE fa ca W C X e (dB f ds) := by
  refine pe_le (pe ha) fun σ H Q h => ?_
  obtain ⟨G, F, ρ, S, h⟩ := h
  refine ⟨G, F, ρ, S, h.bind.mono fun xs ρ1 h1 vs F1 H1 S1 E1 r1 => ?_⟩
  cases e : f xs with
  | none => rw [e] at h1; exact h1.elim
  | some z =>
    rw [e] at h1
    exact hs _ _ e F1 H1 vs Q S1.trk r1.rd fun v' H' sm n => fin_new S1 E1 h1 sm n
theorem sim_b1 {e a : Expr} {i : Nat} {f : Bf} {r : List V → Hp → VK → Prop} (hs : BfS X.K fa f r) (ha : PE X a (tVar i)) (st : starEach [a] X.env = (false, eval a X.env) :: starEach [] X.env) (pe : ∀ {t}, PA X [a] t → PE X e (tCB r t)) : SimE fa ca W C X e (dB1 f i) := by
  refine pe_le (pe (pa_cons ha pa_nil st)) fun σ H Q h => ?_
  obtain ⟨G, F, ρ, S, h⟩ := h
  unfold dB1 at h
  cases e : RX.look ρ i with
  | none => rw [e] at h; exact h.elim
  | some x =>
    rw [e] at h
    obtain ⟨v, hv, r⟩ := S.look e
    cases e1 : f [x] with
    | none => simp only [e1] at h; exact h.elim
    | some z =>
      simp only [e1] at h
      exact ⟨v, hv, hs _ _ e1 F H [v] Q S.trk (.cons r .nil) fun v' H' sm n => fin_new S Ext.refl h sm n⟩
/-! ### pop -/
theorem tyV_lst {a : Addr} {xs : List V} (h : H a = some (.lst xs)) : tyV K "list" (.ref a) H := .inl ⟨rfl, _, .inl (.inl h)⟩
theorem sim_pop {i : Nat} {a : Expr} {apos cpos : Pos} (ha : PE X a (tVar i)) (pe : ∀ {t}, PE X a t → PE X (.Call (.Attribute a "pop" apos) [] [] cpos) (tBM0 X.K "list" rPop t)) : SimE fa ca W C X (.Call (.Attribute a "pop" apos) [] [] cpos) (dPop i) := by
  refine pe_le (pe ha) fun σ H Q h => ?_
  obtain ⟨G, F, ρ, S, h⟩ := h
  have go : ∀ {s : Sl} {l : List D} {mk : List D → Sl}, Mine s l mk → ρ[i]? = some s → (match l[l.length - 1]? with
      | some d => RPost X.K fa ca G F H σ W (.ok (.d d) (ρ.set i (mk l.dropLast))) fun r ρ' => ∀ v F' H', SR X.K fa ca G F' ρ' σ H' → Ext F H F' H' → RpEx X.K fa G F' ρ' σ H' r v → Q v H'
      | none => False) → tBM0 X.K "list" rPop (tVar i) σ H Q := fun {s l mk} M e q => by
    obtain ⟨a, xs, e1, e2, nf, r⟩ := S.mine M e
    cases e3 : l[l.length - 1]? with
    | none => rw [e3] at q; exact q.elim
    | some d =>
      rw [e3] at q
      obtain ⟨v, h1, h2⟩ := r.get e3
      obtain ⟨S1, E1⟩ := S.write M e e1 r.dropLast
      exact ⟨_, e1, tyV_lst e2, a, xs, v, rfl, rfl, e2, by rw [r.length]; exact h1, q v F _ S1 E1 (Rp.ext E1 _ _ h2)⟩
  unfold dPop at h
  cases e : ρ[i]? with
  | none => rw [e] at h; exact h.elim
  | some s =>
    rw [e] at h
    cases s with
    | own l => exact go (.own l) e (by cases e3 : l[l.length - 1]? <;> simp only [e3] at h ⊢ <;> exact h)
    | par l => exact go (.par l) e (by cases e3 : l[l.length - 1]? <;> simp only [e3] at h ⊢ <;> exact h)
    | _ => exact h.elim
theorem seqIx_eq (k : Int) (n : Nat) : RX.ixN n k = seqIndex? k n := by
  unfold RX.ixN seqIndex?
  by_cases h : 0 ≤ k
  · rw [if_pos h]
    simp only [show ¬ k < 0 by omega, if_false, Bool.and_eq_true, decide_eq_true_eq]
    by_cases h2 : k < n
    · rw [if_pos h2, if_pos ⟨h, h2⟩]
    · rw [if_neg h2, if_neg fun z => h2 z.2]
  · rw [if_neg h]
    simp only [show k < 0 by omega, if_true, Bool.and_eq_true, decide_eq_true_eq]
    by_cases h2 : -(n : Int) ≤ k
    · rw [if_pos h2, if_pos ⟨by omega, by omega⟩]
    · rw [if_neg h2, if_neg fun z => h2 (by omega)]
theorem isOwn_mine {s : Option Sl} (h : isOwn s = true) : ∃ t l mk, s = some t ∧ Mine t l mk := by
  cases s with
  | none => cases h
  | some t =>
    cases t with
    | own l => exact ⟨_, l, _, rfl, .own l⟩
    | par l => exact ⟨_, l, _, rfl, .par l⟩
    | _ => cases h
theorem sim_popAt {i : Nat} {a e : Expr} {d : Den} {apos cpos : Pos} (ha : PE X a (tVar i)) (he : SimE fa ca W C X e d) (st : starEach [e] X.env = (false, eval e X.env) :: starEach [] X.env)
    (pe : ∀ {t u}, PE X a t → PA X [e] u → PE X (.Call (.Attribute a "pop" apos) [e] [] cpos) (tBM X.K "list" rPopAt t u)) : SimE fa ca W C X (.Call (.Attribute a "pop" apos) [e] [] cpos) (dPopAt i d) := by
  refine pe_le (pe ha (pa_cons he pa_nil st)) fun σ H Q h => ?_
  obtain ⟨G, F, ρ, S, h⟩ := h
  unfold dPopAt at h
  cases e0 : isOwn ρ[i]? with
  | false => rw [e0] at h; exact h.elim
  | true =>
    rw [e0] at h
    obtain ⟨t, l, mk, et, M⟩ := isOwn_mine e0
    obtain ⟨a0, xs0, ea, eH, _, _⟩ := S.mine M et
    refine ⟨.ref a0, ea, tyV_lst eH, G, F, ρ, S, (RPost.bind (x := d C ρ) h).mono fun y ρ1 h1 v F1 H1 S1 E1 r1 => ?_⟩
    obtain ⟨F1, S1, E1', p1⟩ := S1.frz r1
    cases e1 : y.frz.asInt? with
    | none => rw [e1] at h1; exact h1.elim
    | some k =>
      simp only [e1] at h1
      cases asInt_ok e1 p1
      have go : ∀ {s : Sl} {l : List D} {mk : List D → Sl}, Mine s l mk → ρ1[i]? = some s → (match popAt l k with
          | some (d, m) => RPost X.K fa ca G F H σ W (.ok (.d d) (ρ1.set i (mk m))) fun r ρ' => ∀ v F' H', SR X.K fa ca G F' ρ' σ H' → Ext F H F' H' → RpEx X.K fa G F' ρ' σ H' r v → Q v H'
          | none => False) → rPopAt (.ref a0) [.int k] H1 Q := fun {s l mk} M e q => by
        obtain ⟨a, xs, e1, e2, nf, r⟩ := S1.mine M e
        rw [ea] at e1
        cases e1
        cases e3 : popAt l k with
        | none => rw [e3] at q; exact q.elim
        | some p =>
          obtain ⟨d, m⟩ := p
          rw [e3] at q
          unfold popAt at e3
          split at e3
          · rename_i hk
            cases e4 : RX.ixN l.length k with
            | none => rw [e4] at e3; cases e3
            | some j =>
              rw [e4] at e3
              have e5 : (l[j]?).map (fun d => (d, l.eraseIdx j)) = some (d, m) := e3
              cases e6 : l[j]? with
              | none => rw [e6] at e5; cases e5
              | some d' =>
                rw [e6] at e5
                cases e5
                obtain ⟨v, h1, h2⟩ := r.get e6
                obtain ⟨S2, E2⟩ := S1.write M e ea (r.eraseIdx j)
                refine ⟨a0, xs, k, j, v, rfl, rfl, e2, by have := hk.1; omega, by have := hk.2; omega, by rw [r.length, ← seqIx_eq]; exact e4, h1, ?_⟩
                exact q v F1 _ S2 ((E1.trans E1').trans E2) (Rp.ext E2 _ _ h2)
          · cases e3
      cases e : ρ1[i]? with
      | none => rw [e] at h1; exact h1.elim
      | some s =>
        rw [e] at h1
        cases s with
        | own l => exact go (.own l) e (by cases e3 : popAt l k <;> simp only [e3] at h1 ⊢ <;> exact h1)
        | par l => exact go (.par l) e (by cases e3 : popAt l k <;> simp only [e3] at h1 ⊢ <;> exact h1)
        | _ => exact h1.elim
/-! ### a caught exception's field -/
theorem sim_fld {i : Nat} {a : Addr} {oe : Obj} {cls : Value} {d : Option Addr} {pn : List (Addr × Obj)} {e : Expr} {f : Str} {pos : Pos} (hx : ca.ex = some (i, a, cls, d)) (hc : ∀ c, cls = .ref (ca.ca c) → XfC X.K (ca.ca c) ∧ PySem.W.findIn X.K (.ref (ca.ca c)) f = some none)
    (hz : Zc cls d oe) (hf : ∃ vs, oe.data = .fields vs) (he : PE (X.suite a ((a, oe) :: pn)) e (tVar i)) (hb : attributeBase e f X.env (eval e X.env) = eval e X.env) :
    SimE fa ca W C (X.suite a ((a, oe) :: pn)) (.Attribute e f pos) (dFld i f) := by
  refine ⟨fun pins s σ H Q I h => ?_⟩
  obtain ⟨G, F, ρ, S, h⟩ := h
  unfold dFld at h
  cases e1 : ρ[i]? with
  | none => rw [e1] at h; exact h.elim
  | some s1 =>
    rw [e1] at h
    have q := S.sl i s1 e1
    generalize eo : σ[i]? = o at q
    cases q with
    | exn h1 h2 =>
      rename_i a' c fs cls' d'
      rw [hx] at h1
      cases h1
      obtain ⟨h3, dd, gs, h4, h5, h6⟩ := h2
      cases e2 : fs.lookup f with
      | none => simp only [e2] at h; exact h.elim
      | some x =>
        simp only [e2] at h
        obtain ⟨v, h7, h8⟩ := h6 f x e2
        obtain ⟨T, hno⟩ := hc c h3
        exact (pe_xf T hno hz hf he hb).run pins s σ H Q I ⟨_, eo, rfl, h3, dd, gs, v, h4, h5, h7, h v F H S Ext.refl h8⟩
    | _ => exact h.elim
end
end RX
set_option Elab.async false
set_option linter.all false
set_option maxRecDepth 100000
set_option maxHeartbeats 4000000
/-! RXg: calls of defs. -/
namespace RX
open PySem PySem.Spec PyProof.Rows L2
section
variable (K : PySem.W.Frag) (fa : Nat → Addr)
/-- the arguments as they are handed on -/
inductive ArgL (F : Addr → Prop) (H : Hp) : List V → List Arg → Prop
  | nil : ArgL F H [] []
  | d {v : V} {x : D} {vs : List V} {as : List Arg} : Rp K fa F H v x → ArgL F H vs as → ArgL F H (v :: vs) (.d x :: as)
  | own {a : Addr} {xs : List V} {l : List D} {vs : List V} {as : List Arg} : H a = some (.lst xs) → ¬ F a → RpL K fa F H xs l → ArgL F H vs as → ArgL F H (.ref a :: vs) (.own l :: as)
/-- the lists as they come back -/
inductive OutL (F : Addr → Prop) (H : Hp) : List V → List Arg → List (List D) → Prop
  | nil : OutL F H [] [] []
  | d {v : V} {x : D} {vs : List V} {as : List Arg} {os : List (List D)} : OutL F H vs as os → OutL F H (v :: vs) (.d x :: as) os
  | own {a : Addr} {xs : List V} {l m : List D} {vs : List V} {as : List Arg} {os : List (List D)} : H a = some (.lst xs) → ¬ F a → RpL K fa F H xs m → OutL F H vs as os → OutL F H (.ref a :: vs) (.own l :: as) (m :: os)
end
/-- where the lists stand that are handed on to be changed -/
def oA : List V → List Arg → List Addr
  | .ref a :: vs, .own _ :: as => a :: oA vs as
  | _ :: vs, _ :: as => oA vs as
  | _, _ => []
structure CPost0 (F : Addr → Prop) (H : Hp) (F' : Addr → Prop) (H' : Hp) (vs : List V) (as : List Arg) : Prop where
  up : ∀ a, F a → F' a
  new : ∀ a, F' a → F a ∨ H a = none
  trk : Trk F' H'
  fr : ∀ a o, H a = some o → a ∉ oA vs as → H' a = some o
structure CPost (K : PySem.W.Frag) (fa : Nat → Addr) (F : Addr → Prop) (H : Hp) (F' : Addr → Prop) (H' : Hp) (vs : List V) (as : List Arg) (os : List (List D)) (r : Ex) (v : V) : Prop extends CPost0 F H F' H' vs as where
  out : OutL K fa F' H' vs as os
  res : match r with
    | .d x => Rp K fa F' H' v x
    | .fresh l => ∃ b xs, v = .ref b ∧ H b = none ∧ ¬ F' b ∧ H' b = some (.lst xs) ∧ RpL K fa F' H' xs l
/-- what the def k keeps: what the evaluator says of it -/
def spC (K : PySem.W.Frag) (fa : Nat → Addr) (ca : Cc) (C : Calls) (k : Nat) : Sp := fun vs H Q E => ∃ (F : Addr → Prop) (as : List Arg), Trk F H ∧ ArgL K fa F H vs as ∧ (oA vs as).Nodup ∧ match C k as with
  | .ok r os => ∀ v F' H', CPost K fa F H F' H' vs as os r v → Q v H'
  | .exc c fs => ∀ F' H' cls d, CPost0 F H F' H' vs as → ExnR K fa ca F' H' c fs cls d → E cls d H'
  | .stuck => False
section
variable {K : PySem.W.Frag} {fa : Nat → Addr} {ca : Cc} {W : WX} {C : Calls} {X : Cx} {G : Gh} {F F' : Addr → Prop} {H H' : Hp} {σ : L2.St} {ρ ρ' : Env}
theorem ArgL.length : ∀ {vs : List V} {as : List Arg}, ArgL K fa F H vs as → vs.length = as.length
  | _, _, .nil => rfl
  | _, _, .d _ t => congrArg (· + 1) t.length
  | _, _, .own _ _ _ t => congrArg (· + 1) t.length
/-! ### a caller's arguments -/
inductive AvL (K : PySem.W.Frag) (fa : Nat → Addr) (F : Addr → Prop) (H : Hp) (σ : L2.St) : List V → List AV → Prop
  | nil : AvL K fa F H σ [] []
  | d {v : V} {x : D} {vs : List V} {as : List AV} : Rp K fa F H v x → AvL K fa F H σ vs as → AvL K fa F H σ (v :: vs) (.d x :: as)
  | own {v : V} {i : Nat} {vs : List V} {as : List AV} : σ[i]? = some (some v) → AvL K fa F H σ vs as → AvL K fa F H σ (v :: vs) (.own i :: as)
theorem AvL.ext (e : Ext F H F' H') : ∀ {vs : List V} {as : List AV}, AvL K fa F H σ vs as → AvL K fa F' H' σ vs as
  | _, _, .nil => .nil
  | _, _, .d r t => .d (Rp.ext e _ _ r) (t.ext e)
  | _, _, .own h t => .own h (t.ext e)
theorem AvL.length : ∀ {vs : List V} {as : List AV}, AvL K fa F H σ vs as → vs.length = as.length
  | _, _, .nil => rfl
  | _, _, .d _ t => congrArg (· + 1) t.length
  | _, _, .own _ t => congrArg (· + 1) t.length
def tSemV (K : PySem.W.Frag) (fa : Nat → Addr) (ca : Cc) (W : WX) (as : List AD) (C : Calls) : TA := fun σ H Q => ∃ G F ρ, SR K fa ca G F ρ σ H ∧ RPost K fa ca G F H σ W (argsE as C ρ) fun xs ρ' => ∀ vs F' H', SR K fa ca G F' ρ' σ H' → Ext F H F' H' → AvL K fa F' H' σ vs xs → Q vs H'
abbrev SimV (fa : Nat → Addr) (ca : Cc) (W : WX) (C : Calls) (X : Cx) (es : List Expr) (as : List AD) : Prop := PA X es (tSemV X.K fa ca W as C)
theorem sim_vnil : SimV fa ca W C X [] [] := by
  refine pa_le pa_nil fun σ H Q h => ?_
  obtain ⟨G, F, ρ, S, h⟩ := h
  exact h [] F H S Ext.refl .nil
theorem sim_ve {e : Expr} {es : List Expr} {d : Den} {as : List AD} (he : SimE fa ca W C X e d) (hr : SimV fa ca W C X es as) (hs : starEach (e :: es) X.env = (false, eval e X.env) :: starEach es X.env) : SimV fa ca W C X (e :: es) (.e d :: as) := by
  refine pa_le (pa_cons he hr hs) fun σ H Q h => ?_
  obtain ⟨G, F, ρ, S, h⟩ := h
  refine ⟨G, F, ρ, S, (RPost.bind (x := d C ρ) h).mono fun x ρ1 h1 v F1 H1 S1 E1 r1 => ?_⟩
  obtain ⟨F1, S1, E1', p1⟩ := S1.frz r1
  refine ⟨G, F1, ρ1, S1, (h1.bind.later (E1.trans E1')).mono fun xs ρ2 h2 vs F2 H2 S2 E2 r2 => ?_⟩
  exact h2 _ F2 H2 S2 ((E1.trans E1').trans E2) (.d (Rp.ext E2 _ _ p1) r2)
theorem sim_vv {e : Expr} {es : List Expr} {i : Nat} {as : List AD} (he : PE X e (tVar i)) (hr : SimV fa ca W C X es as) (hs : starEach (e :: es) X.env = (false, eval e X.env) :: starEach es X.env) : SimV fa ca W C X (e :: es) (.v i :: as) := by
  have hv : SimE fa ca W C X e (dVar i) := sim_var he
  refine ⟨fun pos pins s σ H Q I h => ?_⟩
  obtain ⟨G, F, ρ, S, h⟩ := h
  by_cases e0 : isOwn ρ[i]? = true
  · refine (pa_cons he hr hs).run pos pins s σ H Q I ?_
    have h' : RPost X.K fa ca G F H σ W ((argsE as C ρ).bind fun xs ρ2 => .ok (.own i :: xs) ρ2) fun xs ρ' => ∀ vs F' H', SR X.K fa ca G F' ρ' σ H' → Ext F H F' H' → AvL X.K fa F' H' σ vs xs → Q vs H' := by
      have h2 : RPost X.K fa ca G F H σ W (if isOwn ρ[i]? = true then (argsE as C ρ).bind fun xs ρ2 => .ok (.own i :: xs) ρ2 else (dVar i C ρ).bind fun x ρ1 => (argsE as C ρ1).bind fun xs ρ2 => .ok (.d x.frz :: xs) ρ2) _ := h
      rw [if_pos e0] at h2
      exact h2
    obtain ⟨t, l, mk, et, M⟩ := isOwn_mine e0
    obtain ⟨a, xs, ea, _⟩ := S.mine M et
    exact ⟨_, ea, G, F, ρ, S, h'.bind.mono fun xs ρ2 h2 vs F2 H2 S2 E2 r2 => h2 _ F2 H2 S2 E2 (.own ea r2)⟩
  · refine (pa_cons hv hr hs).run pos pins s σ H Q I ?_
    have h' : RPost X.K fa ca G F H σ W ((dVar i C ρ).bind fun x ρ1 => (argsE as C ρ1).bind fun xs ρ2 => .ok (.d x.frz :: xs) ρ2) fun xs ρ' => ∀ vs F' H', SR X.K fa ca G F' ρ' σ H' → Ext F H F' H' → AvL X.K fa F' H' σ vs xs → Q vs H' := by
      have h2 : RPost X.K fa ca G F H σ W (if isOwn ρ[i]? = true then (argsE as C ρ).bind fun xs ρ2 => .ok (.own i :: xs) ρ2 else (dVar i C ρ).bind fun x ρ1 => (argsE as C ρ1).bind fun xs ρ2 => .ok (.d x.frz :: xs) ρ2) _ := h
      rw [if_neg e0] at h2
      exact h2
    refine ⟨G, F, ρ, S, h'.bind.mono fun x ρ1 h1 v F1 H1 S1 E1 r1 => ?_⟩
    obtain ⟨F1, S1, E1', p1⟩ := S1.frz r1
    refine ⟨G, F1, ρ1, S1, (h1.bind.later (E1.trans E1')).mono fun xs ρ2 h2 vs F2 H2 S2 E2 r2 => ?_⟩
    exact h2 _ F2 H2 S2 ((E1.trans E1').trans E2) (.d (Rp.ext E2 _ _ p1) r2)
/-! ### the call itself -/
theorem argOf_own {i : Nat} {x : Arg} (h : argOf ρ (.own i) = some x) : ∃ s l mk, ρ[i]? = some s ∧ Mine s l mk ∧ x = .own l := by
  have h' : (match ρ[i]? with
    | some (.own l) => some (Arg.own l)
    | some (.par l) => some (Arg.own l)
    | _ => none) = some x := h
  cases e : ρ[i]? with
  | none => rw [e] at h'; cases h'
  | some s =>
    rw [e] at h'
    cases s with
    | own l => cases h'; exact ⟨_, l, _, rfl, .own l, rfl⟩
    | par l => cases h'; exact ⟨_, l, _, rfl, .par l, rfl⟩
    | _ => cases h'
theorem argsOf_cons {a : AV} {r : List AV} {xs : List Arg} (h : argsOf ρ (a :: r) = some xs) : ∃ x ys, argOf ρ a = some x ∧ argsOf ρ r = some ys ∧ xs = x :: ys := by
  have h' : ((argOf ρ a).bind fun x => (argsOf ρ r).map fun xs => x :: xs) = some xs := h
  cases e : argOf ρ a with
  | none => rw [e] at h'; cases h'
  | some x =>
    rw [e] at h'
    have h2 : ((argsOf ρ r).map fun xs => x :: xs) = some xs := h'
    cases q : argsOf ρ r with
    | none => rw [q] at h2; cases h2
    | some ys => rw [q] at h2; cases h2; exact ⟨x, ys, rfl, rfl, rfl⟩
theorem Mine.ownA {s : Sl} {l : List D} {mk : List D → Sl} {i : Nat} {a : Addr} (M : Mine s l mk) (e : ρ[i]? = some s) (ea : σ[i]? = some (some (.ref a))) : OwnA ρ σ i a := by
  cases M with
  | own l => exact ⟨.inl ⟨_, e⟩, ea⟩
  | par l => exact ⟨.inr ⟨_, e⟩, ea⟩
theorem av_args (S : SR K fa ca G F ρ σ H) {vs : List V} {as : List AV} (A : AvL K fa F H σ vs as) : ∀ {xs : List Arg}, argsOf ρ as = some xs → ArgL K fa F H vs xs := by
  induction A with
  | nil => intro xs e; cases e; exact .nil
  | d r t ih =>
    intro xs e
    obtain ⟨x, ys, e1, e2, rfl⟩ := argsOf_cons e
    cases e1
    exact .d r (ih e2)
  | own h t ih =>
    intro xs e
    obtain ⟨x, ys, e1, e2, rfl⟩ := argsOf_cons e
    obtain ⟨s, l, mk, es, M, rfl⟩ := argOf_own e1
    obtain ⟨a, zs, q1, q2, nf, r⟩ := S.mine M es
    rw [h] at q1
    cases q1
    exact .own q2 nf r (ih e2)
theorem av_own (S : SR K fa ca G F ρ σ H) {vs : List V} {as : List AV} (A : AvL K fa F H σ vs as) : ∀ {xs : List Arg} {a : Addr}, argsOf ρ as = some xs → a ∈ oA vs xs → ∃ i ∈ owns as, OwnA ρ σ i a := by
  induction A with
  | nil => intro xs a e h; cases e; cases h
  | @d v x vs as r t ih =>
    intro xs a e h
    obtain ⟨x, ys, e1, e2, rfl⟩ := argsOf_cons e
    cases e1
    exact ih e2 (by cases v <;> exact h)
  | @own v i vs as hv t ih =>
    intro xs a e h
    obtain ⟨x, ys, e1, e2, rfl⟩ := argsOf_cons e
    obtain ⟨s, l, mk, es, M, rfl⟩ := argOf_own e1
    obtain ⟨b, zs, q1, _, _, _⟩ := S.mine M es
    rw [hv] at q1
    cases q1
    have h2 : a ∈ b :: oA vs ys := h
    rcases List.mem_cons.mp h2 with h3 | h3
    · subst h3
      exact ⟨i, List.mem_cons_self, M.ownA es hv⟩
    · obtain ⟨j, hj, o⟩ := ih e2 h3
      exact ⟨j, List.mem_cons_of_mem _ hj, o⟩
theorem av_nodup (S : SR K fa ca G F ρ σ H) {vs : List V} {as : List AV} (A : AvL K fa F H σ vs as) : ∀ {xs : List Arg}, argsOf ρ as = some xs → nodupN (owns as) = true → (oA vs xs).Nodup := by
  induction A with
  | nil => intro xs e _; cases e; exact List.nodup_nil
  | @d v x vs as r t ih =>
    intro xs e n
    obtain ⟨x, ys, e1, e2, rfl⟩ := argsOf_cons e
    cases e1
    have h := ih e2 n
    cases v <;> exact h
  | @own v i vs as hv t ih =>
    intro xs e n
    have n' : (!(owns as).contains i && nodupN (owns as)) = true := n
    rw [Bool.and_eq_true] at n'
    obtain ⟨x, ys, e1, e2, rfl⟩ := argsOf_cons e
    obtain ⟨s, l, mk, es, M, rfl⟩ := argOf_own e1
    obtain ⟨b, zs, q1, _, _, _⟩ := S.mine M es
    rw [hv] at q1
    cases q1
    show (b :: oA vs ys).Nodup
    refine List.nodup_cons.mpr ⟨fun hb => ?_, ih e2 n'.2⟩
    obtain ⟨j, hj, o⟩ := av_own S t e2 hb
    have := S.dis _ _ _ (M.ownA es hv) o
    subst this
    have n1 := n'.1
    rw [Bool.not_eq_true'] at n1
    rw [List.contains_iff_mem.mpr hj] at n1
    cases n1
/-- a slot's list came back -/
inductive Bk : Option Sl → List D → Option Sl → Prop
  | own (l m : List D) : Bk (some (.own l)) m (some (.own m))
  | par (l m : List D) : Bk (some (.par l)) m (some (.par m))
theorem back_get : ∀ {is : List Nat} {ls : List (List D)} {ρ ρ' : Env}, backTo ρ is ls = some ρ' → nodupN is = true →
    ρ'.length = ρ.length ∧ (∀ j, j ∉ is → ρ'[j]? = ρ[j]?) ∧ ∀ j, j ∈ is → ∃ (k : Nat) (l : List D), is[k]? = some j ∧ ls[k]? = some l ∧ Bk ρ[j]? l ρ'[j]?
  | [], [], ρ, ρ', e, _ => by cases e; exact ⟨rfl, fun _ _ => rfl, fun _ h => nomatch h⟩
  | [], _ :: _, _, _, e, _ => by cases e
  | _ :: _, [], _, _, e, _ => by cases e
  | i :: is, l :: ls, ρ, ρ', e, n => by
    have n' : (!is.contains i && nodupN is) = true := n
    rw [Bool.and_eq_true] at n'
    have ni : i ∉ is := fun h => by
      have n1 := n'.1
      rw [List.contains_iff_mem.mpr h] at n1
      cases n1
    have go : ∀ {s : Sl}, i < ρ.length → Bk ρ[i]? l (some s) → backTo (ρ.set i s) is ls = some ρ' → ρ'.length = ρ.length ∧ (∀ j, j ∉ i :: is → ρ'[j]? = ρ[j]?) ∧ ∀ j, j ∈ i :: is → ∃ (k : Nat) (m : List D), (i :: is)[k]? = some j ∧ (l :: ls)[k]? = some m ∧ Bk ρ[j]? m ρ'[j]? := fun {s} hi b q => by
      obtain ⟨h1, h2, h3⟩ := back_get q n'.2
      refine ⟨by rw [h1, List.length_set], fun j hj => ?_, fun j hj => ?_⟩
      · rw [h2 j fun z => hj (List.mem_cons_of_mem _ z), List.getElem?_set_ne (fun z => hj (by rw [z]; exact List.mem_cons_self) : i ≠ j)]
      · by_cases z : i = j
        · subst z
          refine ⟨0, l, rfl, rfl, ?_⟩
          rw [h2 i ni, List.getElem?_set_self hi]
          exact b
        · rcases List.mem_cons.mp hj with y | y
          · exact absurd y.symm z
          · obtain ⟨k, m, k1, k2, k3⟩ := h3 j y
            rw [List.getElem?_set_ne z] at k3
            exact ⟨k + 1, m, by simpa using k1, by simpa using k2, k3⟩
    have e' : (match ρ[i]? with
      | some (.own _) => backTo (ρ.set i (.own l)) is ls
      | some (.par _) => backTo (ρ.set i (.par l)) is ls
      | _ => none) = some ρ' := e
    cases es : ρ[i]? with
    | none => rw [es] at e'; cases e'
    | some s =>
      have hi := (List.getElem?_eq_some_iff.mp es).1
      rw [es] at e'
      cases s with
      | own m => exact go hi (by rw [es]; exact .own m l) e'
      | par m => exact go hi (by rw [es]; exact .par m l) e'
      | _ => cases e'
theorem out_get (S : SR K fa ca G F ρ σ H) {F' : Addr → Prop} {H' : Hp} {vs : List V} {as : List AV} (A : AvL K fa F H σ vs as) : ∀ {xs : List Arg} {os : List (List D)}, argsOf ρ as = some xs → OutL K fa F' H' vs xs os →
    ∀ (k : Nat) (i : Nat) (l : List D), (owns as)[k]? = some i → os[k]? = some l → ∃ a zs, σ[i]? = some (some (.ref a)) ∧ H' a = some (.lst zs) ∧ ¬ F' a ∧ RpL K fa F' H' zs l := by
  induction A with
  | nil => intro xs os e _ k i l h _; cases k <;> cases h
  | d r t ih =>
    intro xs os e o k i l h1 h2
    obtain ⟨x, ys, e1, e2, rfl⟩ := argsOf_cons e
    cases e1
    cases o with
    | d o => exact ih e2 o k i l h1 h2
  | own hv t ih =>
    intro xs os e o k i l h1 h2
    obtain ⟨x, ys, e1, e2, rfl⟩ := argsOf_cons e
    obtain ⟨s, l0, mk, es, M, rfl⟩ := argOf_own e1
    cases o with
    | own o1 o2 o3 o4 =>
      cases k with
      | zero =>
        cases h1
        cases h2
        exact ⟨_, _, hv, o1, o2, o3⟩
      | succ k => exact ih e2 o4 k i l (by simpa [owns] using h1) (by simpa using h2)
/-- the state behind a call -/
theorem SR.call (S : SR K fa ca G F ρ σ H) {F' : Addr → Prop} {H' : Hp} {vs : List V} {as : List AV} {xs : List Arg} (hv : AvL K fa F H σ vs as) (ha : argsOf ρ as = some xs) (P : CPost0 F H F' H' vs xs) : Ext F H F' H' := by
  have nF : ∀ a, F a → a ∉ oA vs xs := fun a f h => by
    obtain ⟨i, _, o⟩ := av_own S hv ha h
    exact (S.ownAt o).2 f
  have nL : ∀ a o, H a = some o → (∀ zs, o ≠ .lst zs) → a ∉ oA vs xs := fun a o e d h => by
    obtain ⟨i, _, q⟩ := av_own S hv ha h
    obtain ⟨zs, ez⟩ := (S.ownAt q).1
    rw [e] at ez
    cases ez
    exact d zs rfl
  exact ⟨fun a f => ⟨P.up a f, by obtain ⟨zs, e⟩ := S.trk a f; rw [e, P.fr a _ e (nF a f)]⟩, fun a zs e => P.fr a _ e (nL a _ e fun _ z => by cases z), fun a o u e => P.fr a _ e (nL a _ e fun _ z => by cases z), fun a fs e => P.fr a _ e (nL a _ e fun _ z => by cases z)⟩
theorem SR.back (S : SR K fa ca G F ρ σ H) {F' : Addr → Prop} {H' : Hp} {vs : List V} {as : List AV} {xs : List Arg} {os : List (List D)} (hv : AvL K fa F H σ vs as) (ha : argsOf ρ as = some xs) (P : CPost0 F H F' H' vs xs) (O : OutL K fa F' H' vs xs os)
    (hn : nodupN (owns as) = true) (hb : backTo ρ (owns as) os = some ρ') : SR K fa ca G F' ρ' σ H' := by
  have E := S.call hv ha P
  obtain ⟨b1, b2, b3⟩ := back_get hb hn
  have kind : ∀ j, (∀ l, ρ'[j]? = some (Sl.own l) → ∃ m, ρ[j]? = some (Sl.own m)) ∧ (∀ l, ρ'[j]? = some (Sl.par l) → ∃ m, ρ[j]? = some (Sl.par m)) ∧ (∀ m, ρ[j]? = some (Sl.par m) → ∃ l, ρ'[j]? = some (Sl.par l)) := fun j => by
    by_cases h : j ∈ owns as
    · obtain ⟨k, l, _, _, b⟩ := b3 j h
      generalize e1 : ρ[j]? = o1 at b
      generalize e2 : ρ'[j]? = o2 at b
      cases b with
      | own l m => exact ⟨fun _ _ => ⟨_, e1⟩, fun _ e => (by rw [e2] at e; cases e), fun _ e => (by rw [e1] at e; cases e)⟩
      | par l m => exact ⟨fun _ e => (by rw [e2] at e; cases e), fun _ _ => ⟨_, e1⟩, fun _ _ => ⟨_, e2⟩⟩
    · have b := b2 j h
      exact ⟨fun l e => ⟨l, b.symm.trans e⟩, fun l e => ⟨l, b.symm.trans e⟩, fun l e => ⟨l, b.trans e⟩⟩
  have own : ∀ j a, OwnA ρ' σ j a → OwnA ρ σ j a := fun j a o => by
    obtain ⟨o, e⟩ := o
    refine ⟨?_, e⟩
    rcases o with ⟨l, o⟩ | ⟨l, o⟩
    · exact .inl ((kind j).1 l o)
    · exact .inr ((kind j).2.1 l o)
  have frO : ∀ a zs, H a = some (.lst zs) → ¬ F a → a ∉ oA vs xs → H' a = some (.lst zs) ∧ ¬ F' a := fun a zs e nf na => ⟨P.fr a _ e na, fun f => by
    rcases P.new a f with z | z
    · exact nf z
    · rw [e] at z; cases z⟩
  refine ⟨b1.trans S.len, fun j s e => ?_, fun i j a h1 h2 => S.dis i j a (own _ _ h1) (own _ _ h2), P.trk, fun a o e n => ?_, fun a f => ?_, fun a f => P.up a (S.up a f), fun p hp => ?_, S.gp, fun a o q => ?_⟩
  · by_cases h : j ∈ owns as
    · obtain ⟨k, l, k1, k2, b⟩ := b3 j h
      obtain ⟨a, zs, ea, eh, nf, r⟩ := out_get S hv ha O k j l k1 k2
      rw [e] at b
      generalize eo : ρ[j]? = o at b
      cases b with
      | own m _ =>
        have q := S.sl j _ eo
        rw [ea] at q ⊢
        cases q with
        | own h1 h2 h3 h4 => exact .own eh nf r h4
      | par m _ =>
        have q := S.sl j _ eo
        rw [ea] at q ⊢
        cases q with
        | par h1 h2 h3 h4 => exact .par eh nf r h4
    · rw [b2 j h] at e
      have q := S.sl j s e
      have nj : ∀ {a : Addr}, OwnA ρ σ j a → a ∉ oA vs xs := fun {a} oj hm => by
        obtain ⟨i, hi, o⟩ := av_own S hv ha hm
        have := S.dis _ _ _ oj o
        subst this
        exact h hi
      generalize eo : σ[j]? = w at q
      cases q with
      | none => exact .none
      | val r => exact .val (Rp.ext E _ _ r)
      | own h1 h2 h3 h4 => exact .own (frO _ _ h1 h2 (nj ⟨.inl ⟨_, e⟩, eo⟩)).1 (frO _ _ h1 h2 (nj ⟨.inl ⟨_, e⟩, eo⟩)).2 (RpL.ext E _ _ h3) h4
      | par h1 h2 h3 h4 => exact .par (frO _ _ h1 h2 (nj ⟨.inr ⟨_, e⟩, eo⟩)).1 (frO _ _ h1 h2 (nj ⟨.inr ⟨_, e⟩, eo⟩)).2 (RpL.ext E _ _ h3) h4
      | exn h1 h2 => exact .exn h1 (h2.ext E)
  · exact P.fr a o (S.fr a o e n) fun hm => by
      obtain ⟨i, hi, q⟩ := av_own S hv ha hm
      obtain ⟨q, eσ⟩ := q
      rcases q with ⟨l, q⟩ | ⟨l, q⟩
      · have z := S.sl i _ q
        rw [eσ] at z
        cases z with
        | own h1 h2 h3 h4 => rw [h4] at e; cases e
      · have z := S.sl i _ q
        rw [eσ] at z
        cases z with
        | par h1 h2 h3 h4 => exact n i h4
  · rcases P.new a f with z | z
    · exact S.new a z
    · exact .inr (S.nfr z)
  · obtain ⟨⟨l, h1⟩, h2⟩ := S.par p hp
    exact ⟨(kind p.1).2.2 l h1, h2⟩
  · obtain ⟨p1, p2, p3⟩ := S.pn a o q
    refine ⟨P.fr a o p1 fun hm => ?_, fun f => ?_, fun i h => p3 i (own _ _ h)⟩
    · obtain ⟨i, _, q⟩ := av_own S hv ha hm
      exact p3 i q
    · rcases P.new a f with z | z
      · exact p2 z
      · rw [p1] at z; cases z
/-- what follows the arguments: the call, and the lists come back -/
theorem call_post {f : Nat} {F0 : Addr → Prop} {H0 : Hp} {vs : List V} {as : List AV} {Q : VK} (S : SR K fa ca G F ρ σ H) (E0 : Ext F0 H0 F H) (A : AvL K fa F H σ vs as)
    (h : RPost K fa ca G F0 H0 σ W (doCall f as C ρ) fun r ρ' => ∀ v F' H', SR K fa ca G F' ρ' σ H' → Ext F0 H0 F' H' → RpEx K fa G F' ρ' σ H' r v → Q v H') : spC K fa ca C f vs H Q (WE W σ) := by
  unfold doCall at h
  split at h
  · rename_i hn
    cases ha : argsOf ρ as with
    | none => rw [ha] at h; exact h.elim
    | some xs =>
      rw [ha] at h
      refine ⟨F, xs, S.trk, av_args S A ha, av_nodup S A ha hn, ?_⟩
      cases hc : C f xs with
      | stuck => simp only [hc] at h; exact h.elim
      | exc c fs =>
        simp only [hc] at h
        split at h
        · rename_i ho
          intro F' H' cls d P q
          have E := S.call A ha P
          have n0 : owns as = [] := List.isEmpty_iff.mp ho
          have key : ∀ {vs : List V} {as : List AV}, AvL K fa F H σ vs as → ∀ {xs : List Arg}, argsOf ρ as = some xs → owns as = [] → OutL K fa F' H' vs xs [] := by
            intro vs as A
            induction A with
            | nil => intro xs e _; cases e; exact .nil
            | d r t ih =>
              intro xs e n
              obtain ⟨x, ys, e1, e2, rfl⟩ := argsOf_cons e
              cases e1
              exact .d (ih e2 n)
            | own hv t ih => intro xs e n; cases n
          have SS : SR K fa ca G F' ρ σ H' := S.back (os := []) A ha P (key A ha n0) hn (by rw [n0]; rfl)
          exact h F' H' cls d SS (E0.trans E) q
        · exact h.elim
      | ok r os =>
        simp only [hc] at h
        intro v F' H' P
        cases hb : backTo ρ (owns as) os with
        | none => rw [hb] at h; exact h.elim
        | some ρ' =>
          rw [hb] at h
          have S' := S.back A ha P.toCPost0 P.out hn hb
          refine h v F' H' S' (E0.trans (S.call A ha P.toCPost0)) ?_
          have res := P.res
          cases r with
          | d x => exact res
          | fresh l =>
            obtain ⟨b, zs, rfl, h1, h2, h3, h4⟩ := res
            refine ⟨b, zs, rfl, h3, h4, h2, ⟨S.nfr h1, S.npin h1⟩, fun i o => ?_⟩
            obtain ⟨k1, k2, k3⟩ := back_get hb hn
            have o' : OwnA ρ σ i b := by
              obtain ⟨o, e⟩ := o
              refine ⟨?_, e⟩
              by_cases hm : i ∈ owns as
              · obtain ⟨k, l, _, _, bb⟩ := k3 i hm
                generalize e1 : ρ[i]? = o1 at bb
                generalize e2 : ρ'[i]? = o2 at bb
                cases bb with
                | own l m => exact .inl ⟨_, rfl⟩
                | par l m => exact .inr ⟨_, rfl⟩
              · have q := k2 i hm
                rcases o with ⟨l, o⟩ | ⟨l, o⟩
                · exact .inl ⟨l, q.symm.trans o⟩
                · exact .inr ⟨l, q.symm.trans o⟩
            exact S.nown h1 i o'
  · exact h.elim
theorem sim_call {f : Nat} {e : Expr} {es : List Expr} {as : List AD} (ha : SimV fa ca W C X es as) (pe : ∀ {t}, PA X es t → PE X e (tCallS (spC X.K fa ca C f) (WE W) t)) : SimE fa ca W C X e (dCall f as) := by
  refine pe_le (pe ha) fun σ H Q h => ?_
  obtain ⟨G, F, ρ, S, h⟩ := h
  exact ⟨G, F, ρ, S, (RPost.bind (x := argsE as C ρ) h).mono fun xs ρ1 h1 vs F1 H1 S1 E1 r1 => call_post S1 E1 r1 h1⟩
theorem AvL.at {vs : List V} {as : List AV} (A : AvL K fa F H σ vs as) : ∀ {i : Nat} {a : AV}, as[i]? = some a → ∃ v, vs[i]? = some v ∧ AvL K fa F H σ [v] [a] := by
  induction A with
  | nil => intro i a e; simp at e
  | d r t ih =>
    intro i a e
    cases i with
    | zero => simp at e; subst e; exact ⟨_, rfl, .d r .nil⟩
    | succ i =>
      obtain ⟨v, h1, h2⟩ := ih (show _ = some a by simpa using e)
      exact ⟨v, by simpa using h1, h2⟩
  | own h t ih =>
    intro i a e
    cases i with
    | zero => simp at e; subst e; exact ⟨_, rfl, .own h .nil⟩
    | succ i =>
      obtain ⟨v, h1, h2⟩ := ih (show _ = some a by simpa using e)
      exact ⟨v, by simpa using h1, h2⟩
theorem AvL.cons1 {v : V} {a : AV} {vs : List V} {as : List AV} (h : AvL K fa F H σ [v] [a]) (t : AvL K fa F H σ vs as) : AvL K fa F H σ (v :: vs) (a :: as) := by
  cases h with
  | d r _ => exact .d r t
  | own h _ => exact .own h t
theorem AvL.perm {vs : List V} {as : List AV} (A : AvL K fa F H σ vs as) : ∀ p : List Nat, AvL K fa F H σ (permL p vs) (permL p as)
  | [] => .nil
  | i :: p => by
    have ih := A.perm p
    unfold permL at ih ⊢
    rw [List.filterMap_cons, List.filterMap_cons]
    cases e : as[i]? with
    | none =>
      have e2 : vs[i]? = none := by
        rw [List.getElem?_eq_none_iff] at e ⊢
        rw [A.length]; exact e
      rw [e2]; exact ih
    | some a =>
      obtain ⟨v, h1, h2⟩ := A.at e
      rw [h1]; exact h2.cons1 ih
theorem sim_callK {f : Nat} {p : List Nat} {e : Expr} {as : List AD}
    (pe : PE X e (fun σ H Q => tSemV X.K fa ca W as C σ H fun vs H1 => spC X.K fa ca C f (permL p vs) H1 Q (WE W σ))) : SimE fa ca W C X e (dCallK f p as) := by
  refine pe_le pe fun σ H Q h => ?_
  obtain ⟨G, F, ρ, S, h⟩ := h
  exact ⟨G, F, ρ, S, (RPost.bind (x := argsE as C ρ) h).mono fun xs ρ1 h1 vs F1 H1 S1 E1 r1 => call_post S1 E1 (r1.perm p) h1⟩
theorem sim_callV {i : Nat} {e : Expr} {as : List AD}
    (pe : ∀ {f : Nat}, PE X e (fun σ H Q => σ[i]? = some (some (.ref (fa f))) ∧ tSemV X.K fa ca W as C σ H fun vs H1 => spC X.K fa ca C f vs H1 Q (WE W σ))) : SimE fa ca W C X e (dCallV i as) := by
  refine ⟨fun pins s σ H Q I h => ?_⟩
  obtain ⟨G, F, ρ, S, h⟩ := h
  unfold dCallV at h
  cases e1 : ρ[i]? with
  | none => rw [e1] at h; exact h.elim
  | some s1 =>
    rw [e1] at h
    have q := S.sl i s1 e1
    generalize eo : σ[i]? = o at q
    cases q with
    | val r =>
      cases r with
      | fn f =>
        exact (pe (f := f)).run pins s σ H Q I ⟨eo, G, F, ρ, S, (RPost.bind (x := argsE as C ρ) h).mono fun xs ρ1 h1 vs F1 H1 S1 E1 r1 => call_post S1 E1 r1 h1⟩
      | _ => exact h.elim
    | _ => exact h.elim
end
end RX
set_option Elab.async false
set_option linter.all false
set_option maxRecDepth 100000
set_option maxHeartbeats 4000000
/-! RXh: targets, walks, statements. -/
namespace RX
open PySem PySem.Spec PyProof.Rows L2
section
variable {K : PySem.W.Frag} {fa : Nat → Addr} {ca : Cc} {W : WX} {C : Calls} {X : Cx} {G : Gh} {F F' : Addr → Prop} {H H' : Hp} {σ σ' : L2.St} {ρ ρ' : Env}
/-! ### targets -/
def Tg.slots : Tg → List Nat
  | .v i => [i]
  | .t l => l
/-- a target's reading stores what the evaluator stores -/
def TgS (K : PySem.W.Frag) (fa : Nat → Addr) (ca : Cc) (tg : Tg) (g : TG) : Prop := ∀ (G : Gh) (F : Addr → Prop) (H : Hp) (σ : L2.St) (ρ ρ1 : Env) (v : V) (x : D) (Q : L2.St → Hp → Prop), SR K fa ca G F ρ σ H → Rp K fa F H v x → tg.st ρ x = some ρ1 →
  (∀ σ', SR K fa ca G F ρ1 σ' H → (∀ vs, (∀ i ∈ tg.slots, i ∈ vs) → L2.wipe σ' vs = L2.wipe σ vs) → Q σ' H) → g v σ H Q
theorem wipe_set {i : Nat} {o : Option V} : ∀ {vs : List Nat} {σ : L2.St}, i ∈ vs → L2.wipe (σ.set i o) vs = L2.wipe σ vs
  | [], _, h => nomatch h
  | v :: vs, σ, h => by
    show (L2.wipe (σ.set i o) vs).set v none = (L2.wipe σ vs).set v none
    by_cases hm : i ∈ vs
    · rw [wipe_set hm]
    · rcases List.mem_cons.mp h with z | z
      · subst z
        have q : ∀ (vs : List Nat) (σ : L2.St), i ∉ vs → L2.wipe (σ.set i o) vs = (L2.wipe σ vs).set i o := by
          intro vs
          induction vs with
          | nil => intro σ _; rfl
          | cons w ws ih =>
            intro σ hn
            have h1 : i ≠ w := fun z => hn (by rw [z]; exact List.mem_cons_self)
            have h2 : i ∉ ws := fun z => hn (List.mem_cons_of_mem _ z)
            show (L2.wipe (σ.set i o) ws).set w none = ((L2.wipe σ ws).set w none).set i o
            rw [ih σ h2, List.set_comm _ _ h1]
        rw [q vs σ hm, List.set_set]
      · exact absurd z hm
theorem stSl_ok (S : SR K fa ca G F ρ σ H) {i : Nat} {v : V} {r : Ex} {ρ1 : Env} (h : stSl ρ i r.sl = some ρ1) (hr : RpEx K fa G F ρ σ H r v) : SR K fa ca G F ρ1 (σ.set i (some v)) H := by
  unfold stSl at h
  cases e : ρ[i]? with
  | none => rw [e] at h; cases h
  | some s =>
    rw [e] at h
    have hi := (List.getElem?_eq_some_iff.mp e).1
    have go : (∀ l, s ≠ .par l) → SR K fa ca G F (ρ.set i r.sl) (σ.set i (some v)) H := fun n => S.store hi (fun l z => by rw [e] at z; cases z; exact n l rfl) hr
    cases s with
    | par l => cases h
    | exn c fs => cases h
    | none => cases h; exact go fun _ z => by cases z
    | val d => cases h; exact go fun _ z => by cases z
    | own l => cases h; exact go fun _ z => by cases z
theorem tg_v {i : Nat} : TgS K fa ca (.v i) (gName i) := fun G F H σ ρ ρ1 v x Q S r h q => q _ (stSl_ok S (r := .d x) h r) fun vs hv => wipe_set (hv i List.mem_cons_self)
/-- several names -/
def gNames : List Nat → TGs
  | [] => gNil
  | i :: r => gCons (gName i) (gNames r)
theorem stAll_ok : ∀ {l : List Nat} {G : Gh} {F : Addr → Prop} {H : Hp} {σ : L2.St} {ρ ρ1 : Env} {xs : List V} {ds : List D} {Q : L2.St → Hp → Prop}, SR K fa ca G F ρ σ H → RpL K fa F H xs ds → stAll ρ l ds = some ρ1 →
    (∀ σ', SR K fa ca G F ρ1 σ' H → (∀ vs, (∀ i ∈ l, i ∈ vs) → L2.wipe σ' vs = L2.wipe σ vs) → Q σ' H) → xs.length = l.length ∧ gNames l xs σ H Q
  | [], G, F, H, σ, ρ, ρ1, xs, ds, Q, S, r, h, q => by
    cases r with
    | nil => cases h; exact ⟨rfl, rfl, q σ S fun _ _ => rfl⟩
    | cons _ _ => cases h
  | i :: l, G, F, H, σ, ρ, ρ1, xs, ds, Q, S, r, h, q => by
    cases r with
    | nil => cases h
    | @cons v vs d ds r t =>
      have h' : ((stSl ρ i (.val d)).bind fun ρ1 => stAll ρ1 l ds) = some ρ1 := h
      cases e : stSl ρ i (.val d) with
      | none => rw [e] at h'; cases h'
      | some ρ2 =>
        rw [e] at h'
        have S2 := stSl_ok S (r := .d d) e r
        have q' := stAll_ok (Q := Q) S2 t h' fun σ' S' w => q σ' S' fun vs hv => (w vs fun j hj => hv j (List.mem_cons_of_mem _ hj)).trans (wipe_set (hv i List.mem_cons_self))
        exact ⟨congrArg (· + 1) q'.1, v, vs, rfl, q'.2⟩
theorem tg_t {l : List Nat} : TgS K fa ca (.t l) (gTup K l.length (gNames l)) := fun G F H σ ρ ρ1 v x Q S r h q => by
  cases x with
  | tup ds =>
    cases r with
    | @tup a xs _ s r =>
      obtain ⟨h1, h2⟩ := stAll_ok (Q := Q) S r h q
      exact ⟨a, xs, rfl, s, h1, h2⟩
  | _ => cases h
/-! ### walks -/
/-- J yields the items l, whatever goes on -/
def ItR (K : PySem.W.Frag) (fa : Nat → Addr) (F : Addr → Prop) (H : Hp) (J : It) (l : List D) : Prop := ∀ F2 H2, Ext F H F2 H2 → Trk F2 H2 → ∀ i, (∀ x, l[i]? = some x → J.go i H2 ∧ ∀ v H3, J.yld i H2 v H3 → Same H2 H3 ∧ Rp K fa F2 H3 v x) ∧ (i = l.length → J.stop i H2)
def tSemI (K : PySem.W.Frag) (fa : Nat → Addr) (ca : Cc) (W : WX) (it : ID) (C : Calls) : TI := fun σ H R => ∃ G F ρ, SR K fa ca G F ρ σ H ∧ RPost K fa ca G F H σ W (it C ρ) fun l ρ' => ∀ J F' H', SR K fa ca G F' ρ' σ H' → Ext F H F' H' → ItR K fa F' H' J l → R J H'
abbrev SimI (fa : Nat → Addr) (ca : Cc) (W : WX) (C : Calls) (X : Cx) (tg e : Expr) (it : ID) : Prop := PI X tg e (tSemI X.K fa ca W it C)
theorem pi_le {X : Cx} {tg e : Expr} {t t' : TI} (h : PI X tg e t) (i : ∀ σ H R, t' σ H R → t σ H R) : PI X tg e t' := ⟨fun pins s σ H R I q => h.run pins s σ H R I (i _ _ _ q)⟩
def iSeq (K : PySem.W.Frag) (tl : TE) : TI := fun σ H R => tl σ H fun x H1 => ∃ a, x = .ref a ∧ (((∃ xs, SqL K H1 a xs) ∧ R (Itl K a) H1) ∨ ((∃ xs, SqT K H1 a xs) ∧ R (Itt K a) H1))
theorem pi_seq {tg l : Expr} {tl : TE} (hl : PE X l tl) : PI X tg l (iSeq X.K tl) := by
  refine ⟨fun pins s σ H R I h => ?_⟩
  refine thn (hl.run pins s σ H _ I h) fun v s1 ⟨x, H1, I1, r1, q1⟩ => ?_
  obtain ⟨a, e, q⟩ := q1
  subst e
  cases r1
  rcases q with ⟨⟨xs, hq⟩, q⟩ | ⟨⟨xs, hq⟩, q⟩
  · obtain ⟨its, rv, p, hz⟩ := I1.list hq
    refine wpAny_pyIter_list p.isList ?_
    refine ⟨s1.heap.objs.size, [s1.heap.objs.size], _, _, H1, rfl, I1.kept (t' := s1.toks) fun b o e => Heap.get?_push_of_some _ e, turn_list a _, ⟨_, Heap.get?_push_size _ rfl, rfl, rfl⟩, fun b hb => ?_, q⟩
    have e : b = s1.heap.objs.size := by simpa using hb
    subst e
    exact I1.fpOk (Nat.le_refl _) (I1.hok.fresh (Nat.le_refl _))
  · obtain ⟨its, rv, p, hz⟩ := I1.tuple hq
    refine wpAny_pyIter_tuple (show s1.heap.IsTuple a its.toArray from p) ?_
    refine ⟨s1.heap.objs.size, [s1.heap.objs.size], _, _, H1, rfl, I1.kept (t' := s1.toks) fun b o e => Heap.get?_push_of_some _ e, turn_tuple a _, ⟨_, Heap.get?_push_size _ rfl, rfl, rfl⟩, fun b hb => ?_, q⟩
    have e : b = s1.heap.objs.size := by simpa using hb
    subst e
    exact I1.fpOk (Nat.le_refl _) (I1.hok.fresh (Nat.le_refl _))
theorem sqt_inj {a : Addr} {xs ys : List V} (h : SqT K H a xs) (h' : SqT K H a ys) (hk : ∀ o, K.lookup a = some o → H a = none) : xs = ys := by
  rcases h with (h | ⟨o, h⟩) | ⟨o, its, n, k1, k2, k3, k4, k5⟩
  · rcases h' with (h' | ⟨o', h'⟩) | ⟨o', _, _, k, _⟩
    · rw [h] at h'; cases h'; rfl
    · rw [h] at h'; cases h'
    · rw [hk _ k] at h; cases h
  · rcases h' with (h' | ⟨o', h'⟩) | ⟨o', _, _, k, _⟩
    · rw [h] at h'; cases h'
    · rw [h] at h'; cases h'; rfl
    · rw [hk _ k] at h; cases h
  · rcases h' with (h' | ⟨o', h'⟩) | ⟨o', _, _, k, _, q3, _, q5⟩
    · rw [hk _ k1] at h'; cases h'
    · rw [hk _ k1] at h'; cases h'
    · rw [k1] at k; cases k; rw [k3] at q3; cases q3; exact k5.inj q5
theorem itr_list {a : Addr} {xs : List V} {l : List D} (s : H a = some (.lst xs)) (f : F a) (r : RpL K fa F H xs l) : ItR K fa F H (Itl K a) l := fun F2 H2 E T i => by
  have s2 : H2 a = some (.lst xs) := (E.fz a f).2.trans s
  have u : ∀ ys, SqL K H2 a ys → K.lookup a = none → ys = xs := fun ys h hk => by
    rcases h with (h | ⟨o, h⟩) | ⟨o, _, _, k, _⟩
    · rw [s2] at h; cases h; rfl
    · rw [s2] at h; cases h
    · rw [hk] at k; cases k
  refine ⟨fun x hx => ?_, fun e => ⟨xs, .of s2, by rw [e, r.length]; exact Nat.le_refl _⟩⟩
  obtain ⟨v, h1, h2⟩ := r.get hx
  refine ⟨⟨xs, v, .of s2, h1⟩, fun w H3 y => ?_⟩
  obtain ⟨rfl, q⟩ := y
  have := q xs (.of s2)
  rw [h1] at this
  cases this
  exact ⟨Same.refl _, Rp.ext E _ _ h2⟩
theorem itr_scr {a : Addr} {ns : List Int} (s : SqF K H a (ns.map V.int)) : ItR K fa F H (Itl K a) (ns.map D.int) := fun F2 H2 E T i => by
  have s2 : SqL K H2 a (ns.map V.int) := (E.sqf s).l
  have r := rpl_ints (K := K) (fa := fa) (F := F2) (H := H2) ns
  refine ⟨fun x hx => ?_, fun e => ⟨_, s2, by rw [e, r.length]; exact Nat.le_refl _⟩⟩
  obtain ⟨v, h1, h2⟩ := r.get hx
  refine ⟨⟨_, v, s2, h1⟩, fun w H3 y => ?_⟩
  obtain ⟨rfl, q⟩ := y
  have := q _ s2
  rw [h1] at this
  cases this
  exact ⟨Same.refl _, h2⟩
theorem itr_tup {a : Addr} {xs : List V} {l : List D} (s : SqT K H a xs) (r : RpL K fa F H xs l) : ItR K fa F H (Itt K a) l := fun F2 H2 E T i => by
  have s2 : SqT K H2 a xs := E.sqt s
  refine ⟨fun x hx => ?_, fun e => ⟨xs, s2, by rw [e, r.length]; exact Nat.le_refl _⟩⟩
  obtain ⟨v, h1, h2⟩ := r.get hx
  refine ⟨⟨xs, v, s2, h1⟩, fun w H3 y => ?_⟩
  obtain ⟨rfl, q⟩ := y
  have := q xs s2
  rw [h1] at this
  cases this
  exact ⟨Same.refl _, Rp.ext E _ _ h2⟩
theorem sim_iE {tg e : Expr} {d : Den} (he : SimE fa ca W C X e d) : SimI fa ca W C X tg e (iE d) := by
  refine pi_le (pi_seq he) fun σ H R h => ?_
  obtain ⟨G, F, ρ, S, h⟩ := h
  refine ⟨G, F, ρ, S, (RPost.bind (x := d C ρ) h).mono fun x ρ1 h1 v F1 H1 S1 E1 r1 => ?_⟩
  obtain ⟨F1, S1, E1', p1⟩ := S1.frz r1
  cases e : x.frz.items? with
  | none => rw [e] at h1; exact h1.elim
  | some l =>
    rw [e] at h1
    generalize x.frz = y at e p1
    cases y with
    | lst m =>
      cases e
      cases p1 with
      | @lst a xs _ f s r => exact ⟨a, rfl, .inl ⟨⟨xs, .of s⟩, h1 _ F1 H1 S1 (E1.trans E1') (itr_list s f r)⟩⟩
    | tup m =>
      cases e
      cases p1 with
      | @tup a xs _ s r => exact ⟨a, rfl, .inr ⟨⟨xs, s⟩, h1 _ F1 H1 S1 (E1.trans E1') (itr_tup s r)⟩⟩
    | scr m =>
      cases e
      cases p1 with
      | @scr a _ s => exact ⟨a, rfl, .inl ⟨⟨_, s.l⟩, h1 _ F1 H1 S1 (E1.trans E1') (itr_scr s)⟩⟩
    | _ => cases e
theorem rng_get {a b : Int} {i : Nat} {x : D} (h : (rng a b)[i]? = some x) : i < (b - a).toNat ∧ x = .int (a + i) := by
  unfold rng at h
  rw [List.getElem?_map] at h
  by_cases hi : i < (b - a).toNat
  · rw [List.getElem?_range hi] at h
    cases h
    exact ⟨hi, rfl⟩
  · rw [List.getElem?_eq_none (by rw [List.length_range]; omega)] at h
    cases h
theorem rng_len (a b : Int) : (rng a b).length = (b - a).toNat := by unfold rng; rw [List.length_map, List.length_range]
theorem itr_rng {a b : Int} : ItR K fa F H (Itr a (b - a).toNat) (rng a b) := fun F2 H2 E T i => by
  refine ⟨fun x hx => ?_, fun e => by rw [e, rng_len]; exact Nat.le_refl _⟩
  obtain ⟨hi, rfl⟩ := rng_get hx
  refine ⟨hi, fun v H3 y => ?_⟩
  obtain ⟨rfl, rfl⟩ := y
  exact ⟨Same.refl _, .int _⟩
theorem sim_iR1 {tg e a : Expr} {d : Den} (ha : SimE fa ca W C X a d) (st : starEach [a] X.env = (false, eval a X.env) :: starEach [] X.env) (pe : ∀ {t}, PA X [a] t → PI X tg e (iRng1 t)) : SimI fa ca W C X tg e (iR1 d) := by
  refine pi_le (pe (pa_cons ha pa_nil st)) fun σ H R h => ?_
  obtain ⟨G, F, ρ, S, h⟩ := h
  refine ⟨G, F, ρ, S, (RPost.bind (x := d C ρ) h).mono fun x ρ1 h1 v F1 H1 S1 E1 r1 => ?_⟩
  obtain ⟨F1, S1, E1', p1⟩ := S1.frz r1
  cases e : x.frz.asInt? with
  | none => rw [e] at h1; exact h1.elim
  | some n =>
    rw [e] at h1
    cases asInt_ok e p1
    by_cases hn : -16777216 < n ∧ n < 16777216
    · simp only [if_pos hn] at h1
      refine ⟨n, rfl, by omega, by omega, h1 _ F1 H1 S1 (E1.trans E1') ?_⟩
      have q := itr_rng (K := X.K) (fa := fa) (F := F1) (H := H1) (a := 0) (b := n)
      rw [Int.sub_zero] at q
      exact q
    · simp only [if_neg hn] at h1; exact h1.elim
theorem sim_iR2 {tg e a b : Expr} {da db : Den} (ha : SimE fa ca W C X a da) (hb : SimE fa ca W C X b db) (st : starEach [a, b] X.env = (false, eval a X.env) :: starEach [b] X.env) (st2 : starEach [b] X.env = (false, eval b X.env) :: starEach [] X.env)
    (pe : ∀ {t}, PA X [a, b] t → PI X tg e (iRng2 t)) : SimI fa ca W C X tg e (iR2 da db) := by
  refine pi_le (pe (pa_cons ha (pa_cons hb pa_nil st2) st)) fun σ H R h => ?_
  obtain ⟨G, F, ρ, S, h⟩ := h
  refine ⟨G, F, ρ, S, (RPost.bind (x := da C ρ) h).mono fun x ρ1 h1 v F1 H1 S1 E1 r1 => ?_⟩
  obtain ⟨F1, S1, E1', p1⟩ := S1.frz r1
  refine ⟨G, F1, ρ1, S1, (h1.bind.later (E1.trans E1')).mono fun y ρ2 h2 u F2 H2 S2 E2 r2 => ?_⟩
  obtain ⟨F2, S2, E2', p2⟩ := S2.frz r2
  cases e : x.frz.asInt? with
  | none => rw [e] at h2; exact h2.elim
  | some i =>
    cases e2 : y.frz.asInt? with
    | none => rw [e, e2] at h2; exact h2.elim
    | some j =>
      rw [e, e2] at h2
      cases asInt_ok e p1
      cases asInt_ok e2 p2
      by_cases hn : -16777216 < i ∧ i < 16777216 ∧ -16777216 < j ∧ j < 16777216
      · simp only [if_pos hn] at h2
        exact ⟨i, j, rfl, ⟨by omega, by omega, by omega, by omega⟩, h2 _ F2 H2 S2 (((E1.trans E1').trans E2).trans E2') itr_rng⟩
      · simp only [if_neg hn] at h2; exact h2.elim
/-! zip, of two lists or two tuples -/
theorem zipL_get : ∀ {l m : List D} {i : Nat} {x : D}, (zipL l m)[i]? = some x → ∃ a b, l[i]? = some a ∧ m[i]? = some b ∧ x = .tup [a, b]
  | [], _, i, x, h => by simp [zipL] at h
  | _ :: _, [], i, x, h => by simp [zipL] at h
  | a :: l, b :: m, 0, x, h => by simp [zipL] at h; exact ⟨a, b, rfl, rfl, h.symm⟩
  | a :: l, b :: m, i + 1, x, h => by
    have h' : (zipL l m)[i]? = some x := by simpa [zipL] using h
    obtain ⟨c, d, h1, h2, h3⟩ := zipL_get h'
    exact ⟨c, d, by simpa using h1, by simpa using h2, h3⟩
theorem zipL_len : ∀ l m : List D, (zipL l m).length = min l.length m.length
  | [], m => by simp [zipL]
  | _ :: _, [] => by simp [zipL]
  | a :: l, b :: m => by simp [zipL, zipL_len l m]
theorem itr_zip {a b : Addr} {xs ys : List V} {l m : List D} (s : H a = some (.lst xs)) (f : F a) (r : RpL K fa F H xs l) (s' : H b = some (.lst ys)) (f' : F b) (r' : RpL K fa F H ys m) : ItR K fa F H (Itz K a b) (zipL l m) := fun F2 H2 E T i => by
  have s2 : H2 a = some (.lst xs) := (E.fz a f).2.trans s
  have s3 : H2 b = some (.lst ys) := (E.fz b f').2.trans s'
  refine ⟨fun x hx => ?_, fun e => ⟨xs, ys, .of s2, .of s3, ?_⟩⟩
  · obtain ⟨c, d, h1, h2, rfl⟩ := zipL_get hx
    obtain ⟨v, k1, k2⟩ := r.get h1
    obtain ⟨u, q1, q2⟩ := r'.get h2
    refine ⟨⟨xs, ys, v, u, .of s2, .of s3, k1, q1⟩, fun w H3 y => ?_⟩
    obtain ⟨T', x1, y1, rfl, nT, rfl, g1, g2⟩ := y
    have z1 := g1 xs (.of s2)
    have z2 := g2 ys (.of s3)
    rw [k1] at z1; cases z1
    rw [q1] at z2; cases z2
    have sm : Same H2 (upd H2 T' (.tup [v, u])) := same_new nT
    have E3 := E.trans (Ext.same (F := F2) sm T)
    exact ⟨sm, .tup (.of upd_same) (.cons (Rp.ext E3 _ _ k2) (.cons (Rp.ext E3 _ _ q2) .nil))⟩
  · rw [zipL_len] at e
    rw [r.length, r'.length]
    by_cases h : l.length ≤ m.length
    · exact .inl (by omega)
    · exact .inr (by omega)
theorem itr_zipT {a b : Addr} {xs ys : List V} {l m : List D} (s : SqT K H a xs) (r : RpL K fa F H xs l) (s' : SqT K H b ys) (r' : RpL K fa F H ys m) : ItR K fa F H (RZ.ItzT K a b) (zipL l m) := fun F2 H2 E T i => by
  have s2 : SqT K H2 a xs := E.sqt s
  have s3 : SqT K H2 b ys := E.sqt s'
  refine ⟨fun x hx => ?_, fun e => ⟨xs, ys, s2, s3, ?_⟩⟩
  · obtain ⟨c, d, h1, h2, rfl⟩ := zipL_get hx
    obtain ⟨v, k1, k2⟩ := r.get h1
    obtain ⟨u, q1, q2⟩ := r'.get h2
    refine ⟨⟨xs, ys, v, u, s2, s3, k1, q1⟩, fun w H3 y => ?_⟩
    obtain ⟨T', x1, y1, rfl, nT, rfl, g1, g2⟩ := y
    have z1 := g1 xs s2
    have z2 := g2 ys s3
    rw [k1] at z1; cases z1
    rw [q1] at z2; cases z2
    have sm : Same H2 (upd H2 T' (.tup [v, u])) := same_new nT
    have E3 := E.trans (Ext.same (F := F2) sm T)
    exact ⟨sm, .tup (.of upd_same) (.cons (Rp.ext E3 _ _ k2) (.cons (Rp.ext E3 _ _ q2) .nil))⟩
  · rw [zipL_len] at e
    rw [r.length, r'.length]
    by_cases h : l.length ≤ m.length
    · exact .inl (by omega)
    · exact .inr (by omega)
theorem sim_iZip {tg e a b : Expr} {da db : Den} (ha : SimE fa ca W C X a da) (hb : SimE fa ca W C X b db) (st : starEach [a, b] X.env = (false, eval a X.env) :: starEach [b] X.env) (st2 : starEach [b] X.env = (false, eval b X.env) :: starEach [] X.env)
    (pe : ∀ {t}, PA X [a, b] t → PI X tg e (RZ.iZipA X.K t)) : SimI fa ca W C X tg e (iZip da db) := by
  refine pi_le (pe (pa_cons ha (pa_cons hb pa_nil st2) st)) fun σ H R h => ?_
  obtain ⟨G, F, ρ, S, h⟩ := h
  refine ⟨G, F, ρ, S, (RPost.bind (x := da C ρ) h).mono fun x ρ1 h1 v F1 H1 S1 E1 r1 => ?_⟩
  obtain ⟨F1, S1, E1', p1⟩ := S1.frz r1
  refine ⟨G, F1, ρ1, S1, (h1.bind.later (E1.trans E1')).mono fun y ρ2 h2 u F2 H2 S2 E2 r2 => ?_⟩
  obtain ⟨F2, S2, E2', p2⟩ := S2.frz r2
  have p1 := Rp.ext (E2.trans E2') _ _ p1
  have EE := ((E1.trans E1').trans E2).trans E2'
  generalize x.frz = x0 at h2 p1
  generalize y.frz = y0 at h2 p2
  cases x0 with
  | lst l =>
    cases y0 with
    | lst m =>
      cases p1 with
      | @lst a xs _ f s r =>
        cases p2 with
        | @lst b ys _ f' s' r' => exact ⟨a, b, xs, ys, rfl, .inl ⟨.of s, .of s', h2 _ F2 H2 S2 EE (itr_zip s f r s' f' r')⟩⟩
    | _ => exact h2.elim
  | tup l =>
    cases y0 with
    | tup m =>
      cases p1 with
      | @tup a xs _ s r =>
        cases p2 with
        | @tup b ys _ s' r' => exact ⟨a, b, xs, ys, rfl, .inr ⟨s, s', h2 _ F2 H2 S2 EE (itr_zipT s r s' r')⟩⟩
    | _ => exact h2.elim
  | _ => exact h2.elim
end
end RX
set_option Elab.async false
set_option linter.all false
set_option maxRecDepth 100000
set_option maxHeartbeats 4000000
/-! RXi: comprehensions, statements. -/
namespace RX
open PySem PySem.Spec PyProof.Rows L2
section
variable {K : PySem.W.Frag} {fa : Nat → Addr} {ca : Cc} {W : WX} {C : Calls} {X : Cx} {G : Gh} {F F' : Addr → Prop} {H H' : Hp} {σ σ' : L2.St} {ρ ρ' : Env}
/-! ### comprehensions -/
theorem L2wipe_len (σ : L2.St) (vs : List Nat) : (L2.wipe σ vs).length = σ.length := L2.wipe_length σ vs
theorem wipe_len (ρ : Env) : ∀ vs : List Nat, (RX.wipe ρ vs).length = ρ.length
  | [] => rfl
  | v :: vs => by show ((RX.wipe ρ vs).set v .none).length = _; rw [List.length_set, wipe_len ρ vs]
theorem wipe_get {i : Nat} : ∀ {vs : List Nat}, i ∉ vs → (RX.wipe ρ vs)[i]? = ρ[i]?
  | [], _ => rfl
  | v :: vs, h => by
    show ((RX.wipe ρ vs).set v .none)[i]? = _
    rw [List.getElem?_set_ne fun z => h (by rw [z]; exact List.mem_cons_self), wipe_get fun z => h (List.mem_cons_of_mem _ z)]
theorem wipe_in {i : Nat} {s : Sl} : ∀ {vs : List Nat}, i ∈ vs → (RX.wipe ρ vs)[i]? = some s → s = .none
  | [], h, _ => nomatch h
  | v :: vs, h, e => by
    have e' : ((RX.wipe ρ vs).set v .none)[i]? = some s := e
    by_cases z : v = i
    · subst z
      by_cases hl : v < (RX.wipe ρ vs).length
      · rw [List.getElem?_set_self hl] at e'; cases e'; rfl
      · rw [List.getElem?_eq_none (by rw [List.length_set]; omega)] at e'; cases e'
    · rw [List.getElem?_set_ne z] at e'
      rcases List.mem_cons.mp h with y | y
      · exact absurd y.symm z
      · exact wipe_in y e'
theorem L2wipe_get {i : Nat} : ∀ {vs : List Nat}, i ∉ vs → (L2.wipe σ vs)[i]? = σ[i]?
  | [], _ => rfl
  | v :: vs, h => by
    show ((L2.wipe σ vs).set v none)[i]? = _
    rw [List.getElem?_set_ne fun z => h (by rw [z]; exact List.mem_cons_self), L2wipe_get fun z => h (List.mem_cons_of_mem _ z)]
/-- slots of a block's own names: nothing that may be changed -/
def Free (ρ : Env) (vs : List Nat) : Prop := ∀ i ∈ vs, free1 ρ[i]? = true
theorem free_of {ρ : Env} {vs : List Nat} (h : vs.all (fun v => free1 ρ[v]?) = true) : Free ρ vs := fun i hi => List.all_eq_true.mp h i hi
theorem Free.sl {vs : List Nat} (f : Free ρ vs) {i : Nat} (h : i ∈ vs) {s : Sl} (e : ρ[i]? = some s) : s = .none ∨ ∃ d, s = .val d := by
  have q := f i h
  rw [e] at q
  cases s with
  | none => exact .inl rfl
  | val d => exact .inr ⟨d, rfl⟩
  | own l => cases q
  | par l => cases q
  | exn c fs => cases q
/-- into a block: its own names forgotten -/
theorem SR.wiped (S : SR K fa ca G F ρ σ H) {vs : List Nat} (f : ∀ i ∈ vs, ∀ l, ρ[i]? ≠ some (.par l)) (σ2 : L2.St) (hσ : L2.wipe σ2 vs = L2.wipe σ vs) (hl : σ2.length = σ.length) : SR K fa ca G F (RX.wipe ρ vs) σ2 H := by
  have at2 : ∀ i, i ∉ vs → σ2[i]? = σ[i]? := fun i h => by rw [← L2wipe_get (σ := σ2) h, hσ, L2wipe_get h]
  have own : ∀ i a, OwnA (RX.wipe ρ vs) σ2 i a → OwnA ρ σ i a := fun i a o => by
    obtain ⟨o, e⟩ := o
    by_cases h : i ∈ vs
    · rcases o with ⟨l, o⟩ | ⟨l, o⟩
      · cases wipe_in h o
      · cases wipe_in h o
    · rw [wipe_get h] at o
      rw [at2 i h] at e
      exact ⟨o, e⟩
  refine ⟨by rw [wipe_len, hl]; exact S.len, fun i s e => ?_, fun i j a h1 h2 => S.dis i j a (own _ _ h1) (own _ _ h2), S.trk, S.fr, S.new, S.up, fun p hp => ?_, S.gp, fun a o q => ⟨(S.pn a o q).1, (S.pn a o q).2.1, fun i h => (S.pn a o q).2.2 i (own _ _ h)⟩⟩
  · by_cases h : i ∈ vs
    · rw [wipe_in h e]; exact .none
    · rw [wipe_get h] at e
      rw [at2 i h]
      exact S.sl i s e
  · obtain ⟨⟨l, h1⟩, h2⟩ := S.par p hp
    have h : p.1 ∉ vs := fun z => f _ z l h1
    exact ⟨⟨l, by rw [wipe_get h]; exact h1⟩, by rw [at2 _ h]; exact h2⟩
theorem unwipe_len {ρ0 : Env} : ∀ {vs : List Nat}, (RX.unwipe ρ0 ρ vs).length = ρ.length
  | [] => rfl
  | v :: vs => by
    show (match ρ0[v]? with | some s => (RX.unwipe ρ0 ρ vs).set v s | none => RX.unwipe ρ0 ρ vs).length = _
    split
    · rw [List.length_set, unwipe_len]
    · exact unwipe_len
theorem unwipe_out {ρ0 : Env} {i : Nat} : ∀ {vs : List Nat}, i ∉ vs → (RX.unwipe ρ0 ρ vs)[i]? = ρ[i]?
  | [], _ => rfl
  | v :: vs, h => by
    have ih : (RX.unwipe ρ0 ρ vs)[i]? = ρ[i]? := unwipe_out fun z => h (List.mem_cons_of_mem _ z)
    show (match ρ0[v]? with | some s => (RX.unwipe ρ0 ρ vs).set v s | none => RX.unwipe ρ0 ρ vs)[i]? = _
    split
    · rw [List.getElem?_set_ne fun z => h (by rw [z]; exact List.mem_cons_self), ih]
    · exact ih
theorem unwipe_in {ρ0 : Env} {i : Nat} (hl : ρ.length = ρ0.length) : ∀ {vs : List Nat}, i ∈ vs → (RX.unwipe ρ0 ρ vs)[i]? = ρ0[i]?
  | [], h => nomatch h
  | v :: vs, h => by
    show (match ρ0[v]? with | some s => (RX.unwipe ρ0 ρ vs).set v s | none => RX.unwipe ρ0 ρ vs)[i]? = _
    by_cases z : v = i
    · subst z
      cases e : ρ0[v]? with
      | some s =>
        have := (List.getElem?_eq_some_iff.mp e).1
        show ((RX.unwipe ρ0 ρ vs).set v s)[v]? = some s
        rw [List.getElem?_set_self (by rw [unwipe_len, hl]; exact this)]
      | none =>
        have := List.getElem?_eq_none_iff.mp e
        show (RX.unwipe ρ0 ρ vs)[v]? = none
        exact List.getElem?_eq_none (by rw [unwipe_len, hl]; exact this)
    · have hm : i ∈ vs := by
        rcases List.mem_cons.mp h with y | y
        · exact absurd y.symm z
        · exact y
      have ih : (RX.unwipe ρ0 ρ vs)[i]? = ρ0[i]? := unwipe_in hl hm
      split
      · rw [List.getElem?_set_ne z, ih]
      · exact ih
/-- out of a block: its own names as they were -/
theorem SR.unwiped {ρ0 : Env} {F0 : Addr → Prop} {H0 : Hp} {vs : List Nat} (S0 : SR K fa ca G F0 ρ0 σ H0) (f : Free ρ0 vs) (S : SR K fa ca G F ρ (L2.wipe σ vs) H) (E : Ext F0 H0 F H) : SR K fa ca G F (RX.unwipe ρ0 ρ vs) σ H := by
  have hl : ρ.length = ρ0.length := by rw [S.len, L2wipe_len, S0.len]
  have own : ∀ i a, OwnA (RX.unwipe ρ0 ρ vs) σ i a → OwnA ρ (L2.wipe σ vs) i a := fun i a o => by
    obtain ⟨o, e⟩ := o
    by_cases h : i ∈ vs
    · rw [unwipe_in hl h] at o
      rcases o with ⟨l, o⟩ | ⟨l, o⟩
      · rcases f.sl h o with z | ⟨d, z⟩ <;> cases z
      · rcases f.sl h o with z | ⟨d, z⟩ <;> cases z
    · rw [unwipe_out h] at o
      exact ⟨o, by rw [L2wipe_get h]; exact e⟩
  refine ⟨by rw [unwipe_len, hl]; exact S0.len, fun i s e => ?_, fun i j a h1 h2 => S.dis i j a (own _ _ h1) (own _ _ h2), S.trk, S.fr, S.new, S.up, fun p hp => ?_, S.gp, fun a o q => ⟨(S.pn a o q).1, (S.pn a o q).2.1, fun i h => (S.pn a o q).2.2 i (own _ _ h)⟩⟩
  · by_cases h : i ∈ vs
    · rw [unwipe_in hl h] at e
      rcases f.sl h e with z | ⟨d, z⟩
      · rw [z]; exact .none
      · subst z
        have q := S0.sl i _ e
        generalize eo : σ[i]? = o at q
        cases q with
        | val r => exact .val (Rp.ext E _ _ r)
    · rw [unwipe_out h] at e
      have q := S.sl i s e
      rw [L2wipe_get h] at q
      exact q
  · obtain ⟨⟨l, h1⟩, h2⟩ := S.par p hp
    have h : p.1 ∉ vs := fun z => by
      obtain ⟨⟨l', k1⟩, _⟩ := S0.par p hp
      rcases f.sl z k1 with y | ⟨d, y⟩ <;> cases y
    exact ⟨⟨l, by rw [unwipe_out h]; exact h1⟩, by rw [L2wipe_get h] at h2; exact h2⟩
abbrev WN : WX := fun _ _ _ _ => False
theorem noExc_post {α : Type} {x : R α} {ok : α → Env → Prop} {σ2 : L2.St} {W2 : WX} (h : RPost K fa ca G F H σ W x.noExc ok) : RPost K fa ca G F H σ2 W2 x ok := by
  cases x with
  | ok a ρ => exact h
  | exc c fs ρ => exact h.elim
  | stuck => exact h.elim
abbrev blkX (X : Cx) (scope : Scope) (s : Shared) (H : Hp) (C : Addr) (cl : List (Str × Addr)) (fp : List Addr) : Cx := X.blk s H scope (compEnvC scope cl C X.env) fp
theorem compL_inv {vs : List Nat} {tg : Tg} {ts : TD} {elt : Den} {x : D} {xs : List D} {zs : List D} {ρE : Env} (e : compL vs tg ts elt C (x :: xs) ρ = .ok zs ρE) :
    ∃ ρ1 b ρ2, tg.st (RX.wipe ρ vs) x = some ρ1 ∧ ts C ρ1 = .ok b ρ2 ∧ (b = false → compL vs tg ts elt C xs ρ2 = .ok zs ρE) ∧ (b = true → ∃ y ρ3 ws, elt C ρ2 = .ok y ρ3 ∧ compL vs tg ts elt C xs ρ3 = .ok ws ρE ∧ zs = y.frz :: ws) := by
  unfold compL at e
  cases e1 : tg.st (RX.wipe ρ vs) x with
  | none => rw [e1] at e; cases e
  | some ρ1 =>
    rw [e1] at e
    cases e2 : ts C ρ1 with
    | exc c fs ρ2 => simp only [e2] at e; cases e
    | stuck => simp only [e2] at e; cases e
    | ok b ρ2 =>
      simp only [e2, R.bind] at e
      refine ⟨ρ1, b, ρ2, rfl, e2, fun hb => ?_, fun hb => ?_⟩
      · subst hb; simpa using e
      · subst hb
        simp only [if_true] at e
        cases e3 : elt C ρ2 with
        | exc c fs ρ3 => simp only [e3] at e; cases e
        | stuck => simp only [e3] at e; cases e
        | ok y ρ3 =>
          simp only [e3] at e
          cases e4 : compL vs tg ts elt C xs ρ3 with
          | exc c fs ρ3 => simp only [e4] at e; cases e
          | stuck => simp only [e4] at e; cases e
          | ok ws ρ4 =>
            simp only [e4] at e
            cases e
            exact ⟨y, ρ3, ws, rfl, e4, rfl⟩
theorem wipe_none {i : Nat} : ∀ {vs : List Nat}, (RX.wipe ρ vs)[i]? = if i ∈ vs ∧ i < ρ.length then some .none else ρ[i]?
  | [] => by simp [RX.wipe]
  | v :: vs => by
    show ((RX.wipe ρ vs).set v .none)[i]? = _
    by_cases z : v = i
    · subst z
      by_cases hl : v < ρ.length
      · rw [List.getElem?_set_self (by rw [wipe_len]; exact hl), if_pos ⟨List.mem_cons_self, hl⟩]
      · rw [List.getElem?_eq_none (by rw [List.length_set, wipe_len]; omega), if_neg fun q => hl q.2, List.getElem?_eq_none (by omega)]
    · rw [List.getElem?_set_ne z, wipe_none]
      by_cases hm : i ∈ vs
      · by_cases hl : i < ρ.length
        · rw [if_pos ⟨hm, hl⟩, if_pos ⟨List.mem_cons_of_mem _ hm, hl⟩]
        · rw [if_neg fun q => hl q.2, if_neg fun q => hl q.2]
      · rw [if_neg fun q => hm q.1, if_neg fun q => ?_]
        rcases List.mem_cons.mp q.1 with y | y
        · exact z y.symm
        · exact hm y
theorem wipe_wipe (vs : List Nat) : RX.wipe (RX.wipe ρ vs) vs = RX.wipe ρ vs := by
  apply List.ext_getElem?
  intro i
  rw [wipe_none, wipe_none, wipe_len]
  by_cases h : i ∈ vs ∧ i < ρ.length
  · rw [if_pos h, if_pos h]
  · rw [if_neg h, if_neg h]
theorem L2wipe_none {i : Nat} : ∀ {vs : List Nat}, (L2.wipe σ vs)[i]? = if i ∈ vs ∧ i < σ.length then some none else σ[i]?
  | [] => by simp [L2.wipe]
  | v :: vs => by
    show ((L2.wipe σ vs).set v none)[i]? = _
    by_cases z : v = i
    · subst z
      by_cases hl : v < σ.length
      · rw [List.getElem?_set_self (by rw [L2wipe_len]; exact hl), if_pos ⟨List.mem_cons_self, hl⟩]
      · rw [List.getElem?_eq_none (by rw [List.length_set, L2wipe_len]; omega), if_neg fun q => hl q.2, List.getElem?_eq_none (by omega)]
    · rw [List.getElem?_set_ne z, L2wipe_none]
      by_cases hm : i ∈ vs
      · by_cases hl : i < σ.length
        · rw [if_pos ⟨hm, hl⟩, if_pos ⟨List.mem_cons_of_mem _ hm, hl⟩]
        · rw [if_neg fun q => hl q.2, if_neg fun q => hl q.2]
      · rw [if_neg fun q => hm q.1, if_neg fun q => ?_]
        rcases List.mem_cons.mp q.1 with y | y
        · exact z y.symm
        · exact hm y
theorem L2wipe_wipe (vs : List Nat) : L2.wipe (L2.wipe σ vs) vs = L2.wipe σ vs := by
  apply List.ext_getElem?
  intro i
  rw [L2wipe_none, L2wipe_none, L2wipe_len]
  by_cases h : i ∈ vs ∧ i < σ.length
  · rw [if_pos h, if_pos h]
  · rw [if_neg h, if_neg h]
theorem compL_wipe {vs : List Nat} {tg : Tg} {ts : TD} {elt : Den} : ∀ {l : List D}, compL vs tg ts elt C l (RX.wipe ρ vs) = compL vs tg ts elt C l ρ
  | [] => by show R.ok [] (RX.wipe (RX.wipe ρ vs) vs) = R.ok [] (RX.wipe ρ vs); rw [wipe_wipe]
  | x :: xs => by unfold compL; rw [wipe_wipe]
/-! a list that is being made -/
abbrev Gh.at (G : Gh) (D : Addr) (acc : List V) : Gh := { G with pin := upd G.pin D (.lst acc) }
theorem SR.pinNew (S : SR K fa ca G F ρ σ H) {D : Addr} (h : H D = none) (acc : List V) : SR K fa ca (G.at D acc) F ρ σ (upd H D (.lst acc)) := by
  have S1 := S.same (same_new (o := .lst acc) h)
  refine ⟨S1.len, fun i s e => ?_, S1.dis, S1.trk, S1.fr, S1.new, S1.up, S1.par, S1.gp, fun a o q => ?_⟩
  · have z := S1.sl i s e
    generalize σ[i]? = w at z
    cases z with
    | none => exact .none
    | val r => exact .val r
    | own h1 h2 h3 h4 => exact .own h1 h2 h3 h4
    | par h1 h2 h3 h4 => exact .par h1 h2 h3 h4
    | exn h1 h2 => exact .exn h1 h2
  · by_cases hz : a = D
    · have q' : upd G.pin D (.lst acc) a = some o := q
      rw [hz, upd_same] at q'
      cases q'
      rw [hz]
      exact ⟨upd_same, S.nF h, fun i => S.nown h i⟩
    · have q' : upd G.pin D (.lst acc) a = some o := q
      rw [upd_ne hz] at q'
      exact S1.pn a o q'
theorem SR.pinAt {D : Addr} {acc : List V} (S : SR K fa ca (G.at D acc) F ρ σ H) : H D = some (.lst acc) ∧ ¬ F D ∧ ∀ i, ¬ OwnA ρ σ i D := S.pn D (.lst acc) upd_same
theorem SR.pinUpd {D : Addr} {acc new : List V} (S : SR K fa ca (G.at D acc) F ρ σ H) (h0 : G.H0 D = none) : SR K fa ca (G.at D new) F ρ σ (upd H D (.lst new)) ∧ Ext F H F (upd H D (.lst new)) := by
  obtain ⟨p1, p2, p3⟩ := S.pinAt
  have ne : ∀ {b : Addr} {o : HO}, H b = some o → (∀ zs, o ≠ .lst zs) → b ≠ D := fun {b o} q d z => by subst z; rw [p1] at q; cases q; exact d _ rfl
  have E : Ext F H F (upd H D (.lst new)) := ⟨fun b f => ⟨f, upd_ne fun z => p2 (z ▸ f)⟩, fun b zs q => by rw [upd_ne (ne q fun _ z => by cases z)]; exact q, fun b o u q => by rw [upd_ne (ne q fun _ z => by cases z)]; exact q, fun b fs q => by rw [upd_ne (ne q fun _ z => by cases z)]; exact q⟩
  refine ⟨⟨S.len, fun i s e => ?_, S.dis, fun a f => ?_, fun a o e n => ?_, S.new, S.up, S.par, S.gp, fun a o q => ?_⟩, E⟩
  · have z := S.sl i s e
    generalize eo : σ[i]? = w at z
    cases z with
    | none => exact .none
    | val r => exact .val (Rp.ext E _ _ r)
    | own h1 h2 h3 h4 => exact .own (by rw [upd_ne fun z => p3 i ⟨.inl ⟨_, e⟩, by rw [← z]; exact eo⟩]; exact h1) h2 (RpL.ext E _ _ h3) h4
    | par h1 h2 h3 h4 => exact .par (by rw [upd_ne fun z => p3 i ⟨.inr ⟨_, e⟩, by rw [← z]; exact eo⟩]; exact h1) h2 (RpL.ext E _ _ h3) h4
    | exn h1 h2 => exact .exn h1 (h2.ext E)
  · obtain ⟨zs, q⟩ := S.trk a f
    exact ⟨zs, by rw [(E.fz a f).2]; exact q⟩
  · have e' : G.H0 a = some o := e
    rw [upd_ne fun z => by rw [z, h0] at e'; cases e']
    exact S.fr a o e n
  · have q' : upd G.pin D (.lst new) a = some o := q
    by_cases hz : a = D
    · rw [hz, upd_same] at q'
      cases q'
      rw [hz]
      exact ⟨upd_same, p2, p3⟩
    · rw [upd_ne hz] at q'
      have := S.pn a o (by show upd G.pin D (.lst acc) a = some o; rw [upd_ne hz]; exact q')
      exact ⟨by rw [upd_ne hz]; exact this.1, this.2⟩
theorem SR.unpin {D : Addr} {acc : List V} (S : SR K fa ca (G.at D acc) F ρ σ H) (hp : G.pin D = none) : SR K fa ca G F ρ σ H := by
  refine ⟨S.len, fun i s e => ?_, S.dis, S.trk, S.fr, S.new, S.up, S.par, S.gp, fun a o q => ?_⟩
  · have z := S.sl i s e
    generalize σ[i]? = w at z
    cases z with
    | none => exact .none
    | val r => exact .val r
    | own h1 h2 h3 h4 => exact .own h1 h2 h3 h4
    | par h1 h2 h3 h4 => exact .par h1 h2 h3 h4
    | exn h1 h2 => exact .exn h1 h2
  · exact S.pn a o (by show upd G.pin D (.lst acc) a = some o; rw [upd_ne fun z => by rw [z, hp] at q; cases q]; exact q)
/-- the reading of a comprehension, from what its parts do -/
theorem lc_read {vs : List Nat} {g : TG} {tt : TT} {te : TE} {tg : Tg} {ts : TD} {elt : Den} {J : It} {l : List D} {F1 : Addr → Prop} {H1 : Hp} {ρ1 ρE : Env} {ys : List D} {Qd : Addr → Hp → Prop}
    (hg : TgS K fa ca tg g) (hsl : ∀ i ∈ tg.slots, i ∈ vs) (ht : ∀ σ H Q, tSemT K fa ca WN ts C σ H Q → tt σ H Q) (he : ∀ σ H Q, tSem K fa ca WN elt C σ H Q → te σ H Q)
    (S1 : SR K fa ca G F1 ρ1 (L2.wipe σ vs) H1) (IT : ItR K fa F1 H1 J l) (hl : l.length < LIM) (h : compL vs tg ts elt C l ρ1 = .ok ys ρE)
    (q : ∀ D F' H' acc, SR K fa ca G F' ρE (L2.wipe σ vs) H' → Ext F1 H1 F' H' → H1 D = none → H' D = some (.lst acc) → RpL K fa F' H' acc ys → ¬ F' D → (∀ i, ¬ OwnA ρE (L2.wipe σ vs) i D) → Qd D H') :
    ∀ D, H1 D = none → ∃ W : Nat → Nat → Hp → Prop, (∃ m, W 0 m (upd H1 D (.lst []))) ∧ ∀ i m H, W i m H →
      (J.stop i H ∧ Qd D H) ∨ (J.go i H ∧ ∃ Nx : Hp → Prop, (∀ H', Nx H' → ∃ m', m' < m ∧ W (i + 1) m' H') ∧ ∀ x H', J.yld i H x H' → g x (L2.wipe σ vs) H' fun σ2 H2 => L2.wipe σ2 vs = L2.wipe σ vs ∧ tt σ2 H2 fun b H3 =>
        if b = true then te σ2 H3 fun y H4 => ∃ acc, H4 D = some (.lst acc) ∧ acc.length < sizeLine ∧ Nx (upd H4 D (.lst (acc ++ [y]))) else Nx H3) := by
  intro D hD
  have h0 := S1.nfr hD
  have hp := S1.npin hD
  refine ⟨fun i m H => m = l.length - i ∧ i ≤ l.length ∧ ∃ F ρ acc pre zs, SR K fa ca (G.at D acc) F ρ (L2.wipe σ vs) H ∧ Ext F1 H1 F H ∧ RpL K fa F H acc pre ∧ acc.length ≤ i ∧ compL vs tg ts elt C (l.drop i) ρ = .ok zs ρE ∧ ys = pre ++ zs,
    ⟨l.length, rfl, Nat.zero_le _, F1, ρ1, [], [], ys, S1.pinNew hD [], S1.ext (same_new hD), .nil, Nat.zero_le _, by rw [List.drop_zero]; exact h, rfl⟩, fun i m H w => ?_⟩
  obtain ⟨rfl, hi, F, ρ, acc, pre, zs, S, E, r, hacc, e, hys⟩ := w
  have nopar : ∀ {G3 : Gh} {F3 : Addr → Prop} {ρ3 : Env} {σ3 : L2.St} {H3 : Hp}, G3.pars = G.pars → SR K fa ca G3 F3 ρ3 σ3 H3 → ∀ j ∈ vs, ∀ l', ρ3[j]? ≠ some (.par l') := fun {G3 F3 ρ3 σ3 H3} hG S3 j hj l' z => by
    have k := S3.sl j _ z
    generalize σ3[j]? = w at k
    cases k with
    | par h1 h2 h3 h4 =>
      rw [hG] at h4
      have n := (S1.par _ h4).2
      rw [L2wipe_none] at n
      by_cases hh : j < σ.length
      · rw [if_pos ⟨hj, hh⟩] at n; cases n
      · rw [if_neg fun q => hh q.2, List.getElem?_eq_none (by omega)] at n; cases n
  by_cases hlt : i < l.length
  · have hx : l[i]? = some l[i] := List.getElem?_eq_getElem hlt
    rw [List.drop_eq_getElem_cons hlt] at e
    obtain ⟨ρ1', b, ρ2, e1, e2, eF, eT⟩ := compL_inv e
    obtain ⟨go, yld⟩ := (IT F H E S.trk i).1 _ hx
    refine .inr ⟨go, fun H' => ∃ F ρ acc pre zs', SR K fa ca (G.at D acc) F ρ (L2.wipe σ vs) H' ∧ Ext F1 H1 F H' ∧ RpL K fa F H' acc pre ∧ acc.length ≤ i + 1 ∧ compL vs tg ts elt C (l.drop (i + 1)) ρ = .ok zs' ρE ∧ ys = pre ++ zs', fun H' n => ?_, fun v H' y => ?_⟩
    · exact ⟨l.length - (i + 1), by omega, rfl, hlt, n⟩
    · obtain ⟨sm, rv⟩ := yld v H' y
      have S' := S.same sm
      have E' := E.trans (S.ext sm)
      have Sw : SR K fa ca (G.at D acc) F (RX.wipe ρ vs) (L2.wipe σ vs) H' := S'.wiped (nopar (G3 := G.at D acc) rfl S') (L2.wipe σ vs) rfl rfl
      refine hg _ _ _ _ _ _ _ _ _ Sw rv e1 fun σ2 S2 hw => ⟨(hw vs hsl).trans (L2wipe_wipe vs), ?_⟩
      have hw2 : L2.wipe σ2 vs = L2.wipe σ vs := (hw vs hsl).trans (L2wipe_wipe vs)
      have back : ∀ {F3 : Addr → Prop} {ρ3 : Env} {H3 : Hp} {acc' : List V}, SR K fa ca (G.at D acc') F3 ρ3 σ2 H3 → SR K fa ca (G.at D acc') F3 (RX.wipe ρ3 vs) (L2.wipe σ vs) H3 := fun {F3 ρ3 H3 acc'} S3 =>
        S3.wiped (nopar (G3 := G.at D acc') rfl S3) (L2.wipe σ vs) (by rw [L2wipe_wipe, hw2]) (by rw [← hw2, L2wipe_len])
      refine ht _ _ _ ⟨_, F, ρ1', S2, ?_⟩
      rw [e2]
      intro F3 H3 S3 E3
      cases b with
      | false =>
        rw [if_neg Bool.false_ne_true]
        exact ⟨F3, RX.wipe ρ2 vs, acc, pre, zs, back S3, E'.trans E3, RpL.ext ((S.ext sm).trans E3) _ _ r, by omega, by rw [compL_wipe]; exact eF rfl, hys⟩
      | true =>
        rw [if_pos rfl]
        obtain ⟨y, ρ3, ws, e3, e4, rfl⟩ := eT rfl
        refine he _ _ _ ⟨_, F3, ρ2, S3, ?_⟩
        rw [e3]
        intro v4 F4 H4 S4 E4 r4
        obtain ⟨F5, S5, E5, p5⟩ := S4.frz r4
        obtain ⟨k1, k2, k3⟩ := S5.pinAt
        refine ⟨acc, k1, by rw [sizeLine_eq]; have : l.length < 16777216 := hl; omega, ?_⟩
        obtain ⟨S6, E6⟩ := S5.pinUpd (new := acc ++ [v4]) h0
        have EE := ((E3.trans E4).trans E5).trans E6
        exact ⟨F5, RX.wipe ρ3 vs, acc ++ [v4], pre ++ [y.frz], ws, back S6, E'.trans EE, (RpL.ext ((S.ext sm).trans EE) _ _ r).append (.cons (Rp.ext E6 _ _ p5) .nil), by simp; omega, by rw [compL_wipe]; exact e4, by rw [hys]; simp⟩
  · have hi' : i = l.length := by omega
    subst hi'
    rw [List.drop_length] at e
    have e' : R.ok [] (RX.wipe ρ vs) = R.ok zs ρE := e
    cases e'
    obtain ⟨k1, k2, k3⟩ := S.pinAt
    rw [List.append_nil] at hys
    subst hys
    have Sw : SR K fa ca (G.at D acc) F (RX.wipe ρ vs) (L2.wipe σ vs) H := S.wiped (nopar (G3 := G.at D acc) rfl S) (L2.wipe σ vs) rfl rfl
    refine .inl ⟨(IT F H E S.trk _).2 rfl, q D F H acc (Sw.unpin hp) E hD k1 r k2 Sw.pinAt.2.2⟩
end
end RX
set_option Elab.async false
set_option linter.all false
set_option maxRecDepth 100000
set_option maxHeartbeats 4000000
/-! RXj: comprehensions as values, statements. -/
namespace RX
open PySem PySem.Spec PyProof.Rows L2
section
variable {K : PySem.W.Frag} {fa : Nat → Addr} {ca : Cc} {W : WX} {C : Calls} {X : Cx} {G : Gh} {F F' : Addr → Prop} {H H' : Hp} {σ σ' : L2.St} {ρ ρ' : Env}
theorem own_unwiped {ρ0 : Env} {F0 : Addr → Prop} {H0 : Hp} {vs : List Nat} (S0 : SR K fa ca G F0 ρ0 σ H0) (f : Free ρ0 vs) (S : SR K fa ca G F ρ (L2.wipe σ vs) H) {i : Nat} {a : Addr} (o : OwnA (RX.unwipe ρ0 ρ vs) σ i a) : OwnA ρ (L2.wipe σ vs) i a := by
  have hl : ρ.length = ρ0.length := by rw [S.len, L2wipe_len, S0.len]
  obtain ⟨o, e⟩ := o
  by_cases h : i ∈ vs
  · rw [unwipe_in hl h] at o
    rcases o with ⟨l, o⟩ | ⟨l, o⟩
    · rcases f.sl h o with z | ⟨d, z⟩ <;> cases z
    · rcases f.sl h o with z | ⟨d, z⟩ <;> cases z
  · rw [unwipe_out h] at o
    exact ⟨o, by rw [L2wipe_get h]; exact e⟩
theorem Free.nopar {vs : List Nat} (f : Free ρ vs) : ∀ i ∈ vs, ∀ l, ρ[i]? ≠ some (.par l) := fun i hi l z => by
  rcases f.sl hi z with y | ⟨d, y⟩ <;> cases y
theorem comp_read {vs : List Nat} {g : TG} {tt : TT} {te : TE} {tg : Tg} {ts : TD} {elt : Den} {it : ID} (hg : TgS K fa ca tg g) (hsl : ∀ i ∈ tg.slots, i ∈ vs) (ht : ∀ σ H Q, tSemT K fa ca WN ts C σ H Q → tt σ H Q) (he : ∀ σ H Q, tSem K fa ca WN elt C σ H Q → te σ H Q)
    {Q : VK} (h : tSem K fa ca W (dComp vs it tg ts elt) C σ H Q) : tLc (tSemI K fa ca W it C) g tt te vs σ H Q := by
  obtain ⟨G, F, ρ, S, h⟩ := h
  refine ⟨G, F, ρ, S, (RPost.bind (x := it C ρ) h).mono fun l ρ1 h1 J F1 H1 S1 E1 IT => ?_⟩
  split at h1
  · rename_i hc
    have fr := free_of hc.2
    cases e : compL vs tg ts elt C l (RX.wipe ρ1 vs) with
    | exc c fs ρ2 => rw [e] at h1; exact h1.elim
    | stuck => rw [e] at h1; exact h1.elim
    | ok ys ρ2 =>
      rw [e] at h1
      refine lc_read (Qd := fun D H => Q (.ref D) H) hg hsl ht he (S1.wiped fr.nopar (L2.wipe σ vs) (L2wipe_wipe vs) (L2wipe_len σ vs)) IT hc.1 e fun D F' H' acc S' E' hD hD' r nf no => ?_
      refine h1 _ F' H' (S1.unwiped fr S' E') (E1.trans E') ⟨D, acc, rfl, hD', r, nf, ⟨S1.nfr hD, S1.npin hD⟩, fun i o => no i (own_unwiped S1 fr S' o)⟩
  · exact h1.elim
/-! ### statements -/
/-- what is wanted of a statement's end -/
def OPost (K : PySem.W.Frag) (fa : Nat → Addr) (ca : Cc) (G : Gh) (F : Addr → Prop) (H : Hp) (W : WX) (D : Ends) (o : Out) : Prop := match o with
  | .next ρ => ∀ F' σ' H', SR K fa ca G F' ρ σ' H' → Ext F H F' H' → D.nx σ' H'
  | .brk ρ => ∀ F' σ' H', SR K fa ca G F' ρ σ' H' → Ext F H F' H' → D.bk σ' H'
  | .cont ρ => ∀ F' σ' H', SR K fa ca G F' ρ σ' H' → Ext F H F' H' → D.ct σ' H'
  | .ret r ρ => ∀ v F' σ' H', SR K fa ca G F' ρ σ' H' → Ext F H F' H' → RpEx K fa G F' ρ σ' H' r v → D.rt v H'
  | .exc c fs ρ => ∀ F' σ' H' cls d, SR K fa ca G F' ρ σ' H' → Ext F H F' H' → ExnR K fa ca F' H' c fs cls d → W cls d σ' H'
  | .stuck => False
def tSemS (K : PySem.W.Frag) (fa : Nat → Addr) (ca : Cc) (W : WX) (b : DS) (C : Calls) : TS := fun D σ H => ∃ G F ρ, SR K fa ca G F ρ σ H ∧ OPost K fa ca G F H W D (b C ρ)
abbrev SimS (fa : Nat → Addr) (ca : Cc) (W : WX) (C : Calls) (X : Cx) (s : Stmt) (b : DS) : Prop := PS X s (tSemS X.K fa ca W b C)
abbrev SimB (fa : Nat → Addr) (ca : Cc) (W : WX) (C : Calls) (X : Cx) (s : List Stmt) (b : DS) : Prop := PSs X s (tSemS X.K fa ca W b C)
theorem ps_le {X : Cx} {s : Stmt} {t t' : TS} (h : PS X s t) (i : ∀ D σ H, t' D σ H → t D σ H) : PS X s t' := ⟨fun pins s σ H D I q => h.run pins s σ H D I (i _ _ _ q)⟩
theorem pss_le {X : Cx} {s : List Stmt} {t t' : TS} (h : PSs X s t) (i : ∀ D σ H, t' D σ H → t D σ H) : PSs X s t' := ⟨fun pins s σ H D I q => h.run pins s σ H D I (i _ _ _ q)⟩
theorem OPost.later {D : Ends} {o : Out} (h : OPost K fa ca G F H W D o) (e : Ext F H F' H') : OPost K fa ca G F' H' W D o := by
  cases o with
  | next ρ => exact fun F2 σ' H2 S E => h F2 σ' H2 S (e.trans E)
  | brk ρ => exact fun F2 σ' H2 S E => h F2 σ' H2 S (e.trans E)
  | cont ρ => exact fun F2 σ' H2 S E => h F2 σ' H2 S (e.trans E)
  | ret r ρ => exact fun v F2 σ' H2 S E => h v F2 σ' H2 S (e.trans E)
  | exc c fs ρ => exact fun F2 σ' H2 cls d S E => h F2 σ' H2 cls d S (e.trans E)
  | stuck => exact h
theorem OPost.out {α : Type} {x : R α} {f : α → Env → Out} {D : Ends} (h : OPost K fa ca G F H W D (x.out f)) : RPost K fa ca G F H σ W x fun a ρ1 => OPost K fa ca G F H W D (f a ρ1) := by
  cases x with
  | ok a ρ => exact h
  | exc c fs ρ => exact fun F' H' cls d S E q => h F' σ H' cls d S E q
  | stuck => exact h
theorem sim_pass {pos : Pos} : SimS fa ca W C X (.Pass pos) sPass := ps_le ps_pass fun D σ H ⟨G, F, ρ, S, h⟩ => h F σ H S Ext.refl
theorem sim_brk {pos : Pos} : SimS fa ca W C X (.Break pos) sBrk := ps_le ps_break fun D σ H ⟨G, F, ρ, S, h⟩ => h F σ H S Ext.refl
theorem sim_cont {pos : Pos} : SimS fa ca W C X (.Continue pos) sCont := ps_le ps_continue fun D σ H ⟨G, F, ρ, S, h⟩ => h F σ H S Ext.refl
theorem sim_set {i : Nat} {s : Stmt} {a : Den} {t : TE} (ht : ∀ σ H Q, tSem X.K fa ca W a C σ H Q → t σ H Q) (pe : PS X s (tAsg t (gName i))) : SimS fa ca W C X s (sSet i a) := by
  refine ps_le pe fun D σ H h => ?_
  obtain ⟨G, F, ρ, S, h⟩ := h
  refine ht _ _ _ ⟨G, F, ρ, S, (OPost.out (x := a C ρ) h).mono fun x ρ1 h1 v F1 H1 S1 E1 r1 => ?_⟩
  cases e : stSl ρ1 i x.sl with
  | none => rw [e] at h1; exact h1.elim
  | some ρ2 => rw [e] at h1; exact h1 F1 _ H1 (stSl_ok S1 e r1) E1
theorem sim_unp {l : List Nat} {s : Stmt} {a : Den} {t : TE} (ht : ∀ σ H Q, tSem X.K fa ca W a C σ H Q → t σ H Q) (pe : PS X s (tAsg t (gTup X.K l.length (gNames l)))) : SimS fa ca W C X s (sUnp l a) := by
  refine ps_le pe fun D σ H h => ?_
  obtain ⟨G, F, ρ, S, h⟩ := h
  refine ht _ _ _ ⟨G, F, ρ, S, (OPost.out (x := a C ρ) h).mono fun x ρ1 h1 v F1 H1 S1 E1 r1 => ?_⟩
  obtain ⟨F1, S1, E1', p1⟩ := S1.frz r1
  cases e : (Tg.t l).st ρ1 x.frz with
  | none => rw [e] at h1; exact h1.elim
  | some ρ2 => rw [e] at h1; exact tg_t (ca := ca) _ _ _ _ _ _ _ _ _ S1 p1 e fun σ' S2 _ => h1 F1 σ' H1 S2 (E1.trans E1')
theorem sim_par {i j : Nat} {s : Stmt} {a b : Expr} {da db : Den} (ha : SimA fa ca W C X [a, b] [da, db]) (pe : ∀ {t}, PA X [a, b] t → PS X s (tPar i j t)) : SimS fa ca W C X s (sPar i j da db) := by
  refine ps_le (pe ha) fun D σ H h => ?_
  obtain ⟨G, F, ρ, S, h⟩ := h
  refine ⟨G, F, ρ, S, (OPost.out (x := dAll [da, db] C ρ) h).mono fun xs ρ1 h1 vs F1 H1 S1 E1 r1 => ?_⟩
  cases e : stAll ρ1 [i, j] xs with
  | none => rw [e] at h1; exact h1.elim
  | some ρ2 =>
    rw [e] at h1
    obtain ⟨q1, q2⟩ := stAll_ok (Q := fun σ' H' => ∃ v w, vs = [v, w] ∧ σ' = (σ.set i (some v)).set j (some w) → D.nx σ' H') S1 r1 e fun σ' S2 _ => ⟨.non, .non, fun _ => h1 F1 σ' H1 S2 E1⟩
    obtain ⟨v, r, rfl, w, r2, e2, e3, _⟩ := q2
    subst e2
    subst e3
    refine ⟨v, w, rfl, ?_⟩
    have e' : ((stSl ρ1 i (.val (xs.getD 0 .non))).bind fun ρ3 => (stSl ρ3 j (.val (xs.getD 1 .non))).bind fun ρ4 => some ρ4) = some ρ2 := by
      cases r1 with
      | cons p t =>
        cases t with
        | cons p' t' =>
          cases t'
          exact e
    cases r1 with
    | @cons _ _ x _ p t =>
      cases t with
      | @cons _ _ y _ p' t' =>
        cases t'
        cases e1 : stSl ρ1 i (.val x) with
        | none =>
          have : stAll ρ1 [i, j] [x, y] = none := by show (stSl ρ1 i (.val x)).bind _ = none; rw [e1]; rfl
          rw [this] at e; cases e
        | some ρ3 =>
          have e4 : stAll ρ1 [i, j] [x, y] = (stSl ρ3 j (.val y)).bind fun ρ4 => some ρ4 := by show (stSl ρ1 i (.val x)).bind _ = _; rw [e1]; rfl
          rw [e4] at e
          cases e5 : stSl ρ3 j (.val y) with
          | none => rw [e5] at e; cases e
          | some ρ4 =>
            rw [e5] at e
            cases e
            have S3 := stSl_ok S1 (r := .d x) e1 p
            exact h1 F1 _ H1 (stSl_ok S3 (r := .d y) e5 p') E1
theorem sim_expr {s : Stmt} {a : Den} {t : TE} (ht : ∀ σ H Q, tSem X.K fa ca W a C σ H Q → t σ H Q) (pe : PS X s (tDrop t)) : SimS fa ca W C X s (sExpr a) := by
  refine ps_le pe fun D σ H h => ?_
  obtain ⟨G, F, ρ, S, h⟩ := h
  exact ht _ _ _ ⟨G, F, ρ, S, (OPost.out (x := a C ρ) h).mono fun x ρ1 h1 v F1 H1 S1 E1 r1 => h1 F1 σ H1 S1 E1⟩
theorem sim_ret {e : Expr} {a : Den} {pos : Pos} (he : SimE fa ca W C X e a) : SimS fa ca W C X (.Return (some e) pos) (sRet a) := by
  refine ps_le (ps_ret he) fun D σ H h => ?_
  obtain ⟨G, F, ρ, S, h⟩ := h
  exact ⟨G, F, ρ, S, (OPost.out (x := a C ρ) h).mono fun x ρ1 h1 v F1 H1 S1 E1 r1 => h1 v F1 σ H1 S1 E1 r1⟩
theorem sim_retN {pos : Pos} : SimS fa ca W C X (.Return none pos) sRetN := ps_le ps_retN fun D σ H ⟨G, F, ρ, S, h⟩ => h .non F σ H S Ext.refl .non
theorem sim_retV {i : Nat} {e : Expr} {pos : Pos} (he : PE X e (tVar i)) : SimS fa ca W C X (.Return (some e) pos) (sRetV i) := by
  refine ps_le (ps_ret he) fun D σ H h => ?_
  obtain ⟨G, F, ρ, S, h⟩ := h
  unfold sRetV at h
  cases e : ρ[i]? with
  | none => rw [e] at h; exact h.elim
  | some s =>
    rw [e] at h
    have q := S.sl i s e
    generalize eo : σ[i]? = o at q
    cases q with
    | val r => exact ⟨_, eo, h _ F σ H S Ext.refl r⟩
    | @own a xs l h1 h2 h3 h4 =>
      have hp : ∀ l, ρ[i]? ≠ some (.par l) := fun l z => by rw [e] at z; cases z
      have S1 := S.drop i hp
      refine ⟨_, eo, h _ F σ H S1 Ext.refl ⟨a, xs, rfl, h1, h3, h2, ⟨h4, ?_⟩, fun j o => ?_⟩⟩
      · cases ep : G.pin a with
        | none => rfl
        | some o => exact absurd ⟨.inl ⟨_, e⟩, eo⟩ ((S.pn a o ep).2.2 i)
      · have hi := (List.getElem?_eq_some_iff.mp e).1
        by_cases z : i = j
        · subst z
          obtain ⟨o, _⟩ := o
          rw [List.getElem?_set_self hi] at o
          rcases o with ⟨l, o⟩ | ⟨l, o⟩ <;> cases o
        · exact z (S.dis _ _ _ ⟨.inl ⟨_, e⟩, eo⟩ (o.of_set z))
    | _ => exact h.elim
theorem sim_ifS {c : Expr} {a b : List Stmt} {t : TD} {da db : DS} {pos : Pos} (hc : SimT fa ca W C X c t) (ha : SimB fa ca W C X a da) (hb : SimB fa ca W C X b db) : SimS fa ca W C X (.If c a b pos) (sIf t da db) := by
  refine ps_le (ps_if hc ha hb) fun D σ H h => ?_
  obtain ⟨G, F, ρ, S, h⟩ := h
  refine ⟨G, F, ρ, S, (OPost.out (x := t C ρ) h).mono fun k ρ1 h1 F1 H1 S1 E1 => ?_⟩
  cases k with
  | true => rw [if_pos rfl] at h1 ⊢; exact ⟨G, F1, ρ1, S1, h1.later E1⟩
  | false => rw [if_neg Bool.false_ne_true] at h1 ⊢; exact ⟨G, F1, ρ1, S1, h1.later E1⟩
theorem OPost.seq {D : Ends} {o : Out} {f : Env → Out} {nx : L2.St → Hp → Prop} (h : OPost K fa ca G F H W D (o.bind f)) (n : ∀ ρ1, (∀ F' σ' H', SR K fa ca G F' ρ1 σ' H' → Ext F H F' H' → OPost K fa ca G F' H' W D (f ρ1)) → ∀ F' σ' H', SR K fa ca G F' ρ1 σ' H' → Ext F H F' H' → nx σ' H') :
    OPost K fa ca G F H W { D with nx := nx } o := by
  cases o with
  | next ρ1 => exact n ρ1 fun F' σ' H' S E => OPost.later h E
  | brk ρ => exact h
  | cont ρ => exact h
  | ret r ρ => exact h
  | exc c fs ρ => exact h
  | stuck => exact h
theorem sim_bnil : SimB fa ca W C X [] sPass := pss_le pss_nil fun D σ H ⟨G, F, ρ, S, h⟩ => h F σ H S Ext.refl
theorem sim_bone {s : Stmt} {a : DS} (ha : SimS fa ca W C X s a) : SimB fa ca W C X [s] a := pss_one ha
theorem sim_bcons {s : Stmt} {r : List Stmt} {a b : DS} (ha : SimS fa ca W C X s a) (hb : SimB fa ca W C X r b) : SimB fa ca W C X (s :: r) (sSeq a b) := by
  refine pss_le (pss_cons ha hb) fun D σ H h => ?_
  obtain ⟨G, F, ρ, S, h⟩ := h
  exact ⟨G, F, ρ, S, OPost.seq h fun ρ1 n F' σ' H' S' E => ⟨G, F', ρ1, S', n F' σ' H' S' E⟩⟩
/-! ### loops -/
theorem sim_for {tg it : Expr} {body : List Stmt} {T : Tg} {g : TG} {di : ID} {db : DS} {pos : Pos} (hg : TgS X.K fa ca T g) (hi : SimI fa ca W C X tg it di) (hb : SimB fa ca W C X body db) (pe : ∀ {wi tb}, PI X tg it wi → PSs X body tb → PS X (.For tg it body [] pos) (tFor wi g tb)) :
    SimS fa ca W C X (.For tg it body [] pos) (sFor T di db) := by
  refine ps_le (pe hi hb) fun D σ H h => ?_
  obtain ⟨G, F, ρ, S, h⟩ := h
  refine ⟨G, F, ρ, S, (OPost.out (x := di C ρ) h).mono fun l ρ1 h1 J F1 H1 S1 E1 IT => ?_⟩
  refine ⟨fun i m σ H => m = l.length - i ∧ i ≤ l.length ∧ ∃ F ρ, SR X.K fa ca G F ρ σ H ∧ Ext F1 H1 F H ∧ OPost X.K fa ca G F H W D (forL T db C (l.drop i) ρ), ⟨l.length, rfl, Nat.zero_le _, F1, ρ1, S1, Ext.refl, by rw [List.drop_zero]; exact h1.later E1⟩, fun i m σ H w => ?_⟩
  obtain ⟨rfl, hle, F, ρ, S, E, h⟩ := w
  by_cases hlt : i < l.length
  · have hx : l[i]? = some l[i] := List.getElem?_eq_getElem hlt
    rw [List.drop_eq_getElem_cons hlt] at h
    obtain ⟨go, yld⟩ := (IT F H E S.trk i).1 _ hx
    unfold forL at h
    cases e1 : T.st ρ l[i] with
    | none => rw [e1] at h; exact h.elim
    | some ρ2 =>
      rw [e1] at h
      refine .inr ⟨go, fun σ' H' => ∃ F ρ, SR X.K fa ca G F ρ σ' H' ∧ Ext F1 H1 F H' ∧ OPost X.K fa ca G F H' W D (forL T db C (l.drop (i + 1)) ρ), fun σ' H' n => ⟨l.length - (i + 1), by omega, rfl, hlt, n⟩, fun v H' y => ?_⟩
      obtain ⟨sm, rv⟩ := yld v H' y
      have S' := S.same sm
      have E' := E.trans (S.ext sm)
      refine hg _ _ _ _ _ _ _ _ _ S' rv e1 fun σ2 S2 _ => ⟨G, F, ρ2, S2, ?_⟩
      have h' := OPost.later h (S.ext sm)
      cases e2 : db C ρ2 with
      | next ρ3 => simp only [e2] at h'; exact fun F3 σ3 H3 S3 E3 => ⟨F3, ρ3, S3, E'.trans E3, h'.later E3⟩
      | cont ρ3 => simp only [e2] at h'; exact fun F3 σ3 H3 S3 E3 => ⟨F3, ρ3, S3, E'.trans E3, h'.later E3⟩
      | brk ρ3 => simp only [e2] at h'; exact fun F3 σ3 H3 S3 E3 => h' F3 σ3 H3 S3 E3
      | ret r ρ3 => simp only [e2] at h'; exact h'
      | exc c fs ρ3 => simp only [e2] at h'; exact h'
      | stuck => simp only [e2] at h'; exact h'.elim
  · have hi' : i = l.length := by omega
    subst hi'
    rw [List.drop_length] at h
    exact .inl ⟨(IT F H E S.trk _).2 rfl, h F σ H S Ext.refl⟩
theorem sim_while {c : Expr} {body : List Stmt} {t : TD} {db : DS} {pos : Pos} (hc : SimT fa ca W C X c t) (hb : SimB fa ca W C X body db) (pe : ∀ {tc tb}, PT X c tc → PSs X body tb → PS X (.While c body [] pos) (tWhile tc tb)) : SimS fa ca W C X (.While c body [] pos) (sWhile t db) := by
  refine ps_le (pe hc hb) fun D σ H h => ?_
  obtain ⟨G, F, ρ, S, h⟩ := h
  have h0 : ∃ n, OPost X.K fa ca G F H W D (whileL t db C n ρ) := by
    unfold sWhile at h
    split at h
    · exact ⟨_, h⟩
    · exact h.elim
  obtain ⟨n0, h0⟩ := h0
  refine ⟨fun m σ H => ∃ F ρ, SR X.K fa ca G F ρ σ H ∧ OPost X.K fa ca G F H W D (whileL t db C m ρ), ⟨n0, F, ρ, S, h0⟩, fun m σ H w => ?_⟩
  obtain ⟨F, ρ, S, h⟩ := w
  cases m with
  | zero => exact h.elim
  | succ m =>
    unfold whileL at h
    refine ⟨G, F, ρ, S, (OPost.out (x := t C ρ) h).mono fun k ρ1 h1 F1 H1 S1 E1 => ?_⟩
    cases k with
    | false => rw [if_neg Bool.false_ne_true] at h1 ⊢; exact h1 F1 σ H1 S1 E1
    | true =>
      rw [if_pos rfl] at h1 ⊢
      refine ⟨fun σ' H' => ∃ F ρ, SR X.K fa ca G F ρ σ' H' ∧ OPost X.K fa ca G F H' W D (whileL t db C m ρ), fun σ' H' n => ⟨m, Nat.lt_succ_self m, n⟩, G, F1, ρ1, S1, ?_⟩
      have h' := OPost.later h1 E1
      cases e2 : db C ρ1 with
      | next ρ3 => simp only [e2] at h'; exact fun F3 σ3 H3 S3 E3 => ⟨F3, ρ3, S3, h'.later E3⟩
      | cont ρ3 => simp only [e2] at h'; exact fun F3 σ3 H3 S3 E3 => ⟨F3, ρ3, S3, h'.later E3⟩
      | brk ρ3 => simp only [e2] at h'; exact fun F3 σ3 H3 S3 E3 => h' F3 σ3 H3 S3 E3
      | ret r ρ3 => simp only [e2] at h'; exact h'
      | exc c fs ρ3 => simp only [e2] at h'; exact h'
      | stuck => simp only [e2] at h'; exact h'.elim
end
end RX
set_option Elab.async false
set_option linter.all false
set_option maxRecDepth 100000
set_option maxHeartbeats 4000000
/-! RXk: append, x[k] = e, raise, try. -/
namespace RX
open PySem PySem.Spec PyProof.Rows L2
section
variable {K : PySem.W.Frag} {fa : Nat → Addr} {ca : Cc} {W : WX} {C : Calls} {X : Cx} {G : Gh} {F F' : Addr → Prop} {H H' : Hp} {σ σ' : L2.St} {ρ ρ' : Env}
theorem sim_app {i : Nat} {a e : Expr} {d : Den} {s : Stmt} (ha : PE X a (tVar i)) (he : SimE fa ca W C X e d) (st : starEach [e] X.env = (false, eval e X.env) :: starEach [] X.env)
    (pe : ∀ {t u}, PE X a t → PA X [e] u → PS X s (tDrop (tBM X.K "list" rAppend t u))) : SimS fa ca W C X s (sApp i d) := by
  refine ps_le (pe ha (pa_cons he pa_nil st)) fun Dn σ H h => ?_
  obtain ⟨G, F, ρ, S, h⟩ := h
  unfold sApp at h
  cases e0 : isOwn ρ[i]? with
  | false => rw [e0] at h; exact h.elim
  | true =>
    rw [e0] at h
    obtain ⟨t, l, mk, et, M⟩ := isOwn_mine e0
    obtain ⟨a0, xs0, ea, eH, _, _⟩ := S.mine M et
    refine ⟨.ref a0, ea, tyV_lst eH, G, F, ρ, S, (OPost.out (x := d C ρ) h).mono fun y ρ1 h1 v F1 H1 S1 E1 r1 => ?_⟩
    obtain ⟨F1, S1, E1', p1⟩ := S1.frz r1
    have go : ∀ {s : Sl} {l : List D} {mk : List D → Sl}, Mine s l mk → ρ1[i]? = some s → OPost X.K fa ca G F H W Dn (if l.length < LIM then .next (ρ1.set i (mk (l ++ [y.frz]))) else .stuck) → rAppend (.ref a0) [v] H1 (fun _ H1 => Dn.nx σ H1) := fun {s l mk} M e q => by
      obtain ⟨a, xs, e1, e2, nf, r⟩ := S1.mine M e
      rw [ea] at e1
      cases e1
      by_cases hl : l.length < LIM
      · rw [if_pos hl] at q
        have hl' : xs.length < LIM := by rw [r.length]; exact hl
        obtain ⟨S2, E2⟩ := S1.write M e ea (r.append (.cons p1 .nil))
        exact ⟨a0, xs, v, rfl, rfl, e2, by rw [lim_eq]; exact hl', q F1 σ _ S2 ((E1.trans E1').trans E2)⟩
      · rw [if_neg hl] at q; exact q.elim
    cases e : ρ1[i]? with
    | none => rw [e] at h1; exact h1.elim
    | some s =>
      rw [e] at h1
      cases s with
      | own l => exact go (.own l) e h1
      | par l => exact go (.par l) e h1
      | _ => exact h1.elim
theorem sim_put {i : Nat} {s : Stmt} {a k e : Expr} {dk d : Den} {p : Pos} (ha : PE X a (tVar i)) (hk : SimE fa ca W C X k dk) (he : SimE fa ca W C X e d) (pe : ∀ {t u v}, PE X e t → PE X a u → PE X k v → PS X s (tAsg t (gSub u v rSetL))) : SimS fa ca W C X s (sPut i dk d) := by
  refine ps_le (pe he ha hk) fun Dn σ H h => ?_
  obtain ⟨G, F, ρ, S, h⟩ := h
  refine ⟨G, F, ρ, S, (OPost.out (x := d C ρ) h).mono fun y ρ1 h1 v F1 H1 S1 E1 r1 => ?_⟩
  obtain ⟨F1, S1, E1', p1⟩ := S1.frz r1
  cases e0 : isOwn ρ1[i]? with
  | false => rw [e0] at h1; exact h1.elim
  | true =>
    rw [e0] at h1
    obtain ⟨t, l, mk, et, M⟩ := isOwn_mine e0
    obtain ⟨a0, xs0, ea, eH, _, _⟩ := S1.mine M et
    refine ⟨.ref a0, ea, G, F1, ρ1, S1, ((OPost.out (x := dk C ρ1) h1).later (E1.trans E1')).mono fun z ρ2 h2 w F2 H2 S2 E2 r2 => ?_⟩
    obtain ⟨F2, S2, E2', p2⟩ := S2.frz r2
    cases e1 : z.frz.asInt? with
    | none => simp only [e1] at h2; exact h2.elim
    | some j =>
      simp only [e1] at h2
      cases asInt_ok e1 p2
      have go : ∀ {s : Sl} {l : List D} {mk : List D → Sl}, Mine s l mk → ρ2[i]? = some s → OPost X.K fa ca G F H W Dn (match putAt l j y.frz with
          | some m => .next (ρ2.set i (mk m))
          | none => .stuck) → rSetL (.ref a0) (.int j) v H2 (fun H3 => Dn.nx σ H3) := fun {s l mk} M e q => by
        obtain ⟨a, xs, e1, e2, nf, r⟩ := S2.mine M e
        rw [ea] at e1
        cases e1
        unfold putAt at q
        cases e3 : RX.ixN l.length j with
        | none => rw [e3] at q; exact q.elim
        | some k =>
          rw [e3] at q
          obtain ⟨S3, E3⟩ := S2.write M e ea (RpL.set (Rp.ext (E2.trans E2') _ _ p1) k r)
          exact ⟨a0, xs, j, k, rfl, rfl, e2, by rw [r.length]; exact e3, q F2 σ _ S3 ((((E1.trans E1').trans E2).trans E2').trans E3)⟩
      cases e : ρ2[i]? with
      | none => rw [e] at h2; exact h2.elim
      | some s =>
        rw [e] at h2
        cases s with
        | own l => exact go (.own l) e h2
        | par l => exact go (.par l) e h2
        | _ => exact h2.elim
/-! ### raise -/
/-- the promise of an __init__ that keeps its arguments in its fields -/
def spI (fl : List Str) (c : Addr) : Sp := fun vs H Q _ => ∃ (a : Addr) (ys : List V), vs = .ref a :: ys ∧ ys.length = fl.length ∧ H a = some (exo a c none) ∧ ∀ d, H d = none → d ≠ a → Q .non (upd (upd H d (exd d (fl.zip ys).reverse)) a (exo a c (some d)))
theorem lookup_zip {K : PySem.W.Frag} {fa : Nat → Addr} {F : Addr → Prop} {H : Hp} {f : Str} : ∀ {fl : List Str} {xs : List D} {vs : List V} {x : D}, RpL K fa F H vs xs → (fl.zip xs).lookup f = some x → ∃ v, (fl.zip vs).lookup f = some v ∧ Rp K fa F H v x
  | [], _, _, _, _, h => by cases h
  | g :: fl, [], _, _, _, h => by cases h
  | g :: fl, x :: xs, _, y, .cons (v := v) (vs := vs) p r, h => by
    have h' : (match f == g with | true => some x | false => (fl.zip xs).lookup f) = some y := h
    show ∃ w, (match f == g with | true => some v | false => (fl.zip vs).lookup f) = some w ∧ _
    cases e : f == g with
    | true => rw [e] at h'; cases h'; exact ⟨v, rfl, p⟩
    | false => rw [e] at h'; exact lookup_zip r h'
theorem lookup_notin {α : Type} {f : Str} : ∀ {l : List (Str × α)}, f ∉ l.map (·.1) → l.lookup f = none
  | [], _ => rfl
  | (g, y) :: l, h => by
    show (match f == g with | true => some y | false => l.lookup f) = none
    have e : (f == g) = false := by
      cases z : f == g with
      | false => rfl
      | true => exact absurd (by rw [eq_of_beq z]; exact List.mem_cons_self) h
    rw [e]
    exact lookup_notin fun z => h (List.mem_cons_of_mem _ z)
theorem lookup_snoc {α : Type} {f g : Str} {y : α} : ∀ {l : List (Str × α)}, (l ++ [(g, y)]).lookup f = (match l.lookup f with | some v => some v | none => if f = g then some y else none)
  | [] => by
    show (match f == g with | true => some y | false => none) = if f = g then some y else none
    cases z : f == g with
    | true => rw [if_pos (eq_of_beq z)]
    | false => rw [if_neg (by intro e; rw [e] at z; simp at z)]
  | (k, v) :: l => by
    show (match f == k with | true => some v | false => (l ++ [(g, y)]).lookup f) = (match (match f == k with | true => some v | false => l.lookup f) with | some v => some v | none => _)
    cases f == k with
    | true => rfl
    | false => exact lookup_snoc
theorem lookup_rev {α : Type} {f : Str} : ∀ {l : List (Str × α)}, (l.map (·.1)).Nodup → l.reverse.lookup f = l.lookup f
  | [], _ => rfl
  | (g, y) :: l, h => by
    have h1 : g ∉ l.map (·.1) := (List.nodup_cons.mp h).1
    have h2 := (List.nodup_cons.mp h).2
    rw [List.reverse_cons, lookup_snoc, lookup_rev h2]
    show _ = (match f == g with | true => some y | false => l.lookup f)
    cases z : f == g with
    | true =>
      have e := eq_of_beq z
      subst e
      rw [lookup_notin h1]
      show (if f = f then some y else none) = some y
      rw [if_pos rfl]
    | false =>
      have ne : f ≠ g := fun e => by rw [e] at z; simp at z
      cases l.lookup f with
      | some v => rfl
      | none => show (if f = g then some y else none) = none; rw [if_neg ne]
theorem zip_fst {α : Type} : ∀ {fl : List Str} {ys : List α}, ys.length = fl.length → (fl.zip ys).map (·.1) = fl
  | [], _, _ => rfl
  | f :: fl, [], h => by cases h
  | f :: fl, y :: ys, h => by
    show f :: (fl.zip ys).map (·.1) = f :: fl
    rw [zip_fst (by simpa using h)]
theorem sim_raise {c : Nat} {fl : List Str} {es : List Expr} {ds : List Den} {e : Expr} {pos : Pos} (hc : X.calm = true) (tk : Takes X W) (nd : fl.Nodup) (hl : fl.length ≤ 900) (ha : SimA fa ca W C X es ds)
    (pe : ∀ {t}, PA X es t → PMk X e (tMkO (ca.ca c) (spI fl (ca.ca c)) [] t)) : SimS fa ca W C X (.Raise (some e) none pos) (sRaise c fl ds) := by
  refine ps_le (ps_raise hc tk (pe ha)) fun D σ H h => ?_
  obtain ⟨G, F, ρ, S, h⟩ := h
  refine ⟨G, F, ρ, S, (OPost.out (x := dAll ds C ρ) h).mono fun xs ρ1 h1 vs F1 H1 S1 E1 r1 => ?_⟩
  by_cases hx : xs.length = fl.length
  · rw [if_pos hx] at h1
    have hv : vs.length = fl.length := by rw [r1.length]; exact hx
    refine ⟨by omega, fun a ha => ⟨a, vs, by rw [List.append_nil], hv, upd_same, fun d hd dne => ⟨rfl, d, (fl.zip vs).reverse, upd_same, ?_, ?_, ?_⟩⟩⟩
    · rw [upd_ne dne, upd_same]
    · rw [upd_ne dne] at hd; exact hd
    · have hd' : H1 d = none := by rw [upd_ne dne] at hd; exact hd
      have eh : upd (L2.del (upd (upd (upd H1 a (exo a (ca.ca c) none)) d (exd d (fl.zip vs).reverse)) a (exo a (ca.ca c) (some d))) a) d (.xd (fl.zip vs).reverse) = upd H1 d (.xd (fl.zip vs).reverse) := by
        funext b
        by_cases h1 : b = d
        · subst h1; rw [upd_same, upd_same]
        · rw [upd_ne h1, upd_ne h1]
          by_cases h2 : b = a
          · subst h2; rw [del_same, ha]
          · rw [del_ne h2, upd_ne h2, upd_ne h1, upd_ne h2]
      rw [eh]
      have sm : Same H1 (upd H1 d (.xd (fl.zip vs).reverse)) := same_new hd'
      refine h1 F1 σ _ _ _ (S1.same sm) (E1.trans (S1.ext sm)) ⟨rfl, d, _, rfl, upd_same, fun f x hf => ?_⟩
      obtain ⟨v, q1, q2⟩ := lookup_zip r1 hf
      exact ⟨v, by rw [lookup_rev (by rw [zip_fst hv]; exact nd)]; exact q1, Rp.ext (S1.ext sm) _ _ q2⟩
  · rw [if_neg hx] at h1; exact h1.elim
/-! ### try -/
abbrev Cc.in (ca : Cc) (i : Nat) (a : Addr) (cls : Value) (d : Option Addr) : Cc := { ca with ex := some (i, a, cls, d) }
theorem OwnA.of_exn {i j : Nat} {c : Nat} {fs : List (Str × D)} {a b : Addr} (hi : i < ρ.length) (q : OwnA (ρ.set i (.exn c fs)) (σ.set i (some (.ref b))) j a) : i ≠ j ∧ OwnA ρ σ j a := by
  have z : i ≠ j := fun z => by
    subst z
    obtain ⟨q, _⟩ := q
    rw [List.getElem?_set_self hi] at q
    rcases q with ⟨l, q⟩ | ⟨l, q⟩ <;> cases q
  obtain ⟨q, e⟩ := q
  rw [List.getElem?_set_ne z] at q e
  exact ⟨z, q, e⟩
/-- into the suite -/
theorem SR.suiteIn (S : SR K fa ca G F ρ σ H) (hex : ca.ex = none) {i : Nat} {a : Addr} {c : Nat} {fs : List (Str × D)} {cls : Value} {d : Option Addr} {ρ1 : Env} (e : stSl ρ i (.exn c fs) = some ρ1) (x : ExnR K fa ca F H c fs cls d) : SR K fa (ca.in i a cls d) G F ρ1 (σ.set i (some (.ref a))) H := by
  unfold stSl at e
  cases e0 : ρ[i]? with
  | none => rw [e0] at e; cases e
  | some s0 =>
    rw [e0] at e
    have hi : i < ρ.length := (List.getElem?_eq_some_iff.mp e0).1
    have hs : i < σ.length := by rw [← S.len]; exact hi
    have np : ∀ l, s0 ≠ .par l := fun l z => by subst z; cases e
    have e1 : ρ1 = ρ.set i (.exn c fs) := by
      cases s0 with
      | par l => exact absurd rfl (np l)
      | exn c2 fs2 => cases e
      | none => cases e; rfl
      | val d => cases e; rfl
      | own l => cases e; rfl
    subst e1
    refine ⟨by rw [List.length_set, List.length_set]; exact S.len, fun j s q => ?_, fun j k b h1 h2 => S.dis j k b (h1.of_exn hi).2 (h2.of_exn hi).2, S.trk, S.fr, S.new, S.up, fun p hp => ?_, S.gp, fun b o q => ⟨(S.pn b o q).1, (S.pn b o q).2.1, fun j h => (S.pn b o q).2.2 j (h.of_exn hi).2⟩⟩
    · by_cases z : i = j
      · subst z
        rw [List.getElem?_set_self hi] at q
        cases q
        rw [List.getElem?_set_self hs]
        exact .exn rfl x
      · rw [List.getElem?_set_ne z] at q ⊢
        have y := S.sl j s q
        generalize σ[j]? = o at y
        cases y with
        | none => exact .none
        | val r => exact .val r
        | own h1 h2 h3 h4 => exact .own h1 h2 h3 h4
        | par h1 h2 h3 h4 => exact .par h1 h2 h3 h4
        | exn h1 h2 => rw [hex] at h1; cases h1
    · obtain ⟨⟨l, h1⟩, h2⟩ := S.par p hp
      have z : i ≠ p.1 := fun z => by
        rw [← z, e0] at h1
        cases h1
        exact np l rfl
      exact ⟨⟨l, by rw [List.getElem?_set_ne z]; exact h1⟩, by rw [List.getElem?_set_ne z]; exact h2⟩
theorem own_none {i j : Nat} {a : Addr} (h : OwnA (ρ.set i .none) (σ.set i none) j a) : OwnA ρ σ j a := by
  obtain ⟨h, e⟩ := h
  by_cases z : i = j
  · subst z
    by_cases hl : i < ρ.length
    · rw [List.getElem?_set_self hl] at h
      rcases h with ⟨l, h⟩ | ⟨l, h⟩ <;> cases h
    · rw [List.getElem?_eq_none (by rw [List.length_set]; omega)] at h
      rcases h with ⟨l, h⟩ | ⟨l, h⟩ <;> cases h
  · rw [List.getElem?_set_ne z] at h e; exact ⟨h, e⟩
/-- out of the suite -/
theorem SR.suiteOut {i : Nat} {a : Addr} {cls : Value} {d : Option Addr} (S : SR K fa (ca.in i a cls d) G F ρ σ H) (np : ∀ p ∈ G.pars, p.1 ≠ i) : SR K fa ca G F (ρ.set i .none) (σ.set i none) H := by
  refine ⟨by rw [List.length_set, List.length_set]; exact S.len, fun j s q => ?_, fun j k b h1 h2 => S.dis j k b (own_none h1) (own_none h2), S.trk, S.fr, S.new, S.up, fun p hp => ?_, S.gp, fun b o q => ⟨(S.pn b o q).1, (S.pn b o q).2.1, fun j h => (S.pn b o q).2.2 j (own_none h)⟩⟩
  · by_cases z : i = j
    · subst z
      by_cases hl : i < ρ.length
      · rw [List.getElem?_set_self hl] at q; cases q; exact .none
      · rw [List.getElem?_eq_none (by rw [List.length_set]; omega)] at q; cases q
    · rw [List.getElem?_set_ne z] at q ⊢
      have y := S.sl j s q
      generalize σ[j]? = o at y
      cases y with
      | none => exact .none
      | val r => exact .val r
      | own h1 h2 h3 h4 => exact .own h1 h2 h3 h4
      | par h1 h2 h3 h4 => exact .par h1 h2 h3 h4
      | exn h1 h2 =>
        have h1' : some (i, a, cls, d) = some (j, _, _, _) := h1
        cases h1'
        exact absurd rfl z
  · obtain ⟨⟨l, h1⟩, h2⟩ := S.par p hp
    have z : i ≠ p.1 := fun z => np p hp z.symm
    exact ⟨⟨l, by rw [List.getElem?_set_ne z]; exact h1⟩, by rw [List.getElem?_set_ne z]; exact h2⟩
theorem RpEx.out {i : Nat} {r : Ex} {v : V} (h : RpEx K fa G F ρ σ H r v) : RpEx K fa G F (ρ.set i .none) (σ.set i none) H r v := by
  cases r with
  | d x => exact h
  | fresh l =>
    obtain ⟨b, xs, h0, h1, h2, h3, h4, h5⟩ := h
    exact ⟨b, xs, h0, h1, h2, h3, h4, fun j o => h5 j (own_none o)⟩
theorem sim_try {i : Nat} {cv : Value} {m : Nat → Bool} {s : Stmt} {body suite : List Stmt} {db dh : DS} (hex : ca.ex = none) (hx : ∀ c, PySem.W.exmOne X.K (.ref (ca.ca c)) cv = some (m c))
    (pe : ∀ {tb : WX → TS} {ts : Addr → Value → Option Addr → TS}, (∀ (W : WX) (pn : List (Addr × Obj)) (xe : Value → Shared → Prop), Takes (X.tr pn xe) W → PassesOwn (model X.prog X.w) X.A X.env xe → PSs (X.tr pn xe) body (tb W)) →
      (∀ (a : Addr) (oe : Obj) (cls : Value) (d : Option Addr) (pn : List (Addr × Obj)), Zc cls d oe → (∃ vs, oe.data = .fields vs) → PSs (X.suite a ((a, oe) :: pn)) suite (ts a cls d)) → PS X s (fun D σ H => tb (wAs X.K cv i ts W D) D σ H))
    (hb : ∀ (W : WX) (pn : List (Addr × Obj)) (xe : Value → Shared → Prop), Takes (X.tr pn xe) W → PassesOwn (model X.prog X.w) X.A X.env xe → SimB fa ca W C (X.tr pn xe) body db)
    (hs : ∀ (a : Addr) (oe : Obj) (cls : Value) (d : Option Addr) (pn : List (Addr × Obj)), Zc cls d oe → (∃ vs, oe.data = .fields vs) → SimB fa (ca.in i a cls d) WN C (X.suite a ((a, oe) :: pn)) suite dh) :
    SimS fa ca W C X s (sTry db [⟨m, some i, dh⟩]) := by
  refine ps_le (pe (tb := fun W => tSemS X.K fa ca W db C) (ts := fun a cls d => tSemS X.K fa (ca.in i a cls d) WN dh C) hb hs) fun D σ H h => ?_
  obtain ⟨G, F, ρ, S, h⟩ := h
  refine ⟨G, F, ρ, S, ?_⟩
  unfold sTry at h
  cases e : db C ρ with
  | next ρ1 => rw [e] at h; exact h
  | brk ρ1 => rw [e] at h; exact h
  | cont ρ1 => rw [e] at h; exact h
  | ret r ρ1 => rw [e] at h; exact h
  | stuck => rw [e] at h; exact h.elim
  | exc c fs ρ1 =>
    rw [e] at h
    refine fun F1 σ1 H1 cls d S1 E1 x => ⟨m c, by rw [x.1]; exact hx c, fun hm a na => ?_, fun hm => ?_⟩
    · have h : OPost X.K fa ca G F H W D (handle C c fs ρ1 [⟨m, some i, dh⟩]) := h
      unfold handle at h
      rw [if_pos hm] at h
      cases e1 : stSl ρ1 i (.exn c fs) with
      | none => simp only [e1] at h; exact h.elim
      | some ρ2 =>
        simp only [e1] at h
        have S2 := S1.suiteIn hex (a := a) e1 x
        have np : ∀ p ∈ G.pars, p.1 ≠ i := fun p hp z => by
          obtain ⟨⟨l, h1⟩, _⟩ := S1.par p hp
          rw [z] at h1
          unfold stSl at e1
          rw [h1] at e1
          cases e1
        refine ⟨G, F1, ρ2, S2, ?_⟩
        have h := h.later E1
        cases e2 : dh C ρ2 with
        | next ρ3 => rw [e2] at h; exact fun F3 σ3 H3 S3 E3 => h F3 _ H3 (S3.suiteOut np) E3
        | brk ρ3 => rw [e2] at h; exact fun F3 σ3 H3 S3 E3 => h F3 _ H3 (S3.suiteOut np) E3
        | cont ρ3 => rw [e2] at h; exact fun F3 σ3 H3 S3 E3 => h F3 _ H3 (S3.suiteOut np) E3
        | ret r ρ3 => rw [e2] at h; exact fun v F3 σ3 H3 S3 E3 r3 => h v F3 _ H3 (S3.suiteOut np) E3 r3.out
        | exc c2 fs2 ρ3 => rw [e2] at h; exact h.elim
        | stuck => rw [e2] at h; exact h.elim
    · have h : OPost X.K fa ca G F H W D (handle C c fs ρ1 [⟨m, some i, dh⟩]) := h
      unfold handle at h
      rw [if_neg (show ¬ m c = true by rw [hm]; exact Bool.false_ne_true)] at h
      exact h F1 σ1 H1 cls d S1 E1 x
end
end RX
set_option Elab.async false
set_option linter.all false
set_option maxRecDepth 100000
set_option maxHeartbeats 4000000
/-! RXl: built-ins of data. -/
namespace RX
open PySem PySem.Spec PyProof.Rows L2
def intsOf : List D → Option (List Int)
  | [] => some []
  | .int i :: r => (intsOf r).map fun l => i :: l
  | _ => none
def blsOf : List D → Option (List Bool)
  | [] => some []
  | .bl b :: r => (blsOf r).map fun l => b :: l
  | _ => none
def maxI : List Int → Int → Int
  | [], m => m
  | x :: r, m => maxI r (if m < x then x else m)
def minI : List Int → Int → Int
  | [], m => m
  | x :: r, m => minI r (if x < m then x else m)
def bLen : Bf
  | [.lst l] => some (.d (.int l.length))
  | [.tup l] => some (.d (.int l.length))
  | [.scr l] => some (.d (.int l.length))
  | [.str s] => if s.length ≤ LIM then some (.d (.int s.length)) else none
  | _ => none
def bAbs : Bf
  | [.int i] => some (.d (.int (if i < 0 then -i else i)))
  | _ => none
def bInt : Bf
  | [.int i] => some (.d (.int i))
  | [.bl b] => some (.d (.int (if b then 1 else 0)))
  | _ => none
def bBool : Bf
  | [.int i] => some (.d (.bl (i != 0)))
  | [.bl b] => some (.d (.bl b))
  | _ => none
def bTup : Bf
  | [.lst l] => some (.d (.tup l))
  | [.tup l] => some (.d (.tup l))
  | [.scr l] => some (.d (.tup (l.map .int)))
  | _ => none
def bLst : Bf
  | [.lst l] => some (.fresh l)
  | [.tup l] => some (.fresh l)
  | [.scr l] => some (.fresh (l.map .int))
  | _ => none
def bMax : Bf
  | [.int i, .int j] => some (.d (.int (if j > i then j else i)))
  | [.lst l] => match intsOf l with
    | some (n :: ns) => some (.d (.int (maxI ns n)))
    | _ => none
  | _ => none
def bMin : Bf
  | [.int i, .int j] => some (.d (.int (if j < i then j else i)))
  | [.lst l] => match intsOf l with
    | some (n :: ns) => some (.d (.int (minI ns n)))
    | _ => none
  | _ => none
def bSum : Bf
  | [.lst l] => (intsOf l).map fun ns => .d (.int ns.sum)
  | _ => none
def bAll : Bf
  | [.lst l] => (blsOf l).map fun bs => .d (.bl (bs.all id))
  | _ => none
def bAny : Bf
  | [.lst l] => (blsOf l).map fun bs => .d (.bl (bs.any id))
  | _ => none
def bGcd : Bf
  | [.int i, .int j] => some (.d (.int ((Nat.gcd i.natAbs j.natAbs : Nat) : Int)))
  | _ => none
inductive Ty5 where
  | int | bool | str | tuple | list
def Ty5.nm : Ty5 → String
  | .int => "int" | .bool => "bool" | .str => "str" | .tuple => "tuple" | .list => "list"
/-- isinstance(x, T) -/
def isT : D → Ty5 → Option Bool
  | .non, _ => some false
  | .bl _, .bool => some true
  | .bl _, .int => some true
  | .bl _, _ => some false
  | .int _, .int => some true
  | .int _, _ => some false
  | .str _, .str => some true
  | .str _, _ => some false
  | .tup _, .tuple => some true
  | .tup _, _ => some false
  | .lst _, .list => some true
  | .lst _, _ => some false
  | _, _ => none
def bIsi (t : Ty5) : Bf
  | [x] => (isT x t).map fun b => .d (.bl b)
  | _ => none
section
variable {K : PySem.W.Frag} {fa : Nat → Addr} {F : Addr → Prop} {H : Hp} {X : Cx}
theorem RdL.one {vs : List V} {x : D} (r : RdL K fa F H vs [x]) : ∃ v, vs = [v] ∧ RdR K fa F H v x := by
  cases r with
  | cons r t => cases t; exact ⟨_, rfl, r⟩
theorem RdL.two {vs : List V} {x y : D} (r : RdL K fa F H vs [x, y]) : ∃ v u, vs = [v, u] ∧ RdR K fa F H v x ∧ RdR K fa F H u y := by
  cases r with
  | cons r t =>
    obtain ⟨u, rfl, r2⟩ := t.one
    exact ⟨_, u, rfl, r, r2⟩
theorem RdR.int_inv {v : V} {i : Int} (r : RdR K fa F H v (.int i)) : v = .int i := by
  cases r with
  | rp r => cases r; rfl
theorem RdR.bl_inv {v : V} {i : Bool} (r : RdR K fa F H v (.bl i)) : v = .bl i := by
  cases r with
  | rp r => cases r; rfl
theorem RdR.str_inv {v : V} {i : Str} (r : RdR K fa F H v (.str i)) : v = .str i := by
  cases r with
  | rp r => cases r; rfl
theorem rpl_intsOf : ∀ {l : List D} {ns : List Int} {xs : List V}, intsOf l = some ns → RpL K fa F H xs l → xs = ns.map V.int
  | [], ns, xs, e, r => by cases e; cases r; rfl
  | d :: l, ns, xs, e, r => by
    cases r with
    | cons p t =>
      cases d with
      | int i =>
        have e' : (intsOf l).map (fun l => i :: l) = some ns := e
        cases e1 : intsOf l with
        | none => rw [e1] at e'; cases e'
        | some ms =>
          rw [e1] at e'
          cases e'
          cases p
          rw [rpl_intsOf e1 t]
          rfl
      | _ => cases e
theorem rpl_blsOf : ∀ {l : List D} {ns : List Bool} {xs : List V}, blsOf l = some ns → RpL K fa F H xs l → xs = ns.map V.bl
  | [], ns, xs, e, r => by cases e; cases r; rfl
  | d :: l, ns, xs, e, r => by
    cases r with
    | cons p t =>
      cases d with
      | bl i =>
        have e' : (blsOf l).map (fun l => i :: l) = some ns := e
        cases e1 : blsOf l with
        | none => rw [e1] at e'; cases e'
        | some ms =>
          rw [e1] at e'
          cases e'
          cases p
          rw [rpl_blsOf e1 t]
          rfl
      | _ => cases e
theorem maxI_mem : ∀ {l : List Int} {m : Int}, maxI l m = m ∨ maxI l m ∈ l
  | [], m => .inl rfl
  | x :: r, m => by
    show maxI r (if m < x then x else m) = m ∨ _
    by_cases h : m < x
    · rw [if_pos h]
      rcases maxI_mem (l := r) (m := x) with e | e
      · exact .inr (by show maxI r (if m < x then x else m) ∈ _; rw [if_pos h, e]; exact List.mem_cons_self)
      · exact .inr (by show maxI r (if m < x then x else m) ∈ _; rw [if_pos h]; exact List.mem_cons_of_mem _ e)
    · rw [if_neg h]
      rcases maxI_mem (l := r) (m := m) with e | e
      · exact .inl e
      · exact .inr (by show maxI r (if m < x then x else m) ∈ _; rw [if_neg h]; exact List.mem_cons_of_mem _ e)
theorem maxI_ge : ∀ {l : List Int} {m : Int}, m ≤ maxI l m ∧ ∀ y ∈ l, y ≤ maxI l m
  | [], m => ⟨Int.le_refl _, fun y h => nomatch h⟩
  | x :: r, m => by
    obtain ⟨h1, h2⟩ := maxI_ge (l := r) (m := if m < x then x else m)
    show m ≤ maxI r (if m < x then x else m) ∧ ∀ y ∈ x :: r, y ≤ maxI r (if m < x then x else m)
    by_cases h : m < x
    · rw [if_pos h] at h1 h2 ⊢
      refine ⟨by omega, fun y hy => ?_⟩
      rcases List.mem_cons.mp hy with rfl | hy
      · exact h1
      · exact h2 y hy
    · rw [if_neg h] at h1 h2 ⊢
      refine ⟨h1, fun y hy => ?_⟩
      rcases List.mem_cons.mp hy with rfl | hy
      · omega
      · exact h2 y hy
theorem minI_mem : ∀ {l : List Int} {m : Int}, minI l m = m ∨ minI l m ∈ l
  | [], m => .inl rfl
  | x :: r, m => by
    show minI r (if x < m then x else m) = m ∨ _
    by_cases h : x < m
    · rw [if_pos h]
      rcases minI_mem (l := r) (m := x) with e | e
      · exact .inr (by show minI r (if x < m then x else m) ∈ _; rw [if_pos h, e]; exact List.mem_cons_self)
      · exact .inr (by show minI r (if x < m then x else m) ∈ _; rw [if_pos h]; exact List.mem_cons_of_mem _ e)
    · rw [if_neg h]
      rcases minI_mem (l := r) (m := m) with e | e
      · exact .inl e
      · exact .inr (by show minI r (if x < m then x else m) ∈ _; rw [if_neg h]; exact List.mem_cons_of_mem _ e)
theorem minI_le : ∀ {l : List Int} {m : Int}, minI l m ≤ m ∧ ∀ y ∈ l, minI l m ≤ y
  | [], m => ⟨Int.le_refl _, fun y h => nomatch h⟩
  | x :: r, m => by
    obtain ⟨h1, h2⟩ := minI_le (l := r) (m := if x < m then x else m)
    show minI r (if x < m then x else m) ≤ m ∧ ∀ y ∈ x :: r, minI r (if x < m then x else m) ≤ y
    by_cases h : x < m
    · rw [if_pos h] at h1 h2 ⊢
      refine ⟨by omega, fun y hy => ?_⟩
      rcases List.mem_cons.mp hy with rfl | hy
      · exact h1
      · exact h2 y hy
    · rw [if_neg h] at h1 h2 ⊢
      refine ⟨h1, fun y hy => ?_⟩
      rcases List.mem_cons.mp hy with rfl | hy
      · omega
      · exact h2 y hy
abbrev RB := List V → Hp → VK → Prop
/-- a list's or a tuple's length -/
theorem bf_len : BfS K fa bLen (fun xs H Q => ∃ x n, xs = [x] ∧ LenV K x H n ∧ Q (.int n) H) := fun xs e h F H vs Q T rr q => by
  unfold bLen at h
  split at h
  · cases h
    obtain ⟨v, rfl, r⟩ := rr.one
    obtain ⟨a, xs, rfl, s, r⟩ := r.lst_inv
    exact ⟨_, _, rfl, .inl ⟨xs, .of s, rfl⟩, q _ H (Same.refl H) (by rw [r.length]; exact .int _)⟩
  · cases h
    obtain ⟨v, rfl, r⟩ := rr.one
    obtain ⟨a, xs, rfl, s, r⟩ := r.tup_inv
    exact ⟨_, _, rfl, .inr ⟨xs, s, rfl⟩, q _ H (Same.refl H) (by rw [r.length]; exact .int _)⟩
  · cases h
    obtain ⟨v, rfl, r⟩ := rr.one
    obtain ⟨a, rfl, s⟩ := r.scr_inv
    exact ⟨_, _, rfl, .inl ⟨_, s, rfl⟩, q _ H (Same.refl H) (by rw [List.length_map]; exact .int _)⟩
  · split at h
    · rename_i hl
      cases h
      obtain ⟨v, rfl, r⟩ := rr.one
      cases r.str_inv
      exact ⟨_, _, rfl, ⟨by rw [lim_eq]; exact hl, rfl⟩, q _ H (Same.refl H) (.int _)⟩
    · cases h
  · cases h
theorem bf_abs : BfS K fa bAbs (fun xs H Q => ∃ i, xs = [.int i] ∧ Q (.int (if i < 0 then -i else i)) H) := fun xs e h F H vs Q T rr q => by
  unfold bAbs at h
  split at h
  · cases h
    obtain ⟨v, rfl, r⟩ := rr.one
    cases r.int_inv
    exact ⟨_, rfl, q _ H (Same.refl H) (.int _)⟩
  · cases h
theorem bf_int : BfS K fa bInt (fun xs H Q => (∃ i, xs = [.int i] ∧ Q (.int i) H) ∨ ∃ k, xs = [.bl k] ∧ Q (.int (if k then 1 else 0)) H) := fun xs e h F H vs Q T rr q => by
  unfold bInt at h
  split at h
  · cases h
    obtain ⟨v, rfl, r⟩ := rr.one
    cases r.int_inv
    exact .inl ⟨_, rfl, q _ H (Same.refl H) (.int _)⟩
  · cases h
    obtain ⟨v, rfl, r⟩ := rr.one
    cases r.bl_inv
    exact .inr ⟨_, rfl, q _ H (Same.refl H) (.int _)⟩
  · cases h
theorem bf_bool : BfS K fa bBool (fun xs H Q => (∃ i, xs = [.int i] ∧ Q (.bl (i != 0)) H) ∨ ∃ k, xs = [.bl k] ∧ Q (.bl k) H) := fun xs e h F H vs Q T rr q => by
  unfold bBool at h
  split at h
  · cases h
    obtain ⟨v, rfl, r⟩ := rr.one
    cases r.int_inv
    exact .inl ⟨_, rfl, q _ H (Same.refl H) (.bl _)⟩
  · cases h
    obtain ⟨v, rfl, r⟩ := rr.one
    cases r.bl_inv
    exact .inr ⟨_, rfl, q _ H (Same.refl H) (.bl _)⟩
  · cases h
theorem bf_tup : BfS K fa bTup (fun xs H Q => ∃ p ys, xs = [.ref p] ∧ ((SqL K H p ys ∧ ∀ l, H l = none → Q (.ref l) (upd H l (.tup ys))) ∨ (SqT K H p ys ∧ Q (.ref p) H))) := fun xs e h F H vs Q T rr q => by
  unfold bTup at h
  split at h
  · cases h
    obtain ⟨v, rfl, r⟩ := rr.one
    obtain ⟨a, xs, rfl, s, r⟩ := r.lst_inv
    exact ⟨_, _, rfl, .inl ⟨.of s, fun p np => q _ _ (same_new np) (.tup (.of upd_same) (RpL.ext (Ext.same (F := F) (same_new np) T) _ _ r))⟩⟩
  · cases h
    obtain ⟨v, rfl, r⟩ := rr.one
    obtain ⟨a, xs, rfl, s, r⟩ := r.tup_inv
    exact ⟨_, _, rfl, .inr ⟨s, q _ H (Same.refl H) (.tup s r)⟩⟩
  · cases h
    obtain ⟨v, rfl, r⟩ := rr.one
    obtain ⟨a, rfl, s⟩ := r.scr_inv
    exact ⟨_, _, rfl, .inl ⟨s, fun p np => q _ _ (same_new np) (.tup (.of upd_same) (rpl_ints _))⟩⟩
  · cases h
theorem bf_lst : BfS K fa bLst (fun xs H Q => ∃ p ys, xs = [.ref p] ∧ (SqL K H p ys ∨ SqT K H p ys) ∧ ∀ l, H l = none → Q (.ref l) (upd H l (.lst ys))) := fun xs e h F H vs Q T rr q => by
  unfold bLst at h
  split at h
  · cases h
    obtain ⟨v, rfl, r⟩ := rr.one
    obtain ⟨a, xs, rfl, s, r⟩ := r.lst_inv
    exact ⟨_, _, rfl, .inl (.of s), fun p np => q _ _ (same_new np) ⟨p, _, rfl, np, upd_same, RpL.ext (Ext.same (F := F) (same_new np) T) _ _ r⟩⟩
  · cases h
    obtain ⟨v, rfl, r⟩ := rr.one
    obtain ⟨a, xs, rfl, s, r⟩ := r.tup_inv
    exact ⟨_, _, rfl, .inr s, fun p np => q _ _ (same_new np) ⟨p, _, rfl, np, upd_same, RpL.ext (Ext.same (F := F) (same_new np) T) _ _ r⟩⟩
  · cases h
    obtain ⟨v, rfl, r⟩ := rr.one
    obtain ⟨a, rfl, s⟩ := r.scr_inv
    exact ⟨_, _, rfl, .inl s, fun p np => q _ _ (same_new np) ⟨p, _, rfl, np, upd_same, rpl_ints _⟩⟩
  · cases h
theorem bf_max : BfS K fa bMax (fun xs H Q => (∃ i j, xs = [.int i, .int j] ∧ Q (.int (if j > i then j else i)) H) ∨ rMax K xs H Q) := fun xs e h F H vs Q T rr q => by
  unfold bMax at h
  split at h
  · cases h
    obtain ⟨v, u, rfl, r1, r2⟩ := rr.two
    cases r1.int_inv
    cases r2.int_inv
    exact .inl ⟨_, _, rfl, q _ H (Same.refl H) (.int _)⟩
  · split at h
    · rename_i n ns en
      cases h
      obtain ⟨v, rfl, r⟩ := rr.one
      obtain ⟨a, xs, rfl, s, r⟩ := r.lst_inv
      rw [rpl_intsOf en r] at s
      refine .inr ⟨a, n :: ns, rfl, .of s, Nat.succ_pos _, fun m hm hy => ?_⟩
      have e1 : m = maxI ns n := by
        obtain ⟨g1, g2⟩ := maxI_ge (l := ns) (m := n)
        have u1 : m ≤ maxI ns n := by
          rcases List.mem_cons.mp hm with rfl | hm
          · exact g1
          · exact g2 _ hm
        have u2 : maxI ns n ≤ m := by
          rcases maxI_mem (l := ns) (m := n) with e | e
          · rw [e]; exact hy _ List.mem_cons_self
          · exact hy _ (List.mem_cons_of_mem _ e)
        omega
      rw [e1]
      exact q _ H (Same.refl H) (.int _)
    · cases h
  · cases h
theorem bf_min : BfS K fa bMin (fun xs H Q => (∃ i j, xs = [.int i, .int j] ∧ Q (.int (if j < i then j else i)) H) ∨ rMin K xs H Q) := fun xs e h F H vs Q T rr q => by
  unfold bMin at h
  split at h
  · cases h
    obtain ⟨v, u, rfl, r1, r2⟩ := rr.two
    cases r1.int_inv
    cases r2.int_inv
    exact .inl ⟨_, _, rfl, q _ H (Same.refl H) (.int _)⟩
  · split at h
    · rename_i n ns en
      cases h
      obtain ⟨v, rfl, r⟩ := rr.one
      obtain ⟨a, xs, rfl, s, r⟩ := r.lst_inv
      rw [rpl_intsOf en r] at s
      refine .inr ⟨a, n :: ns, rfl, .of s, Nat.succ_pos _, fun m hm hy => ?_⟩
      have e1 : m = minI ns n := by
        obtain ⟨g1, g2⟩ := minI_le (l := ns) (m := n)
        have u1 : minI ns n ≤ m := by
          rcases List.mem_cons.mp hm with rfl | hm
          · exact g1
          · exact g2 _ hm
        have u2 : m ≤ minI ns n := by
          rcases minI_mem (l := ns) (m := n) with e | e
          · rw [e]; exact hy _ List.mem_cons_self
          · exact hy _ (List.mem_cons_of_mem _ e)
        omega
      rw [e1]
      exact q _ H (Same.refl H) (.int _)
    · cases h
  · cases h
theorem bf_sum : BfS K fa bSum (rSum K) := fun xs e h F H vs Q T rr q => by
  unfold bSum at h
  split at h
  · rename_i l
    cases en : intsOf l with
    | none => rw [en] at h; cases h
    | some ns =>
      rw [en] at h
      cases h
      obtain ⟨v, rfl, r⟩ := rr.one
      obtain ⟨a, xs, rfl, s, r⟩ := r.lst_inv
      rw [rpl_intsOf en r] at s
      exact ⟨a, ns, rfl, .of s, q _ H (Same.refl H) (.int _)⟩
  · cases h
theorem bf_all : BfS K fa bAll (rAll K) := fun xs e h F H vs Q T rr q => by
  unfold bAll at h
  split at h
  · rename_i l
    cases en : blsOf l with
    | none => rw [en] at h; cases h
    | some ns =>
      rw [en] at h
      cases h
      obtain ⟨v, rfl, r⟩ := rr.one
      obtain ⟨a, xs, rfl, s, r⟩ := r.lst_inv
      rw [rpl_blsOf en r] at s
      exact ⟨a, ns, rfl, .of s, q _ H (Same.refl H) (.bl _)⟩
  · cases h
theorem bf_any : BfS K fa bAny (rAny K) := fun xs e h F H vs Q T rr q => by
  unfold bAny at h
  split at h
  · rename_i l
    cases en : blsOf l with
    | none => rw [en] at h; cases h
    | some ns =>
      rw [en] at h
      cases h
      obtain ⟨v, rfl, r⟩ := rr.one
      obtain ⟨a, xs, rfl, s, r⟩ := r.lst_inv
      rw [rpl_blsOf en r] at s
      exact ⟨a, ns, rfl, .of s, q _ H (Same.refl H) (.bl _)⟩
  · cases h
theorem bf_gcd : BfS K fa bGcd rGcd := fun xs e h F H vs Q T rr q => by
  unfold bGcd at h
  split at h
  · cases h
    obtain ⟨v, u, rfl, r1, r2⟩ := rr.two
    cases r1.int_inv
    cases r2.int_inv
    exact ⟨_, _, rfl, q _ H (Same.refl H) (.int _)⟩
  · cases h
/-! isinstance -/
def dTy : D → String
  | .non => "NoneType"
  | .bl _ => "bool"
  | .int _ => "int"
  | .str _ => "str"
  | .tup _ => "tuple"
  | .lst _ => "list"
  | _ => ""
theorem tyx_of {v : V} {x : D} {t : Ty5} {b : Bool} (h : isT x t = some b) (r : RdR K fa F H v x) : TyX K H v (.type (dTy x)) := by
  cases r with
  | rp r =>
    cases r with
    | non => exact .base .non
    | bl b => exact .base (.bl b)
    | int i => exact .base (.int i)
    | str s => exact .base (.str s)
    | tup s r =>
      rcases s with (s | ⟨o, s⟩) | ⟨o, its, n, k1, k2, k3, k4, k5⟩
      · exact .base (.tup s)
      · exact .fTuple s
      · exact .kTuple k1 k2
    | lst f s r => exact .base (.lst s)
    | _ => cases h
  | lst s r => exact .base (.lst s)
theorem kit_isT {x : D} {t : Ty5} {b : Bool} (h : isT x t = some b) : PySem.W.kitOne K (.type (dTy x)) (.type t.nm) = some b := by
  cases x <;> cases t <;> cases h <;> exact kit_ty (by simp only [dTy, Ty5.nm]; decide +kernel)
theorem bf_isi {t : Ty5} : BfS K fa (bIsi t) (fun vs H Q => rIsi K (vs ++ [.ty t.nm]) H Q) := fun xs e h F H vs Q T rr q => by
  unfold bIsi at h
  split at h
  · rename_i x
    cases en : isT x t with
    | none => rw [en] at h; cases h
    | some b =>
      rw [en] at h
      cases h
      obtain ⟨v, rfl, r⟩ := rr.one
      exact ⟨v, .ty t.nm, _, _, b, rfl, .ty _, tyx_of en r, kit_isT en, q _ H (Same.refl H) (.bl _)⟩
  · cases h
end
end RX
set_option Elab.async false
set_option linter.all false
set_option maxRecDepth 100000
set_option maxHeartbeats 4000000
/-! RXm: what a body's context is known to be; rules under it. -/
namespace RX
open PySem PySem.Spec PyProof.Rows L2
/-! ### the text's names -/
structure FnI where
  ix : Nat
  ps : List Str
  kw : List (List Str × List Nat)
/-- of the module: its defs, its classes (place, fields), its except clauses' classes, the fields that are read, the built-in names that nothing hides, functions of modules, constants -/
structure Mi where
  fns : List (Str × FnI)
  cls : List (Str × Nat × List Str)
  exm : List (Str × (Nat → Bool))
  flds : List Str
  free : List Str
  bfun : List (Str × String)
  cst : List (Str × D)
/-- a def's callee -/
structure FnG (fa : Nat → Addr) (C : Calls) (lv : Nat) (ca : Nat → Addr) (P : Program) (w : World) (K : PySem.W.Frag) (mg : Str → Option Value) (base : Heap) (f : Nat) (fd : FuncData) (ps : List Str) : Prop where
  ok : FnOk P w K mg base (L2.CX P w) (lv + 2) (fa f) fd ps (spC K fa ⟨ca, none⟩ C f)
  kp : PySem.W.keepIn K (.ref (fa f)) = true
  bd : Binds K fd ps []
structure ClG (lv : Nat) (ca : Nat → Addr) (P : Program) (w : World) (K : PySem.W.Frag) (mg : Str → Option Value) (base : Heap) (c : Nat) (fl : List Str) : Prop where
  T : OexC K (ca c)
  init : ∃ (fI : Addr) (fd : FuncData) (ps : List Str), PySem.W.findIn K (.ref (ca c)) "__init__" = some (some (.ref fI)) ∧ PySem.W.typeIn K (.ref fI) = some (.type "function") ∧ FnOk P w K mg base (L2.CX P w) 1 fI fd ps (spI fl (ca c)) ∧ Binds K fd ps []
  nd : fl.Nodup
  ln : fl.length ≤ 900
structure GM (I : Mi) (fa : Nat → Addr) (C : Calls) (lv : Nat) (ca : Nat → Addr) (P : Program) (w : World) (K : PySem.W.Frag) (mg : Str → Option Value) (base : Heap) : Prop where
  free : ∀ x, I.free.contains x = true → mg x = none
  fns : ∀ x f, I.fns.lookup x = some f → mg x = some (.ref (fa f.ix)) ∧ ∃ fd, FnG fa C lv ca P w K mg base f.ix fd f.ps ∧
    ∀ ks p, f.kw.lookup ks = some p → ∀ (s : Shared) (ws : List Value), K.In s.heap → ws.length = ks.length → BindsTo s fd ⟨[], ks.zip ws⟩ (f.ps.zip (permL p ws))
  all : ∀ f, ∃ fd ps, FnG fa C lv ca P w K mg base f fd ps
  cls : ∀ x c fl, I.cls.lookup x = some (c, fl) → mg x = some (.ref (ca c)) ∧ ClG lv ca P w K mg base c fl
  exm : ∀ x m, I.exm.lookup x = some m → ∃ A, mg x = some (.ref A) ∧ ∀ c, PySem.W.exmOne K (.ref (ca c)) (.ref A) = some (m c)
  xf : ∀ c, XfC K (ca c) ∧ ∀ f, I.flds.contains f = true → PySem.W.findIn K (.ref (ca c)) f = some none
  bfun : ∀ x id, I.bfun.lookup x = some id → mg x = some (.builtin id)
  cst : ∀ x d, I.cst.lookup x = some d → ∃ (u : Value) (v : V), mg x = some u ∧ RelV v u ∧ ∀ F H, Rp K fa F H v d
/-- a place in the text: its scope, the cells that may be stored, the slot of the exception that a suite holds -/
structure Pl where
  sc : Scope
  fn : Str → Bool
  hot : Option Nat
/-- a body's context: hot, in a suite, tells the slot of the exception -/
structure Gx (I : Mi) (N : List Str) (l : Pl) (fa : Nat → Addr) (C : Calls) (lv : Nat) (ca : Cc) (W : WX) (X : Cx) : Prop where
  m : GM I fa C lv ca.ca X.prog X.w X.K X.mg X.base
  hsc : X.env.scope = l.sc
  hfn : X.fn = l.fn
  hN : X.N = N
  nd : List.Nodup N
  un : X.A.units + 200 < cLine
  calm : l.hot = none → X.calm = true
  room : l.hot = none → Room (lv + 2) X.A
  ex : l.hot = none → ca.ex = none
  tk : Takes X W
  hx : ∀ i, l.hot = some i → ∃ (a : Addr) (oe : Obj) (cls : Value) (d : Option Addr) (pn : List (Addr × Obj)) (X0 : Cx), X = X0.suite a ((a, oe) :: pn) ∧ ca.ex = some (i, a, cls, d) ∧ Zc cls d oe ∧ ∃ vs, oe.data = .fields vs
/-- .. of a statement -/
structure Gs (I : Mi) (N : List Str) (l : Pl) (fa : Nat → Addr) (C : Calls) (lv : Nat) (ca : Cc) (W : WX) (X : Cx) : Prop where
  g : Gx I N l fa C lv ca W X
  own : l.hot = none → PassesOwn (model X.prog X.w) X.A X.env X.xe
  stk : l.hot = none → X.stack = X.env :: X.outer ∧ X.env.frame = some X.env.locals
  kd : l.sc.kind = .function
section
variable {I : Mi} {N : List Str} {sc : Scope} {fn : Str → Bool} {l : Pl} {fa : Nat → Addr} {C : Calls} {lv : Nat} {ca : Cc} {W : WX} {X : Cx}
theorem takes_no {X : Cx} : Takes X WN := fun u s' x => by
  obtain ⟨a, B, sI, pins, σ, H, cls, d, e, I, nb, up, sky, na, os, ag, w⟩ := x
  exact w.elim
/-- into a comprehension -/
theorem Gx.blk (g : Gx I N ⟨sc, fn, none⟩ fa C lv ca W X) (scope : Scope) (s : Shared) (H : Hp) (Cd : Addr) (cl : List (Str × Addr)) (fp : List Addr) : Gx I N ⟨relS scope sc, fun x => scope.names.lookup x == some .cell, none⟩ fa C lv ca WN (X.blk s H scope (compEnvC scope cl Cd X.env) fp) :=
  ⟨g.m, by show relS scope X.env.scope = _; rw [g.hsc], rfl, g.hN, g.nd, g.un, g.calm, g.room, g.ex, takes_no, fun i z => by cases z⟩
/-- into a try's body -/
theorem Gs.tr (g : Gs I N ⟨sc, fn, none⟩ fa C lv ca W X) {W' : WX} {pn : List (Addr × Obj)} {xe : Value → Shared → Prop} (tk : Takes (X.tr pn xe) W') (po : PassesOwn (model X.prog X.w) X.A X.env xe) : Gs I N ⟨sc, fn, none⟩ fa C lv ca W' (X.tr pn xe) :=
  ⟨⟨g.g.m, g.g.hsc, g.g.hfn, g.g.hN, g.g.nd, g.g.un, g.g.calm, g.g.room, g.g.ex, tk, fun i z => by cases z⟩, fun _ => po, g.stk, g.kd⟩
/-- into an except suite -/
theorem Gs.suite (g : Gs I N ⟨sc, fn, none⟩ fa C lv ca W X) {i : Nat} {a : Addr} {oe : Obj} {cls : Value} {d : Option Addr} {pn : List (Addr × Obj)} (hz : Zc cls d oe) (hf : ∃ vs, oe.data = .fields vs) : Gs I N ⟨sc, fn, some i⟩ fa C lv (ca.in i a cls d) WN (X.suite a ((a, oe) :: pn)) :=
  ⟨⟨g.g.m, g.g.hsc, g.g.hfn, g.g.hN, g.g.nd, g.g.un, (fun z => by cases z), (fun z => by cases z), (fun z => by cases z), takes_no, fun j z => by cases z; exact ⟨a, oe, cls, d, pn, X, rfl, rfl, hz, hf⟩⟩, (fun z => by cases z), (fun z => by cases z), g.kd⟩
/-! ### names -/
def ixOf : List Str → Str → Option Nat
  | [], _ => none
  | y :: r, x => if (y == x) = true then some 0 else (ixOf r x).map (· + 1)
theorem ixOf_ok : ∀ {N : List Str} {x : Str} {i : Nat}, ixOf N x = some i → N[i]? = some x
  | [], _, _, h => by cases h
  | y :: r, x, i, h => by
    unfold ixOf at h
    by_cases e : (y == x) = true
    · rw [if_pos e] at h
      cases h
      rw [eq_of_beq e]
      rfl
    · rw [if_neg e] at h
      cases e1 : ixOf r x with
      | none => rw [e1] at h; cases h
      | some j =>
        rw [e1] at h
        cases h
        have ih : r[j]? = some x := ixOf_ok e1
        simpa using ih
def okN (x : Str) : Bool := !(x == ("__debug__" : Str)) && (!(x == ("__classdict__" : Str)) && !(x == ("__name__" : Str)))
theorem okN_d {x : Str} (h : okN x = true) : (x == ("__debug__" : Str)) = false := by
  unfold okN at h
  cases e : (x == ("__debug__" : Str)) with
  | false => rfl
  | true => rw [e] at h; cases h
theorem okN_c {x : Str} (h : okN x = true) : (x == ("__classdict__" : Str)) = false := by
  unfold okN at h
  cases e : (x == ("__classdict__" : Str)) with
  | false => rfl
  | true => rw [e, Bool.not_true, Bool.false_and, Bool.and_false] at h; cases h
theorem okN_n {x : Str} (h : okN x = true) : x ≠ "__name__" := fun z => by
  unfold okN at h
  have e : (x == ("__name__" : Str)) = true := by rw [z]; exact beq_self_eq_true _
  rw [e, Bool.not_true, Bool.and_false, Bool.and_false] at h
  cases h
def kd (sc : Scope) (x : Str) : Option NameKind := sc.names.lookup x
def visB (sc : Scope) (x : Str) : Bool := match kd sc x with
  | some .local => true
  | some .cell => true
  | some .free => true
  | _ => false
def locB (sc : Scope) (x : Str) : Bool := match kd sc x with
  | some .local => true
  | some .cell => true
  | _ => false
def lclB (sc : Scope) (x : Str) : Bool := match kd sc x with
  | some .local => true
  | _ => false
def glB (sc : Scope) (x : Str) : Bool := match kd sc x with
  | some .globalImplicit => true
  | _ => false
theorem visB_ok {x : Str} (h : visB sc x = true) : Vis sc x := by
  unfold visB at h
  split at h
  · rename_i e; exact .inl e
  · rename_i e; exact .inr (.inl e)
  · rename_i e; exact .inr (.inr e)
  · cases h
theorem locB_ok {x : Str} (h : locB sc x = true) : Loc sc x := by
  unfold locB at h
  split at h
  · rename_i e; exact .inl e
  · rename_i e; exact .inr e
  · cases h
theorem lclB_ok {x : Str} (h : lclB sc x = true) : sc.names.lookup x = some .local := by
  unfold lclB at h
  split at h
  · rename_i e; exact e
  · cases h
theorem glB_ok {x : Str} (h : glB sc x = true) : sc.names.lookup x = some .globalImplicit := by
  unfold glB at h
  split at h
  · rename_i e; exact e
  · cases h
theorem Gx.gl (g : Gx I N l fa C lv ca W X) {x : Str} (h : glB l.sc x = true) : Gl X x := by
  show X.env.scope.names.lookup x = _
  rw [g.hsc]; exact glB_ok h
theorem Gx.ix (g : Gx I N l fa C lv ca W X) {x : Str} {i : Nat} (h : N[i]? = some x) : X.N[i]? = some x := by rw [g.hN]; exact h
theorem Gx.ndX (g : Gx I N l fa C lv ca W X) : X.N.Nodup := by rw [g.hN]; exact g.nd
theorem Gx.var (g : Gx I N l fa C lv ca W X) {x : Str} {i : Nat} {pos : Pos} (h : N[i]? = some x) (hv : visB l.sc x = true) (ok : okN x = true) : PE X (.Name x pos) (tVar i) :=
  pe_var (g.ix h) (by rw [g.hsc]; exact visB_ok hv) (okN_d ok) (okN_c ok)
/-! ### lists without a star -/
def nst : Expr → Bool
  | .Starred _ _ => false
  | _ => true
theorem star_cons {e : Expr} {es : List Expr} {env : PySem.Env} (h : nst e = true) : starEach (e :: es) env = (false, eval e env) :: starEach es env := by
  cases e <;> first | rfl | cases h
theorem star_plain {pos : Pos} {env : PySem.Env} : ∀ {es : List Expr}, es.all nst = true → (PySem.backTo pos (starEach es env)).any (·.1) = false
  | [], _ => rfl
  | e :: es, h => by
    obtain ⟨h1, h2⟩ := Bool.and_eq_true_iff.mp (show (nst e && es.all nst) = true from h)
    rw [star_cons h1]
    have ih : (PySem.backTo pos (starEach es env)).any (·.1) = false := star_plain h2
    unfold PySem.backTo at ih ⊢
    rw [List.map_cons, List.any_cons, ih]
    rfl
/-! ### tests -/
def tCmpB (f : Op2) (a b : Den) : TD := fun C ρ => (a C ρ).bind fun x ρ1 => (b C ρ1).bind fun y ρ2 => match f x.frz y.frz with
  | some (.d (.bl k)) => .ok k ρ2
  | _ => .stuck
/-- a op b op' c, as a test -/
def tChnB (f g : Op2) (a b c : Den) : TD := fun C ρ => (a C ρ).bind fun x ρ1 => (b C ρ1).bind fun y ρ2 => match f x.frz y.frz with
  | some (.d (.bl true)) => (c C ρ2).bind fun z ρ3 => (match g y.frz z.frz with
    | some (.d (.bl k)) => .ok k ρ3
    | _ => .stuck)
  | some (.d (.bl false)) => .ok false ρ2
  | _ => .stuck
theorem sim_tcmp {op : CmpOp} {a b : Expr} {da db : Den} {f : Op2} {r : R2} {pos : Pos} (ho : OpR X (compareOp op) r) (hs : OpS X.K fa f r) (hm : behindInMarks op b = false) (ha : SimE fa ca W C X a da) (hb : SimE fa ca W C X b db) :
    SimT fa ca W C X (.Compare a [op] [b] pos) (tCmpB f da db) := by
  refine pt_le (pt_cmpR ho ha hb hm) fun σ H Q h => ?_
  obtain ⟨G, F, ρ, S, h⟩ := h
  refine ⟨G, F, ρ, S, (RPost.bind (x := da C ρ) h).mono fun x ρ1 h1 v F1 H1 S1 E1 r1 => ?_⟩
  obtain ⟨F1, S1, E1', p1⟩ := S1.frz r1
  refine ⟨G, F1, ρ1, S1, ((RPost.bind (x := db C ρ1) h1).later (E1.trans E1')).mono fun y ρ2 h2 u F2 H2 S2 E2 r2 => ?_⟩
  obtain ⟨F2, S2, E2', p2⟩ := S2.frz r2
  cases e : f x.frz y.frz with
  | none => rw [e] at h2; exact h2.elim
  | some z =>
    rw [e] at h2
    refine hs _ _ _ e F2 H2 v u _ S2.trk (Rp.ext (E2.trans E2') _ _ p1) p2 fun v' H' sm n => ?_
    cases z with
    | fresh l => exact h2.elim
    | d z =>
      cases z with
      | bl k =>
        have n' : Rp X.K fa F2 H' v' (.bl k) := n
        cases n'
        exact ⟨k, rfl, h2 F2 H' (S2.same sm) ((((E1.trans E1').trans E2).trans E2').trans (S2.ext sm))⟩
      | _ => exact h2.elim
theorem sim_tchn {op op' : CmpOp} {a b c : Expr} {da db dc : Den} {f g : Op2} {r r' : R2} {pos : Pos} (ho : OpR X (compareOp op) r) (ho' : OpR X (compareOp op') r') (hs : OpS X.K fa f r) (hs' : OpS X.K fa g r') (hm : lastMarks [op, op'] [b, c] = false)
    (ha : SimE fa ca W C X a da) (hb : SimE fa ca W C X b db) (hc : SimE fa ca W C X c dc) : SimT fa ca W C X (.Compare a [op, op'] [b, c] pos) (tChnB f g da db dc) := by
  refine pt_le (pt_chain ho ho' ha hb hc hm) fun σ H Q h => ?_
  obtain ⟨G, F, ρ, S, h⟩ := h
  refine ⟨G, F, ρ, S, (RPost.bind (x := da C ρ) h).mono fun x ρ1 h1 v F1 H1 S1 E1 r1 => ?_⟩
  obtain ⟨F1, S1, E1', p1⟩ := S1.frz r1
  refine ⟨G, F1, ρ1, S1, ((RPost.bind (x := db C ρ1) h1).later (E1.trans E1')).mono fun y ρ2 h2 u F2 H2 S2 E2 r2 => ?_⟩
  obtain ⟨F2, S2, E2', p2⟩ := S2.frz r2
  cases e : f x.frz y.frz with
  | none => rw [e] at h2; exact h2.elim
  | some z =>
    rw [e] at h2
    refine hs _ _ _ e F2 H2 v u _ S2.trk (Rp.ext (E2.trans E2') _ _ p1) p2 fun v' H' sm n => ?_
    have E12 := ((E1.trans E1').trans E2).trans E2'
    cases z with
    | fresh l => exact h2.elim
    | d z =>
      cases z with
      | bl k =>
        have n' : Rp X.K fa F2 H' v' (.bl k) := n
        cases n'
        refine ⟨k, rfl, ?_⟩
        have S3 := S2.same sm
        have E3 := E12.trans (S2.ext sm)
        cases k with
        | false =>
          rw [if_neg Bool.false_ne_true]
          exact ⟨false, rfl, h2 F2 H' S3 E3⟩
        | true =>
          rw [if_pos rfl]
          refine ⟨G, F2, ρ2, S3, ((RPost.bind (x := dc C ρ2) h2).later E3).mono fun w ρ3 h3 t F3 H3 S4 E4 r3 => ?_⟩
          obtain ⟨F3, S4, E4', p3⟩ := S4.frz r3
          cases e3 : g y.frz w.frz with
          | none => rw [e3] at h3; exact h3.elim
          | some z3 =>
            rw [e3] at h3
            refine hs' _ _ _ e3 F3 H3 u t _ S4.trk (Rp.ext (((S2.ext sm).trans E4).trans E4') _ _ p2) p3 fun v3 H4 sm3 n3 => ?_
            cases z3 with
            | fresh l => exact h3.elim
            | d z3 =>
              cases z3 with
              | bl k3 =>
                have n3' : Rp X.K fa F3 H4 v3 (.bl k3) := n3
                cases n3'
                exact ⟨k3, rfl, h3 F3 H4 (S4.same sm3) (((E3.trans E4).trans E4').trans (S4.ext sm3))⟩
              | _ => exact h3.elim
      | _ => exact h2.elim
/-! ### isinstance -/
theorem dB_one {f : Bf} {d : Den} {ρ : Env} : dB f [d] C ρ = ((d C ρ).bind fun x ρ1 => match f [x.frz] with | some r => .ok r ρ1 | none => .stuck) := by
  show ((d C ρ).bind fun x ρ1 => R.ok [x.frz] ρ1).bind _ = _
  cases d C ρ <;> rfl
theorem sim_isi {e c : Expr} {d : Den} {t : Ty5} (he : SimE fa ca W C X e d) (pe : ∀ {t'}, PE X e t' → PE X c (tCB (rIsi X.K) (tCons t' (tCons (tC (.ty t.nm)) tNil)))) : SimE fa ca W C X c (dB (bIsi t) [d]) := by
  refine pe_le (pe he) fun σ H Q h => ?_
  obtain ⟨G, F, ρ, S, h⟩ := h
  rw [dB_one] at h
  refine ⟨G, F, ρ, S, (RPost.bind (x := d C ρ) h).mono fun x ρ1 h1 v F1 H1 S1 E1 r1 => ?_⟩
  obtain ⟨F1, S1, E1', p1⟩ := S1.frz r1
  cases e1 : bIsi t [x.frz] with
  | none => simp only [e1] at h1; exact h1.elim
  | some z =>
    simp only [e1] at h1
    exact bf_isi _ _ e1 F1 H1 [v] Q S1.trk (.cons (.rp p1) .nil) fun v' H' sm n => fin_new S1 (E1.trans E1') h1 sm n
theorem sim_isi1 {e c : Expr} {i : Nat} {t : Ty5} (he : PE X e (tVar i)) (pe : ∀ {t'}, PE X e t' → PE X c (tCB (rIsi X.K) (tCons t' (tCons (tC (.ty t.nm)) tNil)))) : SimE fa ca W C X c (dB1 (bIsi t) i) := by
  refine pe_le (pe he) fun σ H Q h => ?_
  obtain ⟨G, F, ρ, S, h⟩ := h
  unfold dB1 at h
  cases e : RX.look ρ i with
  | none => rw [e] at h; exact h.elim
  | some x =>
    rw [e] at h
    obtain ⟨v, hv, r⟩ := S.look e
    cases e1 : bIsi t [x] with
    | none => simp only [e1] at h; exact h.elim
    | some z =>
      simp only [e1] at h
      exact ⟨v, hv, bf_isi _ _ e1 F H [v] Q S.trk (.cons r .nil) fun v' H' sm n => fin_new S Ext.refl h sm n⟩
/-! ### two names from two values -/
theorem par_sw {x y : Str} {a b : Expr} {px py pt pt2 : Pos} {kt k2 : Nat} {env : PySem.Env} (hk : env.scope.kind = .function) (hx : env.scope.names.lookup x = some .local) (hy : env.scope.names.lookup y = some .local) (hl : (py.line == px.line) = true) (hxy : (x == y) = false)
    (na : nst a = true) (nb : nst b = true) (h1 : (foldedForSure 8 a && foldedForSure 8 b) = false) (h2 : (constantsAlone 8 a && constantsAlone 8 b) = false) :
    swappedStores [.Tuple [.Name x px, .Name y py] kt pt] (.Tuple [a, b] k2 pt2) env = pure (some [x, y]) := by
  have kx : env.kindOf x = some .local := hx
  have ky : env.kindOf y = some .local := hy
  have hb : env.blockKind = .function := by unfold Env.blockKind; rw [hk]; rfl
  have hs : ([a, b].any fun | .Starred .. => true | _ => false) = false := by
    have f : ∀ {e : Expr}, nst e = true → (match e with | .Starred .. => true | _ => false) = false := fun {e} h => by cases e <;> first | rfl | cases h
    rw [List.any_cons, List.any_cons, List.any_nil, f na, f nb]
    rfl
  have hall : [a, b].all (foldedForSure 8) = false := by rw [List.all_cons, List.all_cons, List.all_nil, Bool.and_true]; exact h1
  have hall2 : [a, b].all (constantsAlone 8) = false := by rw [List.all_cons, List.all_cons, List.all_nil, Bool.and_true]; exact h2
  have hyx : (y == x) = false := by
    cases z : y == x with
    | false => rfl
    | true => rw [eq_of_beq z] at hxy; simp at hxy
  have hl' : py.line = px.line := eq_of_beq hl
  unfold swappedStores
  simp [hb, hall, hall2, kx, ky, Expr.pos, hl']
  split
  · cases na
  · split
    · cases nb
    · simp [List.eraseDups, List.eraseDupsBy, List.eraseDupsBy.loop, hxy, hyx]
end
end RX
set_option Elab.async false
set_option linter.all false
set_option maxRecDepth 100000
set_option maxHeartbeats 4000000
/-! RXn: a text's expressions turned into the evaluator's, with the proof. -/
namespace RX
open PySem PySem.Spec PyProof.Rows L2
section
variable (I : Mi) (N : List Str) (l : Pl)
def CE (e : Expr) (d : Den) : Prop := ∀ {fa : Nat → Addr} {C : Calls} {lv : Nat} {ca : Cc} {W : WX} {X : Cx}, Gx I N l fa C lv ca W X → SimE fa ca W C X e d
def CT (e : Expr) (d : TD) : Prop := ∀ {fa : Nat → Addr} {C : Calls} {lv : Nat} {ca : Cc} {W : WX} {X : Cx}, Gx I N l fa C lv ca W X → SimT fa ca W C X e d
def CW (e : Expr) (d : TD) : Prop := ∀ {fa : Nat → Addr} {C : Calls} {lv : Nat} {ca : Cc} {W : WX} {X : Cx}, Gx I N l fa C lv ca W X → SimW fa ca W C X e d
def CA (es : List Expr) (d : List Den) : Prop := ∀ {fa : Nat → Addr} {C : Calls} {lv : Nat} {ca : Cc} {W : WX} {X : Cx}, Gx I N l fa C lv ca W X → SimA fa ca W C X es d
def CV (es : List Expr) (d : List AD) : Prop := ∀ {fa : Nat → Addr} {C : Calls} {lv : Nat} {ca : Cc} {W : WX} {X : Cx}, Gx I N l fa C lv ca W X → SimV fa ca W C X es d
def CI (tg e : Expr) (d : ID) : Prop := ∀ {fa : Nat → Addr} {C : Calls} {lv : Nat} {ca : Cc} {W : WX} {X : Cx}, Gx I N l fa C lv ca W X → SimI fa ca W C X tg e d
def CP (e : Option Expr) (d : Option Den) : Prop := ∀ {fa : Nat → Addr} {C : Calls} {lv : Nat} {ca : Cc} {W : WX} {X : Cx}, Gx I N l fa C lv ca W X → SimP fa ca W C X e d
def CN (e : Expr) (i : Nat) : Prop := ∀ {fa : Nat → Addr} {C : Calls} {lv : Nat} {ca : Cc} {W : WX} {X : Cx}, Gx I N l fa C lv ca W X → PE X e (tVar i)
abbrev OE (e : Expr) := Option {d : Den // CE I N l e d}
abbrev OT (e : Expr) := Option {d : TD // CT I N l e d}
abbrev OI (tg e : Expr) := Option {d : ID // CI I N l tg e d}
abbrev OA (es : List Expr) := Option {d : List Den // CA I N l es d ∧ es.all nst = true ∧ d.length = es.length}
abbrev OV (es : List Expr) := Option {d : List AD // CV I N l es d ∧ es.all nst = true}
end
/-- the four compilers, one level of depth below -/
structure Cmp (I : Mi) (N : List Str) where
  E : ∀ l e, OE I N l e
  T : ∀ l e, OT I N l e
section
variable {I : Mi} {N : List Str} {l : Pl}
/-! ### names, constants -/
def cVar (e : Expr) : Option {i : Nat // CN I N l e i} := match e with
  | .Name x pos => match h : ixOf N x with
    | some i => if h2 : visB l.sc x = true then if h3 : okN x = true then some ⟨i, fun g => g.var (ixOf_ok h) h2 h3⟩ else none else none
    | none => none
  | _ => none
def cCon (v : Const) (k : Nat) (pos : Pos) : OE I N l (.Constant v k pos) := match v with
  | .int i => some ⟨dC (.int i), fun g => sim_c pe_int fun _ _ => .int i⟩
  | .bool b => some ⟨dC (.bl b), fun g => sim_c pe_bl fun _ _ => .bl b⟩
  | .none => some ⟨dC .non, fun g => sim_c pe_non fun _ _ => .non⟩
  | .str x => some ⟨dC (.str x), fun g => sim_c pe_str fun _ _ => .str x⟩
  | _ => none
def cGlo (x : Str) (pos : Pos) : OE I N l (.Name x pos) :=
  if h : glB l.sc x = true then if h3 : okN x = true then match e : I.fns.lookup x with
    | some f => some ⟨dC (.fn f.ix), fun {fa} {C lv ca W X} g => sim_c (v := .ref (fa f.ix)) (pe_glob (g.gl h) (g.m.fns x f e).1 rfl (okN_d h3)) fun _ _ => .fn _⟩
    | none => match e : I.cst.lookup x with
      | some d => some ⟨dC d, fun {fa} {C lv ca W X} g => by
          obtain ⟨u, v, h1, h2, h4⟩ := g.m.cst x d e
          exact sim_c (pe_glob (g.gl h) h1 h2 (okN_d h3)) h4⟩
      | none => none
  else none else none
def cName (x : Str) (pos : Pos) : OE I N l (.Name x pos) := match (cVar (.Name x pos) : Option {i : Nat // CN I N l (.Name x pos) i}) with
  | some i => some ⟨dVar i.1, fun g => sim_var (i.2 g)⟩
  | none => cGlo x pos
/-! ### lists of expressions -/
def cAll (E : ∀ e, OE I N l e) : ∀ es, OA I N l es
  | [] => some ⟨[], fun g => sim_nil, rfl, rfl⟩
  | e :: es => match E e, cAll E es with
    | some d, some ds => if h : nst e = true then some ⟨d.1 :: ds.1, fun g => sim_cons (d.2 g) (ds.2.1 g) (star_cons h), by rw [List.all_cons, h, ds.2.2.1]; rfl, by rw [List.length_cons, List.length_cons, ds.2.2.2]⟩ else none
    | _, _ => none
def cArg (E : ∀ e, OE I N l e) : ∀ es, OV I N l es
  | [] => some ⟨[], fun g => sim_vnil, rfl⟩
  | e :: es => match cArg E es with
    | some ds => if h : nst e = true then match (cVar e : Option {i : Nat // CN I N l e i}) with
      | some i => some ⟨.v i.1 :: ds.1, fun g => sim_vv (i.2 g) (ds.2.1 g) (star_cons h), by rw [List.all_cons, h, ds.2.2]; rfl⟩
      | none => match E e with
        | some d => some ⟨.e d.1 :: ds.1, fun g => sim_ve (d.2 g) (ds.2.1 g) (star_cons h), by rw [List.all_cons, h, ds.2.2]; rfl⟩
        | none => none
      else none
    | none => none
/-! ### operators -/
abbrev BopC (op : Operator) := {f : Op2 // ∀ (X : Cx) (fa : Nat → Addr), ∃ r, OpR X (binaryOp op) r ∧ OpS X.K fa f r}
def bop : ∀ op, Option (BopC op)
  | .Add => some ⟨fAdd, fun X fa => ⟨_, op_addZ, s_add⟩⟩
  | .Sub => some ⟨fSub, fun X fa => ⟨_, op_sub, s_sub⟩⟩
  | .Mult => some ⟨fMul, fun X fa => ⟨_, op_mulZZ, s_mul⟩⟩
  | .FloorDiv => some ⟨fDiv, fun X fa => ⟨_, op_fdivZ, s_div⟩⟩
  | .Mod => some ⟨fMod, fun X fa => ⟨_, op_modN, s_mod⟩⟩
  | .Pow => some ⟨fPow, fun X fa => ⟨_, op_pow, s_pow⟩⟩
  | .LShift => some ⟨fShl, fun X fa => ⟨_, op_shl, s_shl⟩⟩
  | .RShift => some ⟨fShr, fun X fa => ⟨_, op_shr, s_shr⟩⟩
  | .BitAnd => some ⟨fAnd, fun X fa => ⟨_, op_and, s_and⟩⟩
  | .BitOr => some ⟨fOr, fun X fa => ⟨_, L2.op_or, s_or⟩⟩
  | _ => none
abbrev CopC (op : CmpOp) := {f : Op2 // ∀ (X : Cx) (fa : Nat → Addr), X.A.units + 200 < cLine → ∃ r, OpR X (compareOp op) r ∧ OpS X.K fa f r}
def cop : ∀ op, Option (CopC op)
  | .Eq => some ⟨fEq, fun X fa h => ⟨_, op_eqP (by omega), s_eq⟩⟩
  | .NotEq => some ⟨fNe, fun X fa h => ⟨_, op_neP (by omega), s_ne⟩⟩
  | .Lt => some ⟨fLt, fun X fa h => ⟨_, op_lt, s_lt⟩⟩
  | .LtE => some ⟨fLe, fun X fa h => ⟨_, op_le, s_le⟩⟩
  | .Gt => some ⟨fGt, fun X fa h => ⟨_, op_gt, s_gt⟩⟩
  | .GtE => some ⟨fGe, fun X fa h => ⟨_, op_ge, s_ge⟩⟩
  | .Is => some ⟨fIs, fun X fa h => ⟨_, op_isZ, s_is⟩⟩
  | .IsNot => some ⟨fIsNot, fun X fa h => ⟨_, op_isNotZ, s_isNot⟩⟩
  | .In => some ⟨fIn, fun X fa h => ⟨_, op_inP (by omega), s_in⟩⟩
  | .NotIn => some ⟨fNotIn, fun X fa h => ⟨_, op_ninP (by omega), s_notIn⟩⟩
/-- no set display -/
def nset : Expr → Bool
  | .Set _ _ _ => false
  | _ => true
theorem nset_ok {e : Expr} {op : CmpOp} (h : nset e = true) : behindInMarks op e = false := by
  cases e <;> first | rfl | cases h
theorem nset_last {op op' : CmpOp} {b c : Expr} (h : nset c = true) : lastMarks [op, op'] [b, c] = false := nset_ok h
def cBin (E : ∀ e, OE I N l e) (a : Expr) (op : Operator) (b : Expr) (pos : Pos) : OE I N l (.BinOp a op b pos) := match E a, E b, bop op with
  | some da, some db, some f => some ⟨dOp f.1 da.1 db.1, fun {fa} {C lv ca W X} g => by
      obtain ⟨r, h1, h2⟩ := f.2 X fa
      exact sim_op h1 h2 (da.2 g) (db.2 g)⟩
  | _, _, _ => none
def cUn (E : ∀ e, OE I N l e) (op : UnaryOp) (a : Expr) (pos : Pos) : OE I N l (.UnaryOp op a pos) := match op with
  | .Not => match E a with
    | some d => some ⟨dNot d.1, fun g => sim_not (d.2 g)⟩
    | none => none
  | .USub => match E a with
    | some d => some ⟨dUn fNeg d.1, fun g => sim_un un_neg s_neg (d.2 g) fun h => pe_un un_neg h⟩
    | none => none
  | _ => none
def cCmp (E : ∀ e, OE I N l e) (a : Expr) (ops : List CmpOp) (bs : List Expr) (pos : Pos) : OE I N l (.Compare a ops bs pos) := match ops, bs with
  | [op], [b] => match E a, E b, cop op with
    | some da, some db, some f => if hb : nset b = true then some ⟨dOp f.1 da.1 db.1, fun {fa} {C lv ca W X} g => by
        obtain ⟨r, h1, h2⟩ := f.2 X fa g.un
        exact sim_cmp h1 h2 (nset_ok hb) (da.2 g) (db.2 g)⟩ else none
    | _, _, _ => none
  | [op, op'], [b, c] => match E a, E b, E c, cop op, cop op' with
    | some da, some db, some dc, some f, some f' => if hb : nset c = true then some ⟨dChain f.1 f'.1 da.1 db.1 dc.1, fun {fa} {C lv ca W X} g => by
        obtain ⟨r, h1, h2⟩ := f.2 X fa g.un
        obtain ⟨r', h1', h2'⟩ := f'.2 X fa g.un
        exact sim_chain h1 h1' h2 h2' (fun ha hb' hc => pe_chain h1 h1' ha hb' hc (nset_last hb)) (da.2 g) (db.2 g) (dc.2 g)⟩ else none
    | _, _, _, _, _ => none
  | _, _ => none
def cTCmp (E : ∀ e, OE I N l e) (a : Expr) (ops : List CmpOp) (bs : List Expr) (pos : Pos) : OT I N l (.Compare a ops bs pos) := match ops, bs with
  | [op], [b] => match E a, E b, cop op with
    | some da, some db, some f => if hb : nset b = true then some ⟨tCmpB f.1 da.1 db.1, fun {fa} {C lv ca W X} g => by
        obtain ⟨r, h1, h2⟩ := f.2 X fa g.un
        exact sim_tcmp h1 h2 (nset_ok hb) (da.2 g) (db.2 g)⟩ else none
    | _, _, _ => none
  | [op, op'], [b, c] => match E a, E b, E c, cop op, cop op' with
    | some da, some db, some dc, some f, some f' => if hb : nset c = true then some ⟨tChnB f.1 f'.1 da.1 db.1 dc.1, fun {fa} {C lv ca W X} g => by
        obtain ⟨r, h1, h2⟩ := f.2 X fa g.un
        obtain ⟨r', h1', h2'⟩ := f'.2 X fa g.un
        exact sim_tchn h1 h1' h2 h2' (nset_last hb) (da.2 g) (db.2 g) (dc.2 g)⟩ else none
    | _, _, _, _, _ => none
  | _, _ => none
def cAnd (E : ∀ e, OE I N l e) (pos : Pos) : ∀ es, OE I N l (.BoolOp .And es pos)
  | [] => none
  | [a] => match E a with
    | some d => some ⟨d.1, fun g => pe_one (d.2 g)⟩
    | none => none
  | a :: b :: r => match E a, cAnd E pos (b :: r) with
    | some d, some ds => some ⟨dAnd d.1 ds.1, fun g => sim_and (d.2 g) (ds.2 g)⟩
    | _, _ => none
def cOr (E : ∀ e, OE I N l e) (pos : Pos) : ∀ es, OE I N l (.BoolOp .Or es pos)
  | [] => none
  | [a] => match E a with
    | some d => some ⟨d.1, fun g => pe_one (d.2 g)⟩
    | none => none
  | a :: b :: r => match E a, cOr E pos (b :: r) with
    | some d, some ds => some ⟨dOr d.1 ds.1, fun g => sim_or (d.2 g) (ds.2 g)⟩
    | _, _ => none
def cTAnd (T : ∀ e, OT I N l e) (pos : Pos) : ∀ es, Option {d : TD // CW I N l (.BoolOp .And es pos) d}
  | [] => none
  | [a] => match T a with
    | some d => some ⟨d.1, fun g => pw_and1 (d.2 g)⟩
    | none => none
  | a :: b :: r => match T a, cTAnd T pos (b :: r) with
    | some d, some ds => some ⟨tAnd d.1 ds.1, fun g => sim_tAnd (d.2 g) (ds.2 g)⟩
    | _, _ => none
def cTOr (T : ∀ e, OT I N l e) (pos : Pos) : ∀ es, Option {d : TD // CW I N l (.BoolOp .Or es pos) d}
  | [] => none
  | [a] => match T a with
    | some d => some ⟨d.1, fun g => pw_or1 (d.2 g)⟩
    | none => none
  | a :: b :: r => match T a, cTOr T pos (b :: r) with
    | some d, some ds => some ⟨tOr d.1 ds.1, fun g => sim_tOr (d.2 g) (ds.2 g)⟩
    | _, _ => none
/-! ### subscripts -/
def nslice : Expr → Bool
  | .Slice _ _ _ _ => false
  | _ => true
theorem nslice_ok {e : Expr} (h : nslice e = true) : PlainIx e := by
  intro o i
  cases e <;> first | rfl | cases h
def cPart (E : ∀ e, OE I N l e) : ∀ e, Option {d : Option Den // CP I N l e d}
  | none => some ⟨none, fun g => sim_pnone⟩
  | some e => match E e with
    | some d => some ⟨some d.1, fun g => sim_psome (d.2 g)⟩
    | none => none
def cIx (E : ∀ e, OE I N l e) (a b : Expr) (pos : Pos) : OE I N l (.Subscript a b pos) :=
  if h : nslice b = true then match E b with
    | some db => match (cVar a : Option {i : Nat // CN I N l a i}) with
      | some i => some ⟨dIxV i.1 db.1, fun g => sim_ixV (nslice_ok h) (i.2 g) (db.2 g)⟩
      | none => match E a with
        | some da => some ⟨dOp fIx da.1 db.1, fun g => sim_ix (nslice_ok h) (da.2 g) (db.2 g)⟩
        | none => none
    | none => none
  else none
def cSub (E : ∀ e, OE I N l e) (a b : Expr) (pos : Pos) : OE I N l (.Subscript a b pos) := match b with
  | .Slice lo hi none p2 => match cPart E lo, cPart E hi with
    | some dl, some dh => match (cVar a : Option {i : Nat // CN I N l a i}) with
      | some i => some ⟨dSlV i.1 dl.1 dh.1, fun g => sim_slV (i.2 g) (dl.2 g) (dh.2 g) fun h1 h2 h3 => pe_slice sl_Z h1 h2 h3⟩
      | none => match E a with
        | some da => some ⟨dSl da.1 dl.1 dh.1, fun g => sim_sl (da.2 g) (dl.2 g) (dh.2 g) fun h1 h2 h3 => pe_slice sl_Z h1 h2 h3⟩
        | none => none
    | _, _ => none
  | b => cIx E a b pos
/-! ### tests -/
def cTru (E : ∀ e, OE I N l e) (e : Expr) (he : ∀ (env : PySem.Env) (whole : Sem Value), isTrue e env whole = (do let v ← whole; standAt e.pos; holding [v] (truthy v))) : OT I N l e := match E e with
  | some d => some ⟨tE d.1, fun {fa} {C lv ca W X} g => sim_tE (d.2 g) fun h => pt_truth h (he X.env)⟩
  | none => none
def cTest (E : ∀ e, OE I N l e) (T : ∀ e, OT I N l e) (e : Expr) : OT I N l e := match e with
  | .BoolOp .And es pos => match cTAnd T pos es with
    | some d => some ⟨d.1, fun g => (d.2 g).pt⟩
    | none => none
  | .BoolOp .Or es pos => match cTOr T pos es with
    | some d => some ⟨d.1, fun g => (d.2 g).pt⟩
    | none => none
  | .UnaryOp .Not a pos => match T a with
    | some d => some ⟨tNot d.1, fun g => sim_tNot (d.2 g)⟩
    | none => none
  | .Compare a ops bs pos => cTCmp E a ops bs pos
  | .Name x p => cTru E (.Name x p) fun _ _ => rfl
  | .Call f as kws p => cTru E (.Call f as kws p) fun _ _ => rfl
  | .Constant v k p => cTru E (.Constant v k p) fun _ _ => rfl
  | .Subscript a b p => cTru E (.Subscript a b p) fun _ _ => rfl
  | .BinOp a op b p => cTru E (.BinOp a op b p) fun _ _ => rfl
  | _ => none
end
end RX
set_option Elab.async false
set_option linter.all false
set_option maxRecDepth 100000
set_option maxHeartbeats 4000000
/-! RXo: calls, walks, comprehensions. -/
namespace RX
open PySem PySem.Spec PyProof.Rows L2
section
variable {K : PySem.W.Frag} {fa : Nat → Addr} {ca : Cc} {W : WX} {C : Calls} {X : Cx} {G : Gh} {F F' : Addr → Prop} {H H' : Hp} {σ : L2.St} {ρ ρ' : Env}
/-! ### keywords -/
abbrev SimK (fa : Nat → Addr) (ca : Cc) (W : WX) (C : Calls) (X : Cx) (kws : List Keyword) (as : List AD) : Prop := PK X kws (tSemV X.K fa ca W as C)
theorem pk_le {X : Cx} {es : List Keyword} {t t' : TA} (h : PK X es t) (i : ∀ σ H Q, t' σ H Q → t σ H Q) : PK X es t' := ⟨fun pos pins s σ H Q I q => h.run pos pins s σ H Q I (i _ _ _ q)⟩
theorem sim_knil : SimK fa ca W C X [] [] := by
  refine pk_le pk_nil fun σ H Q h => ?_
  obtain ⟨G, F, ρ, S, h⟩ := h
  exact h [] F H S Ext.refl .nil
theorem sim_ke {nm : Option Str} {kpos : Pos} {e : Expr} {es : List Keyword} {d : Den} {as : List AD} (he : SimE fa ca W C X e d) (hr : SimK fa ca W C X es as) : SimK fa ca W C X (⟨nm, e, kpos⟩ :: es) (.e d :: as) := by
  refine pk_le (pk_cons he hr) fun σ H Q h => ?_
  obtain ⟨G, F, ρ, S, h⟩ := h
  refine ⟨G, F, ρ, S, (RPost.bind (x := d C ρ) h).mono fun x ρ1 h1 v F1 H1 S1 E1 r1 => ?_⟩
  obtain ⟨F1, S1, E1', p1⟩ := S1.frz r1
  refine ⟨G, F1, ρ1, S1, (h1.bind.later (E1.trans E1')).mono fun xs ρ2 h2 vs F2 H2 S2 E2 r2 => ?_⟩
  exact h2 _ F2 H2 S2 ((E1.trans E1').trans E2) (.d (Rp.ext E2 _ _ p1) r2)
theorem sim_kv {nm : Option Str} {kpos : Pos} {e : Expr} {es : List Keyword} {i : Nat} {as : List AD} (he : PE X e (tVar i)) (hr : SimK fa ca W C X es as) : SimK fa ca W C X (⟨nm, e, kpos⟩ :: es) (.v i :: as) := by
  have hv : SimE fa ca W C X e (dVar i) := sim_var he
  refine ⟨fun pos pins s σ H Q I h => ?_⟩
  obtain ⟨G, F, ρ, S, h⟩ := h
  by_cases e0 : isOwn ρ[i]? = true
  · refine (pk_cons he hr).run pos pins s σ H Q I ?_
    have h' : RPost X.K fa ca G F H σ W ((argsE as C ρ).bind fun xs ρ2 => .ok (.own i :: xs) ρ2) fun xs ρ' => ∀ vs F' H', SR X.K fa ca G F' ρ' σ H' → Ext F H F' H' → AvL X.K fa F' H' σ vs xs → Q vs H' := by
      have h2 : RPost X.K fa ca G F H σ W (if isOwn ρ[i]? = true then (argsE as C ρ).bind fun xs ρ2 => .ok (.own i :: xs) ρ2 else (dVar i C ρ).bind fun x ρ1 => (argsE as C ρ1).bind fun xs ρ2 => .ok (.d x.frz :: xs) ρ2) _ := h
      rw [if_pos e0] at h2
      exact h2
    obtain ⟨t, l, mk, et, M⟩ := isOwn_mine e0
    obtain ⟨a, xs, ea, _⟩ := S.mine M et
    exact ⟨_, ea, G, F, ρ, S, h'.bind.mono fun xs ρ2 h2 vs F2 H2 S2 E2 r2 => h2 _ F2 H2 S2 E2 (.own ea r2)⟩
  · refine (pk_cons hv hr).run pos pins s σ H Q I ?_
    have h' : RPost X.K fa ca G F H σ W ((dVar i C ρ).bind fun x ρ1 => (argsE as C ρ1).bind fun xs ρ2 => .ok (.d x.frz :: xs) ρ2) fun xs ρ' => ∀ vs F' H', SR X.K fa ca G F' ρ' σ H' → Ext F H F' H' → AvL X.K fa F' H' σ vs xs → Q vs H' := by
      have h2 : RPost X.K fa ca G F H σ W (if isOwn ρ[i]? = true then (argsE as C ρ).bind fun xs ρ2 => .ok (.own i :: xs) ρ2 else (dVar i C ρ).bind fun x ρ1 => (argsE as C ρ1).bind fun xs ρ2 => .ok (.d x.frz :: xs) ρ2) _ := h
      rw [if_neg e0] at h2
      exact h2
    refine ⟨G, F, ρ, S, h'.bind.mono fun x ρ1 h1 v F1 H1 S1 E1 r1 => ?_⟩
    obtain ⟨F1, S1, E1', p1⟩ := S1.frz r1
    refine ⟨G, F1, ρ1, S1, (h1.bind.later (E1.trans E1')).mono fun xs ρ2 h2 vs F2 H2 S2 E2 r2 => ?_⟩
    exact h2 _ F2 H2 S2 ((E1.trans E1').trans E2) (.d (Rp.ext E2 _ _ p1) r2)
def kwNm : List Keyword → Option (List Str)
  | [] => some []
  | ⟨some n, _, _⟩ :: r => (kwNm r).map fun l => n :: l
  | ⟨none, _, _⟩ :: _ => none
theorem kw_ok {pos : Pos} {env : PySem.Env} : ∀ {kws : List Keyword} {ks : List Str}, kwNm kws = some ks →
    (backToKw pos (keywordEach kws env)).all (·.1.isSome) = true ∧ (backToKw pos (keywordEach kws env)).filterMap (·.1) = ks ∧ (backToKw pos (keywordEach kws env)).any (·.1.isNone) = false
  | [], ks, h => by cases h; exact ⟨rfl, rfl, rfl⟩
  | ⟨none, _, _⟩ :: _, ks, h => by cases h
  | ⟨some n, e, p⟩ :: r, ks, h => by
    have h' : (kwNm r).map (fun l => n :: l) = some ks := h
    cases e1 : kwNm r with
    | none => rw [e1] at h'; cases h'
    | some l =>
      rw [e1] at h'
      cases h'
      obtain ⟨h1, h2, h3⟩ := kw_ok (pos := pos) (env := env) e1
      unfold backToKw at h1 h2 h3 ⊢
      show (List.map _ ((some n, eval e env) :: keywordEach r env)).all _ = true ∧ _ ∧ _
      refine ⟨?_, ?_, ?_⟩
      · rw [List.map_cons, List.all_cons, h1]; rfl
      · show List.filterMap _ (List.map _ ((some n, eval e env) :: keywordEach r env)) = n :: l
        rw [List.map_cons, List.filterMap_cons]
        show n :: _ = n :: l
        rw [h2]
      · show List.any (List.map _ ((some n, eval e env) :: keywordEach r env)) _ = false
        rw [List.map_cons, List.any_cons, h3]; rfl
theorem vals_perm {vs : List V} {us : List Value} (r : Vals vs us) : ∀ p : List Nat, Vals (permL p vs) (permL p us)
  | [] => .nil
  | i :: p => by
    have ih := vals_perm r p
    unfold permL at ih ⊢
    rw [List.filterMap_cons, List.filterMap_cons]
    cases e : vs[i]? with
    | none =>
      have e2 : us[i]? = none := by
        rw [List.getElem?_eq_none_iff] at e ⊢
        rw [← r.length]; exact e
      rw [e2]; exact ih
    | some v =>
      obtain ⟨u, h1, h2⟩ := r.get e
      rw [h1]; exact .cons h2 ih
/-! ### the calls' rules -/
section
variable {CX : CXT} {k : Nat} {f : Addr} {fd : FuncData} {ps ks : List Str} {sp : Sp} {E : L2.St → XK} {x : Str} {p pos : Pos} {e : Expr} {es : List Expr} {kws : List Keyword} {t tk : TA}
theorem pe_callS0 (F : FnOk X.prog X.w X.K X.mg X.base CX k f fd ps sp) (hr : Room k X.A) (hg : Gl X x) (hm : X.mg x = some (.ref f)) (hk : PySem.W.keepIn X.K (.ref f) = true) (hb : Binds X.K fd ps []) (hx : ∀ σ, PassesAt CX X σ (E σ))
    (hdb : (x == ("__debug__" : Str)) = false) : PE X (.Call (.Name x p) [] [] pos) (tCallS sp E tNil) := by
  refine ⟨fun pins s σ H Q I h => ?_⟩
  refine wpAny_Call_Name_kw (ld_glob I hg hm ?_ hdb)
  exact PySem.W.callWith_K0 I.kIn hk (run_fnS (us := []) F hr hb (hx σ) I .nil h)
theorem pe_callV1 {i : Nat} (F : FnOk X.prog X.w X.K X.mg X.base CX k f fd ps sp) (hr : Room k X.A) (hv : PE X (.Name x p) (tVar i)) (hk : PySem.W.keepIn X.K (.ref f) = true) (hb : Binds X.K fd ps []) (hx : ∀ σ, PassesAt CX X σ (E σ))
    (ha : PA X (e :: es) t) (he : starEach (e :: es) X.env = (false, eval e X.env) :: starEach es X.env) (hpl : (PySem.backTo pos (starEach es X.env)).any (·.1) = false) :
    PE X (.Call (.Name x p) (e :: es) [] pos) (fun σ H Q => σ[i]? = some (some (.ref f)) ∧ t σ H fun vs H1 => sp vs H1 Q (E σ)) := by
  refine ⟨fun pins s σ H Q I h => ?_⟩
  obtain ⟨e1, h⟩ := h
  refine wpAny_Call_Name_kw (thn (hv.run pins s σ H (fun v H' => v = .ref f ∧ H' = H) I ⟨_, e1, rfl, rfl⟩) fun u s1 ⟨x, H1, I1, r1, q1, q2⟩ => ?_)
  subst q1 q2
  obtain rfl : u = Value.ref f := r1
  refine PySem.W.callWith_K (h₀ := X.base) I.ok.mod.kin hk (thn (ha.run pos pins s1 σ _ _ I1 h) fun us s2 ⟨vs, H2, I2, r, q⟩ => ⟨I2.kIn, ?_⟩) he hpl
  exact run_fnS F hr hb (hx σ) I2 r q
theorem pe_callKS {pm : List Nat} (F : FnOk X.prog X.w X.K X.mg X.base CX k f fd ps sp) (hr : Room k X.A) (hg : Gl X x) (hm : X.mg x = some (.ref f)) (hk : PySem.W.keepIn X.K (.ref f) = true)
    (hb : ∀ (s : Shared) (ws : List Value), X.K.In s.heap → ws.length = ks.length → BindsTo s fd ⟨[], ks.zip ws⟩ (ps.zip (permL pm ws))) (hx : ∀ σ, PassesAt CX X σ (E σ)) (hkw : PK X kws tk) (hn : kwNm kws = some ks) (hl : kws.length = ks.length)
    (hlen : ∀ σ H Q, tk σ H Q → tk σ H fun vs H1 => vs.length = ks.length ∧ Q vs H1) (hdb : (x == ("__debug__" : Str)) = false) : PE X (.Call (.Name x p) [] kws pos) (fun σ H Q => tk σ H fun vs H1 => sp (permL pm vs) H1 Q (E σ)) := by
  refine ⟨fun pins s σ H Q I h => ?_⟩
  obtain ⟨h1, h2, h3⟩ := kw_ok (pos := pos) (env := X.env) hn
  refine wpAny_Call_Name_kw (ld_glob I hg hm ?_ hdb)
  refine PySem.W.callWith_KW0 (h₀ := X.base) I.ok.mod.kin hk h1 (thn (hkw.run pos pins s σ H _ I (hlen _ _ _ h)) fun ws s1 ⟨vs, H1, I1, r, hvl, q⟩ => ⟨I1.kIn, ?_⟩) h3
  rw [h2]
  have hw : ws.length = ks.length := by rw [← r.length]; exact hvl
  refine wpAny_call (codeAny_mono (F.run X.A X.stack s1 H1 ⟨[], ks.zip ws⟩ (permL pm ws) (permL pm vs) Q (E σ) hr I1.env0 (hb s1 ws I1.kIn hw) (vals_perm r pm) q) fun r s' hq => ?_)
  cases r with
  | error e => exact hx σ pins H1 s1 e s' I1 hq
  | ok fl =>
    cases fl with
    | ret u => exact I1.after hq
    | next => exact False.elim hq
    | brk => exact False.elim hq
    | cont => exact False.elim hq
end
theorem sim_call0 {f : Nat} {e : Expr} (pe : PE X e (tCallS (spC X.K fa ca C f) (WE W) tNil)) : SimE fa ca W C X e (dCall f []) := by
  refine pe_le pe fun σ H Q h => ?_
  obtain ⟨G, F, ρ, S, h⟩ := h
  exact call_post S Ext.refl .nil h
theorem avl_len {σ : L2.St} {vs : List V} {as : List AV} (h : AvL K fa F H σ vs as) : vs.length = as.length := h.length
theorem argsE_len {as : List AD} : ∀ {C : Calls} {ρ ρ1 : Env} {xs : List AV}, argsE as C ρ = .ok xs ρ1 → xs.length = as.length := by
  induction as with
  | nil => intro C ρ ρ1 xs h; cases h; rfl
  | cons a r ih =>
    intro C ρ ρ1 xs h
    cases a with
    | v i =>
      have h' : (if isOwn ρ[i]? = true then (argsE r C ρ).bind fun xs ρ2 => .ok (.own i :: xs) ρ2 else (dVar i C ρ).bind fun x ρ1 => (argsE r C ρ1).bind fun xs ρ2 => .ok (.d x.frz :: xs) ρ2) = R.ok xs ρ1 := h
      by_cases e0 : isOwn ρ[i]? = true
      · rw [if_pos e0] at h'
        cases e : argsE r C ρ with
        | ok ys ρ2 => rw [e] at h'; cases h'; rw [List.length_cons, List.length_cons, ih e]
        | exc c fs ρ2 => rw [e] at h'; cases h'
        | stuck => rw [e] at h'; cases h'
      · rw [if_neg e0] at h'
        cases e1 : dVar i C ρ with
        | exc c fs ρ2 => rw [e1] at h'; cases h'
        | stuck => rw [e1] at h'; cases h'
        | ok y ρ3 =>
          rw [e1] at h'
          have h' : (argsE r C ρ3).bind (fun xs ρ2 => R.ok (AV.d y.frz :: xs) ρ2) = R.ok xs ρ1 := h'
          cases e : argsE r C ρ3 with
          | ok ys ρ2 => rw [e] at h'; cases h'; rw [List.length_cons, List.length_cons, ih e]
          | exc c fs ρ2 => rw [e] at h'; cases h'
          | stuck => rw [e] at h'; cases h'
    | e d =>
      have h' : ((d C ρ).bind fun x ρ1 => (argsE r C ρ1).bind fun xs ρ2 => R.ok (AV.d x.frz :: xs) ρ2) = R.ok xs ρ1 := h
      cases e1 : d C ρ with
      | exc c fs ρ2 => rw [e1] at h'; cases h'
      | stuck => rw [e1] at h'; cases h'
      | ok y ρ3 =>
        rw [e1] at h'
        have h' : (argsE r C ρ3).bind (fun xs ρ2 => R.ok (AV.d y.frz :: xs) ρ2) = R.ok xs ρ1 := h'
        cases e : argsE r C ρ3 with
        | ok ys ρ2 => rw [e] at h'; cases h'; rw [List.length_cons, List.length_cons, ih e]
        | exc c fs ρ2 => rw [e] at h'; cases h'
        | stuck => rw [e] at h'; cases h'
theorem semV_len {as : List AD} {n : Nat} (hn : as.length = n) : ∀ σ H Q, tSemV K fa ca W as C σ H Q → tSemV K fa ca W as C σ H fun vs H1 => vs.length = n ∧ Q vs H1 := fun σ H Q h => by
  obtain ⟨G, F, ρ, S, h⟩ := h
  refine ⟨G, F, ρ, S, ?_⟩
  cases e : argsE as C ρ with
  | stuck => rw [e] at h; exact h.elim
  | exc c fs ρ1 => rw [e] at h; exact h
  | ok xs ρ1 => rw [e] at h; exact fun vs F' H' S' E' r => ⟨by rw [r.length, argsE_len e, hn], h vs F' H' S' E' r⟩
end
section
variable {I : Mi} {N : List Str} {l : Pl}
/-! ### built-ins -/
structure BI where
  nm : Str
  f : Bf
  ok : ∀ {fa : Nat → Addr} {X : Cx} {e : Expr} {es : List Expr} {p pos : Pos}, X.calm = true → Gl X nm → X.mg nm = none → starEach (e :: es) X.env = (false, eval e X.env) :: starEach es X.env → (PySem.backTo pos (starEach es X.env)).any (·.1) = false →
    ∃ r, BfS X.K fa f r ∧ ∀ {t}, PA X (e :: es) t → PE X (.Call (.Name nm p) (e :: es) [] pos) (tCB r t)
def bis : List BI := [
  ⟨"len", bLen, fun _ hg hm he hp => ⟨_, bf_len, fun ha => pe_callB call_len hg hm boot_len ha (by decide +kernel) (by decide +kernel) he hp⟩⟩,
  ⟨"abs", bAbs, fun _ hg hm he hp => ⟨_, bf_abs, fun ha => pe_callB call_abs hg hm boot_abs ha (by decide +kernel) (by decide +kernel) he hp⟩⟩,
  ⟨"int", bInt, fun _ hg hm he hp => ⟨_, bf_int, fun ha => pe_callTy call_int1 hg hm boot_int ha (by decide +kernel) (by decide +kernel) he hp⟩⟩,
  ⟨"all", bAll, fun hc hg hm he hp => ⟨_, bf_all, fun ha => pe_callB (cr_all hc) hg hm boot_all ha (by decide +kernel) (by decide +kernel) he hp⟩⟩,
  ⟨"tuple", bTup, fun _ hg hm he hp => ⟨_, bf_tup, fun ha => pe_callTy call_tuple_of hg hm boot_tuple ha (by decide +kernel) (by decide +kernel) he hp⟩⟩,
  ⟨"list", bLst, fun _ hg hm he hp => ⟨_, bf_lst, fun ha => pe_callTy call_list_of hg hm boot_list ha (by decide +kernel) (by decide +kernel) he hp⟩⟩,
  ⟨"max", bMax, fun hc hg hm he hp => ⟨_, bf_max, fun ha => pe_callB (.or (call_max2 hc) (cr_max hc)) hg hm boot_max ha (by decide +kernel) (by decide +kernel) he hp⟩⟩,
  ⟨"min", bMin, fun hc hg hm he hp => ⟨_, bf_min, fun ha => pe_callB (.or (call_min2 hc) (cr_min hc)) hg hm boot_min ha (by decide +kernel) (by decide +kernel) he hp⟩⟩,
  ⟨"sum", bSum, fun hc hg hm he hp => ⟨_, bf_sum, fun ha => pe_callB (cr_sum hc) hg hm boot_sum ha (by decide +kernel) (by decide +kernel) he hp⟩⟩,
  ⟨"any", bAny, fun hc hg hm he hp => ⟨_, bf_any, fun ha => pe_callB (cr_any hc) hg hm boot_any ha (by decide +kernel) (by decide +kernel) he hp⟩⟩,
  ⟨"bool", bBool, fun _ hg hm he hp => ⟨_, bf_bool, fun ha => pe_callTy call_bool1 hg hm boot_bool ha (by decide +kernel) (by decide +kernel) he hp⟩⟩]
def findB (x : Str) : List BI → Option {b : BI // b.nm = x}
  | [] => none
  | b :: r => if h : (b.nm == x) = true then some ⟨b, eq_of_beq h⟩ else findB x r
/-- functions of modules -/
structure BM where
  id : String
  f : Bf
  ok : ∀ {fa : Nat → Addr} {X : Cx}, ∃ r, BfS X.K fa f r ∧ CallR X (.builtin id) r
def bms : List BM := [⟨"math.gcd", bGcd, fun {fa X} => ⟨_, bf_gcd, cr_gcd⟩⟩]
def findM (x : String) : List BM → Option {b : BM // b.id = x}
  | [] => none
  | b :: r => if h : b.id = x then some ⟨b, h⟩ else findM x r
def noneB : Option Nat → Bool
  | none => true
  | some _ => false
theorem noneB_ok {o : Option Nat} (h : noneB o = true) : o = none := by cases o <;> first | rfl | cases h
def cBlt (E : ∀ e, OE I N l e) (x : Str) (p : Pos) (as : List Expr) (pos : Pos) : OE I N l (.Call (.Name x p) as [] pos) := match as with
  | [] => none
  | e :: es => match findB x bis with
    | none => none
    | some b => if h1 : glB l.sc x = true then if h2 : I.free.contains x = true then if h3 : noneB l.hot = true then if h4 : (nst e && es.all nst) = true then
        match es, (cVar e : Option {i : Nat // CN I N l e i}) with
        | [], some i => some ⟨dB1 b.1.f i.1, fun {fa} {C lv ca W X} g => by
            have hn := (Bool.and_eq_true_iff.mp h4).1
            obtain ⟨r, k1, k2⟩ := b.1.ok (fa := fa) (X := X) (e := e) (es := []) (p := p) (pos := pos) (g.calm (noneB_ok h3)) (by rw [b.2]; exact g.gl h1) (by rw [b.2]; exact g.m.free x h2) (star_cons hn) rfl
            rw [b.2] at k2
            exact sim_b1 k1 (i.2 g) (star_cons hn) fun ha => k2 ha⟩
        | es, _ => match cAll E (e :: es) with
          | some ds => some ⟨dB b.1.f ds.1, fun {fa} {C lv ca W X} g => by
              have hn : (e :: es).all nst = true := ds.2.2.1
              obtain ⟨hn1, hn2⟩ := Bool.and_eq_true_iff.mp (show (nst e && es.all nst) = true from hn)
              obtain ⟨r, k1, k2⟩ := b.1.ok (fa := fa) (X := X) (e := e) (es := es) (p := p) (pos := pos) (g.calm (noneB_ok h3)) (by rw [b.2]; exact g.gl h1) (by rw [b.2]; exact g.m.free x h2) (star_cons hn1) (star_plain hn2)
              rw [b.2] at k2
              exact sim_b k1 (ds.2.1 g) fun ha => k2 ha⟩
          | none => none
      else none else none else none else none
def tyOf (x : Str) : Option {t : Ty5 // ∃ n : Str, n = x ∧ bootBuiltins n = some (.type t.nm)} :=
  if h : ("int" : Str) = x then some ⟨.int, _, h, boot_int⟩ else if h : ("bool" : Str) = x then some ⟨.bool, _, h, boot_bool⟩ else if h : ("str" : Str) = x then some ⟨.str, _, h, by decide +kernel⟩
  else if h : ("tuple" : Str) = x then some ⟨.tuple, _, h, boot_tuple⟩ else if h : ("list" : Str) = x then some ⟨.list, _, h, boot_list⟩ else none
theorem pa_two {X : Cx} {e u : Expr} {t t' : TE} (h1 : PE X e t) (h2 : PE X u t') (n1 : nst e = true) (n2 : nst u = true) : PA X [e, u] (tCons t (tCons t' tNil)) := pa_cons h1 (pa_cons h2 pa_nil (star_cons n2)) (star_cons n1)
def cIsi (E : ∀ e, OE I N l e) (x : Str) (p : Pos) (as : List Expr) (pos : Pos) : OE I N l (.Call (.Name x p) as [] pos) := match as with
  | [e, .Name y q] => if h0 : x = "isinstance" then if h1 : glB l.sc x = true then if h2 : I.free.contains x = true then if h3 : glB l.sc y = true then if h4 : I.free.contains y = true then if h5 : okN y = true then if h6 : nst e = true then
      match tyOf y with
      | none => none
      | some t =>
        have go : ∀ {fa : Nat → Addr} {C : Calls} {lv : Nat} {ca : Cc} {W : WX} {X : Cx}, Gx I N l fa C lv ca W X → ∀ {t'}, PE X e t' → PE X (.Call (.Name x p) [e, .Name y q] [] pos) (tCB (rIsi X.K) (tCons t' (tCons (tC (.ty t.1.nm)) tNil))) := fun {fa C lv ca W X} g t' he => by
          have hy : PE X (.Name y q) (tC (.ty t.1.nm)) := by
            obtain ⟨n, e1, e2⟩ := t.2
            subst e1
            exact pe_bltn (g.gl h3) (g.m.free _ h4) e2 rfl (okN_n h5) (okN_d h5)
          have ha := pa_two he hy h6 rfl
          have hg := g.gl h1
          have hm := g.m.free _ h2
          subst h0
          exact pe_callB call_isi hg hm boot_isinstance ha (by decide +kernel) (by decide +kernel) (star_cons h6) (star_plain (es := [.Name y q]) rfl)
        match (cVar e : Option {i : Nat // CN I N l e i}) with
        | some i => some ⟨dB1 (bIsi t.1) i.1, fun g => sim_isi1 (i.2 g) (go g)⟩
        | none => match E e with
          | some d => some ⟨dB (bIsi t.1) [d.1], fun g => sim_isi (d.2 g) (go g)⟩
          | none => none
    else none else none else none else none else none else none else none
  | _ => none
def cMod (E : ∀ e, OE I N l e) (x : Str) (p : Pos) (as : List Expr) (pos : Pos) : OE I N l (.Call (.Name x p) as [] pos) := match as with
  | [] => none
  | e :: es => match h0 : I.bfun.lookup x with
    | none => none
    | some id => match findM id bms with
      | none => none
      | some b => if h1 : glB l.sc x = true then if h2 : okN x = true then match cAll E (e :: es) with
          | some ds => some ⟨dB b.1.f ds.1, fun {fa} {C lv ca W X} g => by
              obtain ⟨hn1, hn2⟩ := Bool.and_eq_true_iff.mp (show (nst e && es.all nst) = true from ds.2.2.1)
              obtain ⟨r, k1, k2⟩ := b.1.ok (fa := fa) (X := X)
              rw [b.2] at k2
              exact sim_b k1 (ds.2.1 g) fun ha => pe_callBfun k2 (g.gl h1) (g.m.bfun x id h0) ha (okN_d h2) (star_cons hn1) (star_plain hn2)⟩
          | none => none
        else none else none
/-! ### calls of defs -/
theorem Gx.pass (g : Gx I N l fa C lv ca W X) (σ : L2.St) : PassesAt (L2.CX X.prog X.w) X σ (WE W σ) := passAt g.tk σ
theorem cc_eq {ca : Cc} (h : ca.ex = none) : (⟨ca.ca, none⟩ : Cc) = ca := by cases ca; cases h; rfl
def cDef (E : ∀ e, OE I N l e) (x : Str) (p : Pos) (as : List Expr) (pos : Pos) : OE I N l (.Call (.Name x p) as [] pos) :=
  match h0 : I.fns.lookup x with
  | none => none
  | some f => if h1 : glB l.sc x = true then if h2 : okN x = true then if h3 : noneB l.hot = true then match as with
      | [] => some ⟨dCall f.ix [], fun {fa} {C lv ca W X} g => by
          obtain ⟨hm, fd, F, _⟩ := g.m.fns x f h0
          have Fk := F.ok
          rw [cc_eq (g.ex (noneB_ok h3))] at Fk
          exact sim_call0 (pe_callS0 (p := p) (pos := pos) Fk (g.room (noneB_ok h3)) (g.gl h1) hm F.kp F.bd g.pass (okN_d h2))⟩
      | e :: es => match cArg E (e :: es) with
        | none => none
        | some ds => some ⟨dCall f.ix ds.1, fun {fa} {C lv ca W X} g => by
            obtain ⟨hm, fd, F, _⟩ := g.m.fns x f h0
            have Fk := F.ok
            rw [cc_eq (g.ex (noneB_ok h3))] at Fk
            obtain ⟨hn1, hn2⟩ := Bool.and_eq_true_iff.mp (show (nst e && es.all nst) = true from ds.2.2)
            exact sim_call (ds.2.1 g) fun ha => pe_callS Fk (g.room (noneB_ok h3)) (g.gl h1) hm F.kp F.bd g.pass ha (okN_d h2) (star_cons hn1) (star_plain hn2)⟩
    else none else none else none
end
end RX
set_option Elab.async false
set_option linter.all false
set_option maxRecDepth 100000
set_option maxHeartbeats 4000000
/-! RXp: calls with keywords, by a name; methods; walks, comprehensions; the compiler of expressions. -/
namespace RX
open PySem PySem.Spec PyProof.Rows L2
section
variable {I : Mi} {N : List Str} {l : Pl}
def CK (I : Mi) (N : List Str) (l : Pl) (kws : List Keyword) (d : List AD) : Prop := ∀ {fa : Nat → Addr} {C : Calls} {lv : Nat} {ca : Cc} {W : WX} {X : Cx}, Gx I N l fa C lv ca W X → SimK fa ca W C X kws d
def cKws (E : ∀ e, OE I N l e) : ∀ kws, Option {d : List AD // CK I N l kws d ∧ d.length = kws.length}
  | [] => some ⟨[], fun g => sim_knil, rfl⟩
  | ⟨nm, e, kp⟩ :: r => match cKws E r with
    | none => none
    | some ds => match (cVar e : Option {i : Nat // CN I N l e i}) with
      | some i => some ⟨.v i.1 :: ds.1, fun g => sim_kv (i.2 g) (ds.2.1 g), by rw [List.length_cons, List.length_cons, ds.2.2]⟩
      | none => match E e with
        | some d => some ⟨.e d.1 :: ds.1, fun g => sim_ke (d.2 g) (ds.2.1 g), by rw [List.length_cons, List.length_cons, ds.2.2]⟩
        | none => none
theorem kwNm_len : ∀ {kws : List Keyword} {ks : List Str}, kwNm kws = some ks → kws.length = ks.length
  | [], ks, h => by cases h; rfl
  | ⟨none, _, _⟩ :: _, ks, h => by cases h
  | ⟨some n, e, p⟩ :: r, ks, h => by
    have h' : (kwNm r).map (fun l => n :: l) = some ks := h
    cases e1 : kwNm r with
    | none => rw [e1] at h'; cases h'
    | some l => rw [e1] at h'; cases h'; rw [List.length_cons, List.length_cons, kwNm_len e1]
def cDefK (E : ∀ e, OE I N l e) (x : Str) (p : Pos) (kws : List Keyword) (pos : Pos) : OE I N l (.Call (.Name x p) [] kws pos) :=
  match h0 : I.fns.lookup x with
  | none => none
  | some f => match h4 : kwNm kws with
    | none => none
    | some ks => match h5 : f.kw.lookup ks with
      | none => none
      | some pm => if h1 : glB l.sc x = true then if h2 : okN x = true then if h3 : noneB l.hot = true then match cKws E kws with
          | none => none
          | some ds => some ⟨dCallK f.ix pm ds.1, fun {fa} {C lv ca W X} g => by
              obtain ⟨hm, fd, F, hk⟩ := g.m.fns x f h0
              have Fk := F.ok
              rw [cc_eq (g.ex (noneB_ok h3))] at Fk
              exact sim_callK (pe_callKS Fk (g.room (noneB_ok h3)) (g.gl h1) hm F.kp (hk ks pm h5) g.pass (ds.2.1 g) h4 (kwNm_len h4) (semV_len (by rw [ds.2.2, kwNm_len h4])) (okN_d h2))⟩
        else none else none else none
def cDefV (E : ∀ e, OE I N l e) (x : Str) (p : Pos) (as : List Expr) (pos : Pos) : OE I N l (.Call (.Name x p) as [] pos) := match as, (cVar (.Name x p) : Option {i : Nat // CN I N l (.Name x p) i}) with
  | e :: es, some i => if h3 : noneB l.hot = true then match cArg E (e :: es) with
    | none => none
    | some ds => some ⟨dCallV i.1 ds.1, fun {fa} {C lv ca W X} g => by
        obtain ⟨hn1, hn2⟩ := Bool.and_eq_true_iff.mp (show (nst e && es.all nst) = true from ds.2.2)
        refine sim_callV fun {f} => ?_
        obtain ⟨fd, ps, F⟩ := g.m.all f
        have Fk := F.ok
        rw [cc_eq (g.ex (noneB_ok h3))] at Fk
        exact pe_callV1 Fk (g.room (noneB_ok h3)) (i.2 g) F.kp F.bd g.pass (ds.2.1 g) (star_cons hn1) (star_plain hn2)⟩ else none
  | _, _ => none
def orE {α : Type} : Option α → (Unit → Option α) → Option α
  | some a, _ => some a
  | none, f => f ()
def isNm : Expr → Bool
  | .Name _ _ => true
  | _ => false
theorem nm_base {o : Expr} {m : Str} {env : PySem.Env} (h : isNm o = true) : attributeBase o m env (eval o env) = eval o env := by
  cases o <;> first | rfl | cases h
theorem few1 {e : Expr} {cpos : Pos} {env : PySem.Env} (h : nst e = true) : ((PySem.backTo cpos (starEach [e] env)).all (fun x => !x.1) && (backToKw cpos (keywordEach [] env)).all (fun x => x.1.isSome)
      && decide ([e].length + ([] : List Keyword).length + (if ([] : List Keyword).isEmpty then 0 else 1) < 30)) = true := by
  rw [star_cons h]; rfl
/-- x.pop(..) -/
def cPop (E : ∀ e, OE I N l e) (o : Expr) (m : Str) (ap : Pos) (as : List Expr) (pos : Pos) : OE I N l (.Call (.Attribute o m ap) as [] pos) := match (cVar o : Option {i : Nat // CN I N l o i}) with
  | none => none
  | some i => if h0 : m = "pop" then if h1 : (ap.endLine == pos.line) = true then if h2 : isNm o = true then match as with
    | [] => some ⟨dPop i.1, fun g => by subst h0; exact sim_pop (i.2 g) fun h => pe_bm0 PySem.F.plainAttrs_list PySem.F.slot_list_pop PySem.F.type_list_pop mt_pop h (nm_base h2) h1⟩
    | [e] => match E e with
      | some d => if h3 : nst e = true then some ⟨dPopAt i.1 d.1, fun g => by
          subst h0
          exact sim_popAt (i.2 g) (d.2 g) (star_cons h3) fun h ha => pe_bm PySem.F.plainAttrs_list PySem.F.slot_list_pop PySem.F.type_list_pop mt_popAt h ha (nm_base h2) (few1 h3) h1 (star_cons h3) rfl⟩ else none
      | none => none
    | _ => none
  else none else none else none
/-- a field of the exception that the suite holds -/
def cFld (e : Expr) (f : Str) (pos : Pos) : OE I N l (.Attribute e f pos) := match (cVar e : Option {i : Nat // CN I N l e i}) with
  | none => none
  | some i => if h1 : isNm e = true then if h2 : I.flds.contains f = true then if h3 : l.hot = some i.1 then some ⟨dFld i.1 f, fun {fa} {C lv ca W X} g => by
      have hv := i.2 g
      obtain ⟨a, oe, cls, d, pn, X0, rfl, hx, hz, hf⟩ := g.hx i.1 h3
      exact sim_fld hx (fun c _ => ⟨(g.m.xf c).1, (g.m.xf c).2 f h2⟩) hz hf hv (nm_base h1)⟩ else none else none else none
/-! ### targets -/
def Tg.g (K : PySem.W.Frag) : Tg → TG
  | .v i => gName i
  | .t l => gTup K l.length (gNames l)
theorem tg_g {K : PySem.W.Frag} {fa : Nat → Addr} {ca : Cc} : ∀ T : Tg, TgS K fa ca T (T.g K)
  | .v i => tg_v
  | .t l => tg_t
theorem Gx.pg {fa : Nat → Addr} {C : Calls} {lv : Nat} {ca : Cc} {W : WX} {X : Cx} (g : Gx I N l fa C lv ca W X) {x : Str} {i : Nat} {pos : Pos} (h : N[i]? = some x) (hl : locB l.sc x = true) (hf : (l.fn x || lclB l.sc x) = true) : PG X (.Name x pos) (gName i) := by
  refine pg_name g.ndX (g.ix h) (by rw [g.hsc]; exact locB_ok hl) ?_
  rcases Bool.or_eq_true_iff.mp hf with z | z
  · exact .inl (by rw [g.hfn]; exact z)
  · exact .inr (by rw [g.hsc]; exact lclB_ok z)
abbrev OG (I : Mi) (N : List Str) (l : Pl) (e : Expr) := Option {T : Tg // ∀ {fa : Nat → Addr} {C : Calls} {lv : Nat} {ca : Cc} {W : WX} {X : Cx}, Gx I N l fa C lv ca W X → PG X e (T.g X.K)}
def cSto (x : Str) : Option {i : Nat // ∀ {fa : Nat → Addr} {C : Calls} {lv : Nat} {ca : Cc} {W : WX} {X : Cx} {pos : Pos}, Gx I N l fa C lv ca W X → PG X (.Name x pos) (gName i)} := match h : ixOf N x with
  | none => none
  | some i => if h1 : locB l.sc x = true then if h2 : (l.fn x || lclB l.sc x) = true then some ⟨i, fun g => g.pg (ixOf_ok h) h1 h2⟩ else none else none
def cStos : ∀ es : List Expr, Option {ns : List Nat // es.all isNm = true ∧ ns.length = es.length ∧ ∀ {fa : Nat → Addr} {C : Calls} {lv : Nat} {ca : Cc} {W : WX} {X : Cx}, Gx I N l fa C lv ca W X → PGs X es (gNames ns)}
  | [] => some ⟨[], rfl, rfl, fun g => pgs_nil⟩
  | .Name x p :: r => match (cSto x : Option {i : Nat // ∀ {fa : Nat → Addr} {C : Calls} {lv : Nat} {ca : Cc} {W : WX} {X : Cx} {pos : Pos}, Gx I N l fa C lv ca W X → PG X (.Name x pos) (gName i)}), cStos r with
    | some i, some ns => some ⟨i.1 :: ns.1, ns.2.1, by rw [List.length_cons, List.length_cons, ns.2.2.1], fun g => pgs_cons (i.2 g) (ns.2.2.2 g) rfl⟩
    | _, _ => none
  | _ :: _ => none
theorem nms_each {env : PySem.Env} : ∀ {es : List Expr}, es.all isNm = true → (assignEach es env).length = es.length ∧ (assignEach es env).findIdx? (·.1) = none
  | [], _ => ⟨rfl, rfl⟩
  | e :: es, h => by
    obtain ⟨h1, h2⟩ := Bool.and_eq_true_iff.mp (show (isNm e && es.all isNm) = true from h)
    obtain ⟨k1, k2⟩ := nms_each (env := env) h2
    cases e <;> first | cases h1 | skip
    exact ⟨congrArg (· + 1) k1, by show List.findIdx? _ ((false, _) :: assignEach es env) = none; rw [List.findIdx?_cons]; simp [k2]⟩
def cTg (e : Expr) : OG I N l e := match e with
  | .Name x p => match (cSto x : Option {i : Nat // ∀ {fa : Nat → Addr} {C : Calls} {lv : Nat} {ca : Cc} {W : WX} {X : Cx} {pos : Pos}, Gx I N l fa C lv ca W X → PG X (.Name x pos) (gName i)}) with
    | some i => some ⟨.v i.1, fun g => i.2 g⟩
    | none => none
  | .Tuple es k p => match (cStos es : Option {ns : List Nat // es.all isNm = true ∧ ns.length = es.length ∧ ∀ {fa : Nat → Addr} {C : Calls} {lv : Nat} {ca : Cc} {W : WX} {X : Cx}, Gx I N l fa C lv ca W X → PGs X es (gNames ns)}) with
    | some ns => if h : noneB l.hot = true then some ⟨.t ns.1, fun {fa} {C lv ca W X} g => by
        obtain ⟨k1, k2⟩ := nms_each (env := X.env) ns.2.1
        exact pg_tup (g.calm (noneB_ok h)) (ns.2.2.2 g) (by rw [k1, ns.2.2.1]) k2⟩ else none
    | none => none
  | _ => none
/-! ### walks -/
theorem star_two {a b : Expr} {env : PySem.Env} (ha : nst a = true) (hb : nst b = true) : starEach [a, b] env = [(false, eval a env), (false, eval b env)] := by rw [star_cons ha, star_cons hb]; rfl
theorem star_one {a : Expr} {env : PySem.Env} (ha : nst a = true) : starEach [a] env = [(false, eval a env)] := by rw [star_cons ha]; rfl
def cRange (E : ∀ e, OE I N l e) (tg : Expr) (x : Str) (p : Pos) (as : List Expr) (pos : Pos) : OI I N l tg (.Call (.Name x p) as [] pos) :=
  if h0 : x = "range" then if h1 : glB l.sc x = true then if h2 : I.free.contains x = true then match as with
    | [a] => match E a with
      | some d => if h3 : nst a = true then some ⟨iR1 d.1, fun g => by
          have hg := g.gl h1
          have hm := g.m.free _ h2
          subst h0
          exact sim_iR1 (d.2 g) (star_cons h3) fun ha => pi_range1 hg hm ha (star_one h3)⟩ else none
      | none => none
    | [a, b] => match E a, E b with
      | some da, some db => if h3 : nst a = true then if h4 : nst b = true then some ⟨iR2 da.1 db.1, fun g => by
          have hg := g.gl h1
          have hm := g.m.free _ h2
          subst h0
          exact sim_iR2 (da.2 g) (db.2 g) (star_cons h3) (star_cons h4) fun ha => pi_range2 hg hm ha (star_two h3 h4) (star_one h4)⟩ else none else none
      | _, _ => none
    | _ => none
  else none else none else none
def cZip (E : ∀ e, OE I N l e) (tg : Expr) (x : Str) (p : Pos) (as : List Expr) (pos : Pos) : OI I N l tg (.Call (.Name x p) as [] pos) := match tg, as with
  | .Tuple elts kk tp, [a, b] => if h0 : x = "zip" then if h1 : glB l.sc x = true then if h2 : I.free.contains x = true then match E a, E b with
      | some da, some db => if h3 : nst a = true then if h4 : nst b = true then some ⟨iZip da.1 db.1, fun g => by
          have hg := g.gl h1
          have hm := g.m.free _ h2
          subst h0
          exact sim_iZip (da.2 g) (db.2 g) (star_cons h3) (star_cons h4) fun ha => RZ.pi_zipA hg hm ha (star_cons h3) (star_plain (es := [b]) (by rw [List.all_cons, h4]; rfl))⟩ else none else none
      | _, _ => none
    else none else none else none
  | _, _ => none
def cIter (E : ∀ e, OE I N l e) (tg it : Expr) : OI I N l tg it :=
  orE (match it with
    | .Call (.Name x p) as [] pos => orE (cRange E tg x p as pos) fun _ => cZip E tg x p as pos
    | _ => none) fun _ => match E it with
      | some d => some ⟨iE d.1, fun g => sim_iE (d.2 g)⟩
      | none => none
theorem nset_iter {e : Expr} {env : PySem.Env} (h : nset e = true) (x : Value) : foldedSetIterable e env x = pure x := by
  cases e <;> first | rfl | cases h
/-! ### comprehensions -/
def ownOf (N : List Str) (ns : List (Str × NameKind)) : List (Str × Nat) := ns.filterMap fun y => match y.2 with
  | .local => (ixOf N y.1).map fun i => (y.1, i)
  | .cell => (ixOf N y.1).map fun i => (y.1, i)
  | _ => none
def locK : NameKind → Bool
  | .local => true
  | .cell => true
  | _ => false
def blkB (N : List Str) (sc scope : Scope) (own : List (Str × Nat)) : Bool :=
  decide (scope.kind = .function) && (scope.names.all (fun y => decide (scope.names.lookup y.1 = some y.2)) && (own.all (fun p => decide (N[p.2]? = some p.1)) &&
    (scope.names.all (fun y => !decide (y.2 = .free) || (decide (sc.names.lookup y.1 = some .cell) || decide (sc.names.lookup y.1 = some .free))) && scope.names.all (fun y => !locK y.2 || ((own.map (·.1)).contains y.1 || !N.contains y.1)))))
theorem blkB_ok {N : List Str} {sc scope : Scope} {own : List (Str × Nat)} (h : blkB N sc scope own = true) : BlkOk N sc scope own := by
  obtain ⟨h1, h⟩ := Bool.and_eq_true_iff.mp h
  obtain ⟨h2, h⟩ := Bool.and_eq_true_iff.mp h
  obtain ⟨h3, h⟩ := Bool.and_eq_true_iff.mp h
  obtain ⟨h4, h5⟩ := Bool.and_eq_true_iff.mp h
  refine ⟨of_decide_eq_true h1, fun y hy => of_decide_eq_true (List.all_eq_true.mp h2 y hy), fun p hp => of_decide_eq_true (List.all_eq_true.mp h3 p hp), fun y hy hf => ?_, fun y hy hl => ?_⟩
  · rcases Bool.or_eq_true_iff.mp (List.all_eq_true.mp h4 y hy) with z | z
    · rw [decide_eq_true hf] at z; cases z
    · rcases Bool.or_eq_true_iff.mp z with z | z
      · exact .inl (of_decide_eq_true z)
      · exact .inr (of_decide_eq_true z)
  · rcases Bool.or_eq_true_iff.mp (List.all_eq_true.mp h5 y hy) with z | z
    · rcases hl with e | e <;> rw [e] at z <;> cases z
    · rcases Bool.or_eq_true_iff.mp z with z | z
      · exact .inl (List.contains_iff_mem.mp z)
      · refine .inr fun h => ?_
        rw [List.contains_iff_mem.mpr h] at z
        cases z
def CTs (I : Mi) (N : List Str) (l : Pl) (es : List Expr) (d : TD) : Prop := ∀ {fa : Nat → Addr} {C : Calls} {lv : Nat} {ca : Cc} {W : WX} {X : Cx}, Gx I N l fa C lv ca W X → PTs X es (tSemT X.K fa ca W d C)
def cIfs (T : ∀ e, OT I N l e) (es : List Expr) : Option {d : TD // CTs I N l es d} := match es with
  | [] => some ⟨tests [], fun g => ⟨fun pins s σ H Q I' h => by
      obtain ⟨G, F, ρ, S, h⟩ := h
      exact pts_nil.run pins s σ H Q I' (h F H S Ext.refl)⟩⟩
  | [t] => match T t with
    | some d => some ⟨d.1, fun g => pts_one (d.2 g)⟩
    | none => none
  | _ => none
abbrev Pl.blk (l : Pl) (scope : Scope) : Pl := ⟨relS scope l.sc, fun x => scope.names.lookup x == some .cell, none⟩
theorem Gx.hot {fa : Nat → Addr} {C : Calls} {lv : Nat} {ca : Cc} {W : WX} {X : Cx} (g : Gx I N l fa C lv ca W X) (h : l.hot = none) : Gx I N ⟨l.sc, l.fn, none⟩ fa C lv ca W X := by
  have e : l = ⟨l.sc, l.fn, none⟩ := by cases l; cases h; rfl
  rw [← e]; exact g
/-- the parts of a comprehension -/
structure CompP (I : Mi) (N : List Str) (l : Pl) (tg iter : Expr) (ifs : List Expr) (elt : Expr) (scope : Scope) where
  own : List (Str × Nat)
  it : {d : ID // CI I N l tg iter d}
  T : {T : Tg // ∀ {fa : Nat → Addr} {C : Calls} {lv : Nat} {ca : Cc} {W : WX} {X : Cx}, Gx I N (l.blk scope) fa C lv ca W X → PG X tg (T.g X.K)}
  ts : {d : TD // CTs I N (l.blk scope) ifs d}
  el : {d : Den // CE I N (l.blk scope) elt d}
  hb : blkB N l.sc scope own = true
  hs : T.1.slots.all (own.map (·.2)).contains = true
  hh : noneB l.hot = true
  hn : nset iter = true
def CompP.den {tg iter : Expr} {ifs : List Expr} {elt : Expr} {scope : Scope} (c : CompP I N l tg iter ifs elt scope) : Den := dComp (c.own.map (·.2)) c.it.1 c.T.1 c.ts.1 c.el.1
theorem CompP.read {tg iter : Expr} {ifs : List Expr} {elt : Expr} {scope : Scope} (c : CompP I N l tg iter ifs elt scope) {K : PySem.W.Frag} {fa : Nat → Addr} {C : Calls} {ca : Cc} {W : WX} {σ : L2.St} {H : Hp} {Q : VK} (h : tSem K fa ca W c.den C σ H Q) :
    tLc (tSemI K fa ca W c.it.1 C) (c.T.1.g K) (tSemT K fa ca WN c.ts.1 C) (tSem K fa ca WN c.el.1 C) (c.own.map (·.2)) σ H Q :=
  comp_read (tg_g c.T.1) (fun i hi => List.contains_iff_mem.mp (List.all_eq_true.mp c.hs i hi)) (fun _ _ _ h => h) (fun _ _ _ h => h) h
theorem CompP.pe {tg iter : Expr} {ifs : List Expr} {elt : Expr} {scope : Scope} {pos : Pos} (c : CompP I N l tg iter ifs elt scope) : CE I N l (.ListComp elt [⟨tg, iter, ifs, 0⟩] scope pos) c.den := fun {fa C lv ca W X} g => by
  have hh := noneB_ok c.hh
  have g' := g.hot hh
  refine pe_le (pe_lc (g.calm hh) g.ndX (c.it.2 g) (by rw [g.hN, g.hsc]; exact blkB_ok c.hb) (fun s H Cd cl fp => c.T.2 (g'.blk scope s H Cd cl fp)) (fun s H Cd cl fp => c.ts.2 (g'.blk scope s H Cd cl fp)) (fun s H Cd cl fp => c.el.2 (g'.blk scope s H Cd cl fp)) (nset_iter c.hn)) fun σ H Q h => c.read h
def cCompP (c : Cmp I N) (tg iter : Expr) (ifs : List Expr) (elt : Expr) (scope : Scope) : Option (CompP I N l tg iter ifs elt scope) :=
  match cIter (c.E l) tg iter, (cTg tg : OG I N (l.blk scope) tg), cIfs (c.T (l.blk scope)) ifs, c.E (l.blk scope) elt with
  | some it, some T, some ts, some el => if hb : blkB N l.sc scope (ownOf N scope.names) = true then if hs : T.1.slots.all ((ownOf N scope.names).map (·.2)).contains = true then if hh : noneB l.hot = true then if hn : nset iter = true then
      some ⟨ownOf N scope.names, it, T, ts, el, hb, hs, hh, hn⟩ else none else none else none else none
  | _, _, _, _ => none
def cComp (c : Cmp I N) (elt : Expr) (gs : List Comprehension) (scope : Scope) (pos : Pos) : OE I N l (.ListComp elt gs scope pos) := match gs with
  | [⟨tg, iter, ifs, 0⟩] => match (cCompP c tg iter ifs elt scope : Option (CompP I N l tg iter ifs elt scope)) with
    | some p => some ⟨p.den, p.pe⟩
    | none => none
  | _ => none
/-! ### expressions -/
def cCall (E : ∀ e, OE I N l e) (f : Expr) (as : List Expr) (kws : List Keyword) (pos : Pos) : OE I N l (.Call f as kws pos) := match f, as, kws with
  | .Name x p, as, [] => orE (cDefV E x p as pos) fun _ => orE (cDef E x p as pos) fun _ => orE (cIsi E x p as pos) fun _ => orE (cBlt E x p as pos) fun _ => cMod E x p as pos
  | .Name x p, [], kws => cDefK E x p kws pos
  | .Attribute o m ap, as, [] => cPop E o m ap as pos
  | _, _, _ => none
def cExpr (c : Cmp I N) (l : Pl) (e : Expr) : OE I N l e := match e with
  | .Constant v k p => cCon v k p
  | .Name x p => cName x p
  | .BinOp a op b p => cBin (c.E l) a op b p
  | .UnaryOp op a p => cUn (c.E l) op a p
  | .BoolOp .And es p => cAnd (c.E l) p es
  | .BoolOp .Or es p => cOr (c.E l) p es
  | .IfExp t a b p => match c.T l t, c.E l a, c.E l b with
    | some dt, some da, some db => some ⟨dIf dt.1 da.1 db.1, fun g => sim_if (dt.2 g) (da.2 g) (db.2 g)⟩
    | _, _, _ => none
  | .Compare a ops bs p => cCmp (c.E l) a ops bs p
  | .Call f as kws p => cCall (c.E l) f as kws p
  | .Subscript a b p => cSub (c.E l) a b p
  | .Tuple es k p => match cAll (c.E l) es with
    | some ds => if h : ds.1.length ≤ 1000 then some ⟨dTup ds.1, fun g => sim_tup (ds.2.1 g) h⟩ else none
    | none => none
  | .List es p => match cAll (c.E l) es with
    | some ds => if h : ds.1.length ≤ 1000 then some ⟨dLst ds.1, fun g => sim_lst (ds.2.1 g) h⟩ else none
    | none => none
  | .ListComp elt gs scope p => cComp c elt gs scope p
  | .Attribute o f p => cFld o f p
  | _ => none
def cmp (I : Mi) (N : List Str) : Nat → Cmp I N
  | 0 => ⟨fun _ _ => none, fun _ _ => none⟩
  | n + 1 => ⟨fun l e => cExpr (cmp I N n) l e, fun l e => cTest ((cmp I N n).E l) ((cmp I N n).T l) e⟩
end
end RX
set_option Elab.async false
set_option linter.all false
set_option maxRecDepth 100000
set_option maxHeartbeats 4000000
/-! RXq: the compiler of statements. -/
namespace RX
open PySem PySem.Spec PyProof.Rows L2
section
variable (I : Mi) (N : List Str) (l : Pl)
def CS (s : Stmt) (d : DS) : Prop := ∀ {fa : Nat → Addr} {C : Calls} {lv : Nat} {ca : Cc} {W : WX} {X : Cx}, Gs I N l fa C lv ca W X → SimS fa ca W C X s d
def CB (s : List Stmt) (d : DS) : Prop := ∀ {fa : Nat → Addr} {C : Calls} {lv : Nat} {ca : Cc} {W : WX} {X : Cx}, Gs I N l fa C lv ca W X → SimB fa ca W C X s d
abbrev OS (s : Stmt) := Option {d : DS // CS I N l s d}
abbrev OB (s : List Stmt) := Option {d : DS // CB I N l s d}
end
section
variable {I : Mi} {N : List Str} {l : Pl}
theorem Gs.hot {fa : Nat → Addr} {C : Calls} {lv : Nat} {ca : Cc} {W : WX} {X : Cx} (g : Gs I N l fa C lv ca W X) (h : l.hot = none) : Gs I N ⟨l.sc, l.fn, none⟩ fa C lv ca W X := by
  have e : l = ⟨l.sc, l.fn, none⟩ := by cases l; cases h; rfl
  rw [← e]; exact g
def cBlk (S : ∀ s, OS I N l s) : ∀ ss, OB I N l ss
  | [] => some ⟨sPass, fun g => sim_bnil⟩
  | [s] => match S s with
    | some d => some ⟨d.1, fun g => sim_bone (d.2 g)⟩
    | none => none
  | s :: t :: r => match S s, cBlk S (t :: r) with
    | some d, some ds => some ⟨sSeq d.1 ds.1, fun g => sim_bcons (d.2 g) (ds.2 g)⟩
    | _, _ => none
/-- no comprehension -/
def ncomp : Expr → Bool
  | .ListComp _ _ _ _ => false
  | .SetComp _ _ _ _ => false
  | .DictComp _ _ _ _ _ => false
  | _ => true
theorem ncomp_ok {e : Expr} {t : Option Expr} {n : Nat} {env : PySem.Env} (h : ncomp e = true) : swapsWith e t n env = pure false := by
  cases e <;> first | rfl | cases h
theorem ncomp_sole {t e : Expr} {n : Nat} {env : PySem.Env} (h : ncomp e = true) : swapsWithSole [t] e n env = pure false := ncomp_ok h
theorem sub_asg {o i : Expr} {pos : Pos} {env : PySem.Env} (h : nslice i = true) (v : Value) : assign (.Subscript o i pos) env v = (do
      let ov ← holding [v] (eval o env)
      let iv ← holding [v, ov] (eval i env)
      standAt pos
      holding [v, ov, iv] (setItem ov iv v)
      release [v, ov, iv] []) := by
  cases i <;> first | rfl | cases h
def ntup : Expr → Bool
  | .Tuple _ _ _ => false
  | _ => true
theorem ntup_ok {e : Expr} {ts : List Expr} {k : Nat} {p : Pos} {env : PySem.Env} (h : ntup e = true) : swappedStores [.Tuple ts k p] e env = pure none := by
  cases e <;> first | rfl | cases h
def cSetC (E : Cmp I N) (x : Str) (p : Pos) (elt : Expr) (gs : List Comprehension) (scope : Scope) (cp sp : Pos) : OS I N l (.Assign [.Name x p] (.ListComp elt gs scope cp) sp) := match gs, h0 : ixOf N x with
  | [⟨tg, iter, ifs, 0⟩], some i => if h1 : lclB l.sc x = true then if h2 : (p.line == cp.line) = true then if h3 : (scope.names.any fun (n, k) => n == x && (k == .local || k == .cell)) = false then
      match (cCompP E tg iter ifs elt scope : Option (CompP I N l tg iter ifs elt scope)) with
      | none => none
      | some c => some ⟨sSet i c.den, fun {fa C lv ca W X} g => by
          have hh := noneB_ok c.hh
          have g' := g.g.hot hh
          have hl : X.env.scope.names.lookup x = some .local := by rw [g.g.hsc]; exact lclB_ok h1
          have hk : X.env.scope.kind = .function := by rw [g.g.hsc]; exact g.kd
          refine sim_set (t := tLc (tSemI X.K fa ca W c.it.1 C) (c.T.1.g X.K) (tSemT X.K fa ca WN c.ts.1 C) (tSem X.K fa ca WN c.el.1 C) (c.own.map (·.2))) (fun σ H Q h => c.read h) ?_
          exact ps_setLc (g.g.calm hh) g.g.ndX (g.g.ix (ixOf_ok h0)) hl (sw_true hk hl h2 h3) (c.it.2 g.g) (by rw [g.g.hN, g.g.hsc]; exact blkB_ok c.hb) (fun s H Cd cl fp => c.T.2 (g'.blk scope s H Cd cl fp)) (fun s H Cd cl fp => c.ts.2 (g'.blk scope s H Cd cl fp)) (fun s H Cd cl fp => c.el.2 (g'.blk scope s H Cd cl fp)) (nset_iter c.hn)⟩
    else none else none else none
  | _, _ => none
def cSet (E : Cmp I N) (x : Str) (p : Pos) (e : Expr) (sp : Pos) : OS I N l (.Assign [.Name x p] e sp) := match h0 : ixOf N x, E.E l e with
  | some i, some d => if h1 : locB l.sc x = true then if h2 : (l.fn x || lclB l.sc x) = true then if h3 : ncomp e = true then some ⟨sSet i d.1, fun {fa C lv ca W X} g => by
      refine sim_set (fun σ H Q h => h) (ps_set g.g.ndX (g.g.ix (ixOf_ok h0)) (by rw [g.g.hsc]; exact locB_ok h1) (d.2 g.g) (ncomp_ok h3) ?_)
      rcases Bool.or_eq_true_iff.mp h2 with z | z
      · exact .inl (by rw [g.g.hfn]; exact z)
      · exact .inr (by rw [g.g.hsc]; exact lclB_ok z)⟩ else none else none else none
  | _, _ => none
def cPar (E : Cmp I N) (x y : Str) (px py pt pt2 : Pos) (kt k2 : Nat) (a b : Expr) (sp : Pos) : OS I N l (.Assign [.Tuple [.Name x px, .Name y py] kt pt] (.Tuple [a, b] k2 pt2) sp) := match hx : ixOf N x, hy : ixOf N y, E.E l a, E.E l b with
  | some i, some j, some da, some db => if h1 : lclB l.sc x = true then if h2 : lclB l.sc y = true then if h3 : (py.line == px.line) = true then if h4 : (x == y) = false then if h5 : nst a = true then if h6 : nst b = true then
      if h7 : (foldedForSure 8 a && foldedForSure 8 b) = false then if h8 : (constantsAlone 8 a && constantsAlone 8 b) = false then if h9 : noneB l.hot = true then if h10 : i ≠ j then some ⟨sPar i j da.1 db.1, fun {fa C lv ca W X} g => by
        have hlx : X.env.scope.names.lookup x = some .local := by rw [g.g.hsc]; exact lclB_ok h1
        have hly : X.env.scope.names.lookup y = some .local := by rw [g.g.hsc]; exact lclB_ok h2
        have hk : X.env.scope.kind = .function := by rw [g.g.hsc]; exact g.kd
        refine sim_par (sim_cons (da.2 g.g) (sim_cons (db.2 g.g) sim_nil (star_cons h6)) (star_cons h5)) fun ha => ?_
        exact ps_par (g.g.calm (noneB_ok h9)) g.g.ndX (g.g.ix (ixOf_ok hx)) (g.g.ix (ixOf_ok hy)) h10 hlx hly ha (par_sw hk hlx hly h3 h4 h5 h6 h7 h8)⟩
      else none else none else none else none else none else none else none else none else none else none
  | _, _, _, _ => none
def cUnp (E : Cmp I N) (ts : List Expr) (k : Nat) (p : Pos) (e : Expr) (sp : Pos) : OS I N l (.Assign [.Tuple ts k p] e sp) := match (cStos ts : Option {ns : List Nat // ts.all isNm = true ∧ ns.length = ts.length ∧ ∀ {fa : Nat → Addr} {C : Calls} {lv : Nat} {ca : Cc} {W : WX} {X : Cx}, Gx I N l fa C lv ca W X → PGs X ts (gNames ns)}), E.E l e with
  | some ns, some d => if h1 : noneB l.hot = true then if h2 : ncomp e = true then if h3 : ntup e = true then some ⟨sUnp ns.1 d.1, fun {fa C lv ca W X} g => by
      obtain ⟨k1, k2⟩ := nms_each (env := X.env) ns.2.1
      exact sim_unp (fun σ H Q h => h) (ps_asg (d.2 g.g) (pg_tup (g.g.calm (noneB_ok h1)) (ns.2.2.2 g.g) (by rw [k1, ns.2.2.1]) k2) (ncomp_sole h2) (ntup_ok h3) rfl)⟩ else none else none else none
  | _, _ => none
def cPut (E : Cmp I N) (o k : Expr) (p : Pos) (e : Expr) (sp : Pos) : OS I N l (.Assign [.Subscript o k p] e sp) := match (cVar o : Option {i : Nat // CN I N l o i}), E.E l k, E.E l e with
  | some i, some dk, some d => if h2 : ncomp e = true then if h3 : nslice k = true then some ⟨sPut i.1 dk.1 d.1, fun {fa C lv ca W X} g => by
      exact sim_put (p := sp) (i.2 g.g) (dk.2 g.g) (d.2 g.g) fun h ho hk => ps_asg h (pg_sub ho hk set_list (sub_asg h3)) (ncomp_sole h2) rfl rfl⟩ else none else none
  | _, _, _ => none
def cAsg (E : Cmp I N) (ts : List Expr) (e : Expr) (sp : Pos) : OS I N l (.Assign ts e sp) := match ts, e with
  | [.Name x p], .ListComp elt gs scope cp => cSetC E x p elt gs scope cp sp
  | [.Name x p], e => cSet E x p e sp
  | [.Tuple [.Name x px, .Name y py] kt pt], .Tuple [a, b] k2 pt2 => cPar E x y px py pt pt2 kt k2 a b sp
  | [.Tuple ts k p], e => cUnp E ts k p e sp
  | [.Subscript o k p], e => cPut E o k p e sp
  | _, _ => none
def cApp (E : Cmp I N) (o : Expr) (m : Str) (ap : Pos) (e : Expr) (cp sp : Pos) : OS I N l (.Expr (.Call (.Attribute o m ap) [e] [] cp) sp) := match (cVar o : Option {i : Nat // CN I N l o i}), E.E l e with
  | some i, some d => if h0 : m = "append" then if h1 : (ap.endLine == cp.line) = true then if h2 : isNm o = true then if h3 : nst e = true then some ⟨sApp i.1 d.1, fun {fa C lv ca W X} g => by
      subst h0
      exact sim_app (i.2 g.g) (d.2 g.g) (star_cons h3) fun h ha => ps_expr (pe_bm PySem.F.plainAttrs_list PySem.F.slot_list_append PySem.F.type_list_append mt_append h ha (nm_base h2) (few1 h3) h1 (star_cons h3) rfl) rfl⟩ else none else none else none else none
  | _, _ => none
def cExp (E : Cmp I N) (e : Expr) (sp : Pos) : OS I N l (.Expr e sp) :=
  orE (match e with
    | .Call (.Attribute o m ap) [e] [] cp => cApp E o m ap e cp sp
    | _ => none) fun _ => match E.E l e with
      | some d => if h : ncomp e = true then some ⟨sExpr d.1, fun g => sim_expr (fun σ H Q h => h) (ps_expr (d.2 g.g) (ncomp_ok h))⟩ else none
      | none => none
def cRaise (E : Cmp I N) (x : Str) (p : Pos) (as : List Expr) (cp sp : Pos) : OS I N l (.Raise (some (.Call (.Name x p) as [] cp)) none sp) := match as, h0 : I.cls.lookup x with
  | e :: es, some (c, fl) => match cAll (E.E l) (e :: es) with
    | none => none
    | some ds => if h1 : glB l.sc x = true then if h2 : okN x = true then if h3 : noneB l.hot = true then some ⟨sRaise c fl ds.1, fun {fa C lv ca W X} g => by
        obtain ⟨hm, G⟩ := g.g.m.cls x c fl h0
        obtain ⟨fI, fd, ps, iC, tI, F1, hb⟩ := G.init
        obtain ⟨hn1, hn2⟩ := Bool.and_eq_true_iff.mp (show (nst e && es.all nst) = true from ds.2.2.1)
        refine sim_raise (g.g.calm (noneB_ok h3)) g.g.tk G.nd G.ln (ds.2.1 g.g) fun ha => ?_
        exact pmk_oex G.T iC tI F1 ((g.g.room (noneB_ok h3)).mono (by omega)) hb .nil (passes_call g.g.tk fun _ _ _ _ z => z.elim) (g.g.gl h1) hm ha (okN_d h2) (star_cons hn1) (star_plain hn2)⟩ else none else none else none
  | _, _ => none
def cTry (S : ∀ l s, OS I N l s) (body : List Stmt) (x : Str) (np : Pos) (n : Str) (b₀ : Stmt) (suite : List Stmt) (hp sp : Pos) : OS I N l (.Try body [.ExceptHandler (some (.Name x np)) (some n) (b₀ :: suite) hp] [] [] sp) := match h0 : ixOf N n, h4 : I.exm.lookup x with
  | some i, some m => match cBlk (S ⟨l.sc, l.fn, none⟩) body, cBlk (S ⟨l.sc, l.fn, some i⟩) (b₀ :: suite) with
    | some db, some dh => if h1 : glB l.sc x = true then if h2 : okN x = true then if h3 : noneB l.hot = true then if h5 : lclB l.sc n = true then some ⟨sTry db.1 [⟨m, some i, dh.1⟩], fun {fa C lv ca W X} g => by
        have hh := noneB_ok h3
        have g' := g.hot hh
        obtain ⟨A, hm, hx⟩ := g.g.m.exm x m h4
        have hl : X.env.kindOf n = some .local := by
          show X.env.scope.names.lookup n = _
          rw [g.g.hsc]; exact lclB_ok h5
        refine sim_try (g.g.ex hh) hx (fun hb hs => ps_try_as (g.stk hh).1 (g.stk hh).2 g.g.ndX (g.g.ix (ixOf_ok h0)) hl ⟨g.g.gl h1, okN_d h2, .inl hm⟩ g.g.tk hb hs) (fun W' pn xe tk po => db.2 (g'.tr tk po)) (fun a oe cls d pn hz hf => dh.2 (g'.suite hz hf))⟩
      else none else none else none else none
    | _, _ => none
  | _, _ => none
noncomputable def cStmt (E : Cmp I N) (S : ∀ l s, OS I N l s) (l : Pl) (s : Stmt) : OS I N l s := match s with
  | .Pass p => some ⟨sPass, fun g => sim_pass⟩
  | .Break p => some ⟨sBrk, fun g => sim_brk⟩
  | .Continue p => some ⟨sCont, fun g => sim_cont⟩
  | .Return none p => some ⟨sRetN, fun g => sim_retN⟩
  | .Return (some e) p => match (cVar e : Option {i : Nat // CN I N l e i}) with
    | some i => some ⟨sRetV i.1, fun g => sim_retV (i.2 g.g)⟩
    | none => match E.E l e with
      | some d => some ⟨sRet d.1, fun g => sim_ret (d.2 g.g)⟩
      | none => none
  | .If c a b p => match E.T l c, cBlk (S l) a, cBlk (S l) b with
    | some t, some da, some db => some ⟨sIf t.1 da.1 db.1, fun g => sim_ifS (t.2 g.g) (da.2 g) (db.2 g)⟩
    | _, _, _ => none
  | .For tg it body [] p => match (cTg tg : OG I N l tg), cIter (E.E l) tg it, cBlk (S l) body with
    | some T, some di, some db => if h1 : noneB l.hot = true then if h2 : nset it = true then some ⟨sFor T.1 di.1 db.1, fun g => sim_for (tg_g T.1) (di.2 g.g) (db.2 g) fun hi hb => ps_for (g.own (noneB_ok h1)) (g.g.calm (noneB_ok h1)) hi (T.2 g.g) hb (nset_iter h2)⟩ else none else none
    | _, _, _ => none
  | .While c body [] p => match E.T l c, cBlk (S l) body with
    | some t, some db => if h1 : noneB l.hot = true then some ⟨sWhile t.1 db.1, fun g => sim_while (t.2 g.g) (db.2 g) fun hc hb => ps_while (g.own (noneB_ok h1)) hc hb⟩ else none
    | _, _ => none
  | .Assign ts e sp => cAsg E ts e sp
  | .Expr e sp => cExp E e sp
  | .Raise (some (.Call (.Name x p) as [] cp)) none sp => cRaise E x p as cp sp
  | .Try body [.ExceptHandler (some (.Name x np)) (some n) (b₀ :: suite) hp] [] [] sp => cTry S body x np n b₀ suite hp sp
  | _ => none
noncomputable def cmpS (I : Mi) (N : List Str) (E : Cmp I N) : Nat → ∀ l s, OS I N l s
  | 0 => fun _ _ => none
  | n + 1 => fun l s => cStmt E (cmpS I N E n) l s
/-- a def's body -/
noncomputable def cBody (I : Mi) (N : List Str) (sc : Scope) (body : List Stmt) : OB I N ⟨sc, fun _ => true, none⟩ body := cBlk (cmpS I N (cmp I N 40) 12 ⟨sc, fun _ => true, none⟩) body
end
end RX
set_option Elab.async false
set_option linter.all false
set_option maxRecDepth 100000
set_option maxHeartbeats 4000000
/-! RXr: a def keeps what the evaluator says of it. -/
namespace RX
open PySem PySem.Spec PyProof.Rows L2
section
variable {K : PySem.W.Frag} {fa : Nat → Addr} {F : Addr → Prop} {H : Hp}
/-- the slots that hold the caller's lists -/
def parsOf : Nat → List V → List Arg → List (Nat × Addr)
  | k, .ref a :: vs, .own _ :: as => (k, a) :: parsOf (k + 1) vs as
  | k, _ :: vs, _ :: as => parsOf (k + 1) vs as
  | _, _, _ => []
theorem ArgL.get {vs : List V} {as : List Arg} (A : ArgL K fa F H vs as) : ∀ {i : Nat} {x : Arg}, as[i]? = some x → ∃ v, vs[i]? = some v ∧ match x with
    | .d y => Rp K fa F H v y
    | .own l => ∃ a xs, v = .ref a ∧ H a = some (.lst xs) ∧ ¬ F a ∧ RpL K fa F H xs l := by
  induction A with
  | nil => intro i x e; simp at e
  | d r t ih =>
    intro i x e
    cases i with
    | zero => simp at e; subst e; exact ⟨_, rfl, r⟩
    | succ i =>
      obtain ⟨v, h1, h2⟩ := ih (show _ = some x by simpa using e)
      exact ⟨v, by simpa using h1, h2⟩
  | own h1 h2 h3 t ih =>
    intro i x e
    cases i with
    | zero => simp at e; subst e; exact ⟨_, rfl, _, _, rfl, h1, h2, h3⟩
    | succ i =>
      obtain ⟨v, h1, h2⟩ := ih (show _ = some x by simpa using e)
      exact ⟨v, by simpa using h1, h2⟩
theorem pars_of {vs : List V} {as : List Arg} (A : ArgL K fa F H vs as) : ∀ {k i : Nat} {a : Addr}, (i, a) ∈ parsOf k vs as ↔ ∃ (j : Nat) (l : List D), i = k + j ∧ as[j]? = some (Arg.own l) ∧ vs[j]? = some (V.ref a) := by
  induction A with
  | nil => intro k i a; constructor <;> intro h
           · cases h
           · obtain ⟨j, l, _, h, _⟩ := h; simp at h
  | @d v x vs as r t ih =>
    intro k i a
    have e : parsOf k (v :: vs) (.d x :: as) = parsOf (k + 1) vs as := by cases v <;> rfl
    rw [e, ih]
    constructor
    · rintro ⟨j, l, rfl, h1, h2⟩; exact ⟨j + 1, l, by omega, by simpa using h1, by simpa using h2⟩
    · rintro ⟨j, l, rfl, h1, h2⟩
      cases j with
      | zero => simp at h1
      | succ j => exact ⟨j, l, by omega, by simpa using h1, by simpa using h2⟩
  | @own b xs l0 vs as h1 h2 h3 t ih =>
    intro k i a
    show (i, a) ∈ (k, b) :: parsOf (k + 1) vs as ↔ _
    constructor
    · intro h
      rcases List.mem_cons.mp h with h | h
      · cases h; exact ⟨0, l0, by omega, rfl, rfl⟩
      · obtain ⟨j, l, rfl, h1, h2⟩ := ih.mp h
        exact ⟨j + 1, l, by omega, by simpa using h1, by simpa using h2⟩
    · rintro ⟨j, l, rfl, h1, h2⟩
      cases j with
      | zero =>
        simp at h1 h2
        subst h2
        exact List.mem_cons_self
      | succ j => exact List.mem_cons_of_mem _ (ih.mpr ⟨j, l, by omega, by simpa using h1, by simpa using h2⟩)
theorem oA_of {vs : List V} {as : List Arg} (A : ArgL K fa F H vs as) {a : Addr} : a ∈ oA vs as ↔ ∃ (j : Nat) (l : List D), as[j]? = some (Arg.own l) ∧ vs[j]? = some (V.ref a) := by
  induction A with
  | nil => constructor <;> intro h
           · cases h
           · obtain ⟨j, l, h, _⟩ := h; simp at h
  | @d v x vs as r t ih =>
    have e : oA (v :: vs) (.d x :: as) = oA vs as := by cases v <;> rfl
    rw [e, ih]
    constructor
    · rintro ⟨j, l, h1, h2⟩; exact ⟨j + 1, l, by simpa using h1, by simpa using h2⟩
    · rintro ⟨j, l, h1, h2⟩
      cases j with
      | zero => simp at h1
      | succ j => exact ⟨j, l, by simpa using h1, by simpa using h2⟩
  | @own b xs l0 vs as h1 h2 h3 t ih =>
    show a ∈ b :: oA vs as ↔ _
    constructor
    · intro h
      rcases List.mem_cons.mp h with h | h
      · cases h; exact ⟨0, l0, rfl, rfl⟩
      · obtain ⟨j, l, h1, h2⟩ := ih.mp h
        exact ⟨j + 1, l, by simpa using h1, by simpa using h2⟩
    · rintro ⟨j, l, h1, h2⟩
      cases j with
      | zero =>
        simp at h1 h2
        subst h2
        exact List.mem_cons_self
      | succ j => exact List.mem_cons_of_mem _ (ih.mpr ⟨j, l, by simpa using h1, by simpa using h2⟩)
theorem oA_inj {vs : List V} {as : List Arg} (A : ArgL K fa F H vs as) : (oA vs as).Nodup → ∀ {i j : Nat} {l m : List D} {a : Addr}, as[i]? = some (.own l) → vs[i]? = some (.ref a) → as[j]? = some (.own m) → vs[j]? = some (.ref a) → i = j := by
  induction A with
  | nil => intro _ i j l m a h; simp at h
  | @d v x vs as r t ih =>
    intro nd i j l m a h1 h2 h3 h4
    have e : oA (v :: vs) (.d x :: as) = oA vs as := by cases v <;> rfl
    rw [e] at nd
    cases i with
    | zero => simp at h1
    | succ i =>
      cases j with
      | zero => simp at h3
      | succ j => exact congrArg (· + 1) (ih nd (by simpa using h1) (by simpa using h2) (by simpa using h3) (by simpa using h4))
  | @own b xs l0 vs as k1 k2 k3 t ih =>
    intro nd i j l m a h1 h2 h3 h4
    have nd : (b :: oA vs as).Nodup := nd
    obtain ⟨n1, n2⟩ := List.nodup_cons.mp nd
    cases i with
    | zero =>
      cases j with
      | zero => rfl
      | succ j =>
        simp at h2
        subst h2
        exact absurd ((oA_of t).mpr ⟨j, m, by simpa using h3, by simpa using h4⟩) n1
    | succ i =>
      cases j with
      | zero =>
        simp at h4
        subst h4
        exact absurd ((oA_of t).mpr ⟨i, l, by simpa using h1, by simpa using h2⟩) n1
      | succ j => exact congrArg (· + 1) (ih n2 (by simpa using h1) (by simpa using h2) (by simpa using h3) (by simpa using h4))
abbrev env0 (N : Nat) (as : List Arg) : Env := as.map Arg.sl ++ List.replicate (N - as.length) .none
theorem env0_get {N : Nat} {as : List Arg} {i : Nat} {s : Sl} (h : (env0 N as)[i]? = some s) : (∃ x, as[i]? = some x ∧ s = x.sl) ∨ s = .none := by
  by_cases hi : i < as.length
  · rw [List.getElem?_append_left (by rw [List.length_map]; exact hi), List.getElem?_map] at h
    cases e : as[i]? with
    | none => rw [e] at h; cases h
    | some x => rw [e] at h; cases h; exact .inl ⟨x, rfl, rfl⟩
  · rw [List.getElem?_append_right (by rw [List.length_map]; omega), List.getElem?_replicate] at h
    split at h
    · cases h; exact .inr rfl
    · cases h
theorem start_get {N : List Str} {vs : List V} {i : Nat} {v : V} (h : vs[i]? = some v) : (L2.start N vs)[i]? = some (some v) := by
  have hi := (List.getElem?_eq_some_iff.mp h).1
  unfold L2.start
  rw [List.getElem?_append_left (by rw [List.length_map]; exact hi), List.getElem?_map, h]
  rfl
theorem start_ref {N : List Str} {vs : List V} {i : Nat} {v : V} (h : (L2.start N vs)[i]? = some (some v)) : vs[i]? = some v := by
  unfold L2.start at h
  by_cases hi : i < vs.length
  · rw [List.getElem?_append_left (by rw [List.length_map]; exact hi), List.getElem?_map] at h
    cases e : vs[i]? with
    | none => rw [e] at h; cases h
    | some x => rw [e] at h; cases h; rfl
  · rw [List.getElem?_append_right (by rw [List.length_map]; omega), List.getElem?_replicate] at h
    split at h <;> cases h
abbrev Gh.of (H : Hp) (F : Addr → Prop) (vs : List V) (as : List Arg) : Gh := ⟨H, F, parsOf 0 vs as, fun _ => none⟩
theorem own0 {N : List Str} {vs : List V} {as : List Arg} (A : ArgL K fa F H vs as) {i : Nat} {a : Addr} (o : OwnA (env0 N.length as) (L2.start N vs) i a) : ∃ l, as[i]? = some (.own l) ∧ vs[i]? = some (.ref a) := by
  obtain ⟨o, e⟩ := o
  have k : ∀ {s : Sl}, (env0 N.length as)[i]? = some s → (∃ l, s = .own l) ∨ (∃ l, s = .par l) → ∃ l, as[i]? = some (.own l) := fun {s} h q => by
    rcases env0_get h with ⟨x, e1, rfl⟩ | rfl
    · cases x with
      | d d => rcases q with ⟨l, q⟩ | ⟨l, q⟩ <;> cases q
      | own l => exact ⟨l, e1⟩
    · rcases q with ⟨l, q⟩ | ⟨l, q⟩ <;> cases q
  rcases o with ⟨l, o⟩ | ⟨l, o⟩
  · obtain ⟨m, q⟩ := k o (.inl ⟨l, rfl⟩)
    exact ⟨m, q, start_ref e⟩
  · obtain ⟨m, q⟩ := k o (.inr ⟨l, rfl⟩)
    exact ⟨m, q, start_ref e⟩
/-- the state at the entry -/
theorem sr_start {N : List Str} {ca : Cc} {vs : List V} {as : List Arg} (T : Trk F H) (A : ArgL K fa F H vs as) (nd : (oA vs as).Nodup) (hl : vs.length ≤ N.length) : SR K fa ca (Gh.of H F vs as) F (env0 N.length as) (L2.start N vs) H := by
  have hla := A.length
  refine ⟨?_, fun i s e => ?_, fun i j a h1 h2 => ?_, T, fun a o e _ => e, fun a f => .inl f, fun a f => f, fun p hp => ?_, fun p hp => ?_, fun a o q => by cases q⟩
  · unfold L2.start
    rw [List.length_append, List.length_append, List.length_map, List.length_map, List.length_replicate, List.length_replicate]
    omega
  · rcases env0_get e with ⟨x, e1, rfl⟩ | rfl
    · obtain ⟨v, h1, h2⟩ := A.get e1
      rw [start_get h1]
      cases x with
      | d d => exact .val h2
      | own l =>
        obtain ⟨a, xs, rfl, k1, k2, k3⟩ := h2
        exact .par k1 k2 k3 ((pars_of A).mpr ⟨i, l, by omega, e1, h1⟩)
    · exact .none
  · obtain ⟨l, k1, k2⟩ := own0 A h1
    obtain ⟨m, k3, k4⟩ := own0 A h2
    exact oA_inj A nd k1 k2 k3 k4
  · obtain ⟨j, l, h1, h2, h3⟩ := (pars_of A).mp (show (p.1, p.2) ∈ parsOf 0 vs as from hp)
    have h1 : p.1 = j := by omega
    rw [h1]
    refine ⟨⟨l, ?_⟩, start_get h3⟩
    have hj := (List.getElem?_eq_some_iff.mp h2).1
    rw [List.getElem?_append_left (by rw [List.length_map]; exact hj), List.getElem?_map, h2]
    rfl
  · obtain ⟨j, l, h1, h2, h3⟩ := (pars_of A).mp (show (p.1, p.2) ∈ parsOf 0 vs as from hp)
    obtain ⟨v, k1, k2⟩ := A.get h2
    rw [h3] at k1
    cases k1
    obtain ⟨a, xs, e, k1, _⟩ := k2
    cases e
    exact ⟨_, k1⟩
/-- the lists as they come back -/
theorem out_of {ca : Cc} {N : List Str} {G : Gh} {F' : Addr → Prop} {ρ : Env} {σ : L2.St} {H' : Hp} (S : SR K fa ca G F' ρ σ H') {vs : List V} {as : List Arg} (A : ArgL K fa F H vs as) :
    ∀ {k : Nat} {os : List (List D)}, (∀ j l a, as[j]? = some (.own l) → vs[j]? = some (.ref a) → (k + j, a) ∈ G.pars) → outsOf ρ k as = some os → OutL K fa F' H' vs as os := by
  induction A with
  | nil => intro k os hp h; cases h; exact .nil
  | d r t ih =>
    intro k os hp h
    exact .d (ih (k := k + 1) (fun j l a h1 h2 => by
      have := hp (j + 1) l a (by simpa using h1) (by simpa using h2)
      rw [show k + 1 + j = k + (j + 1) by omega]; exact this) h)
  | @own b xs l0 vs as h1 h2 h3 t ih =>
    intro k os hp h
    have h' : (match ρ[k]? with
      | some (.par l) => (outsOf ρ (k + 1) as).map fun ls => l :: ls
      | _ => none) = some os := h
    cases e : ρ[k]? with
    | none => rw [e] at h'; cases h'
    | some s =>
      rw [e] at h'
      cases s with
      | par l =>
        cases e1 : outsOf ρ (k + 1) as with
        | none => simp only [e1] at h'; cases h'
        | some ls =>
          simp only [e1] at h'
          cases h'
          have hm := hp 0 l0 b rfl rfl
          obtain ⟨⟨l', q1⟩, q2⟩ := S.par _ hm
          have q := S.sl k _ e
          have q2' : σ[k]? = some (some (.ref b)) := q2
          rw [q2'] at q
          cases q with
          | par p1 p2 p3 p4 =>
            exact .own p1 p2 p3 (ih (k := k + 1) (fun j l a h1 h2 => by
              have := hp (j + 1) l a (by simpa using h1) (by simpa using h2)
              rw [show k + 1 + j = k + (j + 1) by omega]; exact this) e1)
      | _ => cases h'
theorem cpost0_of {ca : Cc} {F' : Addr → Prop} {ρ : Env} {σ : L2.St} {H' : Hp} {vs : List V} {as : List Arg} (A : ArgL K fa F H vs as) (S : SR K fa ca (Gh.of H F vs as) F' ρ σ H') : CPost0 F H F' H' vs as :=
  ⟨S.up, S.new, S.trk, fun a o e n => S.fr a o e fun i hi => by
    obtain ⟨j, l, _, h2, h3⟩ := (pars_of A).mp hi
    exact n ((oA_of A).mpr ⟨j, l, h2, h3⟩)⟩
end
section
variable {P : Program} {w : World} {K : PySem.W.Frag} {mg : Str → Option Value} {base : Heap} {fa : Nat → Addr} {ca : Nat → Addr} {T : List FD} {lv : Nat} {I : Mi}
theorem spC_len {C : Calls} {k : Nat} {n : Nat} {ca : Cc} (h : ∀ as r os, C k as = .ok r os → as.length = n) (h2 : ∀ as c fs, C k as = .exc c fs → as.length = n) {vs : List V} {H : Hp} {Q : VK} {E : XK} (q : spC K fa ca C k vs H Q E) : vs.length = n := by
  obtain ⟨F, as, _, A, _, q⟩ := q
  rw [A.length]
  cases e : C k as with
  | ok r os => exact h _ _ _ e
  | exc c fs => exact h2 _ _ _ e
  | stuck => rw [e] at q; exact q.elim
theorem runF_len {fd : FD} {C : Calls} {as : List Arg} (h : runF fd C as ≠ .stuck) : as.length = fd.np := by
  unfold runF at h
  by_cases e : as.length = fd.np
  · exact e
  · rw [if_neg e] at h; exact absurd rfl h
/-- THE RULE: a def of the text -/
theorem def_ok {x qual : Str} {params : Arguments} {body : List Stmt} {scope : Scope} {k : Nat} {fd : FuncData} {N ps : List Str} {d : DS} (Fd : FunD K x qual params body scope [] [] (fa k) fd) (S : FnScope N ps scope) (hd : CB I N ⟨scope, fun _ => true, none⟩ body d)
    (hT : T[k]? = some ⟨ps.length, N.length, d⟩) (g : GM I fa (callN T lv) lv ca P w K mg base) (hps : ps.length ≤ N.length) : FnOk P w K mg base (L2.CX P w) (lv + 1 + 2) (fa k) fd ps (spC K fa ⟨ca, none⟩ (callN T (lv + 1)) k) := by
  have hc : ∀ as, callN T (lv + 1) k as = runF ⟨ps.length, N.length, d⟩ (callN T lv) as := fun as => by
    show (match T[k]? with | some fd => runF fd (callN T lv) as | none => .stuck) = _
    rw [hT]
  refine Fd.ok S (fun vs H Q E q => spC_len (fun as r os e => runF_len (fd := ⟨ps.length, N.length, d⟩) (C := callN T lv) (by rw [← hc, e]; exact fun z => nomatch z)) (fun as c fs e => runF_len (fd := ⟨ps.length, N.length, d⟩) (C := callN T lv) (by rw [← hc, e]; exact fun z => nomatch z)) q) fun cdv A outer s H vs Q E hr hsp => ?_
  refine ⟨_, hd (fa := fa) (C := callN T lv) (lv := lv) (ca := ⟨ca, none⟩) (W := fun cls d _ H => E cls d H) (X := cxOf (L2.CX P w) P w K mg base N qual scope (fa k) cdv A outer s H E)
    ⟨⟨g, rfl, rfl, rfl, S.nd, by have := hr.un; show (A.deeper _).units + 200 < cLine; omega, fun _ => rfl, fun _ => hr, fun _ => rfl, takes_of rfl rfl rfl rfl, fun i z => by cases z⟩, fun _ => passes_of rfl, fun _ => ⟨rfl, rfl⟩, S.kind⟩, ?_⟩
  obtain ⟨F, as, T1, AL, nd, q⟩ := hsp
  rw [hc] at q
  have hl : as.length = ps.length := by
    refine runF_len (fd := ⟨ps.length, N.length, d⟩) (C := callN T lv) fun z => ?_
    rw [z] at q; exact q
  have hvl : vs.length ≤ N.length := by rw [AL.length, hl]; exact hps
  refine ⟨Gh.of H F vs as, F, env0 N.length as, sr_start T1 AL nd hvl, ?_⟩
  unfold runF at q
  rw [if_pos hl] at q
  have e0 : as.map Arg.sl ++ List.replicate (N.length - ps.length) Sl.none = env0 N.length as := by show _ = as.map Arg.sl ++ List.replicate (N.length - as.length) .none; rw [hl]
  have q : match (match d (callN T lv) (as.map Arg.sl ++ List.replicate (N.length - ps.length) Sl.none) with
      | .ret r ρ => finish as r ρ
      | .next ρ => finish as (.d .non) ρ
      | .exc c fs _ => if as.any Arg.isOwn then .stuck else .exc c fs
      | _ => .stuck) with
    | .ok r os => ∀ v F' H', CPost K fa F H F' H' vs as os r v → Q v H'
    | .exc c fs => ∀ F' H' cls d, CPost0 F H F' H' vs as → ExnR K fa ⟨ca, none⟩ F' H' c fs cls d → E cls d H'
    | .stuck => False := q
  rw [e0] at q
  have fin : ∀ {r : Ex} {ρ : Env} {v : V} {F' : Addr → Prop} {σ' : L2.St} {H' : Hp}, (match finish as r ρ with
      | .ok r os => ∀ v F' H', CPost K fa F H F' H' vs as os r v → Q v H'
      | .exc c fs => ∀ F' H' cls d, CPost0 F H F' H' vs as → ExnR K fa ⟨ca, none⟩ F' H' c fs cls d → E cls d H'
      | .stuck => False) → SR K fa ⟨ca, none⟩ (Gh.of H F vs as) F' ρ σ' H' → RpEx K fa (Gh.of H F vs as) F' ρ σ' H' r v → Q v H' := fun {r ρ v F' σ' H'} q S' rr => by
    unfold finish at q
    cases e : outsOf ρ 0 as with
    | none => rw [e] at q; exact q.elim
    | some os =>
      rw [e] at q
      refine q v F' H' ⟨cpost0_of AL S', out_of (N := N) S' AL (fun j l a h1 h2 => ?_) e, ?_⟩
      · exact (pars_of AL).mpr ⟨j, l, by omega, h1, h2⟩
      · cases r with
        | d x => exact rr
        | fresh l =>
          obtain ⟨b, xs, k1, k2, k3, k4, k5, k6⟩ := rr
          exact ⟨b, xs, k1, k5.1, k4, k2, k3⟩
  cases e : d (callN T lv) (env0 N.length as) with
  | next ρ => rw [e] at q; exact fun F' σ' H' S' E' => fin q S' .non
  | brk ρ => rw [e] at q; exact q.elim
  | cont ρ => rw [e] at q; exact q.elim
  | ret r ρ => rw [e] at q; exact fun v F' σ' H' S' E' rr => fin q S' rr
  | stuck => rw [e] at q; exact q.elim
  | exc c fs ρ =>
    rw [e] at q
    refine fun F' σ' H' cls dd S' E' x => ?_
    by_cases ha : as.any Arg.isOwn = true
    · simp only [if_pos ha] at q
    · simp only [if_neg ha] at q
      exact q F' H' cls dd (cpost0_of AL S') x
end
end RX
set_option Elab.async false
set_option linter.all false
set_option maxRecDepth 100000
set_option maxHeartbeats 4000000
/-! RXs: the module: its facts, its defs at every level; the law's end. -/
namespace RX
open PySem PySem.Spec PyProof.Rows L2
/-! ### what the head says -/
def oexB (K : PySem.W.Frag) (C : Addr) : Bool := (match K.lookup C with
  | some ⟨.type "type", _, .cls cd, sl⟩ => (match cd.mro, sl.toList with
    | .ref C' :: bm, [_, _, _, _, some (.builtin n), _] => C' == C && (n == "ValueError.__new__" && (!cd.hasDel && (cd.hasDict && PySem.HandSPX.refsVE bm)))
    | _, _ => false)
  | _ => false) && (He.eqO (PySem.W.findIn K (.ref C) "__setattr__") (some (some (.builtin "object.__setattr__"))) &&
    (decide (PySem.W.subIn K (.ref C) (.type "BaseException") = some true) && (decide (PySem.W.typeIn K (.ref C) = some (.type "type")) && PySem.W.keepIn K (.ref C))))
theorem oexB_ok {K : PySem.W.Frag} {C : Addr} (h : oexB K C = true) : OexC K C := by
  obtain ⟨h1, h⟩ := Bool.and_eq_true_iff.mp h
  obtain ⟨h2, h⟩ := Bool.and_eq_true_iff.mp h
  obtain ⟨h3, h⟩ := Bool.and_eq_true_iff.mp h
  obtain ⟨h4, h5⟩ := Bool.and_eq_true_iff.mp h
  refine ⟨?_, He.eqO_ok h2, of_decide_eq_true h3, of_decide_eq_true h4, h5⟩
  split at h1
  · rename_i dd cd sl ho
    split at h1
    · rename_i C' bm k0 k1 k2 k3 n k5 hm hs
      simp only [Bool.and_eq_true, beq_iff_eq, Bool.not_eq_true'] at h1
      obtain ⟨rfl, rfl, hdel, hd, hr⟩ := h1
      obtain ⟨nm, bs, mro, ns, qn, hdct, sn, sub, ab, col, del⟩ := cd
      dsimp only at hm hdel hd
      subst hm hdel hd
      have hsl : sl = #[k0, k1, k2, k3, some (.builtin "ValueError.__new__"), k5] := by
        obtain ⟨l⟩ := sl
        simp only at hs
        rw [hs]
      subst hsl
      exact ⟨nm, qn, ns, bs, bm, sn, sub, ab, col, dd, k0, k1, k2, k3, k5, ho, hr⟩
    · cases h1
  · cases h1
/-- a class that is raised: x its name, fl its fields, all the fields that are read -/
def clsB (x : Str) (all : List Str) (K : PySem.W.Frag) : Bool := oexB K (He.ga K x) && (He.eqO (PySem.W.findIn K (.ref (He.ga K x)) "__init__") (some (some (.ref (He.ma K (He.ga K x) "__init__")))) &&
  (decide (PySem.W.typeIn K (.ref (He.ma K (He.ga K x) "__init__")) = some (.type "function")) && (xfB K (He.ga K x) && all.all fun f => He.eqO (PySem.W.findIn K (.ref (He.ga K x)) f) (some none))))
structure ClsB (x : Str) (all : List Str) (K : PySem.W.Frag) : Prop where
  T : OexC K (He.ga K x)
  iC : PySem.W.findIn K (.ref (He.ga K x)) "__init__" = some (some (.ref (He.ma K (He.ga K x) "__init__")))
  tI : PySem.W.typeIn K (.ref (He.ma K (He.ga K x) "__init__")) = some (.type "function")
  xf : XfC K (He.ga K x)
  no : ∀ f, all.contains f = true → PySem.W.findIn K (.ref (He.ga K x)) f = some none
theorem clsB_ok {x : Str} {all : List Str} {K : PySem.W.Frag} (h : clsB x all K = true) : ClsB x all K := by
  obtain ⟨h1, h⟩ := Bool.and_eq_true_iff.mp h
  obtain ⟨h2, h⟩ := Bool.and_eq_true_iff.mp h
  obtain ⟨h3, h⟩ := Bool.and_eq_true_iff.mp h
  obtain ⟨h4, h5⟩ := Bool.and_eq_true_iff.mp h
  exact ⟨oexB_ok h1, He.eqO_ok h2, of_decide_eq_true h3, xfB_ok h4, fun f hf => He.eqO_ok (List.all_eq_true.mp h5 f (List.contains_iff_mem.mp hf))⟩
/-- the module's name x is a built-in function -/
def bfnB (x : Str) (id : String) (K : PySem.W.Frag) : Bool := He.eqO (PySem.W.nsIn K mainGlobals x) (some (some (.builtin id)))
theorem bfnB_ok {x : Str} {id : String} {K : PySem.W.Frag} {h : Heap} {mg : Str → Option Value} (X : K.In h) (G : h.Ns mainGlobals mg) (c : bfnB x id K = true) : mg x = some (.builtin id) := PySem.W.mg_of X G (He.eqO_ok c)
abbrev Cks : Type := List (PySem.W.Frag → Bool)
def obsX (ck : Cks) (fa : List He.Fa) (fn : List He.DefD) (K : PySem.W.Frag) : He.AlD := (ck.all (fun c => c K) && ((fa.all fun f => f.ok K) && fn.all fun d => d.ok K), fn.map fun d => He.fnW K d.at_)
def SaysX (ck : Cks) (fa : List He.Fa) (fn : List He.DefD) (K : PySem.W.Frag) : Prop := obsX ck fa fn K = He.valD fn
def obsXG (n : Nat) (ck : Cks) (fa : List He.Fa) (fn : List He.DefD) (g : Addr → Option Obj) : He.AlD := obsX ck fa fn (He.frG g (He.asD g n))
def hookX (n : Nat) (ck : Cks) (fa : List He.Fa) (fn : List He.DefD) : PySem.W.Hook where
  α := He.AlD
  obs := fun s => obsXG n ck fa fn s.heap.get?
  val := fun _ => He.valD fn
  says := fun _ h => ∃ K : PySem.W.Frag, K.In h ∧ SaysX ck fa fn K
  of := fun _ _ e => ⟨_, He.frG_in, e⟩
  keeps := fun _ _ _ ⟨K, hK, c⟩ k => ⟨K, PySem.W.Frag.In.keeps hK k, c⟩
theorem obsXG_eq {n : Nat} {ck : Cks} {fa : List He.Fa} {fn : List He.DefD} {g : Addr → Option Obj} {s : Shared} (h : ∀ a, g a = s.heap.get? a) : obsXG n ck fa fn g = (hookX n ck fa fn).obs s := by
  have e : g = s.heap.get? := funext h
  rw [e] <;> rfl
section
variable {ck : Cks} {fa : List He.Fa} {fn : List He.DefD} {K : PySem.W.Frag}
theorem SaysX.b (c : SaysX ck fa fn K) : (ck.all (fun c => c K) && ((fa.all fun f => f.ok K) && fn.all fun d => d.ok K)) = true := congrArg (fun z : He.AlD => z.1) c
theorem SaysX.d (c : SaysX ck fa fn K) : He.SaysD fa fn K := by
  have h := (Bool.and_eq_true_iff.mp c.b).2
  have e : fn.map (fun d => He.fnW K d.at_) = fn.map He.DefD.val := congrArg (fun z : He.AlD => z.2) c
  show ((fa.all fun f => f.ok K) && fn.all fun d => d.ok K, fn.map fun d => He.fnW K d.at_) = (true, fn.map He.DefD.val)
  rw [h, e]
theorem SaysX.chk (c : SaysX ck fa fn K) (i : Nat) {f : PySem.W.Frag → Bool} (h : ck[i]? = some f := by rfl) : f K = true := List.all_eq_true.mp (Bool.and_eq_true_iff.mp c.b).1 f (List.mem_of_getElem? h)
end
/-! ### an __init__ of two fields -/
theorem init2_ok {P : Program} {w : World} {K : PySem.W.Frag} {mg : Str → Option Value} {base : Heap} {CX : CXT} {x qual : Str} {params : Arguments} {scope : Scope} {fI C : Addr} {fd : FuncData} {s a1 a2 f1 f2 : Str} {p1 p2 p3 p4 p5 p6 p7 p8 : Pos}
    (F : FunD K x qual params [.Assign [.Attribute (.Name s p1) f1 p2] (.Name a1 p3) p4, .Assign [.Attribute (.Name s p5) f2 p6] (.Name a2 p7) p8] scope [] [] fI fd) (S : FnScope [s, a1, a2] [s, a1, a2] scope)
    (ok : (okN s && (okN a1 && okN a2)) = true) (vis : (visB scope s && (visB scope a1 && visB scope a2)) = true) (T : OexC K C) (h1 : PySem.W.findIn K (.ref C) f1 = some none) (h2 : PySem.W.findIn K (.ref C) f2 = some none) :
    FnOk P w K mg base CX 1 fI fd [s, a1, a2] (spI [f1, f2] C) := by
  obtain ⟨k1, k⟩ := Bool.and_eq_true_iff.mp ok
  obtain ⟨k2, k3⟩ := Bool.and_eq_true_iff.mp k
  obtain ⟨v1, v⟩ := Bool.and_eq_true_iff.mp vis
  obtain ⟨v2, v3⟩ := Bool.and_eq_true_iff.mp v
  refine F.ok S (fun vs H Q E h => ?_) fun cdv A outer s' H vs Q E hr h => ⟨_, pss_cons (ps_ost (pe_var (i := 0) rfl (visB_ok v1) (okN_d k1) (okN_c k1)) (pe_var (i := 1) rfl (visB_ok v2) (okN_d k2) (okN_c k2))) (pss_one (ps_ost (pe_var (i := 0) rfl (visB_ok v1) (okN_d k1) (okN_c k1)) (pe_var (i := 2) rfl (visB_ok v3) (okN_d k3) (okN_c k3)))), ?_⟩
  · obtain ⟨a, ys, rfl, hl, _⟩ := h
    show ys.length + 1 = 3
    rw [hl]; rfl
  · obtain ⟨a, ys, rfl, hl, ha, q⟩ := h
    match ys, hl with
    | [y1, y2], _ =>
      refine ⟨y1, rfl, .ref a, rfl, a, C, rfl, T, h1, .inl ⟨ha, fun d hd dne => ?_⟩⟩
      refine ⟨y2, rfl, .ref a, rfl, a, C, rfl, T, h2, .inr ⟨d, [(f1, y1)], upd_same, ?_, by show 1 ≤ 900; omega, ?_⟩⟩
      · rw [upd_ne dne, upd_same]
      · have e : upd (upd (upd H d (exd d [(f1, y1)])) a (exo a C (some d))) d (exd d [(f2, y2), (f1, y1)]) = upd (upd H d (exd d ([f1, f2].zip [y1, y2]).reverse)) a (exo a C (some d)) := by
          funext b
          by_cases e1 : b = d
          · subst e1
            rw [upd_same, upd_ne dne, upd_same]
            rfl
          · rw [upd_ne e1]
            by_cases e2 : b = a
            · subst e2; rw [upd_same, upd_same]
            · rw [upd_ne e2, upd_ne e1, upd_ne e2, upd_ne e1]
        show Q .non _
        rw [e]
        exact q d hd dne
/-! ### scopes -/
def scB (N ps : List Str) (sc : Scope) : Bool := decide (sc.kind = .function) && (!sc.isCoroutine && (!sc.isGenerator && (decide N.Nodup && (decide (N.take ps.length = ps) && (ps.all (fun x => locB sc x) && sc.names.all fun y => !decide (y.2 = .free))))))
theorem scB_ok {N ps : List Str} {sc : Scope} (h : scB N ps sc = true) : FnScope N ps sc := by
  obtain ⟨h1, h⟩ := Bool.and_eq_true_iff.mp h
  obtain ⟨h2, h⟩ := Bool.and_eq_true_iff.mp h
  obtain ⟨h3, h⟩ := Bool.and_eq_true_iff.mp h
  obtain ⟨h4, h⟩ := Bool.and_eq_true_iff.mp h
  obtain ⟨h5, h⟩ := Bool.and_eq_true_iff.mp h
  obtain ⟨h6, h7⟩ := Bool.and_eq_true_iff.mp h
  refine ⟨of_decide_eq_true h1, by simpa using h2, by simpa using h3, of_decide_eq_true h4, of_decide_eq_true h5, fun x hx => locB_ok (List.all_eq_true.mp h6 x hx), fun y hy e => ?_⟩
  have q := List.all_eq_true.mp h7 y hy
  rw [decide_eq_true e] at q
  cases q
/-! ### the defs -/
structure DK (mi : Mi) (T : List FD) (K : PySem.W.Frag) (fa : Nat → Addr) (k : Nat) (ps : List Str) (kw : List (List Str × List Nat)) : Prop where
  ex : ∃ (x qual : Str) (params : Arguments) (body : List Stmt) (scope : Scope) (fd : FuncData) (N : List Str) (d : DS), FunD K x qual params body scope [] [] (fa k) fd ∧ FnScope N ps scope ∧ CB mi N ⟨scope, fun _ => true, none⟩ body d ∧ T[k]? = some ⟨ps.length, N.length, d⟩ ∧ Binds K fd ps [] ∧
    ∀ ks p, kw.lookup ks = some p → ∀ (s : Shared) (ws : List Value), K.In s.heap → ws.length = ks.length → BindsTo s fd ⟨[], ks.zip ws⟩ (ps.zip (permL p ws))
theorem fn_no {P : Program} {w : World} {K : PySem.W.Frag} {mg : Str → Option Value} {base : Heap} {CX : CXT} {fa : Nat → Addr} {ca : Cc} {C : Calls} {k n : Nat} {f : Addr} {fd : FuncData} {ps : List Str} (h : ∀ as, C k as = .stuck) : FnOk P w K mg base CX n f fd ps (spC K fa ca C k) := by
  have no : ∀ {vs : List V} {H : Hp} {Q : VK} {E : XK}, spC K fa ca C k vs H Q E → False := fun q => by
    obtain ⟨F, as, _, _, _, q⟩ := q
    rw [h] at q
    exact q
  exact ⟨fun vs H Q E q => (no q).elim, fun A outer s H args us vs Q E hr he hb hv q => (no q).elim⟩
/-- what does not hang on the level -/
structure Stat (mi : Mi) (T : List FD) (fa ca : Nat → Addr) (P : Program) (w : World) (K : PySem.W.Frag) (mg : Str → Option Value) (base : Heap) : Prop where
  free : ∀ x, mi.free.contains x = true → mg x = none
  fns : ∀ x f, mi.fns.lookup x = some f → mg x = some (.ref (fa f.ix)) ∧ DK mi T K fa f.ix f.ps f.kw
  all : ∀ k, (∃ ps kw, DK mi T K fa k ps kw) ∨ T[k]? = none ∧ fa k = fa 0
  z : ∃ ps kw, DK mi T K fa 0 ps kw
  cls : ∀ x c fl, mi.cls.lookup x = some (c, fl) → mg x = some (.ref (ca c)) ∧ ClG 0 ca P w K mg base c fl
  exm : ∀ x m, mi.exm.lookup x = some m → ∃ A, mg x = some (.ref A) ∧ ∀ c, PySem.W.exmOne K (.ref (ca c)) (.ref A) = some (m c)
  xf : ∀ c, XfC K (ca c) ∧ ∀ f, mi.flds.contains f = true → PySem.W.findIn K (.ref (ca c)) f = some none
  bfun : ∀ x id, mi.bfun.lookup x = some id → mg x = some (.builtin id)
  cst : ∀ x d, mi.cst.lookup x = some d → ∃ (u : Value) (v : V), mg x = some u ∧ RelV v u ∧ ∀ F H, Rp K fa F H v d
theorem gm_of {mi : Mi} {T : List FD} {fa ca : Nat → Addr} {P : Program} {w : World} {K : PySem.W.Frag} {mg : Str → Option Value} {base : Heap} (S : Stat mi T fa ca P w K mg base) {lv : Nat}
    (h : ∀ k ps kw, DK mi T K fa k ps kw → ∃ fd, FnG fa (callN T lv) lv ca P w K mg base k fd ps ∧ ∀ ks p, kw.lookup ks = some p → ∀ (s : Shared) (ws : List Value), K.In s.heap → ws.length = ks.length → BindsTo s fd ⟨[], ks.zip ws⟩ (ps.zip (permL p ws))) :
    GM mi fa (callN T lv) lv ca P w K mg base := by
  refine ⟨S.free, fun x f e => ?_, fun k => ?_, fun x c fl e => ?_, S.exm, S.xf, S.bfun, S.cst⟩
  · obtain ⟨h1, h2⟩ := S.fns x f e
    exact ⟨h1, h _ _ _ h2⟩
  · rcases S.all k with ⟨ps, kw, D⟩ | ⟨e1, e2⟩
    · obtain ⟨fd, g, _⟩ := h k ps kw D
      exact ⟨fd, ps, g⟩
    · obtain ⟨ps, kw, D⟩ := S.z
      obtain ⟨fd, g, _⟩ := h 0 ps kw D
      refine ⟨fd, ps, fn_no fun as => ?_, by rw [e2]; exact g.kp, g.bd⟩
      cases lv with
      | zero => rfl
      | succ n =>
        show (match T[k]? with | some fd => runF fd (callN T n) as | none => .stuck) = _
        rw [e1]
  · obtain ⟨h1, h2⟩ := S.cls x c fl e
    exact ⟨h1, h2.T, h2.init, h2.nd, h2.ln⟩
theorem gm_all {mi : Mi} {T : List FD} {fa ca : Nat → Addr} {P : Program} {w : World} {K : PySem.W.Frag} {mg : Str → Option Value} {base : Heap} (S : Stat mi T fa ca P w K mg base) : ∀ lv, GM mi fa (callN T lv) lv ca P w K mg base
  | 0 => gm_of S fun k ps kw D => by
    obtain ⟨x, qual, params, body, scope, fd, N, d, F, Sc, hd, hT, hb, hk⟩ := D.ex
    exact ⟨fd, ⟨fn_no fun as => rfl, F.kp, hb⟩, hk⟩
  | lv + 1 => gm_of S fun k ps kw D => by
    obtain ⟨x, qual, params, body, scope, fd, N, d, F, Sc, hd, hT, hb, hk⟩ := D.ex
    have hps : ps.length ≤ N.length := by
      have := congrArg List.length Sc.pre
      rw [List.length_take] at this
      omega
    exact ⟨fd, ⟨def_ok F Sc hd hT (gm_all S lv) hps, F.kp, hb⟩, hk⟩
/-! ### the law's end -/
theorem walk_X {l : PySem.W.OpenLaw} {n k : Nat} {q : Program} {loose : List Str} {XP : (Str → Option Value) → Heap → Prop} {YP : World → Heap → Prop} {d : DefRec} {x : Str}
    (hn : l.most = some n) (hn2 : n ≤ sizeLine) (hdf : d.params.defaults = []) (hr : Room k callerA)
    (F : ∀ (w : World) (mg : Str → Option Value) (fa : Addr) (h : Heap), YP w h → h.Ns mainGlobals mg → mg d.name = some (.ref fa) →
      ∃ (K : PySem.W.Frag) (fd : FuncData) (sp : Sp), K.In h ∧ (∀ (s : Shared) (u : Value), BindsTo s fd ⟨[u], []⟩ [(x, u)]) ∧
        (∀ (H : Hp) (a : Addr) (ns : List Int), ns.length ≤ n → Only H → SqL K H a (ns.map V.int) → sp [.ref a] H (fun v _ => v = .bl true) fun _ _ _ => False) ∧
        ∀ base : Heap, K.In base → base.Ns mainGlobals mg → FnOk l.prog w K mg base (L2.CX l.prog w) k fa fd [x] sp) :
    PySem.W.WalkO q loose XP YP l.row.toRowW d [] (fun f vs => PySem.call f vs) := by
  refine Att.attach_call hn hdf fun w s₀ s₁ mg mb fa o pm cd doc a vs ns G Y ho hd hcd hmg hobj hints hlen hg => ?_
  obtain ⟨K, fd, sp, KX, hb, hsp, hF⟩ := F w mg fa _ Y G.T.g hmg
  exact law_call KX G.T.g G.T.b G.T.builtins G.T.nolimit hg hobj hints (Nat.le_trans hlen hn2) hr hF hb (fun H hO hS => hsp H a ns hlen hO hS) fun H e s' x => by
    obtain ⟨a, B, H', cls, d, rfl, fl, hok, ub, na, os, ag, h⟩ := x
    exact h
theorem sp_law {K : PySem.W.Frag} {fa : Nat → Addr} {ca : Cc} {C : Calls} {k : Nat} {H : Hp} {a : Addr} {ns : List Int} (O : Only H) (S : SqL K H a (ns.map V.int)) (h : C k [.d (.scr ns)] = .ok (.d (.bl true)) []) : spC K fa ca C k [.ref a] H (fun v _ => v = .bl true) fun _ _ _ => False := by
  refine ⟨fun _ => False, [.d (.scr ns)], fun a f => f.elim, .d (.scr (SqF.of O S)) .nil, List.nodup_nil, ?_⟩
  rw [h]
  intro v F' H' q
  have r : Rp K fa F' H' v (.bl true) := q.res
  cases r
  rfl
end RX
set_option Elab.async false
set_option linter.all false
set_option maxRecDepth 100000
set_option maxHeartbeats 4000000
/-! RXt: the module's facts, put together. -/
namespace RX
open PySem PySem.Spec PyProof.Rows L2
abbrev fAt (K : PySem.W.Frag) (nms : List Str) (n0 : Str) : Nat → Addr := fun k => He.ga K (nms.getD k n0)
theorem all_nil {α : Type} {P : α → Prop} : ∀ p ∈ ([] : List α), P p := fun p h => nomatch h
theorem all_cons {α : Type} {P : α → Prop} {a : α} {l : List α} (h : P a) (r : ∀ p ∈ l, P p) : ∀ p ∈ a :: l, P p := fun p hp => by
  rcases List.mem_cons.mp hp with e | e
  · rw [e]; exact h
  · exact r p e
theorem cb_of {mi : Mi} {N : List Str} {sc : Scope} {body : List Stmt} {d : DS} (h : (cBody mi N sc body).map (·.1) = some d) : CB mi N ⟨sc, fun _ => true, none⟩ body d := by
  cases e : cBody mi N sc body with
  | none => rw [e] at h; cases h
  | some p => rw [e] at h; cases h; exact p.2
/-- what a call with keywords binds -/
abbrev KwG (K : PySem.W.Frag) (fd : FuncData) (ps : List Str) (ks : List Str) (p : List Nat) : Prop := ∀ (s : Shared) (ws : List Value), K.In s.heap → ws.length = ks.length → BindsTo s fd ⟨[], ks.zip ws⟩ (ps.zip (permL p ws))
theorem kw_nil {K : PySem.W.Frag} {fd : FuncData} {ps : List Str} : ∀ ks p, ([] : List (List Str × List Nat)).lookup ks = some p → KwG K fd ps ks p := fun ks p h => by cases h
theorem kw_cons {K : PySem.W.Frag} {fd : FuncData} {ps a : List Str} {b : List Nat} {r : List (List Str × List Nat)} (h1 : KwG K fd ps a b) (h2 : ∀ ks p, r.lookup ks = some p → KwG K fd ps ks p) : ∀ ks p, ((a, b) :: r).lookup ks = some p → KwG K fd ps ks p := fun ks p h => by
  have h' : (match ks == a with | true => some b | false => r.lookup ks) = some p := h
  cases e : ks == a with
  | true => rw [e] at h'; cases h'; rw [eq_of_beq e]; exact h1
  | false => rw [e] at h'; exact h2 ks p h'
theorem kw_one {K : PySem.W.Frag} {x qual : Str} {params : Arguments} {body : List Stmt} {scope : Scope} {f : Addr} {fd : FuncData} {ps ks : List Str} {p : List Nat} (F : FunD K x qual params body scope [] [] f fd)
    (h : ∀ (kV doc pm : Value) (an : Option Addr) (cdv ct : Value) (ws : List Value), ws.length = ks.length → bindArgs (PySem.W.fnOf x qual params body scope .none kV doc pm an cdv ct) ⟨[], ks.zip ws⟩ = pure (ps.zip (permL p ws))) : KwG K fd ps ks p := fun s ws X hl => by
  obtain ⟨oc, od, dV, kV, doc, pm, an, cdv, ct, osl, rfl, lk, hcd, hD, hK⟩ := F.ex
  rcases hD with ⟨_, rfl⟩ | ⟨e, _⟩
  · exact .of_eq (h kV doc pm an cdv ct ws hl)
  · exact absurd rfl e
theorem getD_mem {α : Type} {l : List α} {d : α} (c : Nat) : l.getD c d ∈ d :: l := by
  rw [List.getD_eq_getElem?_getD]
  cases e : l[c]? with
  | none => exact List.mem_cons_self
  | some x => exact List.mem_cons_of_mem _ (List.mem_of_getElem? e)
theorem stat_of {mi : Mi} {T : List FD} {P : Program} {w : World} {K : PySem.W.Frag} {mg : Str → Option Value} {base : Heap} {nms rn : List Str} {n0 r0 : Str} (hfree : ∀ x ∈ mi.free, mg x = none)
    (hf : ∀ p ∈ mi.fns, mg p.1 = some (.ref (fAt K nms n0 p.2.ix)) ∧ DK mi T K (fAt K nms n0) p.2.ix p.2.ps p.2.kw) (hx : ((List.range T.length).all fun k => decide ((mi.fns[k]?).map (·.2.ix) = some k)) = true) (hz : 0 < T.length) (hn : nms.length = T.length) (h0 : nms.getD 0 n0 = n0)
    (hc : ∀ p ∈ mi.cls, mg p.1 = some (.ref (fAt K rn r0 p.2.1)) ∧ ClG 0 (fAt K rn r0) P w K mg base p.2.1 p.2.2)
    (he : ∀ p ∈ mi.exm, mg p.1 = some (.ref (He.ga K p.1)) ∧ ∀ c, PySem.W.exmOne K (.ref (fAt K rn r0 c)) (.ref (He.ga K p.1)) = some (p.2 c)) (hxf : ∀ x ∈ r0 :: rn, ClsB x mi.flds K) (hb : ∀ p ∈ mi.bfun, mg p.1 = some (.builtin p.2))
    (hcst : ∀ p ∈ mi.cst, ∃ (u : Value) (v : V), mg p.1 = some u ∧ RelV v u ∧ ∀ F H, Rp K (fAt K nms n0) F H v p.2) : Stat mi T (fAt K nms n0) (fAt K rn r0) P w K mg base := by
  have hall : ∀ k, k < T.length → ∃ ps kw, DK mi T K (fAt K nms n0) k ps kw := fun k hk => by
    have q := List.all_eq_true.mp hx k (List.mem_range.mpr hk)
    have q := of_decide_eq_true q
    cases e : mi.fns[k]? with
    | none => rw [e] at q; cases q
    | some p =>
      rw [e] at q
      have q : some p.2.ix = some k := q
      cases q
      exact ⟨_, _, (hf p (List.mem_of_getElem? e)).2⟩
  refine ⟨fun x hx => hfree x (List.contains_iff_mem.mp hx), fun x f e => hf (x, f) (PySem.mem_of_lookup e), fun k => ?_, hall 0 hz, fun x c fl e => hc (x, c, fl) (PySem.mem_of_lookup e), fun x m e => ⟨_, he (x, m) (PySem.mem_of_lookup e)⟩,
    fun c => ?_, fun x id e => hb (x, id) (PySem.mem_of_lookup e), fun x d e => hcst (x, d) (PySem.mem_of_lookup e)⟩
  · by_cases hk : k < T.length
    · exact .inl (hall k hk)
    · refine .inr ⟨List.getElem?_eq_none (by omega), ?_⟩
      show He.ga K (nms.getD k n0) = He.ga K (nms.getD 0 n0)
      rw [h0, List.getD_eq_getElem?_getD, List.getElem?_eq_none (by omega)]
      rfl
  · have q := hxf _ (getD_mem (l := rn) (d := r0) c)
    exact ⟨q.xf, q.no⟩
theorem SaysX.fact {ck : Cks} {fa : List He.Fa} {fn : List He.DefD} {K : PySem.W.Frag} (c : SaysX ck fa fn K) {f : He.Fa} (h : f ∈ fa) : f.ok K = true := by
  have h2 := (Bool.and_eq_true_iff.mp c.b).2
  exact List.all_eq_true.mp (Bool.and_eq_true_iff.mp h2).1 f h
end RX
set_option Elab.async false
set_option linter.all false
set_option maxRecDepth 100000
set_option maxHeartbeats 4000000
/-! RXu: evaluating by simp. What follows stands behind a Hold: simp does not look into it before it is reached. -/
namespace RX
open PySem
structure Hold {α : Type} (f : α) : Type where
section
variable {C : Calls} {ρ : Env} {a b c e : Den} {t u : TD} {f g : Op2}
def bnd {α β : Type} (f : α → Env → R β) (_ : Hold f) (x : R α) : R β := x.bind f
def outK {α : Type} (f : α → Env → Out) (_ : Hold f) (x : R α) : Out := x.out f
def obnd (f : Env → Out) (_ : Hold f) (x : Out) : Out := x.bind f
/-- a choice -/
def pk {α : Type} (f : Bool → α) (_ : Hold f) (k : Bool) : α := f k
theorem pk_t {α : Type} {f : Bool → α} {h : Hold f} : pk f h true = f true := rfl
theorem pk_f {α : Type} {f : Bool → α} {h : Hold f} : pk f h false = f false := rfl
theorem bnd_ok {α β : Type} {a : α} {f : α → Env → R β} {h : Hold f} : bnd f h (R.ok a ρ) = f a ρ := rfl
theorem bnd_exc {α β : Type} {k : Nat} {fs : List (Str × D)} {f : α → Env → R β} {h : Hold f} : bnd f h (R.exc k fs ρ : R α) = .exc k fs ρ := rfl
theorem outK_ok {α : Type} {a : α} {f : α → Env → Out} {h : Hold f} : outK f h (R.ok a ρ) = f a ρ := rfl
theorem outK_exc {α : Type} {k : Nat} {fs : List (Str × D)} {f : α → Env → Out} {h : Hold f} : outK f h (R.exc k fs ρ : R α) = .exc k fs ρ := rfl
theorem obnd_next {f : Env → Out} {h : Hold f} : obnd f h (Out.next ρ) = f ρ := rfl
theorem obnd_ret {r : Ex} {f : Env → Out} {h : Hold f} : obnd f h (Out.ret r ρ) = .ret r ρ := rfl
theorem obnd_brk {f : Env → Out} {h : Hold f} : obnd f h (Out.brk ρ) = .brk ρ := rfl
theorem obnd_cont {f : Env → Out} {h : Hold f} : obnd f h (Out.cont ρ) = .cont ρ := rfl
theorem obnd_exc {k : Nat} {fs : List (Str × D)} {f : Env → Out} {h : Hold f} : obnd f h (Out.exc k fs ρ) = .exc k fs ρ := rfl
/-- from what is made to a result -/
def toR (ρ : Env) (o : Option Ex) : R Ex := match o with
  | some r => .ok r ρ
  | none => .stuck
theorem toR_some {r : Ex} : toR ρ (some r) = .ok r ρ := rfl
/-- .. to a test -/
def toB (ρ : Env) (o : Option Ex) : R Bool := match o with
  | some (.d (.bl k)) => .ok k ρ
  | _ => .stuck
theorem toB_some {k : Bool} : toB ρ (some (.d (.bl k))) = .ok k ρ := rfl
def toT (ρ : Env) (o : Option Bool) : R Bool := match o with
  | some k => .ok k ρ
  | none => .stuck
theorem toT_some {k : Bool} : toT ρ (some k) = .ok k ρ := rfl
def toS (o : Option Env) : Out := match o with
  | some ρ => .next ρ
  | none => .stuck
theorem toS_some : toS (some ρ) = .next ρ := rfl
/-- a value as a bool -/
def asB (f : Bool → R Ex) (_ : Hold f) (x : D) : R Ex := match x with
  | .bl k => f k
  | _ => .stuck
theorem asB_bl {k : Bool} {f : Bool → R Ex} {h : Hold f} : asB f h (.bl k) = f k := rfl
def lk {α : Type} (z : α) (f : D → α) (_ : Hold f) (o : Option D) : α := match o with
  | some x => f x
  | none => z
theorem lk_some {α : Type} {z : α} {x : D} {f : D → α} {h : Hold f} : lk z f h (some x) = f x := rfl
/-! expressions -/
theorem x_C {x : D} : dC x C ρ = .ok (.d x) ρ := rfl
def varK (ρ : Env) (i : Nat) (o : Option Sl) : R Ex := match o with
  | some (.val d) => .ok (.d d) ρ
  | some (.own l) => .ok (.d (.lst l)) (ρ.set i (.val (.lst l)))
  | _ => .stuck
theorem varK_v {i : Nat} {d : D} : varK ρ i (some (.val d)) = .ok (.d d) ρ := rfl
theorem varK_o {i : Nat} {l : List D} : varK ρ i (some (.own l)) = .ok (.d (.lst l)) (ρ.set i (.val (.lst l))) := rfl
theorem x_Var {i : Nat} : dVar i C ρ = varK ρ i ρ[i]? := rfl
theorem x_Op : dOp f a b C ρ = bnd (fun x ρ1 => bnd (fun y ρ2 => toR ρ2 (f x.frz y.frz)) ⟨⟩ (b C ρ1)) ⟨⟩ (a C ρ) := rfl
theorem x_Un {h : Op1} : dUn h a C ρ = bnd (fun x ρ1 => toR ρ1 (h x.frz)) ⟨⟩ (a C ρ) := rfl
theorem x_tE : tE a C ρ = bnd (fun x ρ1 => toT ρ1 (truth x.frz)) ⟨⟩ (a C ρ) := rfl
theorem x_tNot : tNot t C ρ = bnd (fun k ρ1 => .ok (!k) ρ1) ⟨⟩ (t C ρ) := rfl
theorem x_tAnd : tAnd t u C ρ = bnd (fun k ρ1 => pk (fun k => if k = true then u C ρ1 else .ok false ρ1) ⟨⟩ k) ⟨⟩ (t C ρ) := rfl
theorem x_tOr : tOr t u C ρ = bnd (fun k ρ1 => pk (fun k => if k = true then .ok true ρ1 else u C ρ1) ⟨⟩ k) ⟨⟩ (t C ρ) := rfl
theorem x_And : dAnd a b C ρ = bnd (fun x ρ1 => asB (fun k => pk (fun k => if k = true then b C ρ1 else .ok (.d (.bl false)) ρ1) ⟨⟩ k) ⟨⟩ x.frz) ⟨⟩ (a C ρ) := by
  unfold dAnd bnd
  cases a C ρ with
  | exc k fs ρ1 => rfl
  | stuck => rfl
  | ok x ρ1 =>
    simp only [R.bind]
    cases x.frz with
    | bl k => cases k <;> rfl
    | _ => rfl
theorem x_Or : dOr a b C ρ = bnd (fun x ρ1 => asB (fun k => pk (fun k => if k = true then .ok (.d (.bl true)) ρ1 else b C ρ1) ⟨⟩ k) ⟨⟩ x.frz) ⟨⟩ (a C ρ) := by
  unfold dOr bnd
  cases a C ρ with
  | exc k fs ρ1 => rfl
  | stuck => rfl
  | ok x ρ1 =>
    simp only [R.bind]
    cases x.frz with
    | bl k => cases k <;> rfl
    | _ => rfl
theorem x_Not : dNot a C ρ = bnd (fun x ρ1 => asB (fun k => .ok (.d (.bl (!k))) ρ1) ⟨⟩ x.frz) ⟨⟩ (a C ρ) := by
  unfold dNot bnd
  cases a C ρ with
  | exc k fs ρ1 => rfl
  | stuck => rfl
  | ok x ρ1 =>
    simp only [R.bind]
    cases x.frz <;> rfl
theorem x_If : dIf t a b C ρ = bnd (fun k ρ1 => pk (fun k => if k = true then a C ρ1 else b C ρ1) ⟨⟩ k) ⟨⟩ (t C ρ) := rfl
theorem x_nil : dAll [] C ρ = .ok [] ρ := rfl
theorem x_cons {r : List Den} : dAll (a :: r) C ρ = bnd (fun x ρ1 => bnd (fun xs ρ2 => .ok (x.frz :: xs) ρ2) ⟨⟩ (dAll r C ρ1)) ⟨⟩ (a C ρ) := rfl
theorem x_Tup {es : List Den} : dTup es C ρ = bnd (fun xs ρ1 => .ok (.d (.tup xs)) ρ1) ⟨⟩ (dAll es C ρ) := rfl
theorem x_Lst {es : List Den} : dLst es C ρ = bnd (fun xs ρ1 => .ok (.fresh xs) ρ1) ⟨⟩ (dAll es C ρ) := rfl
theorem x_IxV {i : Nat} : dIxV i e C ρ = lk .stuck (fun _ => bnd (fun y ρ1 => lk .stuck (fun x => toR ρ1 (fIx x y.frz)) ⟨⟩ (look ρ1 i)) ⟨⟩ (e C ρ)) ⟨⟩ (look ρ i) := by
  unfold dIxV
  cases look ρ i with
  | none => rfl
  | some x0 =>
    show R.bind _ _ = R.bind _ _
    cases e C ρ with
    | ok y ρ1 => simp only [R.bind]; cases look ρ1 i <;> rfl
    | _ => rfl
theorem x_B {h : Bf} {es : List Den} : dB h es C ρ = bnd (fun xs ρ1 => toR ρ1 (h xs)) ⟨⟩ (dAll es C ρ) := rfl
theorem x_B1 {h : Bf} {i : Nat} : dB1 h i C ρ = lk .stuck (fun x => toR ρ (h [x])) ⟨⟩ (look ρ i) := by
  unfold dB1
  cases look ρ i <;> rfl
theorem x_Cmp : tCmpB f a b C ρ = bnd (fun x ρ1 => bnd (fun y ρ2 => toB ρ2 (f x.frz y.frz)) ⟨⟩ (b C ρ1)) ⟨⟩ (a C ρ) := by
  unfold tCmpB bnd
  cases a C ρ with
  | exc k fs ρ1 => rfl
  | stuck => rfl
  | ok x ρ1 =>
    simp only [R.bind]
    cases b C ρ1 <;> rfl
/-! calls -/
theorem x_anil : argsE [] C ρ = .ok [] ρ := rfl
theorem x_av {i : Nat} {r : List AD} : argsE (.v i :: r) C ρ = pk (fun k => if k = true then bnd (fun xs ρ2 => .ok (.own i :: xs) ρ2) ⟨⟩ (argsE r C ρ) else bnd (fun x ρ1 => bnd (fun xs ρ2 => .ok (.d x.frz :: xs) ρ2) ⟨⟩ (argsE r C ρ1)) ⟨⟩ (dVar i C ρ)) ⟨⟩ (isOwn ρ[i]?) := rfl
theorem x_ae {r : List AD} : argsE (.e a :: r) C ρ = bnd (fun x ρ1 => bnd (fun xs ρ2 => .ok (.d x.frz :: xs) ρ2) ⟨⟩ (argsE r C ρ1)) ⟨⟩ (a C ρ) := rfl
def backE (ρ : Env) (r : Ex) (o : Option Env) : R Ex := match o with
  | some ρ' => .ok r ρ'
  | none => .stuck
theorem backE_some {r : Ex} {ρ' : Env} : backE ρ r (some ρ') = .ok r ρ' := rfl
/-- what comes back from a call -/
def back (as : List AV) (ρ : Env) (x : CR) : R Ex := match x with
  | .ok r outs => backE ρ r (backTo ρ (owns as) outs)
  | .exc c fs => if (owns as).isEmpty = true then .exc c fs ρ else .stuck
  | .stuck => .stuck
theorem back_ok {as : List AV} {r : Ex} {outs : List (List D)} : back as ρ (.ok r outs) = backE ρ r (backTo ρ (owns as) outs) := rfl
theorem back_exc {as : List AV} {k : Nat} {fs : List (Str × D)} : back as ρ (.exc k fs) = if (owns as).isEmpty = true then .exc k fs ρ else .stuck := rfl
def goK (C : Calls) (k : Nat) (as : List AV) (ρ : Env) (o : Option (List Arg)) : R Ex := match o with
  | none => .stuck
  | some xs => back as ρ (C k xs)
theorem goK_some {k : Nat} {as : List AV} {xs : List Arg} : goK C k as ρ (some xs) = back as ρ (C k xs) := rfl
theorem x_do {k : Nat} {as : List AV} : doCall k as C ρ = if nodupN (owns as) = true then goK C k as ρ (argsOf ρ as) else .stuck := by
  unfold doCall
  split
  · cases argsOf ρ as with
    | none => rfl
    | some xs =>
      simp only [goK]
      generalize C k xs = y
      cases y with
      | ok r outs =>
        simp only [back]
        cases backTo ρ (owns as) outs <;> rfl
      | exc c fs => rfl
      | stuck => rfl
  · rfl
theorem x_Call {k : Nat} {as : List AD} : dCall k as C ρ = bnd (fun xs ρ1 => doCall k xs C ρ1) ⟨⟩ (argsE as C ρ) := rfl
theorem x_CallK {k : Nat} {p : List Nat} {as : List AD} : dCallK k p as C ρ = bnd (fun xs ρ1 => doCall k (permL p xs) C ρ1) ⟨⟩ (argsE as C ρ) := rfl
def vK (as : List AD) (C : Calls) (ρ : Env) (o : Option Sl) : R Ex := match o with
  | some (.val (.fn f)) => bnd (fun xs ρ1 => doCall f xs C ρ1) ⟨⟩ (argsE as C ρ)
  | _ => .stuck
theorem vK_fn {k : Nat} {as : List AD} : vK as C ρ (some (.val (.fn k))) = bnd (fun xs ρ1 => doCall k xs C ρ1) ⟨⟩ (argsE as C ρ) := rfl
theorem x_CallV {i : Nat} {as : List AD} : dCallV i as C ρ = vK as C ρ ρ[i]? := by
  unfold dCallV vK
  cases ρ[i]? with
  | none => rfl
  | some s =>
    cases s with
    | val d => cases d <;> rfl
    | _ => rfl
/-! statements -/
variable {A B : DS}
theorem x_Seq : sSeq A B C ρ = obnd (fun ρ1 => B C ρ1) ⟨⟩ (A C ρ) := rfl
theorem x_Pass : sPass C ρ = .next ρ := rfl
theorem x_Brk : sBrk C ρ = .brk ρ := rfl
theorem x_Cont : sCont C ρ = .cont ρ := rfl
theorem x_Set {i : Nat} : sSet i a C ρ = outK (fun x ρ1 => toS (stSl ρ1 i x.sl)) ⟨⟩ (a C ρ) := by
  unfold sSet outK
  cases a C ρ with
  | ok x ρ1 => simp only [R.out]; cases stSl ρ1 i x.sl <;> rfl
  | _ => rfl
theorem x_Unp {l : List Nat} : sUnp l a C ρ = outK (fun x ρ1 => toS ((Tg.t l).st ρ1 x.frz)) ⟨⟩ (a C ρ) := by
  unfold sUnp outK
  cases a C ρ with
  | ok x ρ1 => simp only [R.out]; cases (Tg.t l).st ρ1 x.frz <;> rfl
  | _ => rfl
theorem x_Par {i j : Nat} : sPar i j a b C ρ = outK (fun xs ρ1 => toS (stAll ρ1 [i, j] xs)) ⟨⟩ (dAll [a, b] C ρ) := by
  unfold sPar outK
  cases dAll [a, b] C ρ with
  | ok x ρ1 => simp only [R.out]; cases stAll ρ1 [i, j] x <;> rfl
  | _ => rfl
theorem x_Expr : sExpr a C ρ = outK (fun _ ρ1 => .next ρ1) ⟨⟩ (a C ρ) := rfl
theorem x_Ret : sRet a C ρ = outK (fun x ρ1 => .ret x ρ1) ⟨⟩ (a C ρ) := rfl
def retK (ρ : Env) (i : Nat) (o : Option Sl) : Out := match o with
  | some (.val d) => .ret (.d d) ρ
  | some (.own l) => .ret (.fresh l) (ρ.set i .none)
  | _ => .stuck
theorem retK_v {i : Nat} {d : D} : retK ρ i (some (.val d)) = .ret (.d d) ρ := rfl
theorem retK_o {i : Nat} {l : List D} : retK ρ i (some (.own l)) = .ret (.fresh l) (ρ.set i .none) := rfl
theorem x_RetV {i : Nat} : sRetV i C ρ = retK ρ i ρ[i]? := rfl
theorem x_RetN : sRetN C ρ = .ret (.d .non) ρ := rfl
theorem x_SIf : sIf t A B C ρ = outK (fun k ρ1 => pk (fun k => if k = true then A C ρ1 else B C ρ1) ⟨⟩ k) ⟨⟩ (t C ρ) := rfl
theorem x_For {tg : Tg} {it : ID} : sFor tg it A C ρ = outK (fun l ρ1 => forL tg A C l ρ1) ⟨⟩ (it C ρ) := rfl
theorem x_Raise {k : Nat} {fl : List Str} {es : List Den} : sRaise k fl es C ρ = outK (fun xs ρ1 => if xs.length = fl.length then .exc k (fl.zip xs) ρ1 else .stuck) ⟨⟩ (dAll es C ρ) := rfl
def itK (ρ : Env) (o : Option (List D)) : R (List D) := match o with
  | some l => .ok l ρ
  | none => .stuck
theorem itK_some {l : List D} : itK ρ (some l) = .ok l ρ := rfl
theorem x_iE : iE a C ρ = bnd (fun x ρ1 => itK ρ1 x.frz.items?) ⟨⟩ (a C ρ) := by
  unfold iE bnd
  cases a C ρ with
  | ok x ρ1 => simp only [R.bind]; cases x.frz.items? <;> rfl
  | _ => rfl
def rgK (ρ : Env) (o : Option Int) : R (List D) := match o with
  | some n => if -16777216 < n ∧ n < 16777216 then .ok (rng 0 n) ρ else .stuck
  | none => .stuck
theorem rgK_some {n : Int} (h : -16777216 < n ∧ n < 16777216) : rgK ρ (some n) = .ok (rng 0 n) ρ := if_pos h
theorem x_iR1 : iR1 a C ρ = bnd (fun x ρ1 => rgK ρ1 x.frz.asInt?) ⟨⟩ (a C ρ) := by
  unfold iR1 bnd
  cases a C ρ with
  | ok x ρ1 => simp only [R.bind]; cases x.frz.asInt? <;> rfl
  | _ => rfl
def tryK (hs : List Hd) (C : Calls) (o : Out) : Out := match o with
  | .exc c fs ρ1 => handle C c fs ρ1 hs
  | o => o
theorem x_Try {hs : List Hd} : sTry A hs C ρ = tryK hs C (A C ρ) := by
  unfold sTry tryK
  cases A C ρ <;> rfl
theorem try_ret {hs : List Hd} {r : Ex} : tryK hs C (.ret r ρ) = .ret r ρ := rfl
theorem try_next {hs : List Hd} : tryK hs C (.next ρ) = .next ρ := rfl
def h1K (C : Calls) (h : DS) (i : Nat) (o : Option Env) : Out := match o with
  | some ρ1 => (h C ρ1).suite (some i)
  | none => .stuck
theorem h1K_some {h : DS} {i : Nat} : h1K C h i (some ρ) = (h C ρ).suite (some i) := rfl
theorem try_exc {m : Nat → Bool} {i k : Nat} {h : DS} {fs : List (Str × D)} (hm : m k = true) : tryK [⟨m, some i, h⟩] C (.exc k fs ρ) = h1K C h i (stSl ρ i (.exn k fs)) := by
  show handle C k fs ρ [⟨m, some i, h⟩] = _
  unfold handle
  rw [if_pos hm]
  simp only []
  cases stSl ρ i (.exn k fs) <;> rfl
theorem suite_ret {i : Nat} {r : Ex} : (Out.ret r ρ).suite (some i) = .ret r (ρ.set i .none) := rfl
theorem suite_next {i : Nat} : (Out.next ρ).suite (some i) = .next (ρ.set i .none) := rfl
def fldK (ρ : Env) (f : Str) (o : Option Sl) : R Ex := match o with
  | some (.exn _ fs) => (match fs.lookup f with
    | some d => .ok (.d d) ρ
    | none => .stuck)
  | _ => .stuck
theorem fldK_some {k : Nat} {fs : List (Str × D)} {f : Str} {d : D} (h : fs.lookup f = some d) : fldK ρ f (some (.exn k fs)) = .ok (.d d) ρ := by
  show (match fs.lookup f with
    | some d => R.ok (Ex.d d) ρ
    | none => .stuck) = _
  rw [h]
theorem x_Fld {i : Nat} {f : Str} : dFld i f C ρ = fldK ρ f ρ[i]? := by
  unfold dFld fldK
  cases ρ[i]? with
  | none => rfl
  | some s => cases s <;> rfl
theorem x_forN {tg : Tg} : forL tg A C [] ρ = .next ρ := rfl
/-- a turn's end -/
def turnO (f : Env → Out) (_ : Hold f) (o : Out) : Out := match o with
  | .next ρ2 => f ρ2
  | .cont ρ2 => f ρ2
  | .brk ρ2 => .next ρ2
  | .ret r ρ2 => .ret r ρ2
  | .exc c fs ρ2 => .exc c fs ρ2
  | .stuck => .stuck
theorem turn_next {f : Env → Out} {h : Hold f} : turnO f h (.next ρ) = f ρ := rfl
theorem turn_cont {f : Env → Out} {h : Hold f} : turnO f h (.cont ρ) = f ρ := rfl
theorem turn_brk {f : Env → Out} {h : Hold f} : turnO f h (.brk ρ) = .next ρ := rfl
theorem turn_ret {r : Ex} {f : Env → Out} {h : Hold f} : turnO f h (.ret r ρ) = .ret r ρ := rfl
def stK (f : Env → Out) (_ : Hold f) (o : Option Env) : Out := match o with
  | some ρ1 => f ρ1
  | none => .stuck
theorem stK_some {f : Env → Out} {h : Hold f} : stK f h (some ρ) = f ρ := rfl
theorem x_forC {tg : Tg} {x : D} {xs : List D} : forL tg A C (x :: xs) ρ = stK (fun ρ1 => turnO (fun ρ2 => forL tg A C xs ρ2) ⟨⟩ (A C ρ1)) ⟨⟩ (tg.st ρ x) := by
  show (match tg.st ρ x with
    | none => Out.stuck
    | some ρ1 => _) = _
  cases tg.st ρ x with
  | none => rfl
  | some ρ1 =>
    simp only [stK, turnO]
    try (generalize A C ρ1 = y; cases y <;> rfl)
/-! a def called -/
/-- a body's end -/
def endF (args : List Arg) (o : Out) : CR := match o with
  | .ret r ρ => finish args r ρ
  | .next ρ => finish args (.d .non) ρ
  | .exc c fs _ => if args.any Arg.isOwn = true then .stuck else .exc c fs
  | _ => .stuck
theorem end_ret {args : List Arg} {r : Ex} : endF args (.ret r ρ) = finish args r ρ := rfl
theorem end_next {args : List Arg} : endF args (.next ρ) = finish args (.d .non) ρ := rfl
theorem end_exc {args : List Arg} {k : Nat} {fs : List (Str × D)} : endF args (.exc k fs ρ) = if args.any Arg.isOwn = true then .stuck else .exc k fs := rfl
theorem callN_eq {T : List FD} {n i : Nat} {args : List Arg} {np ns : Nat} {d : DS} (hT : T[i]? = some ⟨np, ns, d⟩) (hl : args.length = np) : callN T (n + 1) i args = endF args (d (callN T n) (args.map Arg.sl ++ List.replicate (ns - np) .none)) := by
  show (match T[i]? with | some fd => runF fd (callN T n) args | none => .stuck) = _
  rw [hT]
  show runF _ _ _ = _
  unfold runF
  rw [if_pos hl]
  show (match d (callN T n) (args.map Arg.sl ++ List.replicate (ns - np) .none) with
    | .ret r ρ => finish args r ρ
    | .next ρ => finish args (.d .non) ρ
    | .exc c fs _ => if args.any Arg.isOwn then .stuck else .exc c fs
    | _ => .stuck) = _
  cases d (callN T n) (args.map Arg.sl ++ List.replicate (ns - np) .none) <;> rfl
/-! operators -/
theorem tr_bl {k : Bool} : truth (.bl k) = some k := rfl
theorem tr_int {i : Int} : truth (.int i) = some (i != 0) := rfl
theorem f_add {i j : Int} : fAdd (.int i) (.int j) = some (.d (.int (i + j))) := rfl
theorem f_sub {i j : Int} : fSub (.int i) (.int j) = some (.d (.int (i - j))) := rfl
theorem f_mul {i j : Int} (h : mulOk i j = true) : fMul (.int i) (.int j) = some (.d (.int (i * j))) := by
  show (if mulOk i j then some (Ex.d (.int (i * j))) else none) = _
  rw [if_pos h]
theorem f_div {i j : Int} (h : divOk j = true) : fDiv (.int i) (.int j) = some (.d (.int (i.fdiv j))) := by
  show (if divOk j then some (Ex.d (.int (i.fdiv j))) else none) = _
  rw [if_pos h]
theorem f_mod {i j : Int} (h : j ≠ 0) : fMod (.int i) (.int j) = some (.d (.int (i.fmod j))) := by
  show (if j ≠ 0 then some (Ex.d (.int (i.fmod j))) else none) = _
  rw [if_pos h]
theorem f_neg {i : Int} : fNeg (.int i) = some (.d (.int (-i))) := rfl
theorem f_lt {i j : Int} : fLt (.int i) (.int j) = some (.d (.bl (decide (i < j)))) := rfl
theorem f_le {i j : Int} : fLe (.int i) (.int j) = some (.d (.bl (decide (i ≤ j)))) := rfl
theorem f_gt {i j : Int} : fGt (.int i) (.int j) = some (.d (.bl (decide (j < i)))) := rfl
theorem f_ge {i j : Int} : fGe (.int i) (.int j) = some (.d (.bl (decide (j ≤ i)))) := rfl
theorem f_eqI {i j : Int} : fEq (.int i) (.int j) = some (.d (.bl (i == j))) := rfl
theorem f_neI {i j : Int} : fNe (.int i) (.int j) = some (.d (.bl (!(i == j)))) := rfl
theorem f_eqB {i j : Bool} : fEq (.bl i) (.bl j) = some (.d (.bl (i == j))) := rfl
theorem f_isN {x : D} : fIs x .non = some (.d (.bl x.isNon)) := by cases x <;> rfl
theorem f_isNotN {x : D} : fIsNot x .non = some (.d (.bl (!x.isNon))) := by cases x <;> rfl
end
end RX
set_option Elab.async false
set_option linter.all false
set_option maxRecDepth 100000
set_option maxHeartbeats 4000000
/-! RXv: loops and comprehensions of the evaluator. -/
namespace RX
open PySem
section
variable {C : Calls} {ρ : Env}
theorem for_inv {tg : Tg} {A : DS} (P : Nat → Env → Prop) : ∀ {l : List D} {k : Nat} {ρ : Env}, P k ρ → (∀ i x ρ, l[i]? = some x → P (k + i) ρ → ∃ ρ1 ρ2, tg.st ρ x = some ρ1 ∧ (A C ρ1 = .next ρ2 ∨ A C ρ1 = .cont ρ2) ∧ P (k + i + 1) ρ2) →
    ∃ ρ', forL tg A C l ρ = .next ρ' ∧ P (k + l.length) ρ'
  | [], k, ρ, h, _ => ⟨ρ, rfl, h⟩
  | x :: xs, k, ρ, h, hs => by
    obtain ⟨ρ1, ρ2, e1, e2, h2⟩ := hs 0 x ρ rfl h
    obtain ⟨ρ', e3, h3⟩ := for_inv P (l := xs) (k := k + 1) (ρ := ρ2) h2 fun i y ρ hy hp => by
      have := hs (i + 1) y ρ (by simpa using hy) (by rw [show k + (i + 1) = k + 1 + i by omega]; exact hp)
      rw [show k + (i + 1) = k + 1 + i by omega] at this
      exact this
    refine ⟨ρ', ?_, by rw [List.length_cons, show k + (xs.length + 1) = k + 1 + xs.length by omega]; exact h3⟩
    rw [x_forC, e1, stK_some]
    rcases e2 with e2 | e2
    · rw [e2, turn_next]; exact e3
    · rw [e2, turn_cont]; exact e3
/-- over range(n) -/
theorem for_rng {tg : Tg} {A : DS} (P : Nat → Env → Prop) {n : Nat} (h0 : P 0 ρ) (hs : ∀ (i : Nat) (ρ : Env), i < n → P i ρ → ∃ ρ1 ρ2, tg.st ρ (.int (i : Int)) = some ρ1 ∧ (A C ρ1 = .next ρ2 ∨ A C ρ1 = .cont ρ2) ∧ P (i + 1) ρ2) :
    ∃ ρ', forL tg A C (rng 0 n) ρ = .next ρ' ∧ P n ρ' := by
  have hl : (rng 0 (n : Int)).length = n := by rw [rng_len]; omega
  obtain ⟨ρ', e, h⟩ := for_inv (C := C) (tg := tg) (A := A) P (l := rng 0 n) (k := 0) h0 fun i x ρ hx hp => by
    obtain ⟨h1, h2⟩ := rng_get hx
    subst h2
    rw [Nat.zero_add] at hp ⊢
    have := hs i ρ (by omega) hp
    rw [show (0 : Int) + i = i by omega]
    exact this
  rw [hl, Nat.zero_add] at h
  exact ⟨ρ', e, h⟩
/-- a comprehension that leaves the state -/
theorem comp_of {vs : List Nat} {tg : Tg} {elt : Den} {g : D → D} (hw : wipe ρ vs = ρ) : ∀ {l : List D}, (∀ x ∈ l, ∃ ρ1 y ρ2, tg.st ρ x = some ρ1 ∧ elt C ρ1 = .ok y ρ2 ∧ y.frz = g x ∧ wipe ρ2 vs = ρ) → compL vs tg (tests []) elt C l ρ = .ok (l.map g) ρ
  | [], _ => by show R.ok [] (wipe ρ vs) = _; rw [hw]; rfl
  | x :: xs, h => by
    obtain ⟨ρ1, y, ρ2, e1, e2, e3, e4⟩ := h x List.mem_cons_self
    have ih := comp_of (tg := tg) (elt := elt) (g := g) hw (l := xs) fun z hz => h z (List.mem_cons_of_mem _ hz)
    have e5 : compL vs tg (tests []) elt C xs ρ2 = compL vs tg (tests []) elt C xs ρ := by rw [← compL_wipe (ρ := ρ2), e4]
    unfold compL
    rw [hw, e1]
    show ((R.ok true ρ1 : R Bool).bind fun b ρ2 => if b then (elt C ρ2).bind fun y ρ3 => (compL vs tg (tests []) elt C xs ρ3).bind fun ys ρ4 => .ok (y.frz :: ys) ρ4 else compL vs tg (tests []) elt C xs ρ2) = _
    show (elt C ρ1).bind _ = _
    rw [e2]
    show (compL vs tg (tests []) elt C xs ρ2).bind _ = _
    rw [e5, ih]
    show R.ok (y.frz :: xs.map g) ρ = _
    rw [e3]
    rfl
/-- .. that changes it: P i, ahead of item i; Q i y, what item i is -/
theorem comp_st {vs : List Nat} {tg : Tg} {elt : Den} (P : Nat → Env → Prop) (Q : Nat → D → Prop) : ∀ {l : List D} {k : Nat} {ρ : Env}, P k (wipe ρ vs) → (∀ i x ρ, l[i]? = some x → P (k + i) (wipe ρ vs) → ∃ ρ1 y ρ2, tg.st (wipe ρ vs) x = some ρ1 ∧ elt C ρ1 = .ok y ρ2 ∧ Q (k + i) y.frz ∧ P (k + i + 1) (wipe ρ2 vs)) →
    ∃ ys ρ', compL vs tg (tests []) elt C l ρ = .ok ys ρ' ∧ ys.length = l.length ∧ (∀ i y, ys[i]? = some y → Q (k + i) y) ∧ P (k + l.length) ρ'
  | [], k, ρ, h, _ => ⟨[], _, rfl, rfl, fun i y h => by simp at h, h⟩
  | x :: xs, k, ρ, h, hs => by
    obtain ⟨ρ1, y, ρ2, e1, e2, e3, e4⟩ := hs 0 x ρ rfl h
    obtain ⟨ys, ρ', e5, e6, e7, e8⟩ := comp_st (tg := tg) (elt := elt) P Q (l := xs) (k := k + 1) (ρ := ρ2) e4 fun i z ρ hz hp => by
      have := hs (i + 1) z ρ (by simpa using hz) (by rw [show k + (i + 1) = k + 1 + i by omega]; exact hp)
      rw [show k + (i + 1) = k + 1 + i by omega] at this
      exact this
    refine ⟨y.frz :: ys, ρ', ?_, by rw [List.length_cons, List.length_cons, e6], fun i z hz => ?_, by rw [List.length_cons, show k + (xs.length + 1) = k + 1 + xs.length by omega]; exact e8⟩
    · unfold compL
      rw [e1]
      show (elt C ρ1).bind _ = _
      rw [e2]
      show (compL vs tg (tests []) elt C xs ρ2).bind _ = _
      rw [e5]
      rfl
    · cases i with
      | zero => simp at hz; subst hz; exact e3
      | succ i =>
        have := e7 i z (by simpa using hz)
        rw [show k + (i + 1) = k + 1 + i by omega]
        exact this
/-- the comprehension itself -/
theorem x_Comp {vs : List Nat} {it : ID} {tg : Tg} {ts : TD} {elt : Den} {l ys : List D} {ρ1 ρ2 : Env} (h1 : it C ρ = .ok l ρ1) (hl : l.length < LIM) (hf : vs.all (fun v => free1 ρ1[v]?) = true) (h2 : compL vs tg ts elt C l (wipe ρ1 vs) = .ok ys ρ2) :
    dComp vs it tg ts elt C ρ = .ok (.fresh ys) (unwipe ρ1 ρ2 vs) := by
  unfold dComp
  rw [h1]
  show (if l.length < LIM ∧ vs.all (fun v => free1 ρ1[v]?) then (compL vs tg ts elt C l (wipe ρ1 vs)).noExc.bind fun ys ρ2 => R.ok (Ex.fresh ys) (unwipe ρ1 ρ2 vs) else R.stuck) = _
  rw [if_pos ⟨hl, hf⟩, h2]
  rfl
theorem ix_nat {l : List D} {i : Nat} {x : D} (h : l[i]? = some x) : fIx (.tup l) (.int i) = some (.d x) ∧ fIx (.lst l) (.int i) = some (.d x) := by
  have hi := (List.getElem?_eq_some_iff.mp h).1
  have e : atD l i = some x := by
    unfold atD ixN
    rw [if_pos (by omega), if_pos (by omega)]
    show l[(i : Int).toNat]? = some x
    rw [Int.toNat_natCast]
    exact h
  constructor
  · show (atD l i).map Ex.d = _; rw [e]; rfl
  · show (atD l i).map Ex.d = _; rw [e]; rfl
end
end RX
set_option Elab.async false
set_option linter.all false
set_option maxRecDepth 100000
set_option maxHeartbeats 0
namespace K01
open PySem PySem.Spec PyProof.Rows L2 RX
abbrev prog : Program := PySem.Challenge.pw_oneistrue_k01_whole_quotients
abbrev top (i : Nat) : Stmt := prog.main.body.getD i (.Pass ⟨0, 0, 0, 0⟩)
def m_NotUsable : Nat → Bool := fun _ => true
def fi (n : Str) (i : Nat) (ps : List Str) (kw : List (List Str × List Nat)) : Str × FnI := (n, ⟨i, ps, kw⟩)
def fns : List (Str × FnI) := [fi "is_integer" 0 ["thing"] [],
    fi "is_number" 1 ["thing"] [],
    fi "is_quotient" 2 ["thing"] [],
    fi "ask" 3 ["name", "good"] [],
    fi "reduced" 4 ["top", "bottom"] [],
    fi "added" 5 ["one", "other"] [],
    fi "_ask_both" 6 ["one", "other"] [],
    fi "quotient_of" 7 ["top", "bottom"] [(["bottom", "top"], [1, 0])],
    fi "plus" 8 ["one", "other"] [(["other", "one"], [1, 0])],
    fi "minus" 9 ["one", "other"] [(["other", "one"], [1, 0])],
    fi "times" 10 ["one", "other"] [(["other", "one"], [1, 0])],
    fi "over" 11 ["one", "other"] [(["other", "one"], [1, 0])],
    fi "is_less" 12 ["one", "other"] [(["other", "one"], [1, 0])],
    fi "raised" 13 ["one", "many"] [(["many", "one"], [1, 0])],
    fi "total" 14 ["quotients"] [(["quotients"], [0])],
    fi "_law_feed" 15 ["script"] [],
    fi "_law_take" 16 ["feed", "width"] [],
    fi "_law_whole" 17 ["x"] [],
    fi "_law_same" 18 ["actual", "due"] [],
    fi "_law_share" 19 ["a", "b"] [],
    fi "_law_ratio" 20 ["x"] [],
    fi "_law_is" 21 ["actual", "above", "below"] [],
    fi "_law_long" 22 ["feed", "width"] [],
    fi "_law_parts" 23 ["feed"] [],
    fi "_law_quotient" 24 ["feed"] [],
    fi "_law_two" 25 ["deed", "a", "b"] [],
    fi "_law_one" 26 ["x"] [],
    fi "_law_powers" 27 ["a", "times_many"] [],
    fi "_law_sums" 28 ["a", "b"] [],
    fi "_law_named" 29 ["a", "b", "count"] [],
    fi "_law_totals" 30 ["row"] [],
    fi "_law_made" 31 ["above", "below"] [],
    fi "_law_bad" 32 ["feed"] [],
    fi "_law_refused_pairs" 33 ["bad", "good"] [],
    fi "_law_refused_rest" 34 ["bad", "good", "odd"] [],
    fi "_law_rest" 35 ["feed", "c"] [],
    fi "law" 36 ["script"] []]
def cls : List (Str × Nat × List Str) := [(("NotUsable" : Str), 0, ["word", "at"])]
def exm : List (Str × (Nat → Bool)) := [(("NotUsable" : Str), m_NotUsable)]
def mi : Mi := ⟨fns, cls, exm, ["at", "word"], ["abs", "all", "bool", "int", "isinstance", "len", "max", "range", "str", "tuple"], [(("gcd" : Str), "math.gcd")], []⟩
def N0 : List Str := ["thing"]
/-- is_integer -/
noncomputable def d0 : DS := (sRet (dAnd (dB1 (bIsi .int) 0) (dNot (dB1 (bIsi .bool) 0))))
theorem c0 : (cBody mi N0 (defScope (top 6)) (defBody (top 6))).map (·.1) = some d0 := by kernel_rfl
def N1 : List Str := ["thing"]
/-- is_number -/
noncomputable def d1 : DS := (sRet (dAnd (dCall 0 [.v 0]) (dOp fGe (dVar 0) (dC (.int 0)))))
theorem c1 : (cBody mi N1 (defScope (top 7)) (defBody (top 7))).map (·.1) = some d1 := by kernel_rfl
def N2 : List Str := ["thing", "top", "bottom"]
/-- is_quotient -/
noncomputable def d2 : DS := (sSeq (sIf (tOr (tNot (tE (dB1 (bIsi .tuple) 0))) (tCmpB fNe (dB1 bLen 0) (dC (.int 2)))) (sRet (dC (.bl false))) sPass) (sSeq (sUnp [1, 2] (dVar 0)) (sSeq (sIf (tOr (tNot (tE (dCall 0 [.v 1]))) (tOr (tNot (tE (dCall 1 [.v 2]))) (tCmpB fEq (dVar 2) (dC (.int 0))))) (sRet (dC (.bl false))) sPass) (sRet (dOp fEq (dB bGcd [(dVar 1), (dVar 2)]) (dC (.int 1)))))))
theorem c2 : (cBody mi N2 (defScope (top 8)) (defBody (top 8))).map (·.1) = some d2 := by kernel_rfl
def N3 : List Str := ["name", "good"]
/-- ask -/
noncomputable def d3 : DS := (sIf (tNot (tE (dVar 1))) (sRaise 0 ["word", "at"] [(dVar 0), (dUn fNeg (dC (.int 1)))]) sPass)
theorem c3 : (cBody mi N3 (defScope (top 10)) (defBody (top 10))).map (·.1) = some d3 := by kernel_rfl
def N4 : List Str := ["top", "bottom", "part"]
/-- reduced -/
noncomputable def d4 : DS := (sSeq (sSet 2 (dB bGcd [(dVar 0), (dVar 1)])) (sSeq (sIf (tCmpB fLt (dVar 1) (dC (.int 0))) (sSet 2 (dUn fNeg (dVar 2))) sPass) (sRet (dTup [(dOp fDiv (dVar 0) (dVar 2)), (dOp fDiv (dVar 1) (dVar 2))]))))
theorem c4 : (cBody mi N4 (defScope (top 11)) (defBody (top 11))).map (·.1) = some d4 := by kernel_rfl
def N5 : List Str := ["one", "other"]
/-- added -/
noncomputable def d5 : DS := (sRet (dCall 4 [.e (dOp fAdd (dOp fMul (dIxV 0 (dC (.int 0))) (dIxV 1 (dC (.int 1)))) (dOp fMul (dIxV 1 (dC (.int 0))) (dIxV 0 (dC (.int 1))))), .e (dOp fMul (dIxV 0 (dC (.int 1))) (dIxV 1 (dC (.int 1))))]))
theorem c5 : (cBody mi N5 (defScope (top 12)) (defBody (top 12))).map (·.1) = some d5 := by kernel_rfl
def N6 : List Str := ["one", "other"]
/-- _ask_both -/
noncomputable def d6 : DS := (sSeq (sExpr (dCall 3 [.e (dC (.str "one")), .e (dCall 2 [.v 0])])) (sExpr (dCall 3 [.e (dC (.str "other")), .e (dCall 2 [.v 1])])))
theorem c6 : (cBody mi N6 (defScope (top 14)) (defBody (top 14))).map (·.1) = some d6 := by kernel_rfl
def N7 : List Str := ["top", "bottom"]
/-- quotient_of -/
noncomputable def d7 : DS := (sSeq (sExpr (dCall 3 [.e (dC (.str "top")), .e (dCall 0 [.v 0])])) (sSeq (sExpr (dCall 3 [.e (dC (.str "bottom")), .e (dAnd (dCall 0 [.v 1]) (dOp fNe (dVar 1) (dC (.int 0))))])) (sRet (dCall 4 [.v 0, .v 1]))))
theorem c7 : (cBody mi N7 (defScope (top 15)) (defBody (top 15))).map (·.1) = some d7 := by kernel_rfl
def N8 : List Str := ["one", "other"]
/-- plus -/
noncomputable def d8 : DS := (sSeq (sExpr (dCall 6 [.v 0, .v 1])) (sRet (dCall 5 [.v 0, .v 1])))
theorem c8 : (cBody mi N8 (defScope (top 16)) (defBody (top 16))).map (·.1) = some d8 := by kernel_rfl
def N9 : List Str := ["one", "other"]
/-- minus -/
noncomputable def d9 : DS := (sSeq (sExpr (dCall 6 [.v 0, .v 1])) (sRet (dCall 5 [.v 0, .e (dTup [(dUn fNeg (dIxV 1 (dC (.int 0)))), (dIxV 1 (dC (.int 1)))])])))
theorem c9 : (cBody mi N9 (defScope (top 17)) (defBody (top 17))).map (·.1) = some d9 := by kernel_rfl
def N10 : List Str := ["one", "other"]
/-- times -/
noncomputable def d10 : DS := (sSeq (sExpr (dCall 6 [.v 0, .v 1])) (sRet (dCall 4 [.e (dOp fMul (dIxV 0 (dC (.int 0))) (dIxV 1 (dC (.int 0)))), .e (dOp fMul (dIxV 0 (dC (.int 1))) (dIxV 1 (dC (.int 1))))])))
theorem c10 : (cBody mi N10 (defScope (top 18)) (defBody (top 18))).map (·.1) = some d10 := by kernel_rfl
def N11 : List Str := ["one", "other"]
/-- over -/
noncomputable def d11 : DS := (sSeq (sExpr (dCall 6 [.v 0, .v 1])) (sSeq (sExpr (dCall 3 [.e (dC (.str "other")), .e (dOp fNe (dIxV 1 (dC (.int 0))) (dC (.int 0)))])) (sRet (dCall 4 [.e (dOp fMul (dIxV 0 (dC (.int 0))) (dIxV 1 (dC (.int 1)))), .e (dOp fMul (dIxV 0 (dC (.int 1))) (dIxV 1 (dC (.int 0))))]))))
theorem c11 : (cBody mi N11 (defScope (top 19)) (defBody (top 19))).map (·.1) = some d11 := by kernel_rfl
def N12 : List Str := ["one", "other"]
/-- is_less -/
noncomputable def d12 : DS := (sSeq (sExpr (dCall 6 [.v 0, .v 1])) (sRet (dOp fLt (dOp fMul (dIxV 0 (dC (.int 0))) (dIxV 1 (dC (.int 1)))) (dOp fMul (dIxV 1 (dC (.int 0))) (dIxV 0 (dC (.int 1)))))))
theorem c12 : (cBody mi N12 (defScope (top 20)) (defBody (top 20))).map (·.1) = some d12 := by kernel_rfl
def N13 : List Str := ["one", "many", "top", "bottom", "_"]
/-- raised -/
noncomputable def d13 : DS := (sSeq (sExpr (dCall 3 [.e (dC (.str "one")), .e (dCall 2 [.v 0])])) (sSeq (sExpr (dCall 3 [.e (dC (.str "many")), .e (dCall 1 [.v 1])])) (sSeq (sSet 2 (dC (.int 1))) (sSeq (sSet 3 (dC (.int 1))) (sSeq (sFor (.v 4) (iR1 (dVar 1)) (sSeq (sSet 2 (dOp fMul (dVar 2) (dIxV 0 (dC (.int 0))))) (sSet 3 (dOp fMul (dVar 3) (dIxV 0 (dC (.int 1))))))) (sRet (dTup [(dVar 2), (dVar 3)])))))))
theorem c13 : (cBody mi N13 (defScope (top 21)) (defBody (top 21))).map (·.1) = some d13 := by kernel_rfl
def N14 : List Str := ["quotients", "one", "whole"]
/-- total -/
noncomputable def d14 : DS := (sSeq (sExpr (dCall 3 [.e (dC (.str "quotients")), .e (dAnd (dB1 (bIsi .tuple) 0) (dB bAll [(dComp [1] (iE (dVar 0)) (.v 1) (tests []) (dCall 2 [.v 1]))]))])) (sSeq (sSet 2 (dTup [(dC (.int 0)), (dC (.int 1))])) (sSeq (sFor (.v 1) (iE (dVar 0)) (sSet 2 (dCall 5 [.v 2, .v 1]))) (sRetV 2))))
theorem c14 : (cBody mi N14 (defScope (top 22)) (defBody (top 22))).map (·.1) = some d14 := by kernel_rfl
def N15 : List Str := ["script", "state", "digits", "cell", "rest", "k"]
/-- _law_feed -/
noncomputable def d15 : DS := (sSeq (sSet 1 (dC (.int 390217))) (sSeq (sSet 2 (dLst [])) (sSeq (sFor (.v 3) (iE (dVar 0)) (sSeq (sSet 1 (dOp fMod (dOp fAdd (dOp fMul (dVar 1) (dC (.int 40503))) (dVar 3)) (dC (.int 2147483587)))) (sSeq (sSet 4 (dB1 bAbs 3)) (sIf (tCmpB fGe (dVar 4) (dOp fPow (dC (.int 10)) (dC (.int 18)))) (sFor (.v 5) (iR1 (dC (.int 60))) (sIf (tCmpB fGt (dVar 4) (dC (.int 0))) (sSeq (sApp 2 (dOp fMod (dVar 4) (dC (.int 100003)))) (sSet 4 (dOp fDiv (dVar 4) (dC (.int 100003))))) sPass)) sPass)))) (sRet (dOp fAdd (dLst [(dVar 1)]) (dComp [5] (iR1 (dB1 bLen 2)) (.v 5) (tests []) (dIxV 2 (dOp fSub (dOp fSub (dB1 bLen 2) (dC (.int 1))) (dVar 5)))))))))
theorem c15 : (cBody mi N15 (defScope (top 24)) (defBody (top 24))).map (·.1) = some d15 := by kernel_rfl
def N16 : List Str := ["feed", "width"]
/-- _law_take -/
noncomputable def d16 : DS := (sSeq (sIf (tCmpB fGt (dB1 bLen 0) (dC (.int 1))) (sRet (dOp fMod (dB bInt [(dPop 0)]) (dVar 1))) sPass) (sSeq (sPut 0 (dC (.int 0)) (dOp fMod (dOp fAdd (dOp fMul (dB bInt [(dIxV 0 (dC (.int 0)))]) (dC (.int 16807))) (dC (.int 4421))) (dC (.int 2147483587)))) (sRet (dOp fMod (dOp fDiv (dB bInt [(dIxV 0 (dC (.int 0)))]) (dC (.int 64))) (dVar 1)))))
theorem c16 : (cBody mi N16 (defScope (top 25)) (defBody (top 25))).map (·.1) = some d16 := by kernel_rfl
def N17 : List Str := ["x"]
/-- _law_whole -/
noncomputable def d17 : DS := (sRet (dAnd (dB1 (bIsi .int) 0) (dNot (dB1 (bIsi .bool) 0))))
theorem c17 : (cBody mi N17 (defScope (top 26)) (defBody (top 26))).map (·.1) = some d17 := by kernel_rfl
def N18 : List Str := ["actual", "due", "k"]
/-- _law_same -/
noncomputable def d18 : DS := (sSeq (sIf (tCmpB fIs (dVar 1) (dC .non)) (sRet (dOp fIs (dVar 0) (dC .non))) sPass) (sSeq (sIf (tE (dB1 (bIsi .bool) 1)) (sRet (dAnd (dB1 (bIsi .bool) 0) (dOp fEq (dVar 0) (dVar 1)))) sPass) (sSeq (sIf (tE (dB1 (bIsi .int) 1)) (sRet (dAnd (dCall 17 [.v 0]) (dOp fEq (dVar 0) (dVar 1)))) sPass) (sSeq (sIf (tE (dB1 (bIsi .str) 1)) (sRet (dAnd (dB1 (bIsi .str) 0) (dOp fEq (dVar 0) (dVar 1)))) sPass) (sSeq (sIf (tOr (tNot (tE (dB1 (bIsi .tuple) 0))) (tCmpB fNe (dB1 bLen 0) (dB1 bLen 1))) (sRet (dC (.bl false))) sPass) (sSeq (sFor (.v 2) (iR1 (dB1 bLen 1)) (sIf (tNot (tE (dCall 18 [.e (dIxV 0 (dVar 2)), .e (dIxV 1 (dVar 2))]))) (sRet (dC (.bl false))) sPass)) (sRet (dC (.bl true)))))))))
theorem c18 : (cBody mi N18 (defScope (top 27)) (defBody (top 27))).map (·.1) = some d18 := by kernel_rfl
def N19 : List Str := ["a", "b"]
/-- _law_share -/
noncomputable def d19 : DS := (sSeq (sWhile (tCmpB fNe (dVar 1) (dC (.int 0))) (sPar 0 1 (dVar 1) (dOp fMod (dB1 bInt 0) (dVar 1)))) (sRetV 0))
theorem c19 : (cBody mi N19 (defScope (top 28)) (defBody (top 28))).map (·.1) = some d19 := by kernel_rfl
def N20 : List Str := ["x"]
/-- _law_ratio -/
noncomputable def d20 : DS := (sSeq (sIf (tOr (tNot (tE (dB1 (bIsi .tuple) 0))) (tCmpB fNe (dB1 bLen 0) (dC (.int 2)))) (sRet (dC (.bl false))) sPass) (sSeq (sIf (tOr (tNot (tE (dCall 17 [.e (dIxV 0 (dC (.int 0)))]))) (tNot (tE (dCall 17 [.e (dIxV 0 (dC (.int 1)))])))) (sRet (dC (.bl false))) sPass) (sRet (dAnd (dOp fGe (dIxV 0 (dC (.int 1))) (dC (.int 1))) (dOp fEq (dCall 19 [.e (dB bAbs [(dIxV 0 (dC (.int 0)))]), .e (dIxV 0 (dC (.int 1)))]) (dC (.int 1)))))))
theorem c20 : (cBody mi N20 (defScope (top 29)) (defBody (top 29))).map (·.1) = some d20 := by kernel_rfl
def N21 : List Str := ["actual", "above", "below"]
/-- _law_is -/
noncomputable def d21 : DS := (sRet (dAnd (dCall 20 [.v 0]) (dOp fEq (dOp fMul (dIxV 0 (dC (.int 0))) (dVar 2)) (dOp fMul (dVar 1) (dIxV 0 (dC (.int 1)))))))
theorem c21 : (cBody mi N21 (defScope (top 30)) (defBody (top 30))).map (·.1) = some d21 := by kernel_rfl
def N22 : List Str := ["feed", "width", "x", "k"]
/-- _law_long -/
noncomputable def d22 : DS := (sSeq (sSet 2 (dC (.int 0))) (sSeq (sFor (.v 3) (iR1 (dC (.int 3))) (sSet 2 (dOp fAdd (dOp fMul (dVar 2) (dC (.int 100003))) (dCall 16 [.v 0, .e (dC (.int 100003))])))) (sRet (dOp fMod (dB1 bInt 2) (dVar 1)))))
theorem c22 : (cBody mi N22 (defScope (top 31)) (defBody (top 31))).map (·.1) = some d22 := by kernel_rfl
def N23 : List Str := ["feed", "choice"]
/-- _law_parts -/
noncomputable def d23 : DS := (sSeq (sSet 1 (dCall 16 [.v 0, .e (dC (.int 8))])) (sSeq (sIf (tCmpB fEq (dVar 1) (dC (.int 0))) (sRet (dTup [(dC (.int 0)), (dC (.int 1))])) sPass) (sSeq (sIf (tCmpB fEq (dVar 1) (dC (.int 1))) (sRet (dTup [(dOp fSub (dC (.int 1)) (dOp fMul (dC (.int 2)) (dCall 16 [.v 0, .e (dC (.int 2))]))), (dC (.int 1))])) sPass) (sSeq (sIf (tCmpB fEq (dVar 1) (dC (.int 2))) (sRet (dTup [(dOp fSub (dCall 22 [.v 0, .e (dOp fAdd (dOp fMul (dC (.int 2)) (dOp fPow (dC (.int 10)) (dC (.int 15)))) (dC (.int 1)))]) (dOp fPow (dC (.int 10)) (dC (.int 15)))), (dOp fAdd (dC (.int 1)) (dCall 22 [.v 0, .e (dOp fPow (dC (.int 10)) (dC (.int 15)))]))])) sPass) (sSeq (sIf (tCmpB fEq (dVar 1) (dC (.int 3))) (sRet (dTup [(dOp fSub (dCall 16 [.v 0, .e (dC (.int 20001))]) (dC (.int 10000))), (dOp fAdd (dC (.int 1)) (dCall 16 [.v 0, .e (dC (.int 9999))]))])) sPass) (sRet (dTup [(dOp fSub (dCall 16 [.v 0, .e (dC (.int 81))]) (dC (.int 40))), (dOp fAdd (dC (.int 1)) (dCall 16 [.v 0, .e (dC (.int 24))]))])))))))
theorem c23 : (cBody mi N23 (defScope (top 32)) (defBody (top 32))).map (·.1) = some d23 := by kernel_rfl
def N24 : List Str := ["feed", "above", "below", "part"]
/-- _law_quotient -/
noncomputable def d24 : DS := (sSeq (sUnp [1, 2] (dCall 23 [.v 0])) (sSeq (sSet 3 (dCall 19 [.e (dB1 bAbs 1), .v 2])) (sRet (dTup [(dOp fDiv (dVar 1) (dVar 3)), (dOp fDiv (dVar 2) (dVar 3))]))))
theorem c24 : (cBody mi N24 (defScope (top 33)) (defBody (top 33))).map (·.1) = some d24 := by kernel_rfl
def N25 : List Str := ["deed", "a", "b", "e"]
/-- _law_two -/
noncomputable def d25 : DS := (sTry (sRet (dTup [(dC (.str "told")), (dCallV 0 [.v 1, .v 2])])) [⟨m_NotUsable, some 3, (sRet (dTup [(dC (.str "no")), (dFld 3 "word"), (dFld 3 "at")]))⟩])
theorem c25 : (cBody mi N25 (defScope (top 34)) (defBody (top 34))).map (·.1) = some d25 := by kernel_rfl
def N26 : List Str := ["x", "e"]
/-- _law_one -/
noncomputable def d26 : DS := (sTry (sRet (dTup [(dC (.str "told")), (dCall 14 [.v 0])])) [⟨m_NotUsable, some 1, (sRet (dTup [(dC (.str "no")), (dFld 1 "word"), (dFld 1 "at")]))⟩])
theorem c26 : (cBody mi N26 (defScope (top 35)) (defBody (top 35))).map (·.1) = some d26 := by kernel_rfl
def N27 : List Str := ["a", "times_many", "above", "below", "k"]
/-- _law_powers -/
noncomputable def d27 : DS := (sSeq (sSet 2 (dC (.int 1))) (sSeq (sSet 3 (dC (.int 1))) (sSeq (sFor (.v 4) (iR1 (dVar 1)) (sSeq (sSet 2 (dOp fMul (dVar 2) (dIxV 0 (dC (.int 0))))) (sSet 3 (dOp fMul (dVar 3) (dIxV 0 (dC (.int 1))))))) (sRet (dTup [(dVar 2), (dVar 3)])))))
theorem c27 : (cBody mi N27 (defScope (top 36)) (defBody (top 36))).map (·.1) = some d27 := by kernel_rfl
def N28 : List Str := ["a", "b"]
/-- _law_sums -/
noncomputable def d28 : DS := (sSeq (sIf (tNot (tE (dCall 21 [.e (dCall 8 [.v 0, .v 1]), .e (dOp fAdd (dOp fMul (dIxV 0 (dC (.int 0))) (dIxV 1 (dC (.int 1)))) (dOp fMul (dIxV 1 (dC (.int 0))) (dIxV 0 (dC (.int 1))))), .e (dOp fMul (dIxV 0 (dC (.int 1))) (dIxV 1 (dC (.int 1))))]))) (sRet (dC (.bl false))) sPass) (sSeq (sIf (tNot (tE (dCall 21 [.e (dCall 9 [.v 0, .v 1]), .e (dOp fSub (dOp fMul (dIxV 0 (dC (.int 0))) (dIxV 1 (dC (.int 1)))) (dOp fMul (dIxV 1 (dC (.int 0))) (dIxV 0 (dC (.int 1))))), .e (dOp fMul (dIxV 0 (dC (.int 1))) (dIxV 1 (dC (.int 1))))]))) (sRet (dC (.bl false))) sPass) (sSeq (sIf (tNot (tE (dCall 21 [.e (dCall 10 [.v 0, .v 1]), .e (dOp fMul (dIxV 0 (dC (.int 0))) (dIxV 1 (dC (.int 0)))), .e (dOp fMul (dIxV 0 (dC (.int 1))) (dIxV 1 (dC (.int 1))))]))) (sRet (dC (.bl false))) sPass) (sSeq (sIf (tNot (tE (dCall 18 [.e (dCall 12 [.v 0, .v 1]), .e (dOp fLt (dOp fMul (dIxV 0 (dC (.int 0))) (dIxV 1 (dC (.int 1)))) (dOp fMul (dIxV 1 (dC (.int 0))) (dIxV 0 (dC (.int 1)))))]))) (sRet (dC (.bl false))) sPass) (sSeq (sIf (tCmpB fEq (dIxV 1 (dC (.int 0))) (dC (.int 0))) (sRet (dCall 18 [.e (dCall 25 [.e (dC (.fn 11)), .v 0, .v 1]), .e (dTup [(dC (.str "no")), (dC (.str "other")), (dUn fNeg (dC (.int 1)))])])) sPass) (sSeq (sIf (tNot (tE (dCall 21 [.e (dCall 11 [.v 0, .v 1]), .e (dOp fMul (dIxV 0 (dC (.int 0))) (dIxV 1 (dC (.int 1)))), .e (dOp fMul (dIxV 0 (dC (.int 1))) (dIxV 1 (dC (.int 0))))]))) (sRet (dC (.bl false))) sPass) (sSeq (sIf (tOr (tNot (tE (dCall 18 [.e (dCall 11 [.e (dCall 10 [.v 0, .v 1]), .v 1]), .v 0]))) (tNot (tE (dCall 18 [.e (dCall 10 [.v 1, .e (dCall 11 [.v 0, .v 1])]), .v 0])))) (sRet (dC (.bl false))) sPass) (sRet (dAnd (dCall 18 [.e (dCall 9 [.e (dCall 8 [.v 0, .v 1]), .v 1]), .v 0]) (dCall 18 [.e (dCall 8 [.e (dCall 9 [.v 0, .v 1]), .v 1]), .v 0]))))))))))
theorem c28 : (cBody mi N28 (defScope (top 37)) (defBody (top 37))).map (·.1) = some d28 := by kernel_rfl
def N29 : List Str := ["a", "b", "count"]
/-- _law_named -/
noncomputable def d29 : DS := (sSeq (sIf (tOr (tNot (tE (dCall 18 [.e (dCallK 8 [1, 0] [.v 1, .v 0]), .e (dCall 8 [.v 0, .v 1])]))) (tNot (tE (dCall 18 [.e (dCallK 9 [1, 0] [.v 1, .v 0]), .e (dCall 9 [.v 0, .v 1])])))) (sRet (dC (.bl false))) sPass) (sSeq (sIf (tOr (tNot (tE (dCall 18 [.e (dCallK 10 [1, 0] [.v 1, .v 0]), .e (dCall 10 [.v 0, .v 1])]))) (tNot (tE (dCall 18 [.e (dCallK 12 [1, 0] [.v 1, .v 0]), .e (dCall 12 [.v 0, .v 1])])))) (sRet (dC (.bl false))) sPass) (sSeq (sIf (tAnd (tCmpB fNe (dIxV 1 (dC (.int 0))) (dC (.int 0))) (tNot (tE (dCall 18 [.e (dCallK 11 [1, 0] [.v 1, .v 0]), .e (dCall 11 [.v 0, .v 1])])))) (sRet (dC (.bl false))) sPass) (sSeq (sIf (tNot (tE (dCall 18 [.e (dCallK 7 [1, 0] [.e (dIxV 0 (dC (.int 1))), .e (dIxV 0 (dC (.int 0)))]), .v 0]))) (sRet (dC (.bl false))) sPass) (sRet (dAnd (dCall 18 [.e (dCallK 13 [1, 0] [.v 2, .v 0]), .e (dCall 13 [.v 0, .v 2])]) (dCall 18 [.e (dCallK 14 [0] [.e (dTup [(dVar 0), (dVar 1)])]), .e (dCall 8 [.v 0, .v 1])])))))))
theorem c29 : (cBody mi N29 (defScope (top 38)) (defBody (top 38))).map (·.1) = some d29 := by kernel_rfl
def N30 : List Str := ["row", "above", "below", "x", "first", "back", "k"]
/-- _law_totals -/
noncomputable def d30 : DS := (sSeq (sSet 1 (dC (.int 0))) (sSeq (sSet 2 (dC (.int 1))) (sSeq (sFor (.v 3) (iE (dVar 0)) (sSeq (sSet 1 (dOp fAdd (dOp fMul (dVar 1) (dIxV 3 (dC (.int 1)))) (dOp fMul (dIxV 3 (dC (.int 0))) (dVar 2)))) (sSet 2 (dOp fMul (dVar 2) (dIxV 3 (dC (.int 1))))))) (sSeq (sSet 4 (dCall 14 [.e (dB1 bTup 0)])) (sSeq (sSet 5 (dCall 14 [.e (dB bTup [(dComp [6] (iR1 (dB1 bLen 0)) (.v 6) (tests []) (dIxV 0 (dOp fSub (dOp fSub (dB1 bLen 0) (dC (.int 1))) (dVar 6))))])])) (sRet (dAnd (dCall 21 [.v 4, .v 1, .v 2]) (dCall 18 [.v 5, .v 4]))))))))
theorem c30 : (cBody mi N30 (defScope (top 39)) (defBody (top 39))).map (·.1) = some d30 := by kernel_rfl
def N31 : List Str := ["above", "below"]
/-- _law_made -/
noncomputable def d31 : DS := (sSeq (sIf (tCmpB fEq (dVar 1) (dC (.int 0))) (sRet (dCall 18 [.e (dCall 25 [.e (dC (.fn 7)), .v 0, .v 1]), .e (dTup [(dC (.str "no")), (dC (.str "bottom")), (dUn fNeg (dC (.int 1)))])])) sPass) (sRet (dCall 21 [.e (dCall 7 [.v 0, .v 1]), .v 0, .v 1])))
theorem c31 : (cBody mi N31 (defScope (top 40)) (defBody (top 40))).map (·.1) = some d31 := by kernel_rfl
def N32 : List Str := ["feed", "row"]
/-- _law_bad -/
noncomputable def d32 : DS := (sSeq (sSet 1 (dLst [(dTup [(dC (.int 2)), (dC (.int 4))]), (dTup [(dC (.int 1)), (dC (.int 0))]), (dTup [(dC (.int 0)), (dC (.int 2))]), (dTup [(dC (.int 1)), (dUn fNeg (dC (.int 1)))]), (dLst [(dC (.int 0)), (dC (.int 1))]), (dTup [(dC (.bl true)), (dC (.int 1))]), (dTup [(dC (.int 1)), (dC (.bl true))]), (dC .non), (dC (.int 0)), (dC (.str "0")), (dTup [(dC (.int 1))]), (dTup [(dC (.int 1)), (dC (.int 2)), (dC (.int 3))]), (dTup []), (dTup [(dUn fNeg (dC (.int 6))), (dC (.int 9))])])) (sRet (dIxV 1 (dCall 16 [.v 0, .e (dB1 bLen 1)]))))
theorem c32 : (cBody mi N32 (defScope (top 41)) (defBody (top 41))).map (·.1) = some d32 := by kernel_rfl
def N33 : List Str := ["bad", "good", "deed"]
/-- _law_refused_pairs -/
noncomputable def d33 : DS := (sSeq (sFor (.v 2) (iE (dTup [(dC (.fn 8)), (dC (.fn 9)), (dC (.fn 10)), (dC (.fn 11)), (dC (.fn 12))])) (sSeq (sIf (tNot (tE (dCall 18 [.e (dCall 25 [.v 2, .v 0, .v 1]), .e (dTup [(dC (.str "no")), (dC (.str "one")), (dUn fNeg (dC (.int 1)))])]))) (sRet (dC (.bl false))) sPass) (sSeq (sIf (tNot (tE (dCall 18 [.e (dCall 25 [.v 2, .v 1, .v 0]), .e (dTup [(dC (.str "no")), (dC (.str "other")), (dUn fNeg (dC (.int 1)))])]))) (sRet (dC (.bl false))) sPass) (sIf (tNot (tE (dCall 18 [.e (dCall 25 [.v 2, .v 0, .v 0]), .e (dTup [(dC (.str "no")), (dC (.str "one")), (dUn fNeg (dC (.int 1)))])]))) (sRet (dC (.bl false))) sPass)))) (sRet (dCall 18 [.e (dCall 25 [.e (dC (.fn 11)), .v 0, .e (dTup [(dC (.int 0)), (dC (.int 1))])]), .e (dTup [(dC (.str "no")), (dC (.str "one")), (dUn fNeg (dC (.int 1)))])])))
theorem c33 : (cBody mi N33 (defScope (top 42)) (defBody (top 42))).map (·.1) = some d33 := by kernel_rfl
def N34 : List Str := ["bad", "good", "odd", "x"]
/-- _law_refused_rest -/
noncomputable def d34 : DS := (sSeq (sIf (tNot (tE (dCall 18 [.e (dCall 25 [.e (dC (.fn 13)), .v 0, .v 2]), .e (dTup [(dC (.str "no")), (dC (.str "one")), (dUn fNeg (dC (.int 1)))])]))) (sRet (dC (.bl false))) sPass) (sSeq (sIf (tNot (tE (dCall 18 [.e (dCall 25 [.e (dC (.fn 13)), .v 1, .v 2]), .e (dTup [(dC (.str "no")), (dC (.str "many")), (dUn fNeg (dC (.int 1)))])]))) (sRet (dC (.bl false))) sPass) (sSeq (sFor (.v 3) (iE (dTup [(dLst [(dVar 1)]), (dC .non), (dTup [(dVar 1), (dVar 0)]), (dTup [(dVar 0), (dVar 1)]), (dVar 1), (dTup [(dVar 1), (dLst [(dVar 0)]), (dVar 1)])])) (sIf (tNot (tE (dCall 18 [.e (dCall 26 [.v 3]), .e (dTup [(dC (.str "no")), (dC (.str "quotients")), (dUn fNeg (dC (.int 1)))])]))) (sRet (dC (.bl false))) sPass)) (sSeq (sIf (tNot (tE (dCall 18 [.e (dCall 25 [.e (dC (.fn 7)), .e (dC .non), .e (dC (.int 0))]), .e (dTup [(dC (.str "no")), (dC (.str "top")), (dUn fNeg (dC (.int 1)))])]))) (sRet (dC (.bl false))) sPass) (sSeq (sFor (.v 3) (iE (dTup [(dC .non), (dC (.bl true)), (dC (.str "1")), (dTup [(dC (.int 1)), (dC (.int 1))]), (dLst [(dC (.int 1))])])) (sSeq (sIf (tNot (tE (dCall 18 [.e (dCall 25 [.e (dC (.fn 7)), .v 3, .e (dC (.int 3))]), .e (dTup [(dC (.str "no")), (dC (.str "top")), (dUn fNeg (dC (.int 1)))])]))) (sRet (dC (.bl false))) sPass) (sIf (tNot (tE (dCall 18 [.e (dCall 25 [.e (dC (.fn 7)), .e (dUn fNeg (dC (.int 3))), .v 3]), .e (dTup [(dC (.str "no")), (dC (.str "bottom")), (dUn fNeg (dC (.int 1)))])]))) (sRet (dC (.bl false))) sPass))) (sRet (dCall 18 [.e (dCall 25 [.e (dC (.fn 7)), .e (dC (.bl false)), .e (dC (.bl false))]), .e (dTup [(dC (.str "no")), (dC (.str "top")), (dUn fNeg (dC (.int 1)))])])))))))
theorem c34 : (cBody mi N34 (defScope (top 43)) (defBody (top 43))).map (·.1) = some d34 := by kernel_rfl
def N35 : List Str := ["feed", "c", "scale", "above", "below", "bad", "odd"]
/-- _law_rest -/
noncomputable def d35 : DS := (sSeq (sSet 2 (dOp fMul (dOp fAdd (dC (.int 1)) (dCall 16 [.v 0, .e (dC (.int 9))])) (dOp fSub (dC (.int 1)) (dOp fMul (dC (.int 2)) (dCall 16 [.v 0, .e (dC (.int 2))]))))) (sSeq (sUnp [3, 4] (dCall 23 [.v 0])) (sSeq (sIf (tOr (tNot (tE (dCall 31 [.e (dOp fMul (dOp fDiv (dVar 3) (dC (.int 10))) (dVar 2)), .e (dOp fMul (dOp fDiv (dVar 4) (dC (.int 9))) (dVar 2))]))) (tNot (tE (dCall 31 [.e (dOp fMul (dOp fDiv (dVar 3) (dC (.int 10))) (dVar 2)), .e (dOp fSub (dUn fNeg (dOp fDiv (dVar 4) (dC (.int 9)))) (dC (.int 1)))])))) (sRet (dC (.bl false))) sPass) (sSeq (sIf (tOr (tNot (tE (dCall 31 [.e (dOp fSub (dCall 16 [.v 0, .e (dC (.int 25))]) (dC (.int 12))), .e (dOp fSub (dCall 16 [.v 0, .e (dC (.int 25))]) (dC (.int 12)))]))) (tNot (tE (dCall 31 [.e (dC (.int 0)), .v 2])))) (sRet (dC (.bl false))) sPass) (sSeq (sSet 5 (dCall 32 [.v 0])) (sSeq (sSet 6 (dOp fIx (dLst [(dC .non), (dC (.bl true)), (dC (.bl false)), (dUn fNeg (dC (.int 1))), (dTup [(dC (.int 2))]), (dC (.str "2")), (dLst []), (dTup [(dC (.int 1)), (dC (.int 1))])]) (dCall 16 [.v 0, .e (dC (.int 8))]))) (sRet (dAnd (dCall 33 [.v 5, .v 1]) (dCall 34 [.v 5, .v 1, .v 6])))))))))
theorem c35 : (cBody mi N35 (defScope (top 44)) (defBody (top 44))).map (·.1) = some d35 := by kernel_rfl
def N36 : List Str := ["script", "feed", "a", "b", "c", "x", "y", "sums", "count", "power", "k"]
/-- law -/
noncomputable def d36 : DS := (sSeq (sSet 1 (dCall 15 [.v 0])) (sSeq (sSet 2 (dCall 24 [.v 1])) (sSeq (sSet 3 (dCall 24 [.v 1])) (sSeq (sSet 4 (dCall 24 [.v 1])) (sSeq (sFor (.v 5) (iE (dTup [(dVar 2), (dVar 3), (dVar 4)])) (sFor (.v 6) (iE (dTup [(dVar 2), (dVar 3), (dVar 4)])) (sIf (tNot (tE (dCall 28 [.v 5, .v 6]))) (sRet (dC (.bl false))) sPass))) (sSeq (sSet 7 (dCall 8 [.e (dCall 8 [.v 2, .v 3]), .v 4])) (sSeq (sIf (tNot (tE (dCall 20 [.v 7]))) (sRet (dC (.bl false))) sPass) (sSeq (sIf (tOr (tNot (tE (dCall 18 [.e (dCall 14 [.e (dTup [(dVar 2), (dVar 3), (dVar 4)])]), .v 7]))) (tNot (tE (dCall 18 [.e (dCall 14 [.e (dTup [(dVar 4), (dVar 2), (dVar 3)])]), .v 7])))) (sRet (dC (.bl false))) sPass) (sSeq (sIf (tOr (tNot (tE (dCall 28 [.e (dCall 10 [.v 2, .v 3]), .v 7]))) (tNot (tE (dCall 28 [.v 7, .e (dTup [(dC (.int 1)), (dC (.int 2))])])))) (sRet (dC (.bl false))) sPass) (sSeq (sSet 8 (dCall 16 [.v 1, .e (dC (.int 7))])) (sSeq (sIf (tAnd (tCmpB fLt (dB bAbs [(dIxV 2 (dC (.int 0)))]) (dC (.int 41))) (tAnd (tCmpB fLt (dIxV 2 (dC (.int 1))) (dC (.int 25))) (tCmpB fEq (dCall 16 [.v 1, .e (dC (.int 4))]) (dC (.int 0))))) (sSet 8 (dOp fIx (dLst [(dC (.int 0)), (dC (.int 1)), (dC (.int 2)), (dC (.int 7)), (dC (.int 33)), (dC (.int 59)), (dC (.int 60))]) (dCall 16 [.v 1, .e (dC (.int 7))]))) sPass) (sSeq (sSet 9 (dCall 27 [.v 2, .v 8])) (sSeq (sIf (tOr (tNot (tE (dCall 18 [.e (dCall 13 [.v 2, .v 8]), .v 9]))) (tNot (tE (dCall 18 [.e (dCall 13 [.e (dTup [(dC (.int 0)), (dC (.int 1))]), .e (dC (.int 0))]), .e (dTup [(dC (.int 1)), (dC (.int 1))])])))) (sRet (dC (.bl false))) sPass) (sSeq (sIf (tOr (tNot (tE (dCall 18 [.e (dCall 13 [.e (dTup [(dC (.int 0)), (dC (.int 1))]), .e (dB bMax [(dC (.int 1)), (dVar 8)])]), .e (dTup [(dC (.int 0)), (dC (.int 1))])]))) (tNot (tE (dCall 18 [.e (dCall 13 [.v 2, .e (dC (.int 0))]), .e (dTup [(dC (.int 1)), (dC (.int 1))])])))) (sRet (dC (.bl false))) sPass) (sSeq (sIf (tNot (tE (dCall 30 [.e (dComp [10] (iR1 (dCall 16 [.v 1, .e (dC (.int 13))])) (.v 10) (tests []) (dCall 24 [.v 1]))]))) (sRet (dC (.bl false))) sPass) (sSeq (sIf (tOr (tNot (tE (dCall 18 [.e (dCall 14 [.e (dTup [])]), .e (dTup [(dC (.int 0)), (dC (.int 1))])]))) (tNot (tE (dCall 18 [.e (dCall 14 [.e (dTup [(dVar 3)])]), .v 3])))) (sRet (dC (.bl false))) sPass) (sRet (dAnd (dCall 29 [.v 2, .v 3, .v 8]) (dCall 35 [.v 1, .v 4])))))))))))))))))))
theorem c36 : (cBody mi N36 (defScope (top 45)) (defBody (top 45))).map (·.1) = some d36 := by kernel_rfl
noncomputable def T : List FD := [⟨1, 1, d0⟩, ⟨1, 1, d1⟩, ⟨1, 3, d2⟩, ⟨2, 2, d3⟩, ⟨2, 3, d4⟩, ⟨2, 2, d5⟩, ⟨2, 2, d6⟩, ⟨2, 2, d7⟩, ⟨2, 2, d8⟩, ⟨2, 2, d9⟩, ⟨2, 2, d10⟩, ⟨2, 2, d11⟩, ⟨2, 2, d12⟩, ⟨2, 5, d13⟩, ⟨1, 3, d14⟩, ⟨1, 6, d15⟩, ⟨2, 2, d16⟩, ⟨1, 1, d17⟩, ⟨2, 3, d18⟩, ⟨2, 2, d19⟩, ⟨1, 1, d20⟩, ⟨3, 3, d21⟩, ⟨2, 4, d22⟩, ⟨1, 2, d23⟩, ⟨1, 4, d24⟩, ⟨3, 4, d25⟩, ⟨1, 2, d26⟩, ⟨2, 5, d27⟩, ⟨2, 2, d28⟩, ⟨3, 3, d29⟩, ⟨1, 7, d30⟩, ⟨2, 2, d31⟩, ⟨1, 2, d32⟩, ⟨2, 3, d33⟩, ⟨3, 4, d34⟩, ⟨2, 7, d35⟩, ⟨1, 11, d36⟩]
def nms : List Str := (["is_integer", "is_number", "is_quotient", "ask", "reduced", "added", "_ask_both", "quotient_of", "plus", "minus", "times", "over", "is_less", "raised", "total", "_law_feed", "_law_take", "_law_whole", "_law_same", "_law_share", "_law_ratio", "_law_is", "_law_long", "_law_parts", "_law_quotient", "_law_two", "_law_one", "_law_powers", "_law_sums", "_law_named"] : List Str) ++ (["_law_totals", "_law_made", "_law_bad", "_law_refused_pairs", "_law_refused_rest", "_law_rest", "law"] : List Str)
def dD (n : Str) (i : Nat) : He.DefD := ⟨(n, none), n, n, defArgs (top i), defBody (top i), defScope (top i), [], []⟩
def sub (i j : Nat) : Stmt := match top i with
  | .ClassDef _ _ _ b _ _ _ _ _ _ _ => b.getD j (.Pass ⟨0, 0, 0, 0⟩)
  | _ => .Pass ⟨0, 0, 0, 0⟩
def fn : List He.DefD := [dD "is_integer" 6,
  dD "is_number" 7,
  dD "is_quotient" 8,
  dD "ask" 10,
  dD "reduced" 11,
  dD "added" 12,
  dD "_ask_both" 14,
  dD "quotient_of" 15,
  dD "plus" 16,
  dD "minus" 17,
  dD "times" 18,
  dD "over" 19,
  dD "is_less" 20,
  dD "raised" 21,
  dD "total" 22,
  dD "_law_feed" 24,
  dD "_law_take" 25,
  dD "_law_whole" 26,
  dD "_law_same" 27,
  dD "_law_share" 28,
  dD "_law_ratio" 29,
  dD "_law_is" 30,
  dD "_law_long" 31,
  dD "_law_parts" 32,
  dD "_law_quotient" 33,
  dD "_law_two" 34,
  dD "_law_one" 35,
  dD "_law_powers" 36,
  dD "_law_sums" 37,
  dD "_law_named" 38,
  dD "_law_totals" 39,
  dD "_law_made" 40,
  dD "_law_bad" 41,
  dD "_law_refused_pairs" 42,
  dD "_law_refused_rest" 43,
  dD "_law_rest" 44,
  dD "law" 45,
  ⟨("NotUsable", some "__init__"), "__init__", "NotUsable.__init__", defArgs (sub 4 0), defBody (sub 4 0), defScope (sub 4 0), [], []⟩]
def fa : List He.Fa := nms.map .glo ++ ((["NotUsable"] : List Str)).map .glo ++ mi.free.map .free ++ [.exm "NotUsable" "NotUsable" true]
def ck : Cks := [clsB "NotUsable" ["at", "word"], bfnB "gcd" "math.gcd"]
abbrev R : PySem.W.OpenRow := PySem.W.OpenLaw.row PySem.Challenge.rw_oneistrue_k01_whole_quotients
abbrev hk : PySem.W.Hook := hookX 5 ck fa fn
def ob (s : PySem.W.SharedT) : He.AlD := obsXG 5 ck fa fn (HandSHeadRun.getT s)
theorem ob_eq (s : PySem.W.SharedT) : ob s = hk.obs s.abs := obsXG_eq (HandSHeadRun.getT_eq s)
def loose : List Str := (["__name__", "CourtError", "TableError", "NotUsable", "is_integer", "is_number", "is_quotient", "ask", "reduced", "added", "_ask_both", "quotient_of", "plus", "minus", "times", "over", "is_less", "raised", "total", "_law_feed", "_law_take", "_law_whole", "_law_same", "_law_share", "_law_ratio", "_law_is", "_law_long", "_law_parts", "_law_quotient", "_law_two"] : List Str) ++ (["_law_one", "_law_powers", "_law_sums", "_law_named", "_law_totals", "_law_made", "_law_bad", "_law_refused_pairs", "_law_refused_rest", "_law_rest"] : List Str)
abbrev vw : Program := PySem.W.view R.prog [0, 45]
theorem run (w : World) : HandSHeadRun.RunEqI R vw hk ob 4000 loose w := by
  unfold HandSHeadRun.RunEqI
  kernel_rfl
section
variable {P : Program} {w : World} {K : PySem.W.Frag} {mg : Str → Option Value} {base h : Heap}
theorem dk0 (c : SaysX ck fa fn K) : DK mi T K (fAt K nms "is_integer") 0 ["thing"] [] := by
  obtain ⟨fd, F⟩ := c.d.def_ 0 (d := dD "is_integer" 6) rfl
  exact ⟨"is_integer", "is_integer", _, _, _, fd, N0, d0, F, scB_ok (by kernel_rfl), cb_of c0, rfl, F.bindsN fun _ _ _ _ _ _ us hl => match us, hl with | [_], _ => rfl, kw_nil⟩
theorem dk1 (c : SaysX ck fa fn K) : DK mi T K (fAt K nms "is_integer") 1 ["thing"] [] := by
  obtain ⟨fd, F⟩ := c.d.def_ 1 (d := dD "is_number" 7) rfl
  exact ⟨"is_number", "is_number", _, _, _, fd, N1, d1, F, scB_ok (by kernel_rfl), cb_of c1, rfl, F.bindsN fun _ _ _ _ _ _ us hl => match us, hl with | [_], _ => rfl, kw_nil⟩
theorem dk2 (c : SaysX ck fa fn K) : DK mi T K (fAt K nms "is_integer") 2 ["thing"] [] := by
  obtain ⟨fd, F⟩ := c.d.def_ 2 (d := dD "is_quotient" 8) rfl
  exact ⟨"is_quotient", "is_quotient", _, _, _, fd, N2, d2, F, scB_ok (by kernel_rfl), cb_of c2, rfl, F.bindsN fun _ _ _ _ _ _ us hl => match us, hl with | [_], _ => rfl, kw_nil⟩
theorem dk3 (c : SaysX ck fa fn K) : DK mi T K (fAt K nms "is_integer") 3 ["name", "good"] [] := by
  obtain ⟨fd, F⟩ := c.d.def_ 3 (d := dD "ask" 10) rfl
  exact ⟨"ask", "ask", _, _, _, fd, N3, d3, F, scB_ok (by kernel_rfl), cb_of c3, rfl, F.bindsN fun _ _ _ _ _ _ us hl => match us, hl with | [_, _], _ => rfl, kw_nil⟩
theorem dk4 (c : SaysX ck fa fn K) : DK mi T K (fAt K nms "is_integer") 4 ["top", "bottom"] [] := by
  obtain ⟨fd, F⟩ := c.d.def_ 4 (d := dD "reduced" 11) rfl
  exact ⟨"reduced", "reduced", _, _, _, fd, N4, d4, F, scB_ok (by kernel_rfl), cb_of c4, rfl, F.bindsN fun _ _ _ _ _ _ us hl => match us, hl with | [_, _], _ => rfl, kw_nil⟩
theorem dk5 (c : SaysX ck fa fn K) : DK mi T K (fAt K nms "is_integer") 5 ["one", "other"] [] := by
  obtain ⟨fd, F⟩ := c.d.def_ 5 (d := dD "added" 12) rfl
  exact ⟨"added", "added", _, _, _, fd, N5, d5, F, scB_ok (by kernel_rfl), cb_of c5, rfl, F.bindsN fun _ _ _ _ _ _ us hl => match us, hl with | [_, _], _ => rfl, kw_nil⟩
theorem dk6 (c : SaysX ck fa fn K) : DK mi T K (fAt K nms "is_integer") 6 ["one", "other"] [] := by
  obtain ⟨fd, F⟩ := c.d.def_ 6 (d := dD "_ask_both" 14) rfl
  exact ⟨"_ask_both", "_ask_both", _, _, _, fd, N6, d6, F, scB_ok (by kernel_rfl), cb_of c6, rfl, F.bindsN fun _ _ _ _ _ _ us hl => match us, hl with | [_, _], _ => rfl, kw_nil⟩
theorem dk7 (c : SaysX ck fa fn K) : DK mi T K (fAt K nms "is_integer") 7 ["top", "bottom"] [(["bottom", "top"], [1, 0])] := by
  obtain ⟨fd, F⟩ := c.d.def_ 7 (d := dD "quotient_of" 15) rfl
  exact ⟨"quotient_of", "quotient_of", _, _, _, fd, N7, d7, F, scB_ok (by kernel_rfl), cb_of c7, rfl, F.bindsN fun _ _ _ _ _ _ us hl => match us, hl with | [_, _], _ => rfl, kw_cons (kw_one F fun _ _ _ _ _ _ ws hl => match ws, hl with | [_, _], _ => rfl) (kw_nil)⟩
theorem dk8 (c : SaysX ck fa fn K) : DK mi T K (fAt K nms "is_integer") 8 ["one", "other"] [(["other", "one"], [1, 0])] := by
  obtain ⟨fd, F⟩ := c.d.def_ 8 (d := dD "plus" 16) rfl
  exact ⟨"plus", "plus", _, _, _, fd, N8, d8, F, scB_ok (by kernel_rfl), cb_of c8, rfl, F.bindsN fun _ _ _ _ _ _ us hl => match us, hl with | [_, _], _ => rfl, kw_cons (kw_one F fun _ _ _ _ _ _ ws hl => match ws, hl with | [_, _], _ => rfl) (kw_nil)⟩
theorem dk9 (c : SaysX ck fa fn K) : DK mi T K (fAt K nms "is_integer") 9 ["one", "other"] [(["other", "one"], [1, 0])] := by
  obtain ⟨fd, F⟩ := c.d.def_ 9 (d := dD "minus" 17) rfl
  exact ⟨"minus", "minus", _, _, _, fd, N9, d9, F, scB_ok (by kernel_rfl), cb_of c9, rfl, F.bindsN fun _ _ _ _ _ _ us hl => match us, hl with | [_, _], _ => rfl, kw_cons (kw_one F fun _ _ _ _ _ _ ws hl => match ws, hl with | [_, _], _ => rfl) (kw_nil)⟩
theorem dk10 (c : SaysX ck fa fn K) : DK mi T K (fAt K nms "is_integer") 10 ["one", "other"] [(["other", "one"], [1, 0])] := by
  obtain ⟨fd, F⟩ := c.d.def_ 10 (d := dD "times" 18) rfl
  exact ⟨"times", "times", _, _, _, fd, N10, d10, F, scB_ok (by kernel_rfl), cb_of c10, rfl, F.bindsN fun _ _ _ _ _ _ us hl => match us, hl with | [_, _], _ => rfl, kw_cons (kw_one F fun _ _ _ _ _ _ ws hl => match ws, hl with | [_, _], _ => rfl) (kw_nil)⟩
theorem dk11 (c : SaysX ck fa fn K) : DK mi T K (fAt K nms "is_integer") 11 ["one", "other"] [(["other", "one"], [1, 0])] := by
  obtain ⟨fd, F⟩ := c.d.def_ 11 (d := dD "over" 19) rfl
  exact ⟨"over", "over", _, _, _, fd, N11, d11, F, scB_ok (by kernel_rfl), cb_of c11, rfl, F.bindsN fun _ _ _ _ _ _ us hl => match us, hl with | [_, _], _ => rfl, kw_cons (kw_one F fun _ _ _ _ _ _ ws hl => match ws, hl with | [_, _], _ => rfl) (kw_nil)⟩
theorem dk12 (c : SaysX ck fa fn K) : DK mi T K (fAt K nms "is_integer") 12 ["one", "other"] [(["other", "one"], [1, 0])] := by
  obtain ⟨fd, F⟩ := c.d.def_ 12 (d := dD "is_less" 20) rfl
  exact ⟨"is_less", "is_less", _, _, _, fd, N12, d12, F, scB_ok (by kernel_rfl), cb_of c12, rfl, F.bindsN fun _ _ _ _ _ _ us hl => match us, hl with | [_, _], _ => rfl, kw_cons (kw_one F fun _ _ _ _ _ _ ws hl => match ws, hl with | [_, _], _ => rfl) (kw_nil)⟩
theorem dk13 (c : SaysX ck fa fn K) : DK mi T K (fAt K nms "is_integer") 13 ["one", "many"] [(["many", "one"], [1, 0])] := by
  obtain ⟨fd, F⟩ := c.d.def_ 13 (d := dD "raised" 21) rfl
  exact ⟨"raised", "raised", _, _, _, fd, N13, d13, F, scB_ok (by kernel_rfl), cb_of c13, rfl, F.bindsN fun _ _ _ _ _ _ us hl => match us, hl with | [_, _], _ => rfl, kw_cons (kw_one F fun _ _ _ _ _ _ ws hl => match ws, hl with | [_, _], _ => rfl) (kw_nil)⟩
theorem dk14 (c : SaysX ck fa fn K) : DK mi T K (fAt K nms "is_integer") 14 ["quotients"] [(["quotients"], [0])] := by
  obtain ⟨fd, F⟩ := c.d.def_ 14 (d := dD "total" 22) rfl
  exact ⟨"total", "total", _, _, _, fd, N14, d14, F, scB_ok (by kernel_rfl), cb_of c14, rfl, F.bindsN fun _ _ _ _ _ _ us hl => match us, hl with | [_], _ => rfl, kw_cons (kw_one F fun _ _ _ _ _ _ ws hl => match ws, hl with | [_], _ => rfl) (kw_nil)⟩
theorem dk15 (c : SaysX ck fa fn K) : DK mi T K (fAt K nms "is_integer") 15 ["script"] [] := by
  obtain ⟨fd, F⟩ := c.d.def_ 15 (d := dD "_law_feed" 24) rfl
  exact ⟨"_law_feed", "_law_feed", _, _, _, fd, N15, d15, F, scB_ok (by kernel_rfl), cb_of c15, rfl, F.bindsN fun _ _ _ _ _ _ us hl => match us, hl with | [_], _ => rfl, kw_nil⟩
theorem dk16 (c : SaysX ck fa fn K) : DK mi T K (fAt K nms "is_integer") 16 ["feed", "width"] [] := by
  obtain ⟨fd, F⟩ := c.d.def_ 16 (d := dD "_law_take" 25) rfl
  exact ⟨"_law_take", "_law_take", _, _, _, fd, N16, d16, F, scB_ok (by kernel_rfl), cb_of c16, rfl, F.bindsN fun _ _ _ _ _ _ us hl => match us, hl with | [_, _], _ => rfl, kw_nil⟩
theorem dk17 (c : SaysX ck fa fn K) : DK mi T K (fAt K nms "is_integer") 17 ["x"] [] := by
  obtain ⟨fd, F⟩ := c.d.def_ 17 (d := dD "_law_whole" 26) rfl
  exact ⟨"_law_whole", "_law_whole", _, _, _, fd, N17, d17, F, scB_ok (by kernel_rfl), cb_of c17, rfl, F.bindsN fun _ _ _ _ _ _ us hl => match us, hl with | [_], _ => rfl, kw_nil⟩
theorem dk18 (c : SaysX ck fa fn K) : DK mi T K (fAt K nms "is_integer") 18 ["actual", "due"] [] := by
  obtain ⟨fd, F⟩ := c.d.def_ 18 (d := dD "_law_same" 27) rfl
  exact ⟨"_law_same", "_law_same", _, _, _, fd, N18, d18, F, scB_ok (by kernel_rfl), cb_of c18, rfl, F.bindsN fun _ _ _ _ _ _ us hl => match us, hl with | [_, _], _ => rfl, kw_nil⟩
theorem dk19 (c : SaysX ck fa fn K) : DK mi T K (fAt K nms "is_integer") 19 ["a", "b"] [] := by
  obtain ⟨fd, F⟩ := c.d.def_ 19 (d := dD "_law_share" 28) rfl
  exact ⟨"_law_share", "_law_share", _, _, _, fd, N19, d19, F, scB_ok (by kernel_rfl), cb_of c19, rfl, F.bindsN fun _ _ _ _ _ _ us hl => match us, hl with | [_, _], _ => rfl, kw_nil⟩
theorem dk20 (c : SaysX ck fa fn K) : DK mi T K (fAt K nms "is_integer") 20 ["x"] [] := by
  obtain ⟨fd, F⟩ := c.d.def_ 20 (d := dD "_law_ratio" 29) rfl
  exact ⟨"_law_ratio", "_law_ratio", _, _, _, fd, N20, d20, F, scB_ok (by kernel_rfl), cb_of c20, rfl, F.bindsN fun _ _ _ _ _ _ us hl => match us, hl with | [_], _ => rfl, kw_nil⟩
theorem dk21 (c : SaysX ck fa fn K) : DK mi T K (fAt K nms "is_integer") 21 ["actual", "above", "below"] [] := by
  obtain ⟨fd, F⟩ := c.d.def_ 21 (d := dD "_law_is" 30) rfl
  exact ⟨"_law_is", "_law_is", _, _, _, fd, N21, d21, F, scB_ok (by kernel_rfl), cb_of c21, rfl, F.bindsN fun _ _ _ _ _ _ us hl => match us, hl with | [_, _, _], _ => rfl, kw_nil⟩
theorem dk22 (c : SaysX ck fa fn K) : DK mi T K (fAt K nms "is_integer") 22 ["feed", "width"] [] := by
  obtain ⟨fd, F⟩ := c.d.def_ 22 (d := dD "_law_long" 31) rfl
  exact ⟨"_law_long", "_law_long", _, _, _, fd, N22, d22, F, scB_ok (by kernel_rfl), cb_of c22, rfl, F.bindsN fun _ _ _ _ _ _ us hl => match us, hl with | [_, _], _ => rfl, kw_nil⟩
theorem dk23 (c : SaysX ck fa fn K) : DK mi T K (fAt K nms "is_integer") 23 ["feed"] [] := by
  obtain ⟨fd, F⟩ := c.d.def_ 23 (d := dD "_law_parts" 32) rfl
  exact ⟨"_law_parts", "_law_parts", _, _, _, fd, N23, d23, F, scB_ok (by kernel_rfl), cb_of c23, rfl, F.bindsN fun _ _ _ _ _ _ us hl => match us, hl with | [_], _ => rfl, kw_nil⟩
theorem dk24 (c : SaysX ck fa fn K) : DK mi T K (fAt K nms "is_integer") 24 ["feed"] [] := by
  obtain ⟨fd, F⟩ := c.d.def_ 24 (d := dD "_law_quotient" 33) rfl
  exact ⟨"_law_quotient", "_law_quotient", _, _, _, fd, N24, d24, F, scB_ok (by kernel_rfl), cb_of c24, rfl, F.bindsN fun _ _ _ _ _ _ us hl => match us, hl with | [_], _ => rfl, kw_nil⟩
theorem dk25 (c : SaysX ck fa fn K) : DK mi T K (fAt K nms "is_integer") 25 ["deed", "a", "b"] [] := by
  obtain ⟨fd, F⟩ := c.d.def_ 25 (d := dD "_law_two" 34) rfl
  exact ⟨"_law_two", "_law_two", _, _, _, fd, N25, d25, F, scB_ok (by kernel_rfl), cb_of c25, rfl, F.bindsN fun _ _ _ _ _ _ us hl => match us, hl with | [_, _, _], _ => rfl, kw_nil⟩
theorem dk26 (c : SaysX ck fa fn K) : DK mi T K (fAt K nms "is_integer") 26 ["x"] [] := by
  obtain ⟨fd, F⟩ := c.d.def_ 26 (d := dD "_law_one" 35) rfl
  exact ⟨"_law_one", "_law_one", _, _, _, fd, N26, d26, F, scB_ok (by kernel_rfl), cb_of c26, rfl, F.bindsN fun _ _ _ _ _ _ us hl => match us, hl with | [_], _ => rfl, kw_nil⟩
theorem dk27 (c : SaysX ck fa fn K) : DK mi T K (fAt K nms "is_integer") 27 ["a", "times_many"] [] := by
  obtain ⟨fd, F⟩ := c.d.def_ 27 (d := dD "_law_powers" 36) rfl
  exact ⟨"_law_powers", "_law_powers", _, _, _, fd, N27, d27, F, scB_ok (by kernel_rfl), cb_of c27, rfl, F.bindsN fun _ _ _ _ _ _ us hl => match us, hl with | [_, _], _ => rfl, kw_nil⟩
theorem dk28 (c : SaysX ck fa fn K) : DK mi T K (fAt K nms "is_integer") 28 ["a", "b"] [] := by
  obtain ⟨fd, F⟩ := c.d.def_ 28 (d := dD "_law_sums" 37) rfl
  exact ⟨"_law_sums", "_law_sums", _, _, _, fd, N28, d28, F, scB_ok (by kernel_rfl), cb_of c28, rfl, F.bindsN fun _ _ _ _ _ _ us hl => match us, hl with | [_, _], _ => rfl, kw_nil⟩
theorem dk29 (c : SaysX ck fa fn K) : DK mi T K (fAt K nms "is_integer") 29 ["a", "b", "count"] [] := by
  obtain ⟨fd, F⟩ := c.d.def_ 29 (d := dD "_law_named" 38) rfl
  exact ⟨"_law_named", "_law_named", _, _, _, fd, N29, d29, F, scB_ok (by kernel_rfl), cb_of c29, rfl, F.bindsN fun _ _ _ _ _ _ us hl => match us, hl with | [_, _, _], _ => rfl, kw_nil⟩
theorem dk30 (c : SaysX ck fa fn K) : DK mi T K (fAt K nms "is_integer") 30 ["row"] [] := by
  obtain ⟨fd, F⟩ := c.d.def_ 30 (d := dD "_law_totals" 39) rfl
  exact ⟨"_law_totals", "_law_totals", _, _, _, fd, N30, d30, F, scB_ok (by kernel_rfl), cb_of c30, rfl, F.bindsN fun _ _ _ _ _ _ us hl => match us, hl with | [_], _ => rfl, kw_nil⟩
theorem dk31 (c : SaysX ck fa fn K) : DK mi T K (fAt K nms "is_integer") 31 ["above", "below"] [] := by
  obtain ⟨fd, F⟩ := c.d.def_ 31 (d := dD "_law_made" 40) rfl
  exact ⟨"_law_made", "_law_made", _, _, _, fd, N31, d31, F, scB_ok (by kernel_rfl), cb_of c31, rfl, F.bindsN fun _ _ _ _ _ _ us hl => match us, hl with | [_, _], _ => rfl, kw_nil⟩
theorem dk32 (c : SaysX ck fa fn K) : DK mi T K (fAt K nms "is_integer") 32 ["feed"] [] := by
  obtain ⟨fd, F⟩ := c.d.def_ 32 (d := dD "_law_bad" 41) rfl
  exact ⟨"_law_bad", "_law_bad", _, _, _, fd, N32, d32, F, scB_ok (by kernel_rfl), cb_of c32, rfl, F.bindsN fun _ _ _ _ _ _ us hl => match us, hl with | [_], _ => rfl, kw_nil⟩
theorem dk33 (c : SaysX ck fa fn K) : DK mi T K (fAt K nms "is_integer") 33 ["bad", "good"] [] := by
  obtain ⟨fd, F⟩ := c.d.def_ 33 (d := dD "_law_refused_pairs" 42) rfl
  exact ⟨"_law_refused_pairs", "_law_refused_pairs", _, _, _, fd, N33, d33, F, scB_ok (by kernel_rfl), cb_of c33, rfl, F.bindsN fun _ _ _ _ _ _ us hl => match us, hl with | [_, _], _ => rfl, kw_nil⟩
theorem dk34 (c : SaysX ck fa fn K) : DK mi T K (fAt K nms "is_integer") 34 ["bad", "good", "odd"] [] := by
  obtain ⟨fd, F⟩ := c.d.def_ 34 (d := dD "_law_refused_rest" 43) rfl
  exact ⟨"_law_refused_rest", "_law_refused_rest", _, _, _, fd, N34, d34, F, scB_ok (by kernel_rfl), cb_of c34, rfl, F.bindsN fun _ _ _ _ _ _ us hl => match us, hl with | [_, _, _], _ => rfl, kw_nil⟩
theorem dk35 (c : SaysX ck fa fn K) : DK mi T K (fAt K nms "is_integer") 35 ["feed", "c"] [] := by
  obtain ⟨fd, F⟩ := c.d.def_ 35 (d := dD "_law_rest" 44) rfl
  exact ⟨"_law_rest", "_law_rest", _, _, _, fd, N35, d35, F, scB_ok (by kernel_rfl), cb_of c35, rfl, F.bindsN fun _ _ _ _ _ _ us hl => match us, hl with | [_, _], _ => rfl, kw_nil⟩
theorem dk36 (c : SaysX ck fa fn K) : DK mi T K (fAt K nms "is_integer") 36 ["script"] [] := by
  obtain ⟨fd, F⟩ := c.d.def_ 36 (d := dD "law" 45) rfl
  exact ⟨"law", "law", _, _, _, fd, N36, d36, F, scB_ok (by kernel_rfl), cb_of c36, rfl, F.bindsN fun _ _ _ _ _ _ us hl => match us, hl with | [_], _ => rfl, kw_nil⟩
theorem glo (X : K.In h) (G : h.Ns mainGlobals mg) (c : SaysX ck fa fn K) (x : Str) (hx : x ∈ nms ++ (["NotUsable"] : List Str)) : mg x = some (.ref (He.ga K x)) := He.glo_ok X G (c.fact (List.mem_append_left _ (List.mem_append_left _ (by rw [← List.map_append]; exact List.mem_map_of_mem hx))))
theorem fns_ok (X : K.In h) (G : h.Ns mainGlobals mg) (c : SaysX ck fa fn K) : ∀ p ∈ mi.fns, mg p.1 = some (.ref (fAt K nms "is_integer" p.2.ix)) ∧ DK mi T K (fAt K nms "is_integer") p.2.ix p.2.ps p.2.kw :=
  all_cons ⟨glo X G c _ (by decide +kernel), dk0 c⟩ (all_cons ⟨glo X G c _ (by decide +kernel), dk1 c⟩ (all_cons ⟨glo X G c _ (by decide +kernel), dk2 c⟩ (all_cons ⟨glo X G c _ (by decide +kernel), dk3 c⟩ (all_cons ⟨glo X G c _ (by decide +kernel), dk4 c⟩ (all_cons ⟨glo X G c _ (by decide +kernel), dk5 c⟩ (all_cons ⟨glo X G c _ (by decide +kernel), dk6 c⟩ (all_cons ⟨glo X G c _ (by decide +kernel), dk7 c⟩ (all_cons ⟨glo X G c _ (by decide +kernel), dk8 c⟩ (all_cons ⟨glo X G c _ (by decide +kernel), dk9 c⟩ (all_cons ⟨glo X G c _ (by decide +kernel), dk10 c⟩ (all_cons ⟨glo X G c _ (by decide +kernel), dk11 c⟩ (all_cons ⟨glo X G c _ (by decide +kernel), dk12 c⟩ (all_cons ⟨glo X G c _ (by decide +kernel), dk13 c⟩ (all_cons ⟨glo X G c _ (by decide +kernel), dk14 c⟩ (all_cons ⟨glo X G c _ (by decide +kernel), dk15 c⟩ (all_cons ⟨glo X G c _ (by decide +kernel), dk16 c⟩ (all_cons ⟨glo X G c _ (by decide +kernel), dk17 c⟩ (all_cons ⟨glo X G c _ (by decide +kernel), dk18 c⟩ (all_cons ⟨glo X G c _ (by decide +kernel), dk19 c⟩ (all_cons ⟨glo X G c _ (by decide +kernel), dk20 c⟩ (all_cons ⟨glo X G c _ (by decide +kernel), dk21 c⟩ (all_cons ⟨glo X G c _ (by decide +kernel), dk22 c⟩ (all_cons ⟨glo X G c _ (by decide +kernel), dk23 c⟩ (all_cons ⟨glo X G c _ (by decide +kernel), dk24 c⟩ (all_cons ⟨glo X G c _ (by decide +kernel), dk25 c⟩ (all_cons ⟨glo X G c _ (by decide +kernel), dk26 c⟩ (all_cons ⟨glo X G c _ (by decide +kernel), dk27 c⟩ (all_cons ⟨glo X G c _ (by decide +kernel), dk28 c⟩ (all_cons ⟨glo X G c _ (by decide +kernel), dk29 c⟩ (all_cons ⟨glo X G c _ (by decide +kernel), dk30 c⟩ (all_cons ⟨glo X G c _ (by decide +kernel), dk31 c⟩ (all_cons ⟨glo X G c _ (by decide +kernel), dk32 c⟩ (all_cons ⟨glo X G c _ (by decide +kernel), dk33 c⟩ (all_cons ⟨glo X G c _ (by decide +kernel), dk34 c⟩ (all_cons ⟨glo X G c _ (by decide +kernel), dk35 c⟩ (all_cons ⟨glo X G c _ (by decide +kernel), dk36 c⟩ (all_nil)))))))))))))))))))))))))))))))))))))
theorem ini0 (c : SaysX ck fa fn K) (T : ClsB "NotUsable" mi.flds K) : ∃ fd, FnOk P w K mg base (L2.CX P w) 1 (He.ma K (He.ga K "NotUsable") "__init__") fd ["self", "word", "at"] (spI ["word", "at"] (He.ga K "NotUsable")) ∧ Binds K fd ["self", "word", "at"] [] := by
  obtain ⟨fd, F⟩ := c.d.def_ 37 (d := ⟨("NotUsable", some "__init__"), "__init__", "NotUsable.__init__", defArgs (sub 4 0), defBody (sub 4 0), defScope (sub 4 0), [], []⟩) rfl
  exact ⟨fd, init2_ok F (scB_ok (by kernel_rfl)) (by kernel_rfl) (by kernel_rfl) T.T (T.no _ (by decide +kernel)) (T.no _ (by decide +kernel)), F.bindsN fun _ _ _ _ _ _ us hl => match us, hl with | [_, _, _], _ => rfl⟩
theorem stat (X : K.In h) (G : h.Ns mainGlobals mg) (c : SaysX ck fa fn K) : Stat mi T (fAt K nms "is_integer") (fAt K ["NotUsable"] "NotUsable") P w K mg base := by
  refine stat_of (fun x hx => He.free_ok X G (c.fact (List.mem_append_left _ (List.mem_append_right _ (List.mem_map_of_mem hx))))) (fns_ok X G c) (by kernel_rfl) (by decide +kernel) rfl rfl ?_ ?_ ?_ ?_ all_nil
  · exact all_cons ⟨glo X G c _ (by decide +kernel), (clsB_ok (c.chk 0)).T, (let ⟨fd, k1, k2⟩ := ini0 (P := P) (w := w) (mg := mg) (base := base) c (clsB_ok (c.chk 0)); ⟨_, fd, _, (clsB_ok (c.chk 0)).iC, (clsB_ok (c.chk 0)).tI, k1, k2⟩), by decide +kernel, by decide +kernel⟩ (all_nil)
  · exact all_cons ⟨glo X G c _ (by decide +kernel), fun k => match k with
    | 0 => He.exm_ok (c.fact (f := .exm "NotUsable" "NotUsable" true) (List.mem_append_right _ (List.mem_of_getElem? (i := 0) rfl)))
    | k + 1 => He.exm_ok (c.fact (f := .exm "NotUsable" "NotUsable" true) (List.mem_append_right _ (List.mem_of_getElem? (i := 0) rfl)))⟩ (all_nil)
  · exact all_cons (clsB_ok (c.chk 0)) (all_cons (clsB_ok (c.chk 0)) (all_nil))
  · exact all_cons (bfnB_ok X G (c.chk 1)) (all_nil)
end
def LV : Nat := 60
theorem holds_of (h : ∀ ns : List Int, ns.length ≤ 63 → callN T LV 36 [.d (.scr ns)] = .ok (.d (.bl true)) []) : (PySem.Challenge.rw_oneistrue_k01_whole_quotients).Holds := by
  w_on; o_law
  refine HandSHeadRun.head_imp (r := R) (q := vw) (H := hk) (ob := ob) (M := 4000) (loose := loose) (d := HandSHeadRun.topDef R.prog 45) (kwd := []) ob_eq
    run (by kernel_rfl) (by kernel_rfl) (by kernel_rfl) (by rfl) (by first | assumption | decide +kernel) (by decide +kernel) ⟨rfl, rfl, rfl, rfl, rfl, by decide +kernel⟩ ?hw ?hc
  case hw => w_witness2
  case hc =>
    refine walk_X (l := PySem.Challenge.rw_oneistrue_k01_whole_quotients) (n := 63) (k := LV + 2) (x := "script") rfl (by decide) (by kernel_rfl) ⟨rfl, by decide +kernel, by decide +kernel⟩ ?F
    intro w mg f hp Y G hmg0
    obtain ⟨K, KX, c⟩ := Y
    have hmg : mg ("law" : Str) = some (.ref f) := by
      have e : (HandSHeadRun.topDef R.prog 45).name = ("law" : Str) := by kernel_rfl
      rw [← e]
      exact hmg0
    have e0 := glo KX G c "law" (by decide +kernel)
    rw [hmg] at e0
    cases e0
    obtain ⟨fd, F⟩ := c.d.def_ 36 (d := dD "law" 45) rfl
    have hb := FunD.bindsA (ps := ["script"]) F fun _ _ _ _ _ _ us hl => match us, hl with | [_], _ => rfl
    refine ⟨K, fd, spC K (fAt K nms "is_integer") ⟨fAt K ["NotUsable"] "NotUsable", none⟩ (callN T LV) 36, KX, fun s u => hb s [u] rfl, fun H a ns hl O S => sp_law O S (h ns hl), fun base _ _ => ?_⟩
    have g := gm_all (stat (P := (PySem.Challenge.rw_oneistrue_k01_whole_quotients).prog) (w := w) (base := base) KX G c) (LV - 1)
    exact def_ok (k := 36) (N := N36) (ps := ["script"]) (d := d36) (lv := LV - 1) F (scB_ok (by kernel_rfl)) (cb_of c36) rfl g (by decide)
end K01
set_option Elab.async false
set_option linter.all false
set_option maxRecDepth 100000
set_option maxHeartbeats 4000000
/-! MQ: quotients as pairs; sizes. -/
namespace MQ
open PySem RX
/-- a number of at most k bits -/
def Sm (k : Nat) (x : Int) : Prop := x.natAbs < 2 ^ k
theorem Sm.mono {k m : Nat} {x : Int} (h : Sm k x) (hk : k ≤ m) : Sm m x := Nat.lt_of_lt_of_le h (Nat.pow_le_pow_right (by omega) hk)
theorem Sm.mul {k m : Nat} {x y : Int} (h : Sm k x) (h' : Sm m y) : Sm (k + m) (x * y) := by
  unfold Sm at *
  rw [Int.natAbs_mul, Nat.pow_add]
  rcases Nat.eq_zero_or_pos x.natAbs with e | e
  · rw [e, Nat.zero_mul]
    exact Nat.mul_pos (Nat.two_pow_pos _) (Nat.two_pow_pos _)
  · exact Nat.mul_lt_mul_of_lt_of_lt h h'
theorem Sm.add {k m : Nat} {x y : Int} (h : Sm k x) (h' : Sm k y) (hm : k + 1 ≤ m) : Sm m (x + y) := by
  refine Sm.mono (k := k + 1) ?_ hm
  unfold Sm at *
  have := Int.natAbs_add_le x y
  rw [Nat.pow_succ]
  omega
theorem Sm.sub {k m : Nat} {x y : Int} (h : Sm k x) (h' : Sm k y) (hm : k + 1 ≤ m) : Sm m (x - y) := by
  refine Sm.mono (k := k + 1) ?_ hm
  unfold Sm at *
  have := Int.natAbs_sub_le x y
  rw [Nat.pow_succ]
  omega
theorem Sm.neg {k : Nat} {x : Int} (h : Sm k x) : Sm k (-x) := by
  unfold Sm at *
  rw [Int.natAbs_neg]
  exact h
theorem Sm.log {k : Nat} {x : Int} (h : Sm k x) : x.natAbs.log2 ≤ k := by
  rcases Nat.eq_zero_or_pos x.natAbs with e | e
  · rw [e]; exact Nat.zero_le _
  · have : x.natAbs.log2 < k := (Nat.log2_lt (by omega)).mpr h
    omega
theorem mk {k m : Nat} {x y : Int} (h : Sm k x) (h' : Sm m y) (hk : k + m < 134000000) : mulOk x y = true := by
  unfold mulOk
  have h1 := h.log
  have h2 := h'.log
  exact decide_eq_true (by omega)
theorem dk {k : Nat} {y : Int} (h : Sm k y) (hk : k < 9000) (hy : y ≠ 0) : divOk y = true := by
  unfold divOk
  have h1 := h.log
  rw [Bool.and_eq_true]
  exact ⟨decide_eq_true hy, decide_eq_true (by omega)⟩
/-- a quotient as the program has it -/
def enc (r : Rat) : D := .tup [.int r.num, .int r.den]
def SmQ (k : Nat) (r : Rat) : Prop := Sm k r.num ∧ Sm k (r.den : Int)
theorem SmQ.mono {k m : Nat} {r : Rat} (h : SmQ k r) (hk : k ≤ m) : SmQ m r := ⟨h.1.mono hk, h.2.mono hk⟩
/-- the quotient of two numbers is no larger than they -/
theorem smq_div {k : Nat} {a b : Int} (ha : Sm k a) (hb : Sm k b) (hb0 : b ≠ 0) : SmQ k (Rat.divInt a b) := by
  have hg : 0 < Int.gcd b a := Int.gcd_pos_of_ne_zero_left _ hb0
  constructor
  · unfold Sm at *
    rw [Rat.num_divInt]
    have h1 : (b.sign * a).natAbs ≤ a.natAbs := by
      rw [Int.natAbs_mul]
      have : b.sign.natAbs ≤ 1 := by
        rcases Int.lt_trichotomy b 0 with h | h | h
        · rw [Int.sign_eq_neg_one_of_neg h]; decide
        · rw [h]; decide
        · rw [Int.sign_eq_one_of_pos h]; decide
      calc b.sign.natAbs * a.natAbs ≤ 1 * a.natAbs := Nat.mul_le_mul_right _ this
        _ = a.natAbs := Nat.one_mul _
    have h2 : (b.sign * a / (Int.gcd b a : Int)).natAbs ≤ (b.sign * a).natAbs := Int.natAbs_ediv_le_natAbs _ _
    omega
  · unfold Sm at *
    rw [Rat.den_divInt, if_neg hb0, Int.natAbs_natCast]
    have := Nat.div_le_self b.natAbs (Int.gcd b a)
    omega
theorem smq_add {k m : Nat} {r s : Rat} (h : SmQ k r) (h' : SmQ m s) : SmQ (k + m + 1) (r + s) := by
  rw [Rat.add_def', ← Rat.divInt_ofNat]
  refine smq_div ?_ ?_ ?_
  · exact Sm.add (k := k + m) (h.1.mul h'.2) (by have := h'.1.mul h.2; rw [Nat.add_comm m k] at this; exact this) (Nat.le_refl _)
  · rw [Int.natCast_mul]; exact (h.2.mul h'.2).mono (by omega)
  · have h1 := r.den_pos
    have h2 := s.den_pos
    have := Nat.mul_pos h1 h2
    omega
theorem smq_sub {k m : Nat} {r s : Rat} (h : SmQ k r) (h' : SmQ m s) : SmQ (k + m + 1) (r - s) := by
  rw [Rat.sub_def', ← Rat.divInt_ofNat]
  refine smq_div ?_ ?_ ?_
  · exact Sm.sub (k := k + m) (h.1.mul h'.2) (by have := h'.1.mul h.2; rw [Nat.add_comm m k] at this; exact this) (Nat.le_refl _)
  · rw [Int.natCast_mul]; exact (h.2.mul h'.2).mono (by omega)
  · have h1 := r.den_pos
    have h2 := s.den_pos
    have := Nat.mul_pos h1 h2
    omega
theorem smq_mul {k m : Nat} {r s : Rat} (h : SmQ k r) (h' : SmQ m s) : SmQ (k + m) (r * s) := by
  rw [Rat.mul_def', ← Rat.divInt_ofNat]
  refine smq_div (h.1.mul h'.1) ?_ ?_
  · rw [Int.natCast_mul]; exact h.2.mul h'.2
  · have h1 := r.den_pos
    have h2 := s.den_pos
    have := Nat.mul_pos h1 h2
    omega
/-- one over the other -/
theorem div_eq {r s : Rat} (hs : s ≠ 0) : r / s = Rat.divInt (r.num * s.den) (r.den * s.num) := by
  rw [Rat.div_def, Rat.inv_def]
  conv => lhs; rw [← Rat.num_divInt_den r]
  rw [Rat.divInt_mul_divInt]
theorem smq_over {k m : Nat} {r s : Rat} (h : SmQ k r) (h' : SmQ m s) (hs : s ≠ 0) : SmQ (k + m) (r / s) := by
  rw [div_eq hs]
  refine smq_div (h.1.mul h'.2) (h.2.mul h'.1) ?_
  intro e
  rcases Int.mul_eq_zero.mp e with e | e
  · have := r.den_pos; omega
  · exact hs (Rat.num_eq_zero.mp e)
/-- what reduced makes -/
theorem red_pos {a b : Int} (hb : 0 < b) : a.fdiv ((Nat.gcd a.natAbs b.natAbs : Nat) : Int) = (Rat.divInt a b).num ∧ b.fdiv ((Nat.gcd a.natAbs b.natAbs : Nat) : Int) = ((Rat.divInt a b).den : Int) := by
  have e : Int.gcd b a = Nat.gcd a.natAbs b.natAbs := by rw [Nat.gcd_comm]; rfl
  rw [Rat.num_divInt, Rat.den_divInt, if_neg (by omega), Int.sign_eq_one_of_pos hb, Int.one_mul, e]
  refine ⟨Int.fdiv_eq_ediv_of_nonneg _ (Int.natCast_nonneg _), ?_⟩
  rw [Int.fdiv_eq_ediv_of_nonneg _ (Int.natCast_nonneg _), Int.natCast_ediv]
  congr 1
  omega
theorem red_neg {a b : Int} (hb : b < 0) : a.fdiv (-((Nat.gcd a.natAbs b.natAbs : Nat) : Int)) = (Rat.divInt a b).num ∧ b.fdiv (-((Nat.gcd a.natAbs b.natAbs : Nat) : Int)) = ((Rat.divInt a b).den : Int) := by
  have h := red_pos (a := -a) (b := -b) (by omega)
  rw [Int.natAbs_neg, Int.natAbs_neg, Rat.neg_divInt_neg] at h
  have f : ∀ x g : Int, x.fdiv (-g) = (-x).fdiv g := fun x g => by rw [← Int.neg_fdiv_neg]; rw [Int.neg_neg]
  rw [f, f]
  exact h
/-- the check of a told quotient -/
theorem is_div {r : Rat} {a b : Int} (hb : b ≠ 0) (h : r = Rat.divInt a b) : r.num * b = a * r.den := by
  have hd : (r.den : Int) ≠ 0 := by have := r.den_pos; omega
  rw [← Rat.num_divInt_den r] at h
  exact (Rat.divInt_eq_divInt_iff hd hb).mp h
end MQ
set_option Elab.async false
set_option linter.all false
set_option maxRecDepth 100000
set_option maxHeartbeats 4000000
namespace K01
open PySem RX
theorem up {n k : Nat} (h : k + 1 ≤ n) : ∃ m, n = m + 1 ∧ k ≤ m := ⟨n - 1, by omega, by omega⟩
def isI : D → Bool
  | .int _ => true
  | _ => false
theorem isT_ok {x : D} {t : Ty5} (h : x.plain = true) : ∃ b, isT x t = some b := by
  cases x <;> cases t <;> first | exact ⟨_, rfl⟩ | cases h
theorem s0 {n : Nat} (hn : 1 ≤ n) {x : D} (h : x.plain = true) : callN T n 0 [.d x] = .ok (.d (.bl (isI x))) [] := by
  obtain ⟨m, rfl, hm⟩ := up hn
  rw [callN_eq (d := d0) (np := 1) (ns := 1) rfl rfl]
  unfold d0
  cases x with
  | int i => simp -dsimp -implicitDefEqProofs (disch := first | assumption | omega | decide) only [RX.x_C, RX.varK_v, RX.varK_o, RX.x_Var, RX.toR_some, RX.toB_some, RX.toT_some, RX.toS_some, RX.lk_some, RX.x_Op, RX.x_Un, RX.x_tE, RX.x_tNot, RX.x_tAnd, RX.x_tOr, RX.asB_bl, RX.x_And, RX.x_Or, RX.x_Not, RX.x_If, RX.x_nil, RX.x_cons, RX.x_Tup, RX.x_Lst, RX.x_IxV, RX.x_B, RX.x_B1, RX.x_Cmp, RX.x_anil, RX.x_av, RX.x_ae, RX.x_Call, RX.x_CallK, RX.x_CallV, RX.vK_fn, RX.x_do, RX.goK_some, RX.backE_some, RX.back_ok, RX.back_exc, RX.x_Seq, RX.x_Pass, RX.x_Brk, RX.x_Cont, RX.x_Set, RX.x_Unp, RX.x_Par, RX.x_Expr, RX.x_Ret, RX.retK_v, RX.retK_o, RX.x_RetV, RX.x_RetN, RX.x_SIf, RX.x_For, RX.x_Raise, RX.itK_some, RX.rgK_some, RX.x_iE, RX.x_iR1, RX.x_forN, RX.x_forC, RX.x_Try, RX.try_ret, RX.try_next, RX.try_exc, RX.h1K_some, RX.suite_ret, RX.suite_next, RX.x_Fld, RX.fldK_some, RX.stK_some, RX.turn_next, RX.turn_cont, RX.turn_brk, RX.turn_ret, RX.end_ret, RX.end_next, RX.end_exc, RX.pk_t, RX.pk_f, RX.bnd_ok, RX.bnd_exc, RX.outK_ok, RX.outK_exc, RX.obnd_next, RX.obnd_ret, RX.obnd_brk, RX.obnd_cont, RX.obnd_exc, RX.tr_bl, RX.tr_int, RX.f_add, RX.f_sub, RX.f_mul, RX.f_div, RX.f_mod, RX.f_neg, RX.f_lt, RX.f_le, RX.f_gt, RX.f_ge, RX.f_eqI, RX.f_neI, RX.f_eqB, RX.f_isN, RX.f_isNotN, RX.look, RX.isOwn, RX.owns, RX.argOf, RX.argsOf, RX.backTo, RX.nodupN, RX.stSl, RX.stAll, RX.Tg.st, RX.Ex.frz, RX.Ex.sl, RX.finish, RX.outsOf, RX.Arg.sl, RX.D.items?, RX.D.asInt?, RX.permL, RX.D.isNon, List.getElem?_cons_zero, List.getElem?_cons_succ, List.getElem?_nil, List.set_cons_zero, List.set_cons_succ, List.map_cons, List.map_nil, List.nil_append, List.cons_append, List.replicate_succ, List.replicate_zero, List.length_cons, List.length_nil, List.contains_nil, List.contains_cons, List.isEmpty_nil, List.isEmpty_cons, List.filterMap_cons, List.filterMap_nil, Option.map_some, Option.map_none, Option.bind_some, Option.bind_none, List.any_cons, List.any_nil, RX.Arg.isOwn, Bool.not_true, Bool.not_false, Bool.true_and, Bool.false_and, Bool.and_true, Bool.and_false, Bool.or_true, Bool.or_false, Bool.true_or, Bool.false_or, if_true, if_false, Bool.false_eq_true, ↓reduceIte, ite_true, ite_false, decide_true, decide_false, Nat.reduceSub, Nat.reduceAdd, beq_self_eq_true, bIsi, isT, isI]
  | bl b => simp -dsimp -implicitDefEqProofs (disch := first | assumption | omega | decide) only [RX.x_C, RX.varK_v, RX.varK_o, RX.x_Var, RX.toR_some, RX.toB_some, RX.toT_some, RX.toS_some, RX.lk_some, RX.x_Op, RX.x_Un, RX.x_tE, RX.x_tNot, RX.x_tAnd, RX.x_tOr, RX.asB_bl, RX.x_And, RX.x_Or, RX.x_Not, RX.x_If, RX.x_nil, RX.x_cons, RX.x_Tup, RX.x_Lst, RX.x_IxV, RX.x_B, RX.x_B1, RX.x_Cmp, RX.x_anil, RX.x_av, RX.x_ae, RX.x_Call, RX.x_CallK, RX.x_CallV, RX.vK_fn, RX.x_do, RX.goK_some, RX.backE_some, RX.back_ok, RX.back_exc, RX.x_Seq, RX.x_Pass, RX.x_Brk, RX.x_Cont, RX.x_Set, RX.x_Unp, RX.x_Par, RX.x_Expr, RX.x_Ret, RX.retK_v, RX.retK_o, RX.x_RetV, RX.x_RetN, RX.x_SIf, RX.x_For, RX.x_Raise, RX.itK_some, RX.rgK_some, RX.x_iE, RX.x_iR1, RX.x_forN, RX.x_forC, RX.x_Try, RX.try_ret, RX.try_next, RX.try_exc, RX.h1K_some, RX.suite_ret, RX.suite_next, RX.x_Fld, RX.fldK_some, RX.stK_some, RX.turn_next, RX.turn_cont, RX.turn_brk, RX.turn_ret, RX.end_ret, RX.end_next, RX.end_exc, RX.pk_t, RX.pk_f, RX.bnd_ok, RX.bnd_exc, RX.outK_ok, RX.outK_exc, RX.obnd_next, RX.obnd_ret, RX.obnd_brk, RX.obnd_cont, RX.obnd_exc, RX.tr_bl, RX.tr_int, RX.f_add, RX.f_sub, RX.f_mul, RX.f_div, RX.f_mod, RX.f_neg, RX.f_lt, RX.f_le, RX.f_gt, RX.f_ge, RX.f_eqI, RX.f_neI, RX.f_eqB, RX.f_isN, RX.f_isNotN, RX.look, RX.isOwn, RX.owns, RX.argOf, RX.argsOf, RX.backTo, RX.nodupN, RX.stSl, RX.stAll, RX.Tg.st, RX.Ex.frz, RX.Ex.sl, RX.finish, RX.outsOf, RX.Arg.sl, RX.D.items?, RX.D.asInt?, RX.permL, RX.D.isNon, List.getElem?_cons_zero, List.getElem?_cons_succ, List.getElem?_nil, List.set_cons_zero, List.set_cons_succ, List.map_cons, List.map_nil, List.nil_append, List.cons_append, List.replicate_succ, List.replicate_zero, List.length_cons, List.length_nil, List.contains_nil, List.contains_cons, List.isEmpty_nil, List.isEmpty_cons, List.filterMap_cons, List.filterMap_nil, Option.map_some, Option.map_none, Option.bind_some, Option.bind_none, List.any_cons, List.any_nil, RX.Arg.isOwn, Bool.not_true, Bool.not_false, Bool.true_and, Bool.false_and, Bool.and_true, Bool.and_false, Bool.or_true, Bool.or_false, Bool.true_or, Bool.false_or, if_true, if_false, Bool.false_eq_true, ↓reduceIte, ite_true, ite_false, decide_true, decide_false, Nat.reduceSub, Nat.reduceAdd, beq_self_eq_true, bIsi, isT, isI]
  | non => simp -dsimp -implicitDefEqProofs (disch := first | assumption | omega | decide) only [RX.x_C, RX.varK_v, RX.varK_o, RX.x_Var, RX.toR_some, RX.toB_some, RX.toT_some, RX.toS_some, RX.lk_some, RX.x_Op, RX.x_Un, RX.x_tE, RX.x_tNot, RX.x_tAnd, RX.x_tOr, RX.asB_bl, RX.x_And, RX.x_Or, RX.x_Not, RX.x_If, RX.x_nil, RX.x_cons, RX.x_Tup, RX.x_Lst, RX.x_IxV, RX.x_B, RX.x_B1, RX.x_Cmp, RX.x_anil, RX.x_av, RX.x_ae, RX.x_Call, RX.x_CallK, RX.x_CallV, RX.vK_fn, RX.x_do, RX.goK_some, RX.backE_some, RX.back_ok, RX.back_exc, RX.x_Seq, RX.x_Pass, RX.x_Brk, RX.x_Cont, RX.x_Set, RX.x_Unp, RX.x_Par, RX.x_Expr, RX.x_Ret, RX.retK_v, RX.retK_o, RX.x_RetV, RX.x_RetN, RX.x_SIf, RX.x_For, RX.x_Raise, RX.itK_some, RX.rgK_some, RX.x_iE, RX.x_iR1, RX.x_forN, RX.x_forC, RX.x_Try, RX.try_ret, RX.try_next, RX.try_exc, RX.h1K_some, RX.suite_ret, RX.suite_next, RX.x_Fld, RX.fldK_some, RX.stK_some, RX.turn_next, RX.turn_cont, RX.turn_brk, RX.turn_ret, RX.end_ret, RX.end_next, RX.end_exc, RX.pk_t, RX.pk_f, RX.bnd_ok, RX.bnd_exc, RX.outK_ok, RX.outK_exc, RX.obnd_next, RX.obnd_ret, RX.obnd_brk, RX.obnd_cont, RX.obnd_exc, RX.tr_bl, RX.tr_int, RX.f_add, RX.f_sub, RX.f_mul, RX.f_div, RX.f_mod, RX.f_neg, RX.f_lt, RX.f_le, RX.f_gt, RX.f_ge, RX.f_eqI, RX.f_neI, RX.f_eqB, RX.f_isN, RX.f_isNotN, RX.look, RX.isOwn, RX.owns, RX.argOf, RX.argsOf, RX.backTo, RX.nodupN, RX.stSl, RX.stAll, RX.Tg.st, RX.Ex.frz, RX.Ex.sl, RX.finish, RX.outsOf, RX.Arg.sl, RX.D.items?, RX.D.asInt?, RX.permL, RX.D.isNon, List.getElem?_cons_zero, List.getElem?_cons_succ, List.getElem?_nil, List.set_cons_zero, List.set_cons_succ, List.map_cons, List.map_nil, List.nil_append, List.cons_append, List.replicate_succ, List.replicate_zero, List.length_cons, List.length_nil, List.contains_nil, List.contains_cons, List.isEmpty_nil, List.isEmpty_cons, List.filterMap_cons, List.filterMap_nil, Option.map_some, Option.map_none, Option.bind_some, Option.bind_none, List.any_cons, List.any_nil, RX.Arg.isOwn, Bool.not_true, Bool.not_false, Bool.true_and, Bool.false_and, Bool.and_true, Bool.and_false, Bool.or_true, Bool.or_false, Bool.true_or, Bool.false_or, if_true, if_false, Bool.false_eq_true, ↓reduceIte, ite_true, ite_false, decide_true, decide_false, Nat.reduceSub, Nat.reduceAdd, beq_self_eq_true, bIsi, isT, isI]
  | str s => simp -dsimp -implicitDefEqProofs (disch := first | assumption | omega | decide) only [RX.x_C, RX.varK_v, RX.varK_o, RX.x_Var, RX.toR_some, RX.toB_some, RX.toT_some, RX.toS_some, RX.lk_some, RX.x_Op, RX.x_Un, RX.x_tE, RX.x_tNot, RX.x_tAnd, RX.x_tOr, RX.asB_bl, RX.x_And, RX.x_Or, RX.x_Not, RX.x_If, RX.x_nil, RX.x_cons, RX.x_Tup, RX.x_Lst, RX.x_IxV, RX.x_B, RX.x_B1, RX.x_Cmp, RX.x_anil, RX.x_av, RX.x_ae, RX.x_Call, RX.x_CallK, RX.x_CallV, RX.vK_fn, RX.x_do, RX.goK_some, RX.backE_some, RX.back_ok, RX.back_exc, RX.x_Seq, RX.x_Pass, RX.x_Brk, RX.x_Cont, RX.x_Set, RX.x_Unp, RX.x_Par, RX.x_Expr, RX.x_Ret, RX.retK_v, RX.retK_o, RX.x_RetV, RX.x_RetN, RX.x_SIf, RX.x_For, RX.x_Raise, RX.itK_some, RX.rgK_some, RX.x_iE, RX.x_iR1, RX.x_forN, RX.x_forC, RX.x_Try, RX.try_ret, RX.try_next, RX.try_exc, RX.h1K_some, RX.suite_ret, RX.suite_next, RX.x_Fld, RX.fldK_some, RX.stK_some, RX.turn_next, RX.turn_cont, RX.turn_brk, RX.turn_ret, RX.end_ret, RX.end_next, RX.end_exc, RX.pk_t, RX.pk_f, RX.bnd_ok, RX.bnd_exc, RX.outK_ok, RX.outK_exc, RX.obnd_next, RX.obnd_ret, RX.obnd_brk, RX.obnd_cont, RX.obnd_exc, RX.tr_bl, RX.tr_int, RX.f_add, RX.f_sub, RX.f_mul, RX.f_div, RX.f_mod, RX.f_neg, RX.f_lt, RX.f_le, RX.f_gt, RX.f_ge, RX.f_eqI, RX.f_neI, RX.f_eqB, RX.f_isN, RX.f_isNotN, RX.look, RX.isOwn, RX.owns, RX.argOf, RX.argsOf, RX.backTo, RX.nodupN, RX.stSl, RX.stAll, RX.Tg.st, RX.Ex.frz, RX.Ex.sl, RX.finish, RX.outsOf, RX.Arg.sl, RX.D.items?, RX.D.asInt?, RX.permL, RX.D.isNon, List.getElem?_cons_zero, List.getElem?_cons_succ, List.getElem?_nil, List.set_cons_zero, List.set_cons_succ, List.map_cons, List.map_nil, List.nil_append, List.cons_append, List.replicate_succ, List.replicate_zero, List.length_cons, List.length_nil, List.contains_nil, List.contains_cons, List.isEmpty_nil, List.isEmpty_cons, List.filterMap_cons, List.filterMap_nil, Option.map_some, Option.map_none, Option.bind_some, Option.bind_none, List.any_cons, List.any_nil, RX.Arg.isOwn, Bool.not_true, Bool.not_false, Bool.true_and, Bool.false_and, Bool.and_true, Bool.and_false, Bool.or_true, Bool.or_false, Bool.true_or, Bool.false_or, if_true, if_false, Bool.false_eq_true, ↓reduceIte, ite_true, ite_false, decide_true, decide_false, Nat.reduceSub, Nat.reduceAdd, beq_self_eq_true, bIsi, isT, isI]
  | tup l => simp -dsimp -implicitDefEqProofs (disch := first | assumption | omega | decide) only [RX.x_C, RX.varK_v, RX.varK_o, RX.x_Var, RX.toR_some, RX.toB_some, RX.toT_some, RX.toS_some, RX.lk_some, RX.x_Op, RX.x_Un, RX.x_tE, RX.x_tNot, RX.x_tAnd, RX.x_tOr, RX.asB_bl, RX.x_And, RX.x_Or, RX.x_Not, RX.x_If, RX.x_nil, RX.x_cons, RX.x_Tup, RX.x_Lst, RX.x_IxV, RX.x_B, RX.x_B1, RX.x_Cmp, RX.x_anil, RX.x_av, RX.x_ae, RX.x_Call, RX.x_CallK, RX.x_CallV, RX.vK_fn, RX.x_do, RX.goK_some, RX.backE_some, RX.back_ok, RX.back_exc, RX.x_Seq, RX.x_Pass, RX.x_Brk, RX.x_Cont, RX.x_Set, RX.x_Unp, RX.x_Par, RX.x_Expr, RX.x_Ret, RX.retK_v, RX.retK_o, RX.x_RetV, RX.x_RetN, RX.x_SIf, RX.x_For, RX.x_Raise, RX.itK_some, RX.rgK_some, RX.x_iE, RX.x_iR1, RX.x_forN, RX.x_forC, RX.x_Try, RX.try_ret, RX.try_next, RX.try_exc, RX.h1K_some, RX.suite_ret, RX.suite_next, RX.x_Fld, RX.fldK_some, RX.stK_some, RX.turn_next, RX.turn_cont, RX.turn_brk, RX.turn_ret, RX.end_ret, RX.end_next, RX.end_exc, RX.pk_t, RX.pk_f, RX.bnd_ok, RX.bnd_exc, RX.outK_ok, RX.outK_exc, RX.obnd_next, RX.obnd_ret, RX.obnd_brk, RX.obnd_cont, RX.obnd_exc, RX.tr_bl, RX.tr_int, RX.f_add, RX.f_sub, RX.f_mul, RX.f_div, RX.f_mod, RX.f_neg, RX.f_lt, RX.f_le, RX.f_gt, RX.f_ge, RX.f_eqI, RX.f_neI, RX.f_eqB, RX.f_isN, RX.f_isNotN, RX.look, RX.isOwn, RX.owns, RX.argOf, RX.argsOf, RX.backTo, RX.nodupN, RX.stSl, RX.stAll, RX.Tg.st, RX.Ex.frz, RX.Ex.sl, RX.finish, RX.outsOf, RX.Arg.sl, RX.D.items?, RX.D.asInt?, RX.permL, RX.D.isNon, List.getElem?_cons_zero, List.getElem?_cons_succ, List.getElem?_nil, List.set_cons_zero, List.set_cons_succ, List.map_cons, List.map_nil, List.nil_append, List.cons_append, List.replicate_succ, List.replicate_zero, List.length_cons, List.length_nil, List.contains_nil, List.contains_cons, List.isEmpty_nil, List.isEmpty_cons, List.filterMap_cons, List.filterMap_nil, Option.map_some, Option.map_none, Option.bind_some, Option.bind_none, List.any_cons, List.any_nil, RX.Arg.isOwn, Bool.not_true, Bool.not_false, Bool.true_and, Bool.false_and, Bool.and_true, Bool.and_false, Bool.or_true, Bool.or_false, Bool.true_or, Bool.false_or, if_true, if_false, Bool.false_eq_true, ↓reduceIte, ite_true, ite_false, decide_true, decide_false, Nat.reduceSub, Nat.reduceAdd, beq_self_eq_true, bIsi, isT, isI]
  | lst l => simp -dsimp -implicitDefEqProofs (disch := first | assumption | omega | decide) only [RX.x_C, RX.varK_v, RX.varK_o, RX.x_Var, RX.toR_some, RX.toB_some, RX.toT_some, RX.toS_some, RX.lk_some, RX.x_Op, RX.x_Un, RX.x_tE, RX.x_tNot, RX.x_tAnd, RX.x_tOr, RX.asB_bl, RX.x_And, RX.x_Or, RX.x_Not, RX.x_If, RX.x_nil, RX.x_cons, RX.x_Tup, RX.x_Lst, RX.x_IxV, RX.x_B, RX.x_B1, RX.x_Cmp, RX.x_anil, RX.x_av, RX.x_ae, RX.x_Call, RX.x_CallK, RX.x_CallV, RX.vK_fn, RX.x_do, RX.goK_some, RX.backE_some, RX.back_ok, RX.back_exc, RX.x_Seq, RX.x_Pass, RX.x_Brk, RX.x_Cont, RX.x_Set, RX.x_Unp, RX.x_Par, RX.x_Expr, RX.x_Ret, RX.retK_v, RX.retK_o, RX.x_RetV, RX.x_RetN, RX.x_SIf, RX.x_For, RX.x_Raise, RX.itK_some, RX.rgK_some, RX.x_iE, RX.x_iR1, RX.x_forN, RX.x_forC, RX.x_Try, RX.try_ret, RX.try_next, RX.try_exc, RX.h1K_some, RX.suite_ret, RX.suite_next, RX.x_Fld, RX.fldK_some, RX.stK_some, RX.turn_next, RX.turn_cont, RX.turn_brk, RX.turn_ret, RX.end_ret, RX.end_next, RX.end_exc, RX.pk_t, RX.pk_f, RX.bnd_ok, RX.bnd_exc, RX.outK_ok, RX.outK_exc, RX.obnd_next, RX.obnd_ret, RX.obnd_brk, RX.obnd_cont, RX.obnd_exc, RX.tr_bl, RX.tr_int, RX.f_add, RX.f_sub, RX.f_mul, RX.f_div, RX.f_mod, RX.f_neg, RX.f_lt, RX.f_le, RX.f_gt, RX.f_ge, RX.f_eqI, RX.f_neI, RX.f_eqB, RX.f_isN, RX.f_isNotN, RX.look, RX.isOwn, RX.owns, RX.argOf, RX.argsOf, RX.backTo, RX.nodupN, RX.stSl, RX.stAll, RX.Tg.st, RX.Ex.frz, RX.Ex.sl, RX.finish, RX.outsOf, RX.Arg.sl, RX.D.items?, RX.D.asInt?, RX.permL, RX.D.isNon, List.getElem?_cons_zero, List.getElem?_cons_succ, List.getElem?_nil, List.set_cons_zero, List.set_cons_succ, List.map_cons, List.map_nil, List.nil_append, List.cons_append, List.replicate_succ, List.replicate_zero, List.length_cons, List.length_nil, List.contains_nil, List.contains_cons, List.isEmpty_nil, List.isEmpty_cons, List.filterMap_cons, List.filterMap_nil, Option.map_some, Option.map_none, Option.bind_some, Option.bind_none, List.any_cons, List.any_nil, RX.Arg.isOwn, Bool.not_true, Bool.not_false, Bool.true_and, Bool.false_and, Bool.and_true, Bool.and_false, Bool.or_true, Bool.or_false, Bool.true_or, Bool.false_or, if_true, if_false, Bool.false_eq_true, ↓reduceIte, ite_true, ite_false, decide_true, decide_false, Nat.reduceSub, Nat.reduceAdd, beq_self_eq_true, bIsi, isT, isI]
  | _ => cases h
def isN : D → Bool
  | .int i => decide (0 ≤ i)
  | _ => false
theorem s1 {n : Nat} (hn : 2 ≤ n) {x : D} (h : x.plain = true) : callN T n 1 [.d x] = .ok (.d (.bl (isN x))) [] := by
  obtain ⟨m, rfl, hm⟩ := up hn
  rw [callN_eq (d := d1) (np := 1) (ns := 1) rfl rfl]
  unfold d1
  cases x with
  | int i => simp -dsimp -implicitDefEqProofs (disch := first | assumption | omega | decide) only [RX.x_C, RX.varK_v, RX.varK_o, RX.x_Var, RX.toR_some, RX.toB_some, RX.toT_some, RX.toS_some, RX.lk_some, RX.x_Op, RX.x_Un, RX.x_tE, RX.x_tNot, RX.x_tAnd, RX.x_tOr, RX.asB_bl, RX.x_And, RX.x_Or, RX.x_Not, RX.x_If, RX.x_nil, RX.x_cons, RX.x_Tup, RX.x_Lst, RX.x_IxV, RX.x_B, RX.x_B1, RX.x_Cmp, RX.x_anil, RX.x_av, RX.x_ae, RX.x_Call, RX.x_CallK, RX.x_CallV, RX.vK_fn, RX.x_do, RX.goK_some, RX.backE_some, RX.back_ok, RX.back_exc, RX.x_Seq, RX.x_Pass, RX.x_Brk, RX.x_Cont, RX.x_Set, RX.x_Unp, RX.x_Par, RX.x_Expr, RX.x_Ret, RX.retK_v, RX.retK_o, RX.x_RetV, RX.x_RetN, RX.x_SIf, RX.x_For, RX.x_Raise, RX.itK_some, RX.rgK_some, RX.x_iE, RX.x_iR1, RX.x_forN, RX.x_forC, RX.x_Try, RX.try_ret, RX.try_next, RX.try_exc, RX.h1K_some, RX.suite_ret, RX.suite_next, RX.x_Fld, RX.fldK_some, RX.stK_some, RX.turn_next, RX.turn_cont, RX.turn_brk, RX.turn_ret, RX.end_ret, RX.end_next, RX.end_exc, RX.pk_t, RX.pk_f, RX.bnd_ok, RX.bnd_exc, RX.outK_ok, RX.outK_exc, RX.obnd_next, RX.obnd_ret, RX.obnd_brk, RX.obnd_cont, RX.obnd_exc, RX.tr_bl, RX.tr_int, RX.f_add, RX.f_sub, RX.f_mul, RX.f_div, RX.f_mod, RX.f_neg, RX.f_lt, RX.f_le, RX.f_gt, RX.f_ge, RX.f_eqI, RX.f_neI, RX.f_eqB, RX.f_isN, RX.f_isNotN, RX.look, RX.isOwn, RX.owns, RX.argOf, RX.argsOf, RX.backTo, RX.nodupN, RX.stSl, RX.stAll, RX.Tg.st, RX.Ex.frz, RX.Ex.sl, RX.finish, RX.outsOf, RX.Arg.sl, RX.D.items?, RX.D.asInt?, RX.permL, RX.D.isNon, List.getElem?_cons_zero, List.getElem?_cons_succ, List.getElem?_nil, List.set_cons_zero, List.set_cons_succ, List.map_cons, List.map_nil, List.nil_append, List.cons_append, List.replicate_succ, List.replicate_zero, List.length_cons, List.length_nil, List.contains_nil, List.contains_cons, List.isEmpty_nil, List.isEmpty_cons, List.filterMap_cons, List.filterMap_nil, Option.map_some, Option.map_none, Option.bind_some, Option.bind_none, List.any_cons, List.any_nil, RX.Arg.isOwn, Bool.not_true, Bool.not_false, Bool.true_and, Bool.false_and, Bool.and_true, Bool.and_false, Bool.or_true, Bool.or_false, Bool.true_or, Bool.false_or, if_true, if_false, Bool.false_eq_true, ↓reduceIte, ite_true, ite_false, decide_true, decide_false, Nat.reduceSub, Nat.reduceAdd, beq_self_eq_true, s0 hm h, isI, isN]
  | bl b => simp -dsimp -implicitDefEqProofs (disch := first | assumption | omega | decide) only [RX.x_C, RX.varK_v, RX.varK_o, RX.x_Var, RX.toR_some, RX.toB_some, RX.toT_some, RX.toS_some, RX.lk_some, RX.x_Op, RX.x_Un, RX.x_tE, RX.x_tNot, RX.x_tAnd, RX.x_tOr, RX.asB_bl, RX.x_And, RX.x_Or, RX.x_Not, RX.x_If, RX.x_nil, RX.x_cons, RX.x_Tup, RX.x_Lst, RX.x_IxV, RX.x_B, RX.x_B1, RX.x_Cmp, RX.x_anil, RX.x_av, RX.x_ae, RX.x_Call, RX.x_CallK, RX.x_CallV, RX.vK_fn, RX.x_do, RX.goK_some, RX.backE_some, RX.back_ok, RX.back_exc, RX.x_Seq, RX.x_Pass, RX.x_Brk, RX.x_Cont, RX.x_Set, RX.x_Unp, RX.x_Par, RX.x_Expr, RX.x_Ret, RX.retK_v, RX.retK_o, RX.x_RetV, RX.x_RetN, RX.x_SIf, RX.x_For, RX.x_Raise, RX.itK_some, RX.rgK_some, RX.x_iE, RX.x_iR1, RX.x_forN, RX.x_forC, RX.x_Try, RX.try_ret, RX.try_next, RX.try_exc, RX.h1K_some, RX.suite_ret, RX.suite_next, RX.x_Fld, RX.fldK_some, RX.stK_some, RX.turn_next, RX.turn_cont, RX.turn_brk, RX.turn_ret, RX.end_ret, RX.end_next, RX.end_exc, RX.pk_t, RX.pk_f, RX.bnd_ok, RX.bnd_exc, RX.outK_ok, RX.outK_exc, RX.obnd_next, RX.obnd_ret, RX.obnd_brk, RX.obnd_cont, RX.obnd_exc, RX.tr_bl, RX.tr_int, RX.f_add, RX.f_sub, RX.f_mul, RX.f_div, RX.f_mod, RX.f_neg, RX.f_lt, RX.f_le, RX.f_gt, RX.f_ge, RX.f_eqI, RX.f_neI, RX.f_eqB, RX.f_isN, RX.f_isNotN, RX.look, RX.isOwn, RX.owns, RX.argOf, RX.argsOf, RX.backTo, RX.nodupN, RX.stSl, RX.stAll, RX.Tg.st, RX.Ex.frz, RX.Ex.sl, RX.finish, RX.outsOf, RX.Arg.sl, RX.D.items?, RX.D.asInt?, RX.permL, RX.D.isNon, List.getElem?_cons_zero, List.getElem?_cons_succ, List.getElem?_nil, List.set_cons_zero, List.set_cons_succ, List.map_cons, List.map_nil, List.nil_append, List.cons_append, List.replicate_succ, List.replicate_zero, List.length_cons, List.length_nil, List.contains_nil, List.contains_cons, List.isEmpty_nil, List.isEmpty_cons, List.filterMap_cons, List.filterMap_nil, Option.map_some, Option.map_none, Option.bind_some, Option.bind_none, List.any_cons, List.any_nil, RX.Arg.isOwn, Bool.not_true, Bool.not_false, Bool.true_and, Bool.false_and, Bool.and_true, Bool.and_false, Bool.or_true, Bool.or_false, Bool.true_or, Bool.false_or, if_true, if_false, Bool.false_eq_true, ↓reduceIte, ite_true, ite_false, decide_true, decide_false, Nat.reduceSub, Nat.reduceAdd, beq_self_eq_true, s0 hm h, isI, isN]
  | non => simp -dsimp -implicitDefEqProofs (disch := first | assumption | omega | decide) only [RX.x_C, RX.varK_v, RX.varK_o, RX.x_Var, RX.toR_some, RX.toB_some, RX.toT_some, RX.toS_some, RX.lk_some, RX.x_Op, RX.x_Un, RX.x_tE, RX.x_tNot, RX.x_tAnd, RX.x_tOr, RX.asB_bl, RX.x_And, RX.x_Or, RX.x_Not, RX.x_If, RX.x_nil, RX.x_cons, RX.x_Tup, RX.x_Lst, RX.x_IxV, RX.x_B, RX.x_B1, RX.x_Cmp, RX.x_anil, RX.x_av, RX.x_ae, RX.x_Call, RX.x_CallK, RX.x_CallV, RX.vK_fn, RX.x_do, RX.goK_some, RX.backE_some, RX.back_ok, RX.back_exc, RX.x_Seq, RX.x_Pass, RX.x_Brk, RX.x_Cont, RX.x_Set, RX.x_Unp, RX.x_Par, RX.x_Expr, RX.x_Ret, RX.retK_v, RX.retK_o, RX.x_RetV, RX.x_RetN, RX.x_SIf, RX.x_For, RX.x_Raise, RX.itK_some, RX.rgK_some, RX.x_iE, RX.x_iR1, RX.x_forN, RX.x_forC, RX.x_Try, RX.try_ret, RX.try_next, RX.try_exc, RX.h1K_some, RX.suite_ret, RX.suite_next, RX.x_Fld, RX.fldK_some, RX.stK_some, RX.turn_next, RX.turn_cont, RX.turn_brk, RX.turn_ret, RX.end_ret, RX.end_next, RX.end_exc, RX.pk_t, RX.pk_f, RX.bnd_ok, RX.bnd_exc, RX.outK_ok, RX.outK_exc, RX.obnd_next, RX.obnd_ret, RX.obnd_brk, RX.obnd_cont, RX.obnd_exc, RX.tr_bl, RX.tr_int, RX.f_add, RX.f_sub, RX.f_mul, RX.f_div, RX.f_mod, RX.f_neg, RX.f_lt, RX.f_le, RX.f_gt, RX.f_ge, RX.f_eqI, RX.f_neI, RX.f_eqB, RX.f_isN, RX.f_isNotN, RX.look, RX.isOwn, RX.owns, RX.argOf, RX.argsOf, RX.backTo, RX.nodupN, RX.stSl, RX.stAll, RX.Tg.st, RX.Ex.frz, RX.Ex.sl, RX.finish, RX.outsOf, RX.Arg.sl, RX.D.items?, RX.D.asInt?, RX.permL, RX.D.isNon, List.getElem?_cons_zero, List.getElem?_cons_succ, List.getElem?_nil, List.set_cons_zero, List.set_cons_succ, List.map_cons, List.map_nil, List.nil_append, List.cons_append, List.replicate_succ, List.replicate_zero, List.length_cons, List.length_nil, List.contains_nil, List.contains_cons, List.isEmpty_nil, List.isEmpty_cons, List.filterMap_cons, List.filterMap_nil, Option.map_some, Option.map_none, Option.bind_some, Option.bind_none, List.any_cons, List.any_nil, RX.Arg.isOwn, Bool.not_true, Bool.not_false, Bool.true_and, Bool.false_and, Bool.and_true, Bool.and_false, Bool.or_true, Bool.or_false, Bool.true_or, Bool.false_or, if_true, if_false, Bool.false_eq_true, ↓reduceIte, ite_true, ite_false, decide_true, decide_false, Nat.reduceSub, Nat.reduceAdd, beq_self_eq_true, s0 hm h, isI, isN]
  | str s => simp -dsimp -implicitDefEqProofs (disch := first | assumption | omega | decide) only [RX.x_C, RX.varK_v, RX.varK_o, RX.x_Var, RX.toR_some, RX.toB_some, RX.toT_some, RX.toS_some, RX.lk_some, RX.x_Op, RX.x_Un, RX.x_tE, RX.x_tNot, RX.x_tAnd, RX.x_tOr, RX.asB_bl, RX.x_And, RX.x_Or, RX.x_Not, RX.x_If, RX.x_nil, RX.x_cons, RX.x_Tup, RX.x_Lst, RX.x_IxV, RX.x_B, RX.x_B1, RX.x_Cmp, RX.x_anil, RX.x_av, RX.x_ae, RX.x_Call, RX.x_CallK, RX.x_CallV, RX.vK_fn, RX.x_do, RX.goK_some, RX.backE_some, RX.back_ok, RX.back_exc, RX.x_Seq, RX.x_Pass, RX.x_Brk, RX.x_Cont, RX.x_Set, RX.x_Unp, RX.x_Par, RX.x_Expr, RX.x_Ret, RX.retK_v, RX.retK_o, RX.x_RetV, RX.x_RetN, RX.x_SIf, RX.x_For, RX.x_Raise, RX.itK_some, RX.rgK_some, RX.x_iE, RX.x_iR1, RX.x_forN, RX.x_forC, RX.x_Try, RX.try_ret, RX.try_next, RX.try_exc, RX.h1K_some, RX.suite_ret, RX.suite_next, RX.x_Fld, RX.fldK_some, RX.stK_some, RX.turn_next, RX.turn_cont, RX.turn_brk, RX.turn_ret, RX.end_ret, RX.end_next, RX.end_exc, RX.pk_t, RX.pk_f, RX.bnd_ok, RX.bnd_exc, RX.outK_ok, RX.outK_exc, RX.obnd_next, RX.obnd_ret, RX.obnd_brk, RX.obnd_cont, RX.obnd_exc, RX.tr_bl, RX.tr_int, RX.f_add, RX.f_sub, RX.f_mul, RX.f_div, RX.f_mod, RX.f_neg, RX.f_lt, RX.f_le, RX.f_gt, RX.f_ge, RX.f_eqI, RX.f_neI, RX.f_eqB, RX.f_isN, RX.f_isNotN, RX.look, RX.isOwn, RX.owns, RX.argOf, RX.argsOf, RX.backTo, RX.nodupN, RX.stSl, RX.stAll, RX.Tg.st, RX.Ex.frz, RX.Ex.sl, RX.finish, RX.outsOf, RX.Arg.sl, RX.D.items?, RX.D.asInt?, RX.permL, RX.D.isNon, List.getElem?_cons_zero, List.getElem?_cons_succ, List.getElem?_nil, List.set_cons_zero, List.set_cons_succ, List.map_cons, List.map_nil, List.nil_append, List.cons_append, List.replicate_succ, List.replicate_zero, List.length_cons, List.length_nil, List.contains_nil, List.contains_cons, List.isEmpty_nil, List.isEmpty_cons, List.filterMap_cons, List.filterMap_nil, Option.map_some, Option.map_none, Option.bind_some, Option.bind_none, List.any_cons, List.any_nil, RX.Arg.isOwn, Bool.not_true, Bool.not_false, Bool.true_and, Bool.false_and, Bool.and_true, Bool.and_false, Bool.or_true, Bool.or_false, Bool.true_or, Bool.false_or, if_true, if_false, Bool.false_eq_true, ↓reduceIte, ite_true, ite_false, decide_true, decide_false, Nat.reduceSub, Nat.reduceAdd, beq_self_eq_true, s0 hm h, isI, isN]
  | tup l => simp -dsimp -implicitDefEqProofs (disch := first | assumption | omega | decide) only [RX.x_C, RX.varK_v, RX.varK_o, RX.x_Var, RX.toR_some, RX.toB_some, RX.toT_some, RX.toS_some, RX.lk_some, RX.x_Op, RX.x_Un, RX.x_tE, RX.x_tNot, RX.x_tAnd, RX.x_tOr, RX.asB_bl, RX.x_And, RX.x_Or, RX.x_Not, RX.x_If, RX.x_nil, RX.x_cons, RX.x_Tup, RX.x_Lst, RX.x_IxV, RX.x_B, RX.x_B1, RX.x_Cmp, RX.x_anil, RX.x_av, RX.x_ae, RX.x_Call, RX.x_CallK, RX.x_CallV, RX.vK_fn, RX.x_do, RX.goK_some, RX.backE_some, RX.back_ok, RX.back_exc, RX.x_Seq, RX.x_Pass, RX.x_Brk, RX.x_Cont, RX.x_Set, RX.x_Unp, RX.x_Par, RX.x_Expr, RX.x_Ret, RX.retK_v, RX.retK_o, RX.x_RetV, RX.x_RetN, RX.x_SIf, RX.x_For, RX.x_Raise, RX.itK_some, RX.rgK_some, RX.x_iE, RX.x_iR1, RX.x_forN, RX.x_forC, RX.x_Try, RX.try_ret, RX.try_next, RX.try_exc, RX.h1K_some, RX.suite_ret, RX.suite_next, RX.x_Fld, RX.fldK_some, RX.stK_some, RX.turn_next, RX.turn_cont, RX.turn_brk, RX.turn_ret, RX.end_ret, RX.end_next, RX.end_exc, RX.pk_t, RX.pk_f, RX.bnd_ok, RX.bnd_exc, RX.outK_ok, RX.outK_exc, RX.obnd_next, RX.obnd_ret, RX.obnd_brk, RX.obnd_cont, RX.obnd_exc, RX.tr_bl, RX.tr_int, RX.f_add, RX.f_sub, RX.f_mul, RX.f_div, RX.f_mod, RX.f_neg, RX.f_lt, RX.f_le, RX.f_gt, RX.f_ge, RX.f_eqI, RX.f_neI, RX.f_eqB, RX.f_isN, RX.f_isNotN, RX.look, RX.isOwn, RX.owns, RX.argOf, RX.argsOf, RX.backTo, RX.nodupN, RX.stSl, RX.stAll, RX.Tg.st, RX.Ex.frz, RX.Ex.sl, RX.finish, RX.outsOf, RX.Arg.sl, RX.D.items?, RX.D.asInt?, RX.permL, RX.D.isNon, List.getElem?_cons_zero, List.getElem?_cons_succ, List.getElem?_nil, List.set_cons_zero, List.set_cons_succ, List.map_cons, List.map_nil, List.nil_append, List.cons_append, List.replicate_succ, List.replicate_zero, List.length_cons, List.length_nil, List.contains_nil, List.contains_cons, List.isEmpty_nil, List.isEmpty_cons, List.filterMap_cons, List.filterMap_nil, Option.map_some, Option.map_none, Option.bind_some, Option.bind_none, List.any_cons, List.any_nil, RX.Arg.isOwn, Bool.not_true, Bool.not_false, Bool.true_and, Bool.false_and, Bool.and_true, Bool.and_false, Bool.or_true, Bool.or_false, Bool.true_or, Bool.false_or, if_true, if_false, Bool.false_eq_true, ↓reduceIte, ite_true, ite_false, decide_true, decide_false, Nat.reduceSub, Nat.reduceAdd, beq_self_eq_true, s0 hm h, isI, isN]
  | lst l => simp -dsimp -implicitDefEqProofs (disch := first | assumption | omega | decide) only [RX.x_C, RX.varK_v, RX.varK_o, RX.x_Var, RX.toR_some, RX.toB_some, RX.toT_some, RX.toS_some, RX.lk_some, RX.x_Op, RX.x_Un, RX.x_tE, RX.x_tNot, RX.x_tAnd, RX.x_tOr, RX.asB_bl, RX.x_And, RX.x_Or, RX.x_Not, RX.x_If, RX.x_nil, RX.x_cons, RX.x_Tup, RX.x_Lst, RX.x_IxV, RX.x_B, RX.x_B1, RX.x_Cmp, RX.x_anil, RX.x_av, RX.x_ae, RX.x_Call, RX.x_CallK, RX.x_CallV, RX.vK_fn, RX.x_do, RX.goK_some, RX.backE_some, RX.back_ok, RX.back_exc, RX.x_Seq, RX.x_Pass, RX.x_Brk, RX.x_Cont, RX.x_Set, RX.x_Unp, RX.x_Par, RX.x_Expr, RX.x_Ret, RX.retK_v, RX.retK_o, RX.x_RetV, RX.x_RetN, RX.x_SIf, RX.x_For, RX.x_Raise, RX.itK_some, RX.rgK_some, RX.x_iE, RX.x_iR1, RX.x_forN, RX.x_forC, RX.x_Try, RX.try_ret, RX.try_next, RX.try_exc, RX.h1K_some, RX.suite_ret, RX.suite_next, RX.x_Fld, RX.fldK_some, RX.stK_some, RX.turn_next, RX.turn_cont, RX.turn_brk, RX.turn_ret, RX.end_ret, RX.end_next, RX.end_exc, RX.pk_t, RX.pk_f, RX.bnd_ok, RX.bnd_exc, RX.outK_ok, RX.outK_exc, RX.obnd_next, RX.obnd_ret, RX.obnd_brk, RX.obnd_cont, RX.obnd_exc, RX.tr_bl, RX.tr_int, RX.f_add, RX.f_sub, RX.f_mul, RX.f_div, RX.f_mod, RX.f_neg, RX.f_lt, RX.f_le, RX.f_gt, RX.f_ge, RX.f_eqI, RX.f_neI, RX.f_eqB, RX.f_isN, RX.f_isNotN, RX.look, RX.isOwn, RX.owns, RX.argOf, RX.argsOf, RX.backTo, RX.nodupN, RX.stSl, RX.stAll, RX.Tg.st, RX.Ex.frz, RX.Ex.sl, RX.finish, RX.outsOf, RX.Arg.sl, RX.D.items?, RX.D.asInt?, RX.permL, RX.D.isNon, List.getElem?_cons_zero, List.getElem?_cons_succ, List.getElem?_nil, List.set_cons_zero, List.set_cons_succ, List.map_cons, List.map_nil, List.nil_append, List.cons_append, List.replicate_succ, List.replicate_zero, List.length_cons, List.length_nil, List.contains_nil, List.contains_cons, List.isEmpty_nil, List.isEmpty_cons, List.filterMap_cons, List.filterMap_nil, Option.map_some, Option.map_none, Option.bind_some, Option.bind_none, List.any_cons, List.any_nil, RX.Arg.isOwn, Bool.not_true, Bool.not_false, Bool.true_and, Bool.false_and, Bool.and_true, Bool.and_false, Bool.or_true, Bool.or_false, Bool.true_or, Bool.false_or, if_true, if_false, Bool.false_eq_true, ↓reduceIte, ite_true, ite_false, decide_true, decide_false, Nat.reduceSub, Nat.reduceAdd, beq_self_eq_true, s0 hm h, isI, isN]
  | _ => cases h
end K01
set_option Elab.async false
set_option linter.all false
set_option maxRecDepth 100000
set_option maxHeartbeats 4000000
namespace K01
open PySem RX MQ
theorem bl2 {a b : D} : bLen [.tup [a, b]] = some (.d (.int 2)) := rfl
theorem ne22 : fNe (.int 2) (.int 2) = some (.d (.bl false)) := rfl
theorem st2 {i j : Nat} {ρ : RX.Env} {a b : D} : (Tg.t [i, j]).st ρ (.tup [a, b]) = stAll ρ [i, j] [a, b] := rfl
theorem gcd1 (r : Rat) : Nat.gcd r.num.natAbs (r.den : Int).natAbs = 1 := r.reduced
theorem den0 (r : Rat) : ((r.den : Int) == 0) = false := by have := r.den_pos; exact beq_eq_false_iff_ne.mpr (by omega)
theorem s2 {n : Nat} (hn : 3 ≤ n) (r : Rat) : callN T n 2 [.d (enc r)] = .ok (.d (.bl true)) [] := by
  obtain ⟨m, rfl, hm⟩ := up hn
  rw [callN_eq (d := d2) (np := 1) (ns := 3) rfl rfl]
  unfold d2 enc
  have h1 : isI (.int r.num) = true := rfl
  have h2 : isN (.int r.den) = true := decide_eq_true (Int.natCast_nonneg r.den)
  simp -dsimp -implicitDefEqProofs (disch := first | assumption | omega | decide) only [RX.x_C, RX.varK_v, RX.varK_o, RX.x_Var, RX.toR_some, RX.toB_some, RX.toT_some, RX.toS_some, RX.lk_some, RX.x_Op, RX.x_Un, RX.x_tE, RX.x_tNot, RX.x_tAnd, RX.x_tOr, RX.asB_bl, RX.x_And, RX.x_Or, RX.x_Not, RX.x_If, RX.x_nil, RX.x_cons, RX.x_Tup, RX.x_Lst, RX.x_IxV, RX.x_B, RX.x_B1, RX.x_Cmp, RX.x_anil, RX.x_av, RX.x_ae, RX.x_Call, RX.x_CallK, RX.x_CallV, RX.vK_fn, RX.x_do, RX.goK_some, RX.backE_some, RX.back_ok, RX.back_exc, RX.x_Seq, RX.x_Pass, RX.x_Brk, RX.x_Cont, RX.x_Set, RX.x_Unp, RX.x_Par, RX.x_Expr, RX.x_Ret, RX.retK_v, RX.retK_o, RX.x_RetV, RX.x_RetN, RX.x_SIf, RX.x_For, RX.x_Raise, RX.itK_some, RX.rgK_some, RX.x_iE, RX.x_iR1, RX.x_forN, RX.x_forC, RX.x_Try, RX.try_ret, RX.try_next, RX.try_exc, RX.h1K_some, RX.suite_ret, RX.suite_next, RX.x_Fld, RX.fldK_some, RX.stK_some, RX.turn_next, RX.turn_cont, RX.turn_brk, RX.turn_ret, RX.end_ret, RX.end_next, RX.end_exc, RX.pk_t, RX.pk_f, RX.bnd_ok, RX.bnd_exc, RX.outK_ok, RX.outK_exc, RX.obnd_next, RX.obnd_ret, RX.obnd_brk, RX.obnd_cont, RX.obnd_exc, RX.tr_bl, RX.tr_int, RX.f_add, RX.f_sub, RX.f_mul, RX.f_div, RX.f_mod, RX.f_neg, RX.f_lt, RX.f_le, RX.f_gt, RX.f_ge, RX.f_eqI, RX.f_neI, RX.f_eqB, RX.f_isN, RX.f_isNotN, RX.look, RX.isOwn, RX.owns, RX.argOf, RX.argsOf, RX.backTo, RX.nodupN, RX.stSl, RX.stAll, RX.Tg.st, RX.Ex.frz, RX.Ex.sl, RX.finish, RX.outsOf, RX.Arg.sl, RX.D.items?, RX.D.asInt?, RX.permL, RX.D.isNon, List.getElem?_cons_zero, List.getElem?_cons_succ, List.getElem?_nil, List.set_cons_zero, List.set_cons_succ, List.map_cons, List.map_nil, List.nil_append, List.cons_append, List.replicate_succ, List.replicate_zero, List.length_cons, List.length_nil, List.contains_nil, List.contains_cons, List.isEmpty_nil, List.isEmpty_cons, List.filterMap_cons, List.filterMap_nil, Option.map_some, Option.map_none, Option.bind_some, Option.bind_none, List.any_cons, List.any_nil, RX.Arg.isOwn, Bool.not_true, Bool.not_false, Bool.true_and, Bool.false_and, Bool.and_true, Bool.and_false, Bool.or_true, Bool.or_false, Bool.true_or, Bool.false_or, if_true, if_false, Bool.false_eq_true, ↓reduceIte, ite_true, ite_false, decide_true, decide_false, Nat.reduceSub, Nat.reduceAdd, beq_self_eq_true, bIsi, isT, bl2, ne22, st2, s0 (n := m) (by omega) (x := .int r.num) rfl, s1 (n := m) (by omega) (x := .int r.den) rfl, h1, h2, den0 r, bGcd, gcd1 r]
  rfl
theorem s3t {n : Nat} (hn : 1 ≤ n) (x : D) : callN T n 3 [.d x, .d (.bl true)] = .ok (.d .non) [] := by
  obtain ⟨m, rfl, hm⟩ := up hn
  rw [callN_eq (d := d3) (np := 2) (ns := 2) rfl rfl]
  unfold d3
  simp -dsimp -implicitDefEqProofs (disch := first | assumption | omega | decide) only [RX.x_C, RX.varK_v, RX.varK_o, RX.x_Var, RX.toR_some, RX.toB_some, RX.toT_some, RX.toS_some, RX.lk_some, RX.x_Op, RX.x_Un, RX.x_tE, RX.x_tNot, RX.x_tAnd, RX.x_tOr, RX.asB_bl, RX.x_And, RX.x_Or, RX.x_Not, RX.x_If, RX.x_nil, RX.x_cons, RX.x_Tup, RX.x_Lst, RX.x_IxV, RX.x_B, RX.x_B1, RX.x_Cmp, RX.x_anil, RX.x_av, RX.x_ae, RX.x_Call, RX.x_CallK, RX.x_CallV, RX.vK_fn, RX.x_do, RX.goK_some, RX.backE_some, RX.back_ok, RX.back_exc, RX.x_Seq, RX.x_Pass, RX.x_Brk, RX.x_Cont, RX.x_Set, RX.x_Unp, RX.x_Par, RX.x_Expr, RX.x_Ret, RX.retK_v, RX.retK_o, RX.x_RetV, RX.x_RetN, RX.x_SIf, RX.x_For, RX.x_Raise, RX.itK_some, RX.rgK_some, RX.x_iE, RX.x_iR1, RX.x_forN, RX.x_forC, RX.x_Try, RX.try_ret, RX.try_next, RX.try_exc, RX.h1K_some, RX.suite_ret, RX.suite_next, RX.x_Fld, RX.fldK_some, RX.stK_some, RX.turn_next, RX.turn_cont, RX.turn_brk, RX.turn_ret, RX.end_ret, RX.end_next, RX.end_exc, RX.pk_t, RX.pk_f, RX.bnd_ok, RX.bnd_exc, RX.outK_ok, RX.outK_exc, RX.obnd_next, RX.obnd_ret, RX.obnd_brk, RX.obnd_cont, RX.obnd_exc, RX.tr_bl, RX.tr_int, RX.f_add, RX.f_sub, RX.f_mul, RX.f_div, RX.f_mod, RX.f_neg, RX.f_lt, RX.f_le, RX.f_gt, RX.f_ge, RX.f_eqI, RX.f_neI, RX.f_eqB, RX.f_isN, RX.f_isNotN, RX.look, RX.isOwn, RX.owns, RX.argOf, RX.argsOf, RX.backTo, RX.nodupN, RX.stSl, RX.stAll, RX.Tg.st, RX.Ex.frz, RX.Ex.sl, RX.finish, RX.outsOf, RX.Arg.sl, RX.D.items?, RX.D.asInt?, RX.permL, RX.D.isNon, List.getElem?_cons_zero, List.getElem?_cons_succ, List.getElem?_nil, List.set_cons_zero, List.set_cons_succ, List.map_cons, List.map_nil, List.nil_append, List.cons_append, List.replicate_succ, List.replicate_zero, List.length_cons, List.length_nil, List.contains_nil, List.contains_cons, List.isEmpty_nil, List.isEmpty_cons, List.filterMap_cons, List.filterMap_nil, Option.map_some, Option.map_none, Option.bind_some, Option.bind_none, List.any_cons, List.any_nil, RX.Arg.isOwn, Bool.not_true, Bool.not_false, Bool.true_and, Bool.false_and, Bool.and_true, Bool.and_false, Bool.or_true, Bool.or_false, Bool.true_or, Bool.false_or, if_true, if_false, Bool.false_eq_true, ↓reduceIte, ite_true, ite_false, decide_true, decide_false, Nat.reduceSub, Nat.reduceAdd, beq_self_eq_true]
theorem s3f {n : Nat} (hn : 1 ≤ n) (x : D) : callN T n 3 [.d x, .d (.bl false)] = .exc 0 [("word", x), ("at", .int (-1))] := by
  obtain ⟨m, rfl, hm⟩ := up hn
  rw [callN_eq (d := d3) (np := 2) (ns := 2) rfl rfl]
  unfold d3
  simp -dsimp -implicitDefEqProofs (disch := first | assumption | omega | decide) only [RX.x_C, RX.varK_v, RX.varK_o, RX.x_Var, RX.toR_some, RX.toB_some, RX.toT_some, RX.toS_some, RX.lk_some, RX.x_Op, RX.x_Un, RX.x_tE, RX.x_tNot, RX.x_tAnd, RX.x_tOr, RX.asB_bl, RX.x_And, RX.x_Or, RX.x_Not, RX.x_If, RX.x_nil, RX.x_cons, RX.x_Tup, RX.x_Lst, RX.x_IxV, RX.x_B, RX.x_B1, RX.x_Cmp, RX.x_anil, RX.x_av, RX.x_ae, RX.x_Call, RX.x_CallK, RX.x_CallV, RX.vK_fn, RX.x_do, RX.goK_some, RX.backE_some, RX.back_ok, RX.back_exc, RX.x_Seq, RX.x_Pass, RX.x_Brk, RX.x_Cont, RX.x_Set, RX.x_Unp, RX.x_Par, RX.x_Expr, RX.x_Ret, RX.retK_v, RX.retK_o, RX.x_RetV, RX.x_RetN, RX.x_SIf, RX.x_For, RX.x_Raise, RX.itK_some, RX.rgK_some, RX.x_iE, RX.x_iR1, RX.x_forN, RX.x_forC, RX.x_Try, RX.try_ret, RX.try_next, RX.try_exc, RX.h1K_some, RX.suite_ret, RX.suite_next, RX.x_Fld, RX.fldK_some, RX.stK_some, RX.turn_next, RX.turn_cont, RX.turn_brk, RX.turn_ret, RX.end_ret, RX.end_next, RX.end_exc, RX.pk_t, RX.pk_f, RX.bnd_ok, RX.bnd_exc, RX.outK_ok, RX.outK_exc, RX.obnd_next, RX.obnd_ret, RX.obnd_brk, RX.obnd_cont, RX.obnd_exc, RX.tr_bl, RX.tr_int, RX.f_add, RX.f_sub, RX.f_mul, RX.f_div, RX.f_mod, RX.f_neg, RX.f_lt, RX.f_le, RX.f_gt, RX.f_ge, RX.f_eqI, RX.f_neI, RX.f_eqB, RX.f_isN, RX.f_isNotN, RX.look, RX.isOwn, RX.owns, RX.argOf, RX.argsOf, RX.backTo, RX.nodupN, RX.stSl, RX.stAll, RX.Tg.st, RX.Ex.frz, RX.Ex.sl, RX.finish, RX.outsOf, RX.Arg.sl, RX.D.items?, RX.D.asInt?, RX.permL, RX.D.isNon, List.getElem?_cons_zero, List.getElem?_cons_succ, List.getElem?_nil, List.set_cons_zero, List.set_cons_succ, List.map_cons, List.map_nil, List.nil_append, List.cons_append, List.replicate_succ, List.replicate_zero, List.length_cons, List.length_nil, List.contains_nil, List.contains_cons, List.isEmpty_nil, List.isEmpty_cons, List.filterMap_cons, List.filterMap_nil, Option.map_some, Option.map_none, Option.bind_some, Option.bind_none, List.any_cons, List.any_nil, RX.Arg.isOwn, Bool.not_true, Bool.not_false, Bool.true_and, Bool.false_and, Bool.and_true, Bool.and_false, Bool.or_true, Bool.or_false, Bool.true_or, Bool.false_or, if_true, if_false, Bool.false_eq_true, ↓reduceIte, ite_true, ite_false, decide_true, decide_false, Nat.reduceSub, Nat.reduceAdd, beq_self_eq_true]
  rfl
theorem s4 {n : Nat} (hn : 1 ≤ n) {a b : Int} {k : Nat} (hb : b ≠ 0) (hs : Sm k b) (hk : k < 9000) : callN T n 4 [.d (.int a), .d (.int b)] = .ok (.d (enc (Rat.divInt a b))) [] := by
  obtain ⟨m, rfl, hm⟩ := up hn
  rw [callN_eq (d := d4) (np := 2) (ns := 3) rfl rfl]
  unfold d4 enc
  have hg0 : 0 < Nat.gcd a.natAbs b.natAbs := Nat.gcd_pos_of_pos_right _ (by omega)
  have hg : Sm k ((Nat.gcd a.natAbs b.natAbs : Nat) : Int) := by
    unfold Sm at *
    rw [Int.natAbs_natCast]
    have := Nat.le_of_dvd (by omega) (Nat.gcd_dvd_right a.natAbs b.natAbs)
    omega
  rcases Int.lt_or_le b 0 with h | h
  · have hd := dk hg.neg hk (by omega)
    obtain ⟨e1, e2⟩ := red_neg (a := a) h
    simp -dsimp -implicitDefEqProofs (disch := first | assumption | omega | decide) only [RX.x_C, RX.varK_v, RX.varK_o, RX.x_Var, RX.toR_some, RX.toB_some, RX.toT_some, RX.toS_some, RX.lk_some, RX.x_Op, RX.x_Un, RX.x_tE, RX.x_tNot, RX.x_tAnd, RX.x_tOr, RX.asB_bl, RX.x_And, RX.x_Or, RX.x_Not, RX.x_If, RX.x_nil, RX.x_cons, RX.x_Tup, RX.x_Lst, RX.x_IxV, RX.x_B, RX.x_B1, RX.x_Cmp, RX.x_anil, RX.x_av, RX.x_ae, RX.x_Call, RX.x_CallK, RX.x_CallV, RX.vK_fn, RX.x_do, RX.goK_some, RX.backE_some, RX.back_ok, RX.back_exc, RX.x_Seq, RX.x_Pass, RX.x_Brk, RX.x_Cont, RX.x_Set, RX.x_Unp, RX.x_Par, RX.x_Expr, RX.x_Ret, RX.retK_v, RX.retK_o, RX.x_RetV, RX.x_RetN, RX.x_SIf, RX.x_For, RX.x_Raise, RX.itK_some, RX.rgK_some, RX.x_iE, RX.x_iR1, RX.x_forN, RX.x_forC, RX.x_Try, RX.try_ret, RX.try_next, RX.try_exc, RX.h1K_some, RX.suite_ret, RX.suite_next, RX.x_Fld, RX.fldK_some, RX.stK_some, RX.turn_next, RX.turn_cont, RX.turn_brk, RX.turn_ret, RX.end_ret, RX.end_next, RX.end_exc, RX.pk_t, RX.pk_f, RX.bnd_ok, RX.bnd_exc, RX.outK_ok, RX.outK_exc, RX.obnd_next, RX.obnd_ret, RX.obnd_brk, RX.obnd_cont, RX.obnd_exc, RX.tr_bl, RX.tr_int, RX.f_add, RX.f_sub, RX.f_mul, RX.f_div, RX.f_mod, RX.f_neg, RX.f_lt, RX.f_le, RX.f_gt, RX.f_ge, RX.f_eqI, RX.f_neI, RX.f_eqB, RX.f_isN, RX.f_isNotN, RX.look, RX.isOwn, RX.owns, RX.argOf, RX.argsOf, RX.backTo, RX.nodupN, RX.stSl, RX.stAll, RX.Tg.st, RX.Ex.frz, RX.Ex.sl, RX.finish, RX.outsOf, RX.Arg.sl, RX.D.items?, RX.D.asInt?, RX.permL, RX.D.isNon, List.getElem?_cons_zero, List.getElem?_cons_succ, List.getElem?_nil, List.set_cons_zero, List.set_cons_succ, List.map_cons, List.map_nil, List.nil_append, List.cons_append, List.replicate_succ, List.replicate_zero, List.length_cons, List.length_nil, List.contains_nil, List.contains_cons, List.isEmpty_nil, List.isEmpty_cons, List.filterMap_cons, List.filterMap_nil, Option.map_some, Option.map_none, Option.bind_some, Option.bind_none, List.any_cons, List.any_nil, RX.Arg.isOwn, Bool.not_true, Bool.not_false, Bool.true_and, Bool.false_and, Bool.and_true, Bool.and_false, Bool.or_true, Bool.or_false, Bool.true_or, Bool.false_or, if_true, if_false, Bool.false_eq_true, ↓reduceIte, ite_true, ite_false, decide_true, decide_false, Nat.reduceSub, Nat.reduceAdd, beq_self_eq_true, bGcd, decide_eq_true h, hd, e1, e2]
  · have hd := dk hg hk (by omega)
    obtain ⟨e1, e2⟩ := red_pos (a := a) (b := b) (by omega)
    simp -dsimp -implicitDefEqProofs (disch := first | assumption | omega | decide) only [RX.x_C, RX.varK_v, RX.varK_o, RX.x_Var, RX.toR_some, RX.toB_some, RX.toT_some, RX.toS_some, RX.lk_some, RX.x_Op, RX.x_Un, RX.x_tE, RX.x_tNot, RX.x_tAnd, RX.x_tOr, RX.asB_bl, RX.x_And, RX.x_Or, RX.x_Not, RX.x_If, RX.x_nil, RX.x_cons, RX.x_Tup, RX.x_Lst, RX.x_IxV, RX.x_B, RX.x_B1, RX.x_Cmp, RX.x_anil, RX.x_av, RX.x_ae, RX.x_Call, RX.x_CallK, RX.x_CallV, RX.vK_fn, RX.x_do, RX.goK_some, RX.backE_some, RX.back_ok, RX.back_exc, RX.x_Seq, RX.x_Pass, RX.x_Brk, RX.x_Cont, RX.x_Set, RX.x_Unp, RX.x_Par, RX.x_Expr, RX.x_Ret, RX.retK_v, RX.retK_o, RX.x_RetV, RX.x_RetN, RX.x_SIf, RX.x_For, RX.x_Raise, RX.itK_some, RX.rgK_some, RX.x_iE, RX.x_iR1, RX.x_forN, RX.x_forC, RX.x_Try, RX.try_ret, RX.try_next, RX.try_exc, RX.h1K_some, RX.suite_ret, RX.suite_next, RX.x_Fld, RX.fldK_some, RX.stK_some, RX.turn_next, RX.turn_cont, RX.turn_brk, RX.turn_ret, RX.end_ret, RX.end_next, RX.end_exc, RX.pk_t, RX.pk_f, RX.bnd_ok, RX.bnd_exc, RX.outK_ok, RX.outK_exc, RX.obnd_next, RX.obnd_ret, RX.obnd_brk, RX.obnd_cont, RX.obnd_exc, RX.tr_bl, RX.tr_int, RX.f_add, RX.f_sub, RX.f_mul, RX.f_div, RX.f_mod, RX.f_neg, RX.f_lt, RX.f_le, RX.f_gt, RX.f_ge, RX.f_eqI, RX.f_neI, RX.f_eqB, RX.f_isN, RX.f_isNotN, RX.look, RX.isOwn, RX.owns, RX.argOf, RX.argsOf, RX.backTo, RX.nodupN, RX.stSl, RX.stAll, RX.Tg.st, RX.Ex.frz, RX.Ex.sl, RX.finish, RX.outsOf, RX.Arg.sl, RX.D.items?, RX.D.asInt?, RX.permL, RX.D.isNon, List.getElem?_cons_zero, List.getElem?_cons_succ, List.getElem?_nil, List.set_cons_zero, List.set_cons_succ, List.map_cons, List.map_nil, List.nil_append, List.cons_append, List.replicate_succ, List.replicate_zero, List.length_cons, List.length_nil, List.contains_nil, List.contains_cons, List.isEmpty_nil, List.isEmpty_cons, List.filterMap_cons, List.filterMap_nil, Option.map_some, Option.map_none, Option.bind_some, Option.bind_none, List.any_cons, List.any_nil, RX.Arg.isOwn, Bool.not_true, Bool.not_false, Bool.true_and, Bool.false_and, Bool.and_true, Bool.and_false, Bool.or_true, Bool.or_false, Bool.true_or, Bool.false_or, if_true, if_false, Bool.false_eq_true, ↓reduceIte, ite_true, ite_false, decide_true, decide_false, Nat.reduceSub, Nat.reduceAdd, beq_self_eq_true, bGcd, decide_eq_false (show ¬ b < 0 by omega), hd, e1, e2]
end K01
set_option Elab.async false
set_option linter.all false
set_option maxRecDepth 100000
set_option maxHeartbeats 4000000
namespace K01
open PySem RX MQ
theorem ix0 {a b : D} : fIx (.tup [a, b]) (.int 0) = some (.d a) := rfl
theorem ix1 {a b : D} : fIx (.tup [a, b]) (.int 1) = some (.d b) := rfl
theorem den1 (r : Rat) : (r.den : Int) ≠ 0 := by have := r.den_pos; omega
theorem mulden (r s : Rat) : (r.den : Int) * s.den ≠ 0 := Int.mul_ne_zero (den1 r) (den1 s)
theorem add_eq (r s : Rat) : r + s = Rat.divInt (r.num * s.den + s.num * r.den) (r.den * s.den) := by
  rw [Rat.add_def', ← Rat.divInt_ofNat, Int.natCast_mul]
theorem sub_eq (r s : Rat) : r - s = Rat.divInt (r.num * s.den + -s.num * r.den) (r.den * s.den) := by
  rw [Rat.sub_def', ← Rat.divInt_ofNat, Int.natCast_mul, Int.neg_mul, Int.sub_eq_add_neg]
theorem mul_eq (r s : Rat) : r * s = Rat.divInt (r.num * s.num) (r.den * s.den) := by
  rw [Rat.mul_def', ← Rat.divInt_ofNat, Int.natCast_mul]
section
variable {n k m : Nat} {r s : Rat}
theorem s5 (hn : 2 ≤ n) (hr : SmQ k r) (hs : SmQ m s) (hk : k + m < 9000) : callN T n 5 [.d (enc r), .d (enc s)] = .ok (.d (enc (r + s))) [] := by
  obtain ⟨p, rfl, hp⟩ := up hn
  rw [callN_eq (d := d5) (np := 2) (ns := 2) rfl rfl]
  unfold d5 enc
  have m1 := mk hr.1 hs.2 (by omega)
  have m2 := mk hs.1 hr.2 (by omega)
  have m3 := mk hr.2 hs.2 (by omega)
  have c := s4 (n := p) (by omega) (a := r.num * s.den + s.num * r.den) (mulden r s) (hr.2.mul hs.2) (by omega)
  rw [← add_eq] at c
  simp -dsimp -implicitDefEqProofs (disch := first | assumption | omega | decide) only [RX.x_C, RX.varK_v, RX.varK_o, RX.x_Var, RX.toR_some, RX.toB_some, RX.toT_some, RX.toS_some, RX.lk_some, RX.x_Op, RX.x_Un, RX.x_tE, RX.x_tNot, RX.x_tAnd, RX.x_tOr, RX.asB_bl, RX.x_And, RX.x_Or, RX.x_Not, RX.x_If, RX.x_nil, RX.x_cons, RX.x_Tup, RX.x_Lst, RX.x_IxV, RX.x_B, RX.x_B1, RX.x_Cmp, RX.x_anil, RX.x_av, RX.x_ae, RX.x_Call, RX.x_CallK, RX.x_CallV, RX.vK_fn, RX.x_do, RX.goK_some, RX.backE_some, RX.back_ok, RX.back_exc, RX.x_Seq, RX.x_Pass, RX.x_Brk, RX.x_Cont, RX.x_Set, RX.x_Unp, RX.x_Par, RX.x_Expr, RX.x_Ret, RX.retK_v, RX.retK_o, RX.x_RetV, RX.x_RetN, RX.x_SIf, RX.x_For, RX.x_Raise, RX.itK_some, RX.rgK_some, RX.x_iE, RX.x_iR1, RX.x_forN, RX.x_forC, RX.x_Try, RX.try_ret, RX.try_next, RX.try_exc, RX.h1K_some, RX.suite_ret, RX.suite_next, RX.x_Fld, RX.fldK_some, RX.stK_some, RX.turn_next, RX.turn_cont, RX.turn_brk, RX.turn_ret, RX.end_ret, RX.end_next, RX.end_exc, RX.pk_t, RX.pk_f, RX.bnd_ok, RX.bnd_exc, RX.outK_ok, RX.outK_exc, RX.obnd_next, RX.obnd_ret, RX.obnd_brk, RX.obnd_cont, RX.obnd_exc, RX.tr_bl, RX.tr_int, RX.f_add, RX.f_sub, RX.f_mul, RX.f_div, RX.f_mod, RX.f_neg, RX.f_lt, RX.f_le, RX.f_gt, RX.f_ge, RX.f_eqI, RX.f_neI, RX.f_eqB, RX.f_isN, RX.f_isNotN, RX.look, RX.isOwn, RX.owns, RX.argOf, RX.argsOf, RX.backTo, RX.nodupN, RX.stSl, RX.stAll, RX.Tg.st, RX.Ex.frz, RX.Ex.sl, RX.finish, RX.outsOf, RX.Arg.sl, RX.D.items?, RX.D.asInt?, RX.permL, RX.D.isNon, List.getElem?_cons_zero, List.getElem?_cons_succ, List.getElem?_nil, List.set_cons_zero, List.set_cons_succ, List.map_cons, List.map_nil, List.nil_append, List.cons_append, List.replicate_succ, List.replicate_zero, List.length_cons, List.length_nil, List.contains_nil, List.contains_cons, List.isEmpty_nil, List.isEmpty_cons, List.filterMap_cons, List.filterMap_nil, Option.map_some, Option.map_none, Option.bind_some, Option.bind_none, List.any_cons, List.any_nil, RX.Arg.isOwn, Bool.not_true, Bool.not_false, Bool.true_and, Bool.false_and, Bool.and_true, Bool.and_false, Bool.or_true, Bool.or_false, Bool.true_or, Bool.false_or, if_true, if_false, Bool.false_eq_true, ↓reduceIte, ite_true, ite_false, decide_true, decide_false, Nat.reduceSub, Nat.reduceAdd, beq_self_eq_true, ix0, ix1, m1, m2, m3, c, enc]
/-- minus's second argument -/
theorem s5n (hn : 2 ≤ n) (hr : SmQ k r) (hs : SmQ m s) (hk : k + m < 9000) : callN T n 5 [.d (enc r), .d (.tup [.int (-s.num), .int s.den])] = .ok (.d (enc (r - s))) [] := by
  obtain ⟨p, rfl, hp⟩ := up hn
  rw [callN_eq (d := d5) (np := 2) (ns := 2) rfl rfl]
  unfold d5 enc
  have m1 := mk hr.1 hs.2 (by omega)
  have m2 := mk hs.1.neg hr.2 (by omega)
  have m3 := mk hr.2 hs.2 (by omega)
  have c := s4 (n := p) (by omega) (a := r.num * s.den + -s.num * r.den) (mulden r s) (hr.2.mul hs.2) (by omega)
  rw [← sub_eq] at c
  simp -dsimp -implicitDefEqProofs (disch := first | assumption | omega | decide) only [RX.x_C, RX.varK_v, RX.varK_o, RX.x_Var, RX.toR_some, RX.toB_some, RX.toT_some, RX.toS_some, RX.lk_some, RX.x_Op, RX.x_Un, RX.x_tE, RX.x_tNot, RX.x_tAnd, RX.x_tOr, RX.asB_bl, RX.x_And, RX.x_Or, RX.x_Not, RX.x_If, RX.x_nil, RX.x_cons, RX.x_Tup, RX.x_Lst, RX.x_IxV, RX.x_B, RX.x_B1, RX.x_Cmp, RX.x_anil, RX.x_av, RX.x_ae, RX.x_Call, RX.x_CallK, RX.x_CallV, RX.vK_fn, RX.x_do, RX.goK_some, RX.backE_some, RX.back_ok, RX.back_exc, RX.x_Seq, RX.x_Pass, RX.x_Brk, RX.x_Cont, RX.x_Set, RX.x_Unp, RX.x_Par, RX.x_Expr, RX.x_Ret, RX.retK_v, RX.retK_o, RX.x_RetV, RX.x_RetN, RX.x_SIf, RX.x_For, RX.x_Raise, RX.itK_some, RX.rgK_some, RX.x_iE, RX.x_iR1, RX.x_forN, RX.x_forC, RX.x_Try, RX.try_ret, RX.try_next, RX.try_exc, RX.h1K_some, RX.suite_ret, RX.suite_next, RX.x_Fld, RX.fldK_some, RX.stK_some, RX.turn_next, RX.turn_cont, RX.turn_brk, RX.turn_ret, RX.end_ret, RX.end_next, RX.end_exc, RX.pk_t, RX.pk_f, RX.bnd_ok, RX.bnd_exc, RX.outK_ok, RX.outK_exc, RX.obnd_next, RX.obnd_ret, RX.obnd_brk, RX.obnd_cont, RX.obnd_exc, RX.tr_bl, RX.tr_int, RX.f_add, RX.f_sub, RX.f_mul, RX.f_div, RX.f_mod, RX.f_neg, RX.f_lt, RX.f_le, RX.f_gt, RX.f_ge, RX.f_eqI, RX.f_neI, RX.f_eqB, RX.f_isN, RX.f_isNotN, RX.look, RX.isOwn, RX.owns, RX.argOf, RX.argsOf, RX.backTo, RX.nodupN, RX.stSl, RX.stAll, RX.Tg.st, RX.Ex.frz, RX.Ex.sl, RX.finish, RX.outsOf, RX.Arg.sl, RX.D.items?, RX.D.asInt?, RX.permL, RX.D.isNon, List.getElem?_cons_zero, List.getElem?_cons_succ, List.getElem?_nil, List.set_cons_zero, List.set_cons_succ, List.map_cons, List.map_nil, List.nil_append, List.cons_append, List.replicate_succ, List.replicate_zero, List.length_cons, List.length_nil, List.contains_nil, List.contains_cons, List.isEmpty_nil, List.isEmpty_cons, List.filterMap_cons, List.filterMap_nil, Option.map_some, Option.map_none, Option.bind_some, Option.bind_none, List.any_cons, List.any_nil, RX.Arg.isOwn, Bool.not_true, Bool.not_false, Bool.true_and, Bool.false_and, Bool.and_true, Bool.and_false, Bool.or_true, Bool.or_false, Bool.true_or, Bool.false_or, if_true, if_false, Bool.false_eq_true, ↓reduceIte, ite_true, ite_false, decide_true, decide_false, Nat.reduceSub, Nat.reduceAdd, beq_self_eq_true, ix0, ix1, m1, m2, m3, c, enc]
theorem s6 (hn : 4 ≤ n) : callN T n 6 [.d (enc r), .d (enc s)] = .ok (.d .non) [] := by
  obtain ⟨p, rfl, hp⟩ := up hn
  rw [callN_eq (d := d6) (np := 2) (ns := 2) rfl rfl]
  unfold d6
  have a1 := s2 (n := p) (by omega) r
  have a2 := s2 (n := p) (by omega) s
  have b := s3t (n := p) (by omega)
  simp -dsimp -implicitDefEqProofs (disch := first | assumption | omega | decide) only [RX.x_C, RX.varK_v, RX.varK_o, RX.x_Var, RX.toR_some, RX.toB_some, RX.toT_some, RX.toS_some, RX.lk_some, RX.x_Op, RX.x_Un, RX.x_tE, RX.x_tNot, RX.x_tAnd, RX.x_tOr, RX.asB_bl, RX.x_And, RX.x_Or, RX.x_Not, RX.x_If, RX.x_nil, RX.x_cons, RX.x_Tup, RX.x_Lst, RX.x_IxV, RX.x_B, RX.x_B1, RX.x_Cmp, RX.x_anil, RX.x_av, RX.x_ae, RX.x_Call, RX.x_CallK, RX.x_CallV, RX.vK_fn, RX.x_do, RX.goK_some, RX.backE_some, RX.back_ok, RX.back_exc, RX.x_Seq, RX.x_Pass, RX.x_Brk, RX.x_Cont, RX.x_Set, RX.x_Unp, RX.x_Par, RX.x_Expr, RX.x_Ret, RX.retK_v, RX.retK_o, RX.x_RetV, RX.x_RetN, RX.x_SIf, RX.x_For, RX.x_Raise, RX.itK_some, RX.rgK_some, RX.x_iE, RX.x_iR1, RX.x_forN, RX.x_forC, RX.x_Try, RX.try_ret, RX.try_next, RX.try_exc, RX.h1K_some, RX.suite_ret, RX.suite_next, RX.x_Fld, RX.fldK_some, RX.stK_some, RX.turn_next, RX.turn_cont, RX.turn_brk, RX.turn_ret, RX.end_ret, RX.end_next, RX.end_exc, RX.pk_t, RX.pk_f, RX.bnd_ok, RX.bnd_exc, RX.outK_ok, RX.outK_exc, RX.obnd_next, RX.obnd_ret, RX.obnd_brk, RX.obnd_cont, RX.obnd_exc, RX.tr_bl, RX.tr_int, RX.f_add, RX.f_sub, RX.f_mul, RX.f_div, RX.f_mod, RX.f_neg, RX.f_lt, RX.f_le, RX.f_gt, RX.f_ge, RX.f_eqI, RX.f_neI, RX.f_eqB, RX.f_isN, RX.f_isNotN, RX.look, RX.isOwn, RX.owns, RX.argOf, RX.argsOf, RX.backTo, RX.nodupN, RX.stSl, RX.stAll, RX.Tg.st, RX.Ex.frz, RX.Ex.sl, RX.finish, RX.outsOf, RX.Arg.sl, RX.D.items?, RX.D.asInt?, RX.permL, RX.D.isNon, List.getElem?_cons_zero, List.getElem?_cons_succ, List.getElem?_nil, List.set_cons_zero, List.set_cons_succ, List.map_cons, List.map_nil, List.nil_append, List.cons_append, List.replicate_succ, List.replicate_zero, List.length_cons, List.length_nil, List.contains_nil, List.contains_cons, List.isEmpty_nil, List.isEmpty_cons, List.filterMap_cons, List.filterMap_nil, Option.map_some, Option.map_none, Option.bind_some, Option.bind_none, List.any_cons, List.any_nil, RX.Arg.isOwn, Bool.not_true, Bool.not_false, Bool.true_and, Bool.false_and, Bool.and_true, Bool.and_false, Bool.or_true, Bool.or_false, Bool.true_or, Bool.false_or, if_true, if_false, Bool.false_eq_true, ↓reduceIte, ite_true, ite_false, decide_true, decide_false, Nat.reduceSub, Nat.reduceAdd, beq_self_eq_true, a1, a2, b]
theorem s8 (hn : 5 ≤ n) (hr : SmQ k r) (hs : SmQ m s) (hk : k + m < 9000) : callN T n 8 [.d (enc r), .d (enc s)] = .ok (.d (enc (r + s))) [] := by
  obtain ⟨p, rfl, hp⟩ := up hn
  rw [callN_eq (d := d8) (np := 2) (ns := 2) rfl rfl]
  unfold d8
  have a1 := s6 (n := p) (r := r) (s := s) (by omega)
  have a2 := s5 (n := p) (by omega) hr hs hk
  simp -dsimp -implicitDefEqProofs (disch := first | assumption | omega | decide) only [RX.x_C, RX.varK_v, RX.varK_o, RX.x_Var, RX.toR_some, RX.toB_some, RX.toT_some, RX.toS_some, RX.lk_some, RX.x_Op, RX.x_Un, RX.x_tE, RX.x_tNot, RX.x_tAnd, RX.x_tOr, RX.asB_bl, RX.x_And, RX.x_Or, RX.x_Not, RX.x_If, RX.x_nil, RX.x_cons, RX.x_Tup, RX.x_Lst, RX.x_IxV, RX.x_B, RX.x_B1, RX.x_Cmp, RX.x_anil, RX.x_av, RX.x_ae, RX.x_Call, RX.x_CallK, RX.x_CallV, RX.vK_fn, RX.x_do, RX.goK_some, RX.backE_some, RX.back_ok, RX.back_exc, RX.x_Seq, RX.x_Pass, RX.x_Brk, RX.x_Cont, RX.x_Set, RX.x_Unp, RX.x_Par, RX.x_Expr, RX.x_Ret, RX.retK_v, RX.retK_o, RX.x_RetV, RX.x_RetN, RX.x_SIf, RX.x_For, RX.x_Raise, RX.itK_some, RX.rgK_some, RX.x_iE, RX.x_iR1, RX.x_forN, RX.x_forC, RX.x_Try, RX.try_ret, RX.try_next, RX.try_exc, RX.h1K_some, RX.suite_ret, RX.suite_next, RX.x_Fld, RX.fldK_some, RX.stK_some, RX.turn_next, RX.turn_cont, RX.turn_brk, RX.turn_ret, RX.end_ret, RX.end_next, RX.end_exc, RX.pk_t, RX.pk_f, RX.bnd_ok, RX.bnd_exc, RX.outK_ok, RX.outK_exc, RX.obnd_next, RX.obnd_ret, RX.obnd_brk, RX.obnd_cont, RX.obnd_exc, RX.tr_bl, RX.tr_int, RX.f_add, RX.f_sub, RX.f_mul, RX.f_div, RX.f_mod, RX.f_neg, RX.f_lt, RX.f_le, RX.f_gt, RX.f_ge, RX.f_eqI, RX.f_neI, RX.f_eqB, RX.f_isN, RX.f_isNotN, RX.look, RX.isOwn, RX.owns, RX.argOf, RX.argsOf, RX.backTo, RX.nodupN, RX.stSl, RX.stAll, RX.Tg.st, RX.Ex.frz, RX.Ex.sl, RX.finish, RX.outsOf, RX.Arg.sl, RX.D.items?, RX.D.asInt?, RX.permL, RX.D.isNon, List.getElem?_cons_zero, List.getElem?_cons_succ, List.getElem?_nil, List.set_cons_zero, List.set_cons_succ, List.map_cons, List.map_nil, List.nil_append, List.cons_append, List.replicate_succ, List.replicate_zero, List.length_cons, List.length_nil, List.contains_nil, List.contains_cons, List.isEmpty_nil, List.isEmpty_cons, List.filterMap_cons, List.filterMap_nil, Option.map_some, Option.map_none, Option.bind_some, Option.bind_none, List.any_cons, List.any_nil, RX.Arg.isOwn, Bool.not_true, Bool.not_false, Bool.true_and, Bool.false_and, Bool.and_true, Bool.and_false, Bool.or_true, Bool.or_false, Bool.true_or, Bool.false_or, if_true, if_false, Bool.false_eq_true, ↓reduceIte, ite_true, ite_false, decide_true, decide_false, Nat.reduceSub, Nat.reduceAdd, beq_self_eq_true, a1, a2]
theorem s9 (hn : 5 ≤ n) (hr : SmQ k r) (hs : SmQ m s) (hk : k + m < 9000) : callN T n 9 [.d (enc r), .d (enc s)] = .ok (.d (enc (r - s))) [] := by
  obtain ⟨p, rfl, hp⟩ := up hn
  rw [callN_eq (d := d9) (np := 2) (ns := 2) rfl rfl]
  unfold d9
  have a1 := s6 (n := p) (r := r) (s := s) (by omega)
  have a2 := s5n (n := p) (by omega) hr hs hk
  unfold enc at a1 a2 ⊢
  simp -dsimp -implicitDefEqProofs (disch := first | assumption | omega | decide) only [RX.x_C, RX.varK_v, RX.varK_o, RX.x_Var, RX.toR_some, RX.toB_some, RX.toT_some, RX.toS_some, RX.lk_some, RX.x_Op, RX.x_Un, RX.x_tE, RX.x_tNot, RX.x_tAnd, RX.x_tOr, RX.asB_bl, RX.x_And, RX.x_Or, RX.x_Not, RX.x_If, RX.x_nil, RX.x_cons, RX.x_Tup, RX.x_Lst, RX.x_IxV, RX.x_B, RX.x_B1, RX.x_Cmp, RX.x_anil, RX.x_av, RX.x_ae, RX.x_Call, RX.x_CallK, RX.x_CallV, RX.vK_fn, RX.x_do, RX.goK_some, RX.backE_some, RX.back_ok, RX.back_exc, RX.x_Seq, RX.x_Pass, RX.x_Brk, RX.x_Cont, RX.x_Set, RX.x_Unp, RX.x_Par, RX.x_Expr, RX.x_Ret, RX.retK_v, RX.retK_o, RX.x_RetV, RX.x_RetN, RX.x_SIf, RX.x_For, RX.x_Raise, RX.itK_some, RX.rgK_some, RX.x_iE, RX.x_iR1, RX.x_forN, RX.x_forC, RX.x_Try, RX.try_ret, RX.try_next, RX.try_exc, RX.h1K_some, RX.suite_ret, RX.suite_next, RX.x_Fld, RX.fldK_some, RX.stK_some, RX.turn_next, RX.turn_cont, RX.turn_brk, RX.turn_ret, RX.end_ret, RX.end_next, RX.end_exc, RX.pk_t, RX.pk_f, RX.bnd_ok, RX.bnd_exc, RX.outK_ok, RX.outK_exc, RX.obnd_next, RX.obnd_ret, RX.obnd_brk, RX.obnd_cont, RX.obnd_exc, RX.tr_bl, RX.tr_int, RX.f_add, RX.f_sub, RX.f_mul, RX.f_div, RX.f_mod, RX.f_neg, RX.f_lt, RX.f_le, RX.f_gt, RX.f_ge, RX.f_eqI, RX.f_neI, RX.f_eqB, RX.f_isN, RX.f_isNotN, RX.look, RX.isOwn, RX.owns, RX.argOf, RX.argsOf, RX.backTo, RX.nodupN, RX.stSl, RX.stAll, RX.Tg.st, RX.Ex.frz, RX.Ex.sl, RX.finish, RX.outsOf, RX.Arg.sl, RX.D.items?, RX.D.asInt?, RX.permL, RX.D.isNon, List.getElem?_cons_zero, List.getElem?_cons_succ, List.getElem?_nil, List.set_cons_zero, List.set_cons_succ, List.map_cons, List.map_nil, List.nil_append, List.cons_append, List.replicate_succ, List.replicate_zero, List.length_cons, List.length_nil, List.contains_nil, List.contains_cons, List.isEmpty_nil, List.isEmpty_cons, List.filterMap_cons, List.filterMap_nil, Option.map_some, Option.map_none, Option.bind_some, Option.bind_none, List.any_cons, List.any_nil, RX.Arg.isOwn, Bool.not_true, Bool.not_false, Bool.true_and, Bool.false_and, Bool.and_true, Bool.and_false, Bool.or_true, Bool.or_false, Bool.true_or, Bool.false_or, if_true, if_false, Bool.false_eq_true, ↓reduceIte, ite_true, ite_false, decide_true, decide_false, Nat.reduceSub, Nat.reduceAdd, beq_self_eq_true, a1, a2, ix0, ix1]
theorem s10 (hn : 5 ≤ n) (hr : SmQ k r) (hs : SmQ m s) (hk : k + m < 9000) : callN T n 10 [.d (enc r), .d (enc s)] = .ok (.d (enc (r * s))) [] := by
  obtain ⟨p, rfl, hp⟩ := up hn
  rw [callN_eq (d := d10) (np := 2) (ns := 2) rfl rfl]
  unfold d10
  have a1 := s6 (n := p) (r := r) (s := s) (by omega)
  have m1 := mk hr.1 hs.1 (by omega)
  have m2 := mk hr.2 hs.2 (by omega)
  have c := s4 (n := p) (by omega) (a := r.num * s.num) (mulden r s) (hr.2.mul hs.2) (by omega)
  rw [← mul_eq] at c
  unfold enc at a1 c ⊢
  simp -dsimp -implicitDefEqProofs (disch := first | assumption | omega | decide) only [RX.x_C, RX.varK_v, RX.varK_o, RX.x_Var, RX.toR_some, RX.toB_some, RX.toT_some, RX.toS_some, RX.lk_some, RX.x_Op, RX.x_Un, RX.x_tE, RX.x_tNot, RX.x_tAnd, RX.x_tOr, RX.asB_bl, RX.x_And, RX.x_Or, RX.x_Not, RX.x_If, RX.x_nil, RX.x_cons, RX.x_Tup, RX.x_Lst, RX.x_IxV, RX.x_B, RX.x_B1, RX.x_Cmp, RX.x_anil, RX.x_av, RX.x_ae, RX.x_Call, RX.x_CallK, RX.x_CallV, RX.vK_fn, RX.x_do, RX.goK_some, RX.backE_some, RX.back_ok, RX.back_exc, RX.x_Seq, RX.x_Pass, RX.x_Brk, RX.x_Cont, RX.x_Set, RX.x_Unp, RX.x_Par, RX.x_Expr, RX.x_Ret, RX.retK_v, RX.retK_o, RX.x_RetV, RX.x_RetN, RX.x_SIf, RX.x_For, RX.x_Raise, RX.itK_some, RX.rgK_some, RX.x_iE, RX.x_iR1, RX.x_forN, RX.x_forC, RX.x_Try, RX.try_ret, RX.try_next, RX.try_exc, RX.h1K_some, RX.suite_ret, RX.suite_next, RX.x_Fld, RX.fldK_some, RX.stK_some, RX.turn_next, RX.turn_cont, RX.turn_brk, RX.turn_ret, RX.end_ret, RX.end_next, RX.end_exc, RX.pk_t, RX.pk_f, RX.bnd_ok, RX.bnd_exc, RX.outK_ok, RX.outK_exc, RX.obnd_next, RX.obnd_ret, RX.obnd_brk, RX.obnd_cont, RX.obnd_exc, RX.tr_bl, RX.tr_int, RX.f_add, RX.f_sub, RX.f_mul, RX.f_div, RX.f_mod, RX.f_neg, RX.f_lt, RX.f_le, RX.f_gt, RX.f_ge, RX.f_eqI, RX.f_neI, RX.f_eqB, RX.f_isN, RX.f_isNotN, RX.look, RX.isOwn, RX.owns, RX.argOf, RX.argsOf, RX.backTo, RX.nodupN, RX.stSl, RX.stAll, RX.Tg.st, RX.Ex.frz, RX.Ex.sl, RX.finish, RX.outsOf, RX.Arg.sl, RX.D.items?, RX.D.asInt?, RX.permL, RX.D.isNon, List.getElem?_cons_zero, List.getElem?_cons_succ, List.getElem?_nil, List.set_cons_zero, List.set_cons_succ, List.map_cons, List.map_nil, List.nil_append, List.cons_append, List.replicate_succ, List.replicate_zero, List.length_cons, List.length_nil, List.contains_nil, List.contains_cons, List.isEmpty_nil, List.isEmpty_cons, List.filterMap_cons, List.filterMap_nil, Option.map_some, Option.map_none, Option.bind_some, Option.bind_none, List.any_cons, List.any_nil, RX.Arg.isOwn, Bool.not_true, Bool.not_false, Bool.true_and, Bool.false_and, Bool.and_true, Bool.and_false, Bool.or_true, Bool.or_false, Bool.true_or, Bool.false_or, if_true, if_false, Bool.false_eq_true, ↓reduceIte, ite_true, ite_false, decide_true, decide_false, Nat.reduceSub, Nat.reduceAdd, beq_self_eq_true, a1, c, ix0, ix1, m1, m2]
theorem s11 (hn : 5 ≤ n) (hr : SmQ k r) (hs : SmQ m s) (hk : k + m < 9000) (h0 : s ≠ 0) : callN T n 11 [.d (enc r), .d (enc s)] = .ok (.d (enc (r / s))) [] := by
  obtain ⟨p, rfl, hp⟩ := up hn
  rw [callN_eq (d := d11) (np := 2) (ns := 2) rfl rfl]
  unfold d11
  have a1 := s6 (n := p) (r := r) (s := s) (by omega)
  have hs0 : s.num ≠ 0 := fun e => h0 (Rat.num_eq_zero.mp e)
  have e0 : (s.num == 0) = false := beq_eq_false_iff_ne.mpr hs0
  have b := s3t (n := p) (by omega)
  have m1 := mk hr.1 hs.2 (by omega)
  have m2 := mk hr.2 hs.1 (by omega)
  have c := s4 (n := p) (by omega) (a := r.num * s.den) (Int.mul_ne_zero (den1 r) hs0) (hr.2.mul hs.1) (by omega)
  rw [← div_eq h0] at c
  unfold enc at a1 c ⊢
  simp -dsimp -implicitDefEqProofs (disch := first | assumption | omega | decide) only [RX.x_C, RX.varK_v, RX.varK_o, RX.x_Var, RX.toR_some, RX.toB_some, RX.toT_some, RX.toS_some, RX.lk_some, RX.x_Op, RX.x_Un, RX.x_tE, RX.x_tNot, RX.x_tAnd, RX.x_tOr, RX.asB_bl, RX.x_And, RX.x_Or, RX.x_Not, RX.x_If, RX.x_nil, RX.x_cons, RX.x_Tup, RX.x_Lst, RX.x_IxV, RX.x_B, RX.x_B1, RX.x_Cmp, RX.x_anil, RX.x_av, RX.x_ae, RX.x_Call, RX.x_CallK, RX.x_CallV, RX.vK_fn, RX.x_do, RX.goK_some, RX.backE_some, RX.back_ok, RX.back_exc, RX.x_Seq, RX.x_Pass, RX.x_Brk, RX.x_Cont, RX.x_Set, RX.x_Unp, RX.x_Par, RX.x_Expr, RX.x_Ret, RX.retK_v, RX.retK_o, RX.x_RetV, RX.x_RetN, RX.x_SIf, RX.x_For, RX.x_Raise, RX.itK_some, RX.rgK_some, RX.x_iE, RX.x_iR1, RX.x_forN, RX.x_forC, RX.x_Try, RX.try_ret, RX.try_next, RX.try_exc, RX.h1K_some, RX.suite_ret, RX.suite_next, RX.x_Fld, RX.fldK_some, RX.stK_some, RX.turn_next, RX.turn_cont, RX.turn_brk, RX.turn_ret, RX.end_ret, RX.end_next, RX.end_exc, RX.pk_t, RX.pk_f, RX.bnd_ok, RX.bnd_exc, RX.outK_ok, RX.outK_exc, RX.obnd_next, RX.obnd_ret, RX.obnd_brk, RX.obnd_cont, RX.obnd_exc, RX.tr_bl, RX.tr_int, RX.f_add, RX.f_sub, RX.f_mul, RX.f_div, RX.f_mod, RX.f_neg, RX.f_lt, RX.f_le, RX.f_gt, RX.f_ge, RX.f_eqI, RX.f_neI, RX.f_eqB, RX.f_isN, RX.f_isNotN, RX.look, RX.isOwn, RX.owns, RX.argOf, RX.argsOf, RX.backTo, RX.nodupN, RX.stSl, RX.stAll, RX.Tg.st, RX.Ex.frz, RX.Ex.sl, RX.finish, RX.outsOf, RX.Arg.sl, RX.D.items?, RX.D.asInt?, RX.permL, RX.D.isNon, List.getElem?_cons_zero, List.getElem?_cons_succ, List.getElem?_nil, List.set_cons_zero, List.set_cons_succ, List.map_cons, List.map_nil, List.nil_append, List.cons_append, List.replicate_succ, List.replicate_zero, List.length_cons, List.length_nil, List.contains_nil, List.contains_cons, List.isEmpty_nil, List.isEmpty_cons, List.filterMap_cons, List.filterMap_nil, Option.map_some, Option.map_none, Option.bind_some, Option.bind_none, List.any_cons, List.any_nil, RX.Arg.isOwn, Bool.not_true, Bool.not_false, Bool.true_and, Bool.false_and, Bool.and_true, Bool.and_false, Bool.or_true, Bool.or_false, Bool.true_or, Bool.false_or, if_true, if_false, Bool.false_eq_true, ↓reduceIte, ite_true, ite_false, decide_true, decide_false, Nat.reduceSub, Nat.reduceAdd, beq_self_eq_true, a1, b, c, e0, ix0, ix1, m1, m2]
theorem s11z (hn : 5 ≤ n) : callN T n 11 [.d (enc r), .d (enc 0)] = .exc 0 [("word", .str "other"), ("at", .int (-1))] := by
  obtain ⟨p, rfl, hp⟩ := up hn
  rw [callN_eq (d := d11) (np := 2) (ns := 2) rfl rfl]
  unfold d11
  have a1 := s6 (n := p) (r := r) (s := 0) (by omega)
  have b := s3f (n := p) (by omega)
  have z1 : (0 : Rat).num = 0 := rfl
  have z2 : (0 : Rat).den = 1 := rfl
  unfold enc at a1 ⊢
  rw [z1, z2] at a1 ⊢
  simp -dsimp -implicitDefEqProofs (disch := first | assumption | omega | decide) only [RX.x_C, RX.varK_v, RX.varK_o, RX.x_Var, RX.toR_some, RX.toB_some, RX.toT_some, RX.toS_some, RX.lk_some, RX.x_Op, RX.x_Un, RX.x_tE, RX.x_tNot, RX.x_tAnd, RX.x_tOr, RX.asB_bl, RX.x_And, RX.x_Or, RX.x_Not, RX.x_If, RX.x_nil, RX.x_cons, RX.x_Tup, RX.x_Lst, RX.x_IxV, RX.x_B, RX.x_B1, RX.x_Cmp, RX.x_anil, RX.x_av, RX.x_ae, RX.x_Call, RX.x_CallK, RX.x_CallV, RX.vK_fn, RX.x_do, RX.goK_some, RX.backE_some, RX.back_ok, RX.back_exc, RX.x_Seq, RX.x_Pass, RX.x_Brk, RX.x_Cont, RX.x_Set, RX.x_Unp, RX.x_Par, RX.x_Expr, RX.x_Ret, RX.retK_v, RX.retK_o, RX.x_RetV, RX.x_RetN, RX.x_SIf, RX.x_For, RX.x_Raise, RX.itK_some, RX.rgK_some, RX.x_iE, RX.x_iR1, RX.x_forN, RX.x_forC, RX.x_Try, RX.try_ret, RX.try_next, RX.try_exc, RX.h1K_some, RX.suite_ret, RX.suite_next, RX.x_Fld, RX.fldK_some, RX.stK_some, RX.turn_next, RX.turn_cont, RX.turn_brk, RX.turn_ret, RX.end_ret, RX.end_next, RX.end_exc, RX.pk_t, RX.pk_f, RX.bnd_ok, RX.bnd_exc, RX.outK_ok, RX.outK_exc, RX.obnd_next, RX.obnd_ret, RX.obnd_brk, RX.obnd_cont, RX.obnd_exc, RX.tr_bl, RX.tr_int, RX.f_add, RX.f_sub, RX.f_mul, RX.f_div, RX.f_mod, RX.f_neg, RX.f_lt, RX.f_le, RX.f_gt, RX.f_ge, RX.f_eqI, RX.f_neI, RX.f_eqB, RX.f_isN, RX.f_isNotN, RX.look, RX.isOwn, RX.owns, RX.argOf, RX.argsOf, RX.backTo, RX.nodupN, RX.stSl, RX.stAll, RX.Tg.st, RX.Ex.frz, RX.Ex.sl, RX.finish, RX.outsOf, RX.Arg.sl, RX.D.items?, RX.D.asInt?, RX.permL, RX.D.isNon, List.getElem?_cons_zero, List.getElem?_cons_succ, List.getElem?_nil, List.set_cons_zero, List.set_cons_succ, List.map_cons, List.map_nil, List.nil_append, List.cons_append, List.replicate_succ, List.replicate_zero, List.length_cons, List.length_nil, List.contains_nil, List.contains_cons, List.isEmpty_nil, List.isEmpty_cons, List.filterMap_cons, List.filterMap_nil, Option.map_some, Option.map_none, Option.bind_some, Option.bind_none, List.any_cons, List.any_nil, RX.Arg.isOwn, Bool.not_true, Bool.not_false, Bool.true_and, Bool.false_and, Bool.and_true, Bool.and_false, Bool.or_true, Bool.or_false, Bool.true_or, Bool.false_or, if_true, if_false, Bool.false_eq_true, ↓reduceIte, ite_true, ite_false, decide_true, decide_false, Nat.reduceSub, Nat.reduceAdd, beq_self_eq_true, a1, b, ix0, ix1]
theorem s12 (hn : 5 ≤ n) (hr : SmQ k r) (hs : SmQ m s) (hk : k + m < 9000) : callN T n 12 [.d (enc r), .d (enc s)] = .ok (.d (.bl (decide (r.num * s.den < s.num * r.den)))) [] := by
  obtain ⟨p, rfl, hp⟩ := up hn
  rw [callN_eq (d := d12) (np := 2) (ns := 2) rfl rfl]
  unfold d12
  have a1 := s6 (n := p) (r := r) (s := s) (by omega)
  have m1 := mk hr.1 hs.2 (by omega)
  have m2 := mk hs.1 hr.2 (by omega)
  unfold enc at a1 ⊢
  simp -dsimp -implicitDefEqProofs (disch := first | assumption | omega | decide) only [RX.x_C, RX.varK_v, RX.varK_o, RX.x_Var, RX.toR_some, RX.toB_some, RX.toT_some, RX.toS_some, RX.lk_some, RX.x_Op, RX.x_Un, RX.x_tE, RX.x_tNot, RX.x_tAnd, RX.x_tOr, RX.asB_bl, RX.x_And, RX.x_Or, RX.x_Not, RX.x_If, RX.x_nil, RX.x_cons, RX.x_Tup, RX.x_Lst, RX.x_IxV, RX.x_B, RX.x_B1, RX.x_Cmp, RX.x_anil, RX.x_av, RX.x_ae, RX.x_Call, RX.x_CallK, RX.x_CallV, RX.vK_fn, RX.x_do, RX.goK_some, RX.backE_some, RX.back_ok, RX.back_exc, RX.x_Seq, RX.x_Pass, RX.x_Brk, RX.x_Cont, RX.x_Set, RX.x_Unp, RX.x_Par, RX.x_Expr, RX.x_Ret, RX.retK_v, RX.retK_o, RX.x_RetV, RX.x_RetN, RX.x_SIf, RX.x_For, RX.x_Raise, RX.itK_some, RX.rgK_some, RX.x_iE, RX.x_iR1, RX.x_forN, RX.x_forC, RX.x_Try, RX.try_ret, RX.try_next, RX.try_exc, RX.h1K_some, RX.suite_ret, RX.suite_next, RX.x_Fld, RX.fldK_some, RX.stK_some, RX.turn_next, RX.turn_cont, RX.turn_brk, RX.turn_ret, RX.end_ret, RX.end_next, RX.end_exc, RX.pk_t, RX.pk_f, RX.bnd_ok, RX.bnd_exc, RX.outK_ok, RX.outK_exc, RX.obnd_next, RX.obnd_ret, RX.obnd_brk, RX.obnd_cont, RX.obnd_exc, RX.tr_bl, RX.tr_int, RX.f_add, RX.f_sub, RX.f_mul, RX.f_div, RX.f_mod, RX.f_neg, RX.f_lt, RX.f_le, RX.f_gt, RX.f_ge, RX.f_eqI, RX.f_neI, RX.f_eqB, RX.f_isN, RX.f_isNotN, RX.look, RX.isOwn, RX.owns, RX.argOf, RX.argsOf, RX.backTo, RX.nodupN, RX.stSl, RX.stAll, RX.Tg.st, RX.Ex.frz, RX.Ex.sl, RX.finish, RX.outsOf, RX.Arg.sl, RX.D.items?, RX.D.asInt?, RX.permL, RX.D.isNon, List.getElem?_cons_zero, List.getElem?_cons_succ, List.getElem?_nil, List.set_cons_zero, List.set_cons_succ, List.map_cons, List.map_nil, List.nil_append, List.cons_append, List.replicate_succ, List.replicate_zero, List.length_cons, List.length_nil, List.contains_nil, List.contains_cons, List.isEmpty_nil, List.isEmpty_cons, List.filterMap_cons, List.filterMap_nil, Option.map_some, Option.map_none, Option.bind_some, Option.bind_none, List.any_cons, List.any_nil, RX.Arg.isOwn, Bool.not_true, Bool.not_false, Bool.true_and, Bool.false_and, Bool.and_true, Bool.and_false, Bool.or_true, Bool.or_false, Bool.true_or, Bool.false_or, if_true, if_false, Bool.false_eq_true, ↓reduceIte, ite_true, ite_false, decide_true, decide_false, Nat.reduceSub, Nat.reduceAdd, beq_self_eq_true, a1, ix0, ix1, m1, m2]
theorem s7 (hn : 3 ≤ n) {a b : Int} (hb : b ≠ 0) (hs : Sm k b) (hk : k < 9000) : callN T n 7 [.d (.int a), .d (.int b)] = .ok (.d (enc (Rat.divInt a b))) [] := by
  obtain ⟨p, rfl, hp⟩ := up hn
  rw [callN_eq (d := d7) (np := 2) (ns := 2) rfl rfl]
  unfold d7
  have a1 := s0 (n := p) (by omega) (x := .int a) rfl
  have a2 := s0 (n := p) (by omega) (x := .int b) rfl
  have i1 : isI (.int a) = true := rfl
  have i2 : isI (.int b) = true := rfl
  have e0 : (b == 0) = false := beq_eq_false_iff_ne.mpr hb
  have b' := s3t (n := p) (by omega)
  have c := s4 (n := p) (by omega) (a := a) hb hs hk
  simp -dsimp -implicitDefEqProofs (disch := first | assumption | omega | decide) only [RX.x_C, RX.varK_v, RX.varK_o, RX.x_Var, RX.toR_some, RX.toB_some, RX.toT_some, RX.toS_some, RX.lk_some, RX.x_Op, RX.x_Un, RX.x_tE, RX.x_tNot, RX.x_tAnd, RX.x_tOr, RX.asB_bl, RX.x_And, RX.x_Or, RX.x_Not, RX.x_If, RX.x_nil, RX.x_cons, RX.x_Tup, RX.x_Lst, RX.x_IxV, RX.x_B, RX.x_B1, RX.x_Cmp, RX.x_anil, RX.x_av, RX.x_ae, RX.x_Call, RX.x_CallK, RX.x_CallV, RX.vK_fn, RX.x_do, RX.goK_some, RX.backE_some, RX.back_ok, RX.back_exc, RX.x_Seq, RX.x_Pass, RX.x_Brk, RX.x_Cont, RX.x_Set, RX.x_Unp, RX.x_Par, RX.x_Expr, RX.x_Ret, RX.retK_v, RX.retK_o, RX.x_RetV, RX.x_RetN, RX.x_SIf, RX.x_For, RX.x_Raise, RX.itK_some, RX.rgK_some, RX.x_iE, RX.x_iR1, RX.x_forN, RX.x_forC, RX.x_Try, RX.try_ret, RX.try_next, RX.try_exc, RX.h1K_some, RX.suite_ret, RX.suite_next, RX.x_Fld, RX.fldK_some, RX.stK_some, RX.turn_next, RX.turn_cont, RX.turn_brk, RX.turn_ret, RX.end_ret, RX.end_next, RX.end_exc, RX.pk_t, RX.pk_f, RX.bnd_ok, RX.bnd_exc, RX.outK_ok, RX.outK_exc, RX.obnd_next, RX.obnd_ret, RX.obnd_brk, RX.obnd_cont, RX.obnd_exc, RX.tr_bl, RX.tr_int, RX.f_add, RX.f_sub, RX.f_mul, RX.f_div, RX.f_mod, RX.f_neg, RX.f_lt, RX.f_le, RX.f_gt, RX.f_ge, RX.f_eqI, RX.f_neI, RX.f_eqB, RX.f_isN, RX.f_isNotN, RX.look, RX.isOwn, RX.owns, RX.argOf, RX.argsOf, RX.backTo, RX.nodupN, RX.stSl, RX.stAll, RX.Tg.st, RX.Ex.frz, RX.Ex.sl, RX.finish, RX.outsOf, RX.Arg.sl, RX.D.items?, RX.D.asInt?, RX.permL, RX.D.isNon, List.getElem?_cons_zero, List.getElem?_cons_succ, List.getElem?_nil, List.set_cons_zero, List.set_cons_succ, List.map_cons, List.map_nil, List.nil_append, List.cons_append, List.replicate_succ, List.replicate_zero, List.length_cons, List.length_nil, List.contains_nil, List.contains_cons, List.isEmpty_nil, List.isEmpty_cons, List.filterMap_cons, List.filterMap_nil, Option.map_some, Option.map_none, Option.bind_some, Option.bind_none, List.any_cons, List.any_nil, RX.Arg.isOwn, Bool.not_true, Bool.not_false, Bool.true_and, Bool.false_and, Bool.and_true, Bool.and_false, Bool.or_true, Bool.or_false, Bool.true_or, Bool.false_or, if_true, if_false, Bool.false_eq_true, ↓reduceIte, ite_true, ite_false, decide_true, decide_false, Nat.reduceSub, Nat.reduceAdd, beq_self_eq_true, a1, a2, i1, i2, e0, b', c]
theorem s7z (hn : 3 ≤ n) {a : Int} : callN T n 7 [.d (.int a), .d (.int 0)] = .exc 0 [("word", .str "bottom"), ("at", .int (-1))] := by
  obtain ⟨p, rfl, hp⟩ := up hn
  rw [callN_eq (d := d7) (np := 2) (ns := 2) rfl rfl]
  unfold d7
  have a1 := s0 (n := p) (by omega) (x := .int a) rfl
  have a2 := s0 (n := p) (by omega) (x := .int 0) rfl
  have i1 : isI (.int a) = true := rfl
  have i2 : isI (.int 0) = true := rfl
  have b := s3t (n := p) (by omega)
  have b' := s3f (n := p) (by omega)
  simp -dsimp -implicitDefEqProofs (disch := first | assumption | omega | decide) only [RX.x_C, RX.varK_v, RX.varK_o, RX.x_Var, RX.toR_some, RX.toB_some, RX.toT_some, RX.toS_some, RX.lk_some, RX.x_Op, RX.x_Un, RX.x_tE, RX.x_tNot, RX.x_tAnd, RX.x_tOr, RX.asB_bl, RX.x_And, RX.x_Or, RX.x_Not, RX.x_If, RX.x_nil, RX.x_cons, RX.x_Tup, RX.x_Lst, RX.x_IxV, RX.x_B, RX.x_B1, RX.x_Cmp, RX.x_anil, RX.x_av, RX.x_ae, RX.x_Call, RX.x_CallK, RX.x_CallV, RX.vK_fn, RX.x_do, RX.goK_some, RX.backE_some, RX.back_ok, RX.back_exc, RX.x_Seq, RX.x_Pass, RX.x_Brk, RX.x_Cont, RX.x_Set, RX.x_Unp, RX.x_Par, RX.x_Expr, RX.x_Ret, RX.retK_v, RX.retK_o, RX.x_RetV, RX.x_RetN, RX.x_SIf, RX.x_For, RX.x_Raise, RX.itK_some, RX.rgK_some, RX.x_iE, RX.x_iR1, RX.x_forN, RX.x_forC, RX.x_Try, RX.try_ret, RX.try_next, RX.try_exc, RX.h1K_some, RX.suite_ret, RX.suite_next, RX.x_Fld, RX.fldK_some, RX.stK_some, RX.turn_next, RX.turn_cont, RX.turn_brk, RX.turn_ret, RX.end_ret, RX.end_next, RX.end_exc, RX.pk_t, RX.pk_f, RX.bnd_ok, RX.bnd_exc, RX.outK_ok, RX.outK_exc, RX.obnd_next, RX.obnd_ret, RX.obnd_brk, RX.obnd_cont, RX.obnd_exc, RX.tr_bl, RX.tr_int, RX.f_add, RX.f_sub, RX.f_mul, RX.f_div, RX.f_mod, RX.f_neg, RX.f_lt, RX.f_le, RX.f_gt, RX.f_ge, RX.f_eqI, RX.f_neI, RX.f_eqB, RX.f_isN, RX.f_isNotN, RX.look, RX.isOwn, RX.owns, RX.argOf, RX.argsOf, RX.backTo, RX.nodupN, RX.stSl, RX.stAll, RX.Tg.st, RX.Ex.frz, RX.Ex.sl, RX.finish, RX.outsOf, RX.Arg.sl, RX.D.items?, RX.D.asInt?, RX.permL, RX.D.isNon, List.getElem?_cons_zero, List.getElem?_cons_succ, List.getElem?_nil, List.set_cons_zero, List.set_cons_succ, List.map_cons, List.map_nil, List.nil_append, List.cons_append, List.replicate_succ, List.replicate_zero, List.length_cons, List.length_nil, List.contains_nil, List.contains_cons, List.isEmpty_nil, List.isEmpty_cons, List.filterMap_cons, List.filterMap_nil, Option.map_some, Option.map_none, Option.bind_some, Option.bind_none, List.any_cons, List.any_nil, RX.Arg.isOwn, Bool.not_true, Bool.not_false, Bool.true_and, Bool.false_and, Bool.and_true, Bool.and_false, Bool.or_true, Bool.or_false, Bool.true_or, Bool.false_or, if_true, if_false, Bool.false_eq_true, ↓reduceIte, ite_true, ite_false, decide_true, decide_false, Nat.reduceSub, Nat.reduceAdd, beq_self_eq_true, a1, a2, i1, i2, b, b']
end
end K01
set_option Elab.async false
set_option linter.all false
set_option maxRecDepth 100000
set_option maxHeartbeats 4000000
namespace K01
open PySem RX MQ
theorem Sm.pow {k : Nat} {x : Int} (h : Sm k x) : ∀ i : Nat, Sm (i * k + 1) (x ^ i)
  | 0 => by unfold Sm; rw [Int.pow_zero]; show 1 < 2 ^ (0 * k + 1); rw [Nat.zero_mul]; decide
  | i + 1 => by
    rw [Int.pow_succ]
    exact (Sm.mul (Sm.pow h i) h).mono (by rw [Nat.succ_mul]; omega)
theorem enc_pow (r : Rat) (c : Nat) : enc (r ^ c) = .tup [.int (r.num ^ c), .int ((r.den : Int) ^ c)] := by
  unfold enc
  rw [Rat.num_pow, Rat.den_pow, Int.natCast_pow]
theorem asI {i : Int} : (D.int i).asInt? = some i := rfl
theorem s13 {n : Nat} (hn : 4 ≤ n) {r : Rat} {k c : Nat} (hr : SmQ k r) (hk : k ≤ 1000) (hc : c ≤ 1000) : callN T n 13 [.d (enc r), .d (.int c)] = .ok (.d (enc (r ^ c))) [] := by
  obtain ⟨p, rfl, hp⟩ := up hn
  rw [callN_eq (d := d13) (np := 2) (ns := 5) rfl rfl, enc_pow]
  unfold d13
  have a1 := s2 (n := p) (by omega) r
  have a2 := s1 (n := p) (by omega) (x := .int c) rfl
  have i1 : isN (.int c) = true := decide_eq_true (Int.natCast_nonneg c)
  have b := s3t (n := p) (by omega)
  obtain ⟨ρ', e, s, h⟩ := for_rng (C := callN T p) (tg := .v 4) (A := sSeq (sSet 2 (dOp fMul (dVar 2) (dIxV 0 (dC (.int 0))))) (sSet 3 (dOp fMul (dVar 3) (dIxV 0 (dC (.int 1))))))
    (ρ := [.val (enc r), .val (.int c), .val (.int 1), .val (.int 1), .none]) (fun i ρ => ∃ s, ρ = [.val (enc r), .val (.int c), .val (.int (r.num ^ i)), .val (.int ((r.den : Int) ^ i)), s] ∧ (s = .none ∨ ∃ d, s = .val d)) (n := c)
    ⟨.none, by rw [Int.pow_zero, Int.pow_zero], .inl rfl⟩ fun i ρ hi ⟨s, e, hs⟩ => by
      subst e
      have q : i * k + 1 + k < 134000000 := by
        have := Nat.mul_le_mul (show i ≤ 1000 by omega) hk
        omega
      have m1 := mk (Sm.pow hr.1 i) hr.1 q
      have m2 := mk (Sm.pow hr.2 i) hr.2 q
      refine ⟨[.val (enc r), .val (.int c), .val (.int (r.num ^ i)), .val (.int ((r.den : Int) ^ i)), .val (.int i)], [.val (enc r), .val (.int c), .val (.int (r.num ^ (i + 1))), .val (.int ((r.den : Int) ^ (i + 1))), .val (.int i)], ?_, .inl ?_, _, rfl, .inr ⟨_, rfl⟩⟩
      · rcases hs with rfl | ⟨d, rfl⟩ <;> rfl
      · rw [Int.pow_succ, Int.pow_succ]
        unfold enc
        simp -dsimp -implicitDefEqProofs (disch := first | assumption | omega | decide) only [RX.x_C, RX.varK_v, RX.varK_o, RX.x_Var, RX.toR_some, RX.toB_some, RX.toT_some, RX.toS_some, RX.lk_some, RX.x_Op, RX.x_Un, RX.x_tE, RX.x_tNot, RX.x_tAnd, RX.x_tOr, RX.asB_bl, RX.x_And, RX.x_Or, RX.x_Not, RX.x_If, RX.x_nil, RX.x_cons, RX.x_Tup, RX.x_Lst, RX.x_IxV, RX.x_B, RX.x_B1, RX.x_Cmp, RX.x_anil, RX.x_av, RX.x_ae, RX.x_Call, RX.x_CallK, RX.x_CallV, RX.vK_fn, RX.x_do, RX.goK_some, RX.backE_some, RX.back_ok, RX.back_exc, RX.x_Seq, RX.x_Pass, RX.x_Brk, RX.x_Cont, RX.x_Set, RX.x_Unp, RX.x_Par, RX.x_Expr, RX.x_Ret, RX.retK_v, RX.retK_o, RX.x_RetV, RX.x_RetN, RX.x_SIf, RX.x_For, RX.x_Raise, RX.itK_some, RX.rgK_some, RX.x_iE, RX.x_iR1, RX.x_forN, RX.x_forC, RX.x_Try, RX.try_ret, RX.try_next, RX.try_exc, RX.h1K_some, RX.suite_ret, RX.suite_next, RX.x_Fld, RX.fldK_some, RX.stK_some, RX.turn_next, RX.turn_cont, RX.turn_brk, RX.turn_ret, RX.end_ret, RX.end_next, RX.end_exc, RX.pk_t, RX.pk_f, RX.bnd_ok, RX.bnd_exc, RX.outK_ok, RX.outK_exc, RX.obnd_next, RX.obnd_ret, RX.obnd_brk, RX.obnd_cont, RX.obnd_exc, RX.tr_bl, RX.tr_int, RX.f_add, RX.f_sub, RX.f_mul, RX.f_div, RX.f_mod, RX.f_neg, RX.f_lt, RX.f_le, RX.f_gt, RX.f_ge, RX.f_eqI, RX.f_neI, RX.f_eqB, RX.f_isN, RX.f_isNotN, RX.look, RX.isOwn, RX.owns, RX.argOf, RX.argsOf, RX.backTo, RX.nodupN, RX.stSl, RX.stAll, RX.Tg.st, RX.Ex.frz, RX.Ex.sl, RX.finish, RX.outsOf, RX.Arg.sl, RX.D.items?, RX.D.asInt?, RX.permL, RX.D.isNon, List.getElem?_cons_zero, List.getElem?_cons_succ, List.getElem?_nil, List.set_cons_zero, List.set_cons_succ, List.map_cons, List.map_nil, List.nil_append, List.cons_append, List.replicate_succ, List.replicate_zero, List.length_cons, List.length_nil, List.contains_nil, List.contains_cons, List.isEmpty_nil, List.isEmpty_cons, List.filterMap_cons, List.filterMap_nil, Option.map_some, Option.map_none, Option.bind_some, Option.bind_none, List.any_cons, List.any_nil, RX.Arg.isOwn, Bool.not_true, Bool.not_false, Bool.true_and, Bool.false_and, Bool.and_true, Bool.and_false, Bool.or_true, Bool.or_false, Bool.true_or, Bool.false_or, if_true, if_false, Bool.false_eq_true, ↓reduceIte, ite_true, ite_false, decide_true, decide_false, Nat.reduceSub, Nat.reduceAdd, beq_self_eq_true, ix0, ix1, m1, m2]
  obtain ⟨h, hs⟩ := h
  subst h
  have hc' : -16777216 < (c : Int) ∧ (c : Int) < 16777216 := by omega
  unfold enc at a1 e ⊢
  simp -dsimp -implicitDefEqProofs (disch := first | assumption | omega | decide) only [RX.x_C, RX.varK_v, RX.varK_o, RX.x_Var, RX.toR_some, RX.toB_some, RX.toT_some, RX.toS_some, RX.lk_some, RX.x_Op, RX.x_Un, RX.x_tE, RX.x_tNot, RX.x_tAnd, RX.x_tOr, RX.asB_bl, RX.x_And, RX.x_Or, RX.x_Not, RX.x_If, RX.x_nil, RX.x_cons, RX.x_Tup, RX.x_Lst, RX.x_IxV, RX.x_B, RX.x_B1, RX.x_Cmp, RX.x_anil, RX.x_av, RX.x_ae, RX.x_Call, RX.x_CallK, RX.x_CallV, RX.vK_fn, RX.x_do, RX.goK_some, RX.backE_some, RX.back_ok, RX.back_exc, RX.x_Seq, RX.x_Pass, RX.x_Brk, RX.x_Cont, RX.x_Set, RX.x_Unp, RX.x_Par, RX.x_Expr, RX.x_Ret, RX.retK_v, RX.retK_o, RX.x_RetV, RX.x_RetN, RX.x_SIf, RX.x_For, RX.x_Raise, RX.itK_some, RX.rgK_some, RX.x_iE, RX.x_iR1, RX.x_forN, RX.x_forC, RX.x_Try, RX.try_ret, RX.try_next, RX.try_exc, RX.h1K_some, RX.suite_ret, RX.suite_next, RX.x_Fld, RX.fldK_some, RX.stK_some, RX.turn_next, RX.turn_cont, RX.turn_brk, RX.turn_ret, RX.end_ret, RX.end_next, RX.end_exc, RX.pk_t, RX.pk_f, RX.bnd_ok, RX.bnd_exc, RX.outK_ok, RX.outK_exc, RX.obnd_next, RX.obnd_ret, RX.obnd_brk, RX.obnd_cont, RX.obnd_exc, RX.tr_bl, RX.tr_int, RX.f_add, RX.f_sub, RX.f_mul, RX.f_div, RX.f_mod, RX.f_neg, RX.f_lt, RX.f_le, RX.f_gt, RX.f_ge, RX.f_eqI, RX.f_neI, RX.f_eqB, RX.f_isN, RX.f_isNotN, RX.look, RX.isOwn, RX.owns, RX.argOf, RX.argsOf, RX.backTo, RX.nodupN, RX.stSl, RX.stAll, RX.Tg.st, RX.Ex.frz, RX.Ex.sl, RX.finish, RX.outsOf, RX.Arg.sl, RX.D.items?, RX.D.asInt?, RX.permL, RX.D.isNon, List.getElem?_cons_zero, List.getElem?_cons_succ, List.getElem?_nil, List.set_cons_zero, List.set_cons_succ, List.map_cons, List.map_nil, List.nil_append, List.cons_append, List.replicate_succ, List.replicate_zero, List.length_cons, List.length_nil, List.contains_nil, List.contains_cons, List.isEmpty_nil, List.isEmpty_cons, List.filterMap_cons, List.filterMap_nil, Option.map_some, Option.map_none, Option.bind_some, Option.bind_none, List.any_cons, List.any_nil, RX.Arg.isOwn, Bool.not_true, Bool.not_false, Bool.true_and, Bool.false_and, Bool.and_true, Bool.and_false, Bool.or_true, Bool.or_false, Bool.true_or, Bool.false_or, if_true, if_false, Bool.false_eq_true, ↓reduceIte, ite_true, ite_false, decide_true, decide_false, Nat.reduceSub, Nat.reduceAdd, beq_self_eq_true, a1, a2, i1, b, asI, hc', e]
end K01
set_option Elab.async false
set_option linter.all false
set_option maxRecDepth 100000
set_option maxHeartbeats 4000000
namespace K01
open PySem RX MQ
/-! is it told as due -/
theorem s17 {n : Nat} (hn : 1 ≤ n) {x : D} (h : x.plain = true) : callN T n 17 [.d x] = .ok (.d (.bl (isI x))) [] := by
  obtain ⟨m, rfl, hm⟩ := up hn
  rw [callN_eq (d := d17) (np := 1) (ns := 1) rfl rfl]
  unfold d17
  cases x with
  | int i => simp -dsimp -implicitDefEqProofs (disch := first | assumption | omega | decide) only [RX.x_C, RX.varK_v, RX.varK_o, RX.x_Var, RX.toR_some, RX.toB_some, RX.toT_some, RX.toS_some, RX.lk_some, RX.x_Op, RX.x_Un, RX.x_tE, RX.x_tNot, RX.x_tAnd, RX.x_tOr, RX.asB_bl, RX.x_And, RX.x_Or, RX.x_Not, RX.x_If, RX.x_nil, RX.x_cons, RX.x_Tup, RX.x_Lst, RX.x_IxV, RX.x_B, RX.x_B1, RX.x_Cmp, RX.x_anil, RX.x_av, RX.x_ae, RX.x_Call, RX.x_CallK, RX.x_CallV, RX.vK_fn, RX.x_do, RX.goK_some, RX.backE_some, RX.back_ok, RX.back_exc, RX.x_Seq, RX.x_Pass, RX.x_Brk, RX.x_Cont, RX.x_Set, RX.x_Unp, RX.x_Par, RX.x_Expr, RX.x_Ret, RX.retK_v, RX.retK_o, RX.x_RetV, RX.x_RetN, RX.x_SIf, RX.x_For, RX.x_Raise, RX.itK_some, RX.rgK_some, RX.x_iE, RX.x_iR1, RX.x_forN, RX.x_forC, RX.x_Try, RX.try_ret, RX.try_next, RX.try_exc, RX.h1K_some, RX.suite_ret, RX.suite_next, RX.x_Fld, RX.fldK_some, RX.stK_some, RX.turn_next, RX.turn_cont, RX.turn_brk, RX.turn_ret, RX.end_ret, RX.end_next, RX.end_exc, RX.pk_t, RX.pk_f, RX.bnd_ok, RX.bnd_exc, RX.outK_ok, RX.outK_exc, RX.obnd_next, RX.obnd_ret, RX.obnd_brk, RX.obnd_cont, RX.obnd_exc, RX.tr_bl, RX.tr_int, RX.f_add, RX.f_sub, RX.f_mul, RX.f_div, RX.f_mod, RX.f_neg, RX.f_lt, RX.f_le, RX.f_gt, RX.f_ge, RX.f_eqI, RX.f_neI, RX.f_eqB, RX.f_isN, RX.f_isNotN, RX.look, RX.isOwn, RX.owns, RX.argOf, RX.argsOf, RX.backTo, RX.nodupN, RX.stSl, RX.stAll, RX.Tg.st, RX.Ex.frz, RX.Ex.sl, RX.finish, RX.outsOf, RX.Arg.sl, RX.D.items?, RX.D.asInt?, RX.permL, RX.D.isNon, List.getElem?_cons_zero, List.getElem?_cons_succ, List.getElem?_nil, List.set_cons_zero, List.set_cons_succ, List.map_cons, List.map_nil, List.nil_append, List.cons_append, List.replicate_succ, List.replicate_zero, List.length_cons, List.length_nil, List.contains_nil, List.contains_cons, List.isEmpty_nil, List.isEmpty_cons, List.filterMap_cons, List.filterMap_nil, Option.map_some, Option.map_none, Option.bind_some, Option.bind_none, List.any_cons, List.any_nil, RX.Arg.isOwn, Bool.not_true, Bool.not_false, Bool.true_and, Bool.false_and, Bool.and_true, Bool.and_false, Bool.or_true, Bool.or_false, Bool.true_or, Bool.false_or, if_true, if_false, Bool.false_eq_true, ↓reduceIte, ite_true, ite_false, decide_true, decide_false, Nat.reduceSub, Nat.reduceAdd, beq_self_eq_true, bIsi, isT, isI]
  | bl b => simp -dsimp -implicitDefEqProofs (disch := first | assumption | omega | decide) only [RX.x_C, RX.varK_v, RX.varK_o, RX.x_Var, RX.toR_some, RX.toB_some, RX.toT_some, RX.toS_some, RX.lk_some, RX.x_Op, RX.x_Un, RX.x_tE, RX.x_tNot, RX.x_tAnd, RX.x_tOr, RX.asB_bl, RX.x_And, RX.x_Or, RX.x_Not, RX.x_If, RX.x_nil, RX.x_cons, RX.x_Tup, RX.x_Lst, RX.x_IxV, RX.x_B, RX.x_B1, RX.x_Cmp, RX.x_anil, RX.x_av, RX.x_ae, RX.x_Call, RX.x_CallK, RX.x_CallV, RX.vK_fn, RX.x_do, RX.goK_some, RX.backE_some, RX.back_ok, RX.back_exc, RX.x_Seq, RX.x_Pass, RX.x_Brk, RX.x_Cont, RX.x_Set, RX.x_Unp, RX.x_Par, RX.x_Expr, RX.x_Ret, RX.retK_v, RX.retK_o, RX.x_RetV, RX.x_RetN, RX.x_SIf, RX.x_For, RX.x_Raise, RX.itK_some, RX.rgK_some, RX.x_iE, RX.x_iR1, RX.x_forN, RX.x_forC, RX.x_Try, RX.try_ret, RX.try_next, RX.try_exc, RX.h1K_some, RX.suite_ret, RX.suite_next, RX.x_Fld, RX.fldK_some, RX.stK_some, RX.turn_next, RX.turn_cont, RX.turn_brk, RX.turn_ret, RX.end_ret, RX.end_next, RX.end_exc, RX.pk_t, RX.pk_f, RX.bnd_ok, RX.bnd_exc, RX.outK_ok, RX.outK_exc, RX.obnd_next, RX.obnd_ret, RX.obnd_brk, RX.obnd_cont, RX.obnd_exc, RX.tr_bl, RX.tr_int, RX.f_add, RX.f_sub, RX.f_mul, RX.f_div, RX.f_mod, RX.f_neg, RX.f_lt, RX.f_le, RX.f_gt, RX.f_ge, RX.f_eqI, RX.f_neI, RX.f_eqB, RX.f_isN, RX.f_isNotN, RX.look, RX.isOwn, RX.owns, RX.argOf, RX.argsOf, RX.backTo, RX.nodupN, RX.stSl, RX.stAll, RX.Tg.st, RX.Ex.frz, RX.Ex.sl, RX.finish, RX.outsOf, RX.Arg.sl, RX.D.items?, RX.D.asInt?, RX.permL, RX.D.isNon, List.getElem?_cons_zero, List.getElem?_cons_succ, List.getElem?_nil, List.set_cons_zero, List.set_cons_succ, List.map_cons, List.map_nil, List.nil_append, List.cons_append, List.replicate_succ, List.replicate_zero, List.length_cons, List.length_nil, List.contains_nil, List.contains_cons, List.isEmpty_nil, List.isEmpty_cons, List.filterMap_cons, List.filterMap_nil, Option.map_some, Option.map_none, Option.bind_some, Option.bind_none, List.any_cons, List.any_nil, RX.Arg.isOwn, Bool.not_true, Bool.not_false, Bool.true_and, Bool.false_and, Bool.and_true, Bool.and_false, Bool.or_true, Bool.or_false, Bool.true_or, Bool.false_or, if_true, if_false, Bool.false_eq_true, ↓reduceIte, ite_true, ite_false, decide_true, decide_false, Nat.reduceSub, Nat.reduceAdd, beq_self_eq_true, bIsi, isT, isI]
  | non => simp -dsimp -implicitDefEqProofs (disch := first | assumption | omega | decide) only [RX.x_C, RX.varK_v, RX.varK_o, RX.x_Var, RX.toR_some, RX.toB_some, RX.toT_some, RX.toS_some, RX.lk_some, RX.x_Op, RX.x_Un, RX.x_tE, RX.x_tNot, RX.x_tAnd, RX.x_tOr, RX.asB_bl, RX.x_And, RX.x_Or, RX.x_Not, RX.x_If, RX.x_nil, RX.x_cons, RX.x_Tup, RX.x_Lst, RX.x_IxV, RX.x_B, RX.x_B1, RX.x_Cmp, RX.x_anil, RX.x_av, RX.x_ae, RX.x_Call, RX.x_CallK, RX.x_CallV, RX.vK_fn, RX.x_do, RX.goK_some, RX.backE_some, RX.back_ok, RX.back_exc, RX.x_Seq, RX.x_Pass, RX.x_Brk, RX.x_Cont, RX.x_Set, RX.x_Unp, RX.x_Par, RX.x_Expr, RX.x_Ret, RX.retK_v, RX.retK_o, RX.x_RetV, RX.x_RetN, RX.x_SIf, RX.x_For, RX.x_Raise, RX.itK_some, RX.rgK_some, RX.x_iE, RX.x_iR1, RX.x_forN, RX.x_forC, RX.x_Try, RX.try_ret, RX.try_next, RX.try_exc, RX.h1K_some, RX.suite_ret, RX.suite_next, RX.x_Fld, RX.fldK_some, RX.stK_some, RX.turn_next, RX.turn_cont, RX.turn_brk, RX.turn_ret, RX.end_ret, RX.end_next, RX.end_exc, RX.pk_t, RX.pk_f, RX.bnd_ok, RX.bnd_exc, RX.outK_ok, RX.outK_exc, RX.obnd_next, RX.obnd_ret, RX.obnd_brk, RX.obnd_cont, RX.obnd_exc, RX.tr_bl, RX.tr_int, RX.f_add, RX.f_sub, RX.f_mul, RX.f_div, RX.f_mod, RX.f_neg, RX.f_lt, RX.f_le, RX.f_gt, RX.f_ge, RX.f_eqI, RX.f_neI, RX.f_eqB, RX.f_isN, RX.f_isNotN, RX.look, RX.isOwn, RX.owns, RX.argOf, RX.argsOf, RX.backTo, RX.nodupN, RX.stSl, RX.stAll, RX.Tg.st, RX.Ex.frz, RX.Ex.sl, RX.finish, RX.outsOf, RX.Arg.sl, RX.D.items?, RX.D.asInt?, RX.permL, RX.D.isNon, List.getElem?_cons_zero, List.getElem?_cons_succ, List.getElem?_nil, List.set_cons_zero, List.set_cons_succ, List.map_cons, List.map_nil, List.nil_append, List.cons_append, List.replicate_succ, List.replicate_zero, List.length_cons, List.length_nil, List.contains_nil, List.contains_cons, List.isEmpty_nil, List.isEmpty_cons, List.filterMap_cons, List.filterMap_nil, Option.map_some, Option.map_none, Option.bind_some, Option.bind_none, List.any_cons, List.any_nil, RX.Arg.isOwn, Bool.not_true, Bool.not_false, Bool.true_and, Bool.false_and, Bool.and_true, Bool.and_false, Bool.or_true, Bool.or_false, Bool.true_or, Bool.false_or, if_true, if_false, Bool.false_eq_true, ↓reduceIte, ite_true, ite_false, decide_true, decide_false, Nat.reduceSub, Nat.reduceAdd, beq_self_eq_true, bIsi, isT, isI]
  | str s => simp -dsimp -implicitDefEqProofs (disch := first | assumption | omega | decide) only [RX.x_C, RX.varK_v, RX.varK_o, RX.x_Var, RX.toR_some, RX.toB_some, RX.toT_some, RX.toS_some, RX.lk_some, RX.x_Op, RX.x_Un, RX.x_tE, RX.x_tNot, RX.x_tAnd, RX.x_tOr, RX.asB_bl, RX.x_And, RX.x_Or, RX.x_Not, RX.x_If, RX.x_nil, RX.x_cons, RX.x_Tup, RX.x_Lst, RX.x_IxV, RX.x_B, RX.x_B1, RX.x_Cmp, RX.x_anil, RX.x_av, RX.x_ae, RX.x_Call, RX.x_CallK, RX.x_CallV, RX.vK_fn, RX.x_do, RX.goK_some, RX.backE_some, RX.back_ok, RX.back_exc, RX.x_Seq, RX.x_Pass, RX.x_Brk, RX.x_Cont, RX.x_Set, RX.x_Unp, RX.x_Par, RX.x_Expr, RX.x_Ret, RX.retK_v, RX.retK_o, RX.x_RetV, RX.x_RetN, RX.x_SIf, RX.x_For, RX.x_Raise, RX.itK_some, RX.rgK_some, RX.x_iE, RX.x_iR1, RX.x_forN, RX.x_forC, RX.x_Try, RX.try_ret, RX.try_next, RX.try_exc, RX.h1K_some, RX.suite_ret, RX.suite_next, RX.x_Fld, RX.fldK_some, RX.stK_some, RX.turn_next, RX.turn_cont, RX.turn_brk, RX.turn_ret, RX.end_ret, RX.end_next, RX.end_exc, RX.pk_t, RX.pk_f, RX.bnd_ok, RX.bnd_exc, RX.outK_ok, RX.outK_exc, RX.obnd_next, RX.obnd_ret, RX.obnd_brk, RX.obnd_cont, RX.obnd_exc, RX.tr_bl, RX.tr_int, RX.f_add, RX.f_sub, RX.f_mul, RX.f_div, RX.f_mod, RX.f_neg, RX.f_lt, RX.f_le, RX.f_gt, RX.f_ge, RX.f_eqI, RX.f_neI, RX.f_eqB, RX.f_isN, RX.f_isNotN, RX.look, RX.isOwn, RX.owns, RX.argOf, RX.argsOf, RX.backTo, RX.nodupN, RX.stSl, RX.stAll, RX.Tg.st, RX.Ex.frz, RX.Ex.sl, RX.finish, RX.outsOf, RX.Arg.sl, RX.D.items?, RX.D.asInt?, RX.permL, RX.D.isNon, List.getElem?_cons_zero, List.getElem?_cons_succ, List.getElem?_nil, List.set_cons_zero, List.set_cons_succ, List.map_cons, List.map_nil, List.nil_append, List.cons_append, List.replicate_succ, List.replicate_zero, List.length_cons, List.length_nil, List.contains_nil, List.contains_cons, List.isEmpty_nil, List.isEmpty_cons, List.filterMap_cons, List.filterMap_nil, Option.map_some, Option.map_none, Option.bind_some, Option.bind_none, List.any_cons, List.any_nil, RX.Arg.isOwn, Bool.not_true, Bool.not_false, Bool.true_and, Bool.false_and, Bool.and_true, Bool.and_false, Bool.or_true, Bool.or_false, Bool.true_or, Bool.false_or, if_true, if_false, Bool.false_eq_true, ↓reduceIte, ite_true, ite_false, decide_true, decide_false, Nat.reduceSub, Nat.reduceAdd, beq_self_eq_true, bIsi, isT, isI]
  | tup l => simp -dsimp -implicitDefEqProofs (disch := first | assumption | omega | decide) only [RX.x_C, RX.varK_v, RX.varK_o, RX.x_Var, RX.toR_some, RX.toB_some, RX.toT_some, RX.toS_some, RX.lk_some, RX.x_Op, RX.x_Un, RX.x_tE, RX.x_tNot, RX.x_tAnd, RX.x_tOr, RX.asB_bl, RX.x_And, RX.x_Or, RX.x_Not, RX.x_If, RX.x_nil, RX.x_cons, RX.x_Tup, RX.x_Lst, RX.x_IxV, RX.x_B, RX.x_B1, RX.x_Cmp, RX.x_anil, RX.x_av, RX.x_ae, RX.x_Call, RX.x_CallK, RX.x_CallV, RX.vK_fn, RX.x_do, RX.goK_some, RX.backE_some, RX.back_ok, RX.back_exc, RX.x_Seq, RX.x_Pass, RX.x_Brk, RX.x_Cont, RX.x_Set, RX.x_Unp, RX.x_Par, RX.x_Expr, RX.x_Ret, RX.retK_v, RX.retK_o, RX.x_RetV, RX.x_RetN, RX.x_SIf, RX.x_For, RX.x_Raise, RX.itK_some, RX.rgK_some, RX.x_iE, RX.x_iR1, RX.x_forN, RX.x_forC, RX.x_Try, RX.try_ret, RX.try_next, RX.try_exc, RX.h1K_some, RX.suite_ret, RX.suite_next, RX.x_Fld, RX.fldK_some, RX.stK_some, RX.turn_next, RX.turn_cont, RX.turn_brk, RX.turn_ret, RX.end_ret, RX.end_next, RX.end_exc, RX.pk_t, RX.pk_f, RX.bnd_ok, RX.bnd_exc, RX.outK_ok, RX.outK_exc, RX.obnd_next, RX.obnd_ret, RX.obnd_brk, RX.obnd_cont, RX.obnd_exc, RX.tr_bl, RX.tr_int, RX.f_add, RX.f_sub, RX.f_mul, RX.f_div, RX.f_mod, RX.f_neg, RX.f_lt, RX.f_le, RX.f_gt, RX.f_ge, RX.f_eqI, RX.f_neI, RX.f_eqB, RX.f_isN, RX.f_isNotN, RX.look, RX.isOwn, RX.owns, RX.argOf, RX.argsOf, RX.backTo, RX.nodupN, RX.stSl, RX.stAll, RX.Tg.st, RX.Ex.frz, RX.Ex.sl, RX.finish, RX.outsOf, RX.Arg.sl, RX.D.items?, RX.D.asInt?, RX.permL, RX.D.isNon, List.getElem?_cons_zero, List.getElem?_cons_succ, List.getElem?_nil, List.set_cons_zero, List.set_cons_succ, List.map_cons, List.map_nil, List.nil_append, List.cons_append, List.replicate_succ, List.replicate_zero, List.length_cons, List.length_nil, List.contains_nil, List.contains_cons, List.isEmpty_nil, List.isEmpty_cons, List.filterMap_cons, List.filterMap_nil, Option.map_some, Option.map_none, Option.bind_some, Option.bind_none, List.any_cons, List.any_nil, RX.Arg.isOwn, Bool.not_true, Bool.not_false, Bool.true_and, Bool.false_and, Bool.and_true, Bool.and_false, Bool.or_true, Bool.or_false, Bool.true_or, Bool.false_or, if_true, if_false, Bool.false_eq_true, ↓reduceIte, ite_true, ite_false, decide_true, decide_false, Nat.reduceSub, Nat.reduceAdd, beq_self_eq_true, bIsi, isT, isI]
  | lst l => simp -dsimp -implicitDefEqProofs (disch := first | assumption | omega | decide) only [RX.x_C, RX.varK_v, RX.varK_o, RX.x_Var, RX.toR_some, RX.toB_some, RX.toT_some, RX.toS_some, RX.lk_some, RX.x_Op, RX.x_Un, RX.x_tE, RX.x_tNot, RX.x_tAnd, RX.x_tOr, RX.asB_bl, RX.x_And, RX.x_Or, RX.x_Not, RX.x_If, RX.x_nil, RX.x_cons, RX.x_Tup, RX.x_Lst, RX.x_IxV, RX.x_B, RX.x_B1, RX.x_Cmp, RX.x_anil, RX.x_av, RX.x_ae, RX.x_Call, RX.x_CallK, RX.x_CallV, RX.vK_fn, RX.x_do, RX.goK_some, RX.backE_some, RX.back_ok, RX.back_exc, RX.x_Seq, RX.x_Pass, RX.x_Brk, RX.x_Cont, RX.x_Set, RX.x_Unp, RX.x_Par, RX.x_Expr, RX.x_Ret, RX.retK_v, RX.retK_o, RX.x_RetV, RX.x_RetN, RX.x_SIf, RX.x_For, RX.x_Raise, RX.itK_some, RX.rgK_some, RX.x_iE, RX.x_iR1, RX.x_forN, RX.x_forC, RX.x_Try, RX.try_ret, RX.try_next, RX.try_exc, RX.h1K_some, RX.suite_ret, RX.suite_next, RX.x_Fld, RX.fldK_some, RX.stK_some, RX.turn_next, RX.turn_cont, RX.turn_brk, RX.turn_ret, RX.end_ret, RX.end_next, RX.end_exc, RX.pk_t, RX.pk_f, RX.bnd_ok, RX.bnd_exc, RX.outK_ok, RX.outK_exc, RX.obnd_next, RX.obnd_ret, RX.obnd_brk, RX.obnd_cont, RX.obnd_exc, RX.tr_bl, RX.tr_int, RX.f_add, RX.f_sub, RX.f_mul, RX.f_div, RX.f_mod, RX.f_neg, RX.f_lt, RX.f_le, RX.f_gt, RX.f_ge, RX.f_eqI, RX.f_neI, RX.f_eqB, RX.f_isN, RX.f_isNotN, RX.look, RX.isOwn, RX.owns, RX.argOf, RX.argsOf, RX.backTo, RX.nodupN, RX.stSl, RX.stAll, RX.Tg.st, RX.Ex.frz, RX.Ex.sl, RX.finish, RX.outsOf, RX.Arg.sl, RX.D.items?, RX.D.asInt?, RX.permL, RX.D.isNon, List.getElem?_cons_zero, List.getElem?_cons_succ, List.getElem?_nil, List.set_cons_zero, List.set_cons_succ, List.map_cons, List.map_nil, List.nil_append, List.cons_append, List.replicate_succ, List.replicate_zero, List.length_cons, List.length_nil, List.contains_nil, List.contains_cons, List.isEmpty_nil, List.isEmpty_cons, List.filterMap_cons, List.filterMap_nil, Option.map_some, Option.map_none, Option.bind_some, Option.bind_none, List.any_cons, List.any_nil, RX.Arg.isOwn, Bool.not_true, Bool.not_false, Bool.true_and, Bool.false_and, Bool.and_true, Bool.and_false, Bool.or_true, Bool.or_false, Bool.true_or, Bool.false_or, if_true, if_false, Bool.false_eq_true, ↓reduceIte, ite_true, ite_false, decide_true, decide_false, Nat.reduceSub, Nat.reduceAdd, beq_self_eq_true, bIsi, isT, isI]
  | _ => cases h
theorem f_eqS {x y : Str} : fEq (.str x) (.str y) = some (.d (.bl (x == y))) := rfl
theorem lenT {l : List D} : bLen [.tup l] = some (.d (.int l.length)) := rfl
theorem itT {l : List D} : (D.tup l).items? = some l := rfl
mutual
/-- what the checks compare -/
def eas : D → Bool
  | .non => true
  | .bl _ => true
  | .int _ => true
  | .str _ => true
  | .tup l => decide (l.length < 1000) && easL l
  | _ => false
def easL : List D → Bool
  | [] => true
  | d :: r => eas d && easL r
end
theorem easL_at : ∀ {l : List D} {i : Nat} {x : D}, easL l = true → l[i]? = some x → eas x = true ∧ x.dep ≤ depL l
  | [], _, _, _, h => by simp at h
  | d :: r, i, x, h, e => by
    obtain ⟨h1, h2⟩ := Bool.and_eq_true_iff.mp (show (eas d && easL r) = true from h)
    cases i with
    | zero => simp at e; subst e; exact ⟨h1, Nat.le_max_left _ _⟩
    | succ i =>
      obtain ⟨k1, k2⟩ := easL_at h2 (show r[i]? = some x by simpa using e)
      exact ⟨k1, Nat.le_trans k2 (Nat.le_max_right _ _)⟩
theorem s18 : ∀ (k : Nat) {n : Nat} (hn : k + 2 ≤ n) {x : D} (h : eas x = true) (hk : x.dep ≤ k), callN T n 18 [.d x, .d x] = .ok (.d (.bl true)) [] := by
  intro k
  induction k with
  | zero =>
    intro n hn x h hk
    obtain ⟨p, rfl, hp⟩ := up hn
    rw [callN_eq (d := d18) (np := 2) (ns := 3) rfl rfl]
    unfold d18
    cases x with
    | int i =>
      have i1 : isI (.int i) = true := rfl
      simp -dsimp -implicitDefEqProofs (disch := first | assumption | omega | decide) only [RX.x_C, RX.varK_v, RX.varK_o, RX.x_Var, RX.toR_some, RX.toB_some, RX.toT_some, RX.toS_some, RX.lk_some, RX.x_Op, RX.x_Un, RX.x_tE, RX.x_tNot, RX.x_tAnd, RX.x_tOr, RX.asB_bl, RX.x_And, RX.x_Or, RX.x_Not, RX.x_If, RX.x_nil, RX.x_cons, RX.x_Tup, RX.x_Lst, RX.x_IxV, RX.x_B, RX.x_B1, RX.x_Cmp, RX.x_anil, RX.x_av, RX.x_ae, RX.x_Call, RX.x_CallK, RX.x_CallV, RX.vK_fn, RX.x_do, RX.goK_some, RX.backE_some, RX.back_ok, RX.back_exc, RX.x_Seq, RX.x_Pass, RX.x_Brk, RX.x_Cont, RX.x_Set, RX.x_Unp, RX.x_Par, RX.x_Expr, RX.x_Ret, RX.retK_v, RX.retK_o, RX.x_RetV, RX.x_RetN, RX.x_SIf, RX.x_For, RX.x_Raise, RX.itK_some, RX.rgK_some, RX.x_iE, RX.x_iR1, RX.x_forN, RX.x_forC, RX.x_Try, RX.try_ret, RX.try_next, RX.try_exc, RX.h1K_some, RX.suite_ret, RX.suite_next, RX.x_Fld, RX.fldK_some, RX.stK_some, RX.turn_next, RX.turn_cont, RX.turn_brk, RX.turn_ret, RX.end_ret, RX.end_next, RX.end_exc, RX.pk_t, RX.pk_f, RX.bnd_ok, RX.bnd_exc, RX.outK_ok, RX.outK_exc, RX.obnd_next, RX.obnd_ret, RX.obnd_brk, RX.obnd_cont, RX.obnd_exc, RX.tr_bl, RX.tr_int, RX.f_add, RX.f_sub, RX.f_mul, RX.f_div, RX.f_mod, RX.f_neg, RX.f_lt, RX.f_le, RX.f_gt, RX.f_ge, RX.f_eqI, RX.f_neI, RX.f_eqB, RX.f_isN, RX.f_isNotN, RX.look, RX.isOwn, RX.owns, RX.argOf, RX.argsOf, RX.backTo, RX.nodupN, RX.stSl, RX.stAll, RX.Tg.st, RX.Ex.frz, RX.Ex.sl, RX.finish, RX.outsOf, RX.Arg.sl, RX.D.items?, RX.D.asInt?, RX.permL, RX.D.isNon, List.getElem?_cons_zero, List.getElem?_cons_succ, List.getElem?_nil, List.set_cons_zero, List.set_cons_succ, List.map_cons, List.map_nil, List.nil_append, List.cons_append, List.replicate_succ, List.replicate_zero, List.length_cons, List.length_nil, List.contains_nil, List.contains_cons, List.isEmpty_nil, List.isEmpty_cons, List.filterMap_cons, List.filterMap_nil, Option.map_some, Option.map_none, Option.bind_some, Option.bind_none, List.any_cons, List.any_nil, RX.Arg.isOwn, Bool.not_true, Bool.not_false, Bool.true_and, Bool.false_and, Bool.and_true, Bool.and_false, Bool.or_true, Bool.or_false, Bool.true_or, Bool.false_or, if_true, if_false, Bool.false_eq_true, ↓reduceIte, ite_true, ite_false, decide_true, decide_false, Nat.reduceSub, Nat.reduceAdd, beq_self_eq_true, bIsi, isT, s17 (n := p) (by omega) (x := .int i) rfl, i1]
    | bl b => simp -dsimp -implicitDefEqProofs (disch := first | assumption | omega | decide) only [RX.x_C, RX.varK_v, RX.varK_o, RX.x_Var, RX.toR_some, RX.toB_some, RX.toT_some, RX.toS_some, RX.lk_some, RX.x_Op, RX.x_Un, RX.x_tE, RX.x_tNot, RX.x_tAnd, RX.x_tOr, RX.asB_bl, RX.x_And, RX.x_Or, RX.x_Not, RX.x_If, RX.x_nil, RX.x_cons, RX.x_Tup, RX.x_Lst, RX.x_IxV, RX.x_B, RX.x_B1, RX.x_Cmp, RX.x_anil, RX.x_av, RX.x_ae, RX.x_Call, RX.x_CallK, RX.x_CallV, RX.vK_fn, RX.x_do, RX.goK_some, RX.backE_some, RX.back_ok, RX.back_exc, RX.x_Seq, RX.x_Pass, RX.x_Brk, RX.x_Cont, RX.x_Set, RX.x_Unp, RX.x_Par, RX.x_Expr, RX.x_Ret, RX.retK_v, RX.retK_o, RX.x_RetV, RX.x_RetN, RX.x_SIf, RX.x_For, RX.x_Raise, RX.itK_some, RX.rgK_some, RX.x_iE, RX.x_iR1, RX.x_forN, RX.x_forC, RX.x_Try, RX.try_ret, RX.try_next, RX.try_exc, RX.h1K_some, RX.suite_ret, RX.suite_next, RX.x_Fld, RX.fldK_some, RX.stK_some, RX.turn_next, RX.turn_cont, RX.turn_brk, RX.turn_ret, RX.end_ret, RX.end_next, RX.end_exc, RX.pk_t, RX.pk_f, RX.bnd_ok, RX.bnd_exc, RX.outK_ok, RX.outK_exc, RX.obnd_next, RX.obnd_ret, RX.obnd_brk, RX.obnd_cont, RX.obnd_exc, RX.tr_bl, RX.tr_int, RX.f_add, RX.f_sub, RX.f_mul, RX.f_div, RX.f_mod, RX.f_neg, RX.f_lt, RX.f_le, RX.f_gt, RX.f_ge, RX.f_eqI, RX.f_neI, RX.f_eqB, RX.f_isN, RX.f_isNotN, RX.look, RX.isOwn, RX.owns, RX.argOf, RX.argsOf, RX.backTo, RX.nodupN, RX.stSl, RX.stAll, RX.Tg.st, RX.Ex.frz, RX.Ex.sl, RX.finish, RX.outsOf, RX.Arg.sl, RX.D.items?, RX.D.asInt?, RX.permL, RX.D.isNon, List.getElem?_cons_zero, List.getElem?_cons_succ, List.getElem?_nil, List.set_cons_zero, List.set_cons_succ, List.map_cons, List.map_nil, List.nil_append, List.cons_append, List.replicate_succ, List.replicate_zero, List.length_cons, List.length_nil, List.contains_nil, List.contains_cons, List.isEmpty_nil, List.isEmpty_cons, List.filterMap_cons, List.filterMap_nil, Option.map_some, Option.map_none, Option.bind_some, Option.bind_none, List.any_cons, List.any_nil, RX.Arg.isOwn, Bool.not_true, Bool.not_false, Bool.true_and, Bool.false_and, Bool.and_true, Bool.and_false, Bool.or_true, Bool.or_false, Bool.true_or, Bool.false_or, if_true, if_false, Bool.false_eq_true, ↓reduceIte, ite_true, ite_false, decide_true, decide_false, Nat.reduceSub, Nat.reduceAdd, beq_self_eq_true, bIsi, isT]
    | non => simp -dsimp -implicitDefEqProofs (disch := first | assumption | omega | decide) only [RX.x_C, RX.varK_v, RX.varK_o, RX.x_Var, RX.toR_some, RX.toB_some, RX.toT_some, RX.toS_some, RX.lk_some, RX.x_Op, RX.x_Un, RX.x_tE, RX.x_tNot, RX.x_tAnd, RX.x_tOr, RX.asB_bl, RX.x_And, RX.x_Or, RX.x_Not, RX.x_If, RX.x_nil, RX.x_cons, RX.x_Tup, RX.x_Lst, RX.x_IxV, RX.x_B, RX.x_B1, RX.x_Cmp, RX.x_anil, RX.x_av, RX.x_ae, RX.x_Call, RX.x_CallK, RX.x_CallV, RX.vK_fn, RX.x_do, RX.goK_some, RX.backE_some, RX.back_ok, RX.back_exc, RX.x_Seq, RX.x_Pass, RX.x_Brk, RX.x_Cont, RX.x_Set, RX.x_Unp, RX.x_Par, RX.x_Expr, RX.x_Ret, RX.retK_v, RX.retK_o, RX.x_RetV, RX.x_RetN, RX.x_SIf, RX.x_For, RX.x_Raise, RX.itK_some, RX.rgK_some, RX.x_iE, RX.x_iR1, RX.x_forN, RX.x_forC, RX.x_Try, RX.try_ret, RX.try_next, RX.try_exc, RX.h1K_some, RX.suite_ret, RX.suite_next, RX.x_Fld, RX.fldK_some, RX.stK_some, RX.turn_next, RX.turn_cont, RX.turn_brk, RX.turn_ret, RX.end_ret, RX.end_next, RX.end_exc, RX.pk_t, RX.pk_f, RX.bnd_ok, RX.bnd_exc, RX.outK_ok, RX.outK_exc, RX.obnd_next, RX.obnd_ret, RX.obnd_brk, RX.obnd_cont, RX.obnd_exc, RX.tr_bl, RX.tr_int, RX.f_add, RX.f_sub, RX.f_mul, RX.f_div, RX.f_mod, RX.f_neg, RX.f_lt, RX.f_le, RX.f_gt, RX.f_ge, RX.f_eqI, RX.f_neI, RX.f_eqB, RX.f_isN, RX.f_isNotN, RX.look, RX.isOwn, RX.owns, RX.argOf, RX.argsOf, RX.backTo, RX.nodupN, RX.stSl, RX.stAll, RX.Tg.st, RX.Ex.frz, RX.Ex.sl, RX.finish, RX.outsOf, RX.Arg.sl, RX.D.items?, RX.D.asInt?, RX.permL, RX.D.isNon, List.getElem?_cons_zero, List.getElem?_cons_succ, List.getElem?_nil, List.set_cons_zero, List.set_cons_succ, List.map_cons, List.map_nil, List.nil_append, List.cons_append, List.replicate_succ, List.replicate_zero, List.length_cons, List.length_nil, List.contains_nil, List.contains_cons, List.isEmpty_nil, List.isEmpty_cons, List.filterMap_cons, List.filterMap_nil, Option.map_some, Option.map_none, Option.bind_some, Option.bind_none, List.any_cons, List.any_nil, RX.Arg.isOwn, Bool.not_true, Bool.not_false, Bool.true_and, Bool.false_and, Bool.and_true, Bool.and_false, Bool.or_true, Bool.or_false, Bool.true_or, Bool.false_or, if_true, if_false, Bool.false_eq_true, ↓reduceIte, ite_true, ite_false, decide_true, decide_false, Nat.reduceSub, Nat.reduceAdd, beq_self_eq_true, bIsi, isT]
    | str s => simp -dsimp -implicitDefEqProofs (disch := first | assumption | omega | decide) only [RX.x_C, RX.varK_v, RX.varK_o, RX.x_Var, RX.toR_some, RX.toB_some, RX.toT_some, RX.toS_some, RX.lk_some, RX.x_Op, RX.x_Un, RX.x_tE, RX.x_tNot, RX.x_tAnd, RX.x_tOr, RX.asB_bl, RX.x_And, RX.x_Or, RX.x_Not, RX.x_If, RX.x_nil, RX.x_cons, RX.x_Tup, RX.x_Lst, RX.x_IxV, RX.x_B, RX.x_B1, RX.x_Cmp, RX.x_anil, RX.x_av, RX.x_ae, RX.x_Call, RX.x_CallK, RX.x_CallV, RX.vK_fn, RX.x_do, RX.goK_some, RX.backE_some, RX.back_ok, RX.back_exc, RX.x_Seq, RX.x_Pass, RX.x_Brk, RX.x_Cont, RX.x_Set, RX.x_Unp, RX.x_Par, RX.x_Expr, RX.x_Ret, RX.retK_v, RX.retK_o, RX.x_RetV, RX.x_RetN, RX.x_SIf, RX.x_For, RX.x_Raise, RX.itK_some, RX.rgK_some, RX.x_iE, RX.x_iR1, RX.x_forN, RX.x_forC, RX.x_Try, RX.try_ret, RX.try_next, RX.try_exc, RX.h1K_some, RX.suite_ret, RX.suite_next, RX.x_Fld, RX.fldK_some, RX.stK_some, RX.turn_next, RX.turn_cont, RX.turn_brk, RX.turn_ret, RX.end_ret, RX.end_next, RX.end_exc, RX.pk_t, RX.pk_f, RX.bnd_ok, RX.bnd_exc, RX.outK_ok, RX.outK_exc, RX.obnd_next, RX.obnd_ret, RX.obnd_brk, RX.obnd_cont, RX.obnd_exc, RX.tr_bl, RX.tr_int, RX.f_add, RX.f_sub, RX.f_mul, RX.f_div, RX.f_mod, RX.f_neg, RX.f_lt, RX.f_le, RX.f_gt, RX.f_ge, RX.f_eqI, RX.f_neI, RX.f_eqB, RX.f_isN, RX.f_isNotN, RX.look, RX.isOwn, RX.owns, RX.argOf, RX.argsOf, RX.backTo, RX.nodupN, RX.stSl, RX.stAll, RX.Tg.st, RX.Ex.frz, RX.Ex.sl, RX.finish, RX.outsOf, RX.Arg.sl, RX.D.items?, RX.D.asInt?, RX.permL, RX.D.isNon, List.getElem?_cons_zero, List.getElem?_cons_succ, List.getElem?_nil, List.set_cons_zero, List.set_cons_succ, List.map_cons, List.map_nil, List.nil_append, List.cons_append, List.replicate_succ, List.replicate_zero, List.length_cons, List.length_nil, List.contains_nil, List.contains_cons, List.isEmpty_nil, List.isEmpty_cons, List.filterMap_cons, List.filterMap_nil, Option.map_some, Option.map_none, Option.bind_some, Option.bind_none, List.any_cons, List.any_nil, RX.Arg.isOwn, Bool.not_true, Bool.not_false, Bool.true_and, Bool.false_and, Bool.and_true, Bool.and_false, Bool.or_true, Bool.or_false, Bool.true_or, Bool.false_or, if_true, if_false, Bool.false_eq_true, ↓reduceIte, ite_true, ite_false, decide_true, decide_false, Nat.reduceSub, Nat.reduceAdd, beq_self_eq_true, bIsi, isT, f_eqS]
    | tup l =>
      have : depL l + 1 ≤ 0 := hk
      omega
    | _ => cases h
  | succ k ih =>
    intro n hn x h hk
    obtain ⟨p, rfl, hp⟩ := up hn
    rw [callN_eq (d := d18) (np := 2) (ns := 3) rfl rfl]
    unfold d18
    cases x with
    | int i =>
      have i1 : isI (.int i) = true := rfl
      simp -dsimp -implicitDefEqProofs (disch := first | assumption | omega | decide) only [RX.x_C, RX.varK_v, RX.varK_o, RX.x_Var, RX.toR_some, RX.toB_some, RX.toT_some, RX.toS_some, RX.lk_some, RX.x_Op, RX.x_Un, RX.x_tE, RX.x_tNot, RX.x_tAnd, RX.x_tOr, RX.asB_bl, RX.x_And, RX.x_Or, RX.x_Not, RX.x_If, RX.x_nil, RX.x_cons, RX.x_Tup, RX.x_Lst, RX.x_IxV, RX.x_B, RX.x_B1, RX.x_Cmp, RX.x_anil, RX.x_av, RX.x_ae, RX.x_Call, RX.x_CallK, RX.x_CallV, RX.vK_fn, RX.x_do, RX.goK_some, RX.backE_some, RX.back_ok, RX.back_exc, RX.x_Seq, RX.x_Pass, RX.x_Brk, RX.x_Cont, RX.x_Set, RX.x_Unp, RX.x_Par, RX.x_Expr, RX.x_Ret, RX.retK_v, RX.retK_o, RX.x_RetV, RX.x_RetN, RX.x_SIf, RX.x_For, RX.x_Raise, RX.itK_some, RX.rgK_some, RX.x_iE, RX.x_iR1, RX.x_forN, RX.x_forC, RX.x_Try, RX.try_ret, RX.try_next, RX.try_exc, RX.h1K_some, RX.suite_ret, RX.suite_next, RX.x_Fld, RX.fldK_some, RX.stK_some, RX.turn_next, RX.turn_cont, RX.turn_brk, RX.turn_ret, RX.end_ret, RX.end_next, RX.end_exc, RX.pk_t, RX.pk_f, RX.bnd_ok, RX.bnd_exc, RX.outK_ok, RX.outK_exc, RX.obnd_next, RX.obnd_ret, RX.obnd_brk, RX.obnd_cont, RX.obnd_exc, RX.tr_bl, RX.tr_int, RX.f_add, RX.f_sub, RX.f_mul, RX.f_div, RX.f_mod, RX.f_neg, RX.f_lt, RX.f_le, RX.f_gt, RX.f_ge, RX.f_eqI, RX.f_neI, RX.f_eqB, RX.f_isN, RX.f_isNotN, RX.look, RX.isOwn, RX.owns, RX.argOf, RX.argsOf, RX.backTo, RX.nodupN, RX.stSl, RX.stAll, RX.Tg.st, RX.Ex.frz, RX.Ex.sl, RX.finish, RX.outsOf, RX.Arg.sl, RX.D.items?, RX.D.asInt?, RX.permL, RX.D.isNon, List.getElem?_cons_zero, List.getElem?_cons_succ, List.getElem?_nil, List.set_cons_zero, List.set_cons_succ, List.map_cons, List.map_nil, List.nil_append, List.cons_append, List.replicate_succ, List.replicate_zero, List.length_cons, List.length_nil, List.contains_nil, List.contains_cons, List.isEmpty_nil, List.isEmpty_cons, List.filterMap_cons, List.filterMap_nil, Option.map_some, Option.map_none, Option.bind_some, Option.bind_none, List.any_cons, List.any_nil, RX.Arg.isOwn, Bool.not_true, Bool.not_false, Bool.true_and, Bool.false_and, Bool.and_true, Bool.and_false, Bool.or_true, Bool.or_false, Bool.true_or, Bool.false_or, if_true, if_false, Bool.false_eq_true, ↓reduceIte, ite_true, ite_false, decide_true, decide_false, Nat.reduceSub, Nat.reduceAdd, beq_self_eq_true, bIsi, isT, s17 (n := p) (by omega) (x := .int i) rfl, i1]
    | bl b => simp -dsimp -implicitDefEqProofs (disch := first | assumption | omega | decide) only [RX.x_C, RX.varK_v, RX.varK_o, RX.x_Var, RX.toR_some, RX.toB_some, RX.toT_some, RX.toS_some, RX.lk_some, RX.x_Op, RX.x_Un, RX.x_tE, RX.x_tNot, RX.x_tAnd, RX.x_tOr, RX.asB_bl, RX.x_And, RX.x_Or, RX.x_Not, RX.x_If, RX.x_nil, RX.x_cons, RX.x_Tup, RX.x_Lst, RX.x_IxV, RX.x_B, RX.x_B1, RX.x_Cmp, RX.x_anil, RX.x_av, RX.x_ae, RX.x_Call, RX.x_CallK, RX.x_CallV, RX.vK_fn, RX.x_do, RX.goK_some, RX.backE_some, RX.back_ok, RX.back_exc, RX.x_Seq, RX.x_Pass, RX.x_Brk, RX.x_Cont, RX.x_Set, RX.x_Unp, RX.x_Par, RX.x_Expr, RX.x_Ret, RX.retK_v, RX.retK_o, RX.x_RetV, RX.x_RetN, RX.x_SIf, RX.x_For, RX.x_Raise, RX.itK_some, RX.rgK_some, RX.x_iE, RX.x_iR1, RX.x_forN, RX.x_forC, RX.x_Try, RX.try_ret, RX.try_next, RX.try_exc, RX.h1K_some, RX.suite_ret, RX.suite_next, RX.x_Fld, RX.fldK_some, RX.stK_some, RX.turn_next, RX.turn_cont, RX.turn_brk, RX.turn_ret, RX.end_ret, RX.end_next, RX.end_exc, RX.pk_t, RX.pk_f, RX.bnd_ok, RX.bnd_exc, RX.outK_ok, RX.outK_exc, RX.obnd_next, RX.obnd_ret, RX.obnd_brk, RX.obnd_cont, RX.obnd_exc, RX.tr_bl, RX.tr_int, RX.f_add, RX.f_sub, RX.f_mul, RX.f_div, RX.f_mod, RX.f_neg, RX.f_lt, RX.f_le, RX.f_gt, RX.f_ge, RX.f_eqI, RX.f_neI, RX.f_eqB, RX.f_isN, RX.f_isNotN, RX.look, RX.isOwn, RX.owns, RX.argOf, RX.argsOf, RX.backTo, RX.nodupN, RX.stSl, RX.stAll, RX.Tg.st, RX.Ex.frz, RX.Ex.sl, RX.finish, RX.outsOf, RX.Arg.sl, RX.D.items?, RX.D.asInt?, RX.permL, RX.D.isNon, List.getElem?_cons_zero, List.getElem?_cons_succ, List.getElem?_nil, List.set_cons_zero, List.set_cons_succ, List.map_cons, List.map_nil, List.nil_append, List.cons_append, List.replicate_succ, List.replicate_zero, List.length_cons, List.length_nil, List.contains_nil, List.contains_cons, List.isEmpty_nil, List.isEmpty_cons, List.filterMap_cons, List.filterMap_nil, Option.map_some, Option.map_none, Option.bind_some, Option.bind_none, List.any_cons, List.any_nil, RX.Arg.isOwn, Bool.not_true, Bool.not_false, Bool.true_and, Bool.false_and, Bool.and_true, Bool.and_false, Bool.or_true, Bool.or_false, Bool.true_or, Bool.false_or, if_true, if_false, Bool.false_eq_true, ↓reduceIte, ite_true, ite_false, decide_true, decide_false, Nat.reduceSub, Nat.reduceAdd, beq_self_eq_true, bIsi, isT]
    | non => simp -dsimp -implicitDefEqProofs (disch := first | assumption | omega | decide) only [RX.x_C, RX.varK_v, RX.varK_o, RX.x_Var, RX.toR_some, RX.toB_some, RX.toT_some, RX.toS_some, RX.lk_some, RX.x_Op, RX.x_Un, RX.x_tE, RX.x_tNot, RX.x_tAnd, RX.x_tOr, RX.asB_bl, RX.x_And, RX.x_Or, RX.x_Not, RX.x_If, RX.x_nil, RX.x_cons, RX.x_Tup, RX.x_Lst, RX.x_IxV, RX.x_B, RX.x_B1, RX.x_Cmp, RX.x_anil, RX.x_av, RX.x_ae, RX.x_Call, RX.x_CallK, RX.x_CallV, RX.vK_fn, RX.x_do, RX.goK_some, RX.backE_some, RX.back_ok, RX.back_exc, RX.x_Seq, RX.x_Pass, RX.x_Brk, RX.x_Cont, RX.x_Set, RX.x_Unp, RX.x_Par, RX.x_Expr, RX.x_Ret, RX.retK_v, RX.retK_o, RX.x_RetV, RX.x_RetN, RX.x_SIf, RX.x_For, RX.x_Raise, RX.itK_some, RX.rgK_some, RX.x_iE, RX.x_iR1, RX.x_forN, RX.x_forC, RX.x_Try, RX.try_ret, RX.try_next, RX.try_exc, RX.h1K_some, RX.suite_ret, RX.suite_next, RX.x_Fld, RX.fldK_some, RX.stK_some, RX.turn_next, RX.turn_cont, RX.turn_brk, RX.turn_ret, RX.end_ret, RX.end_next, RX.end_exc, RX.pk_t, RX.pk_f, RX.bnd_ok, RX.bnd_exc, RX.outK_ok, RX.outK_exc, RX.obnd_next, RX.obnd_ret, RX.obnd_brk, RX.obnd_cont, RX.obnd_exc, RX.tr_bl, RX.tr_int, RX.f_add, RX.f_sub, RX.f_mul, RX.f_div, RX.f_mod, RX.f_neg, RX.f_lt, RX.f_le, RX.f_gt, RX.f_ge, RX.f_eqI, RX.f_neI, RX.f_eqB, RX.f_isN, RX.f_isNotN, RX.look, RX.isOwn, RX.owns, RX.argOf, RX.argsOf, RX.backTo, RX.nodupN, RX.stSl, RX.stAll, RX.Tg.st, RX.Ex.frz, RX.Ex.sl, RX.finish, RX.outsOf, RX.Arg.sl, RX.D.items?, RX.D.asInt?, RX.permL, RX.D.isNon, List.getElem?_cons_zero, List.getElem?_cons_succ, List.getElem?_nil, List.set_cons_zero, List.set_cons_succ, List.map_cons, List.map_nil, List.nil_append, List.cons_append, List.replicate_succ, List.replicate_zero, List.length_cons, List.length_nil, List.contains_nil, List.contains_cons, List.isEmpty_nil, List.isEmpty_cons, List.filterMap_cons, List.filterMap_nil, Option.map_some, Option.map_none, Option.bind_some, Option.bind_none, List.any_cons, List.any_nil, RX.Arg.isOwn, Bool.not_true, Bool.not_false, Bool.true_and, Bool.false_and, Bool.and_true, Bool.and_false, Bool.or_true, Bool.or_false, Bool.true_or, Bool.false_or, if_true, if_false, Bool.false_eq_true, ↓reduceIte, ite_true, ite_false, decide_true, decide_false, Nat.reduceSub, Nat.reduceAdd, beq_self_eq_true, bIsi, isT]
    | str s => simp -dsimp -implicitDefEqProofs (disch := first | assumption | omega | decide) only [RX.x_C, RX.varK_v, RX.varK_o, RX.x_Var, RX.toR_some, RX.toB_some, RX.toT_some, RX.toS_some, RX.lk_some, RX.x_Op, RX.x_Un, RX.x_tE, RX.x_tNot, RX.x_tAnd, RX.x_tOr, RX.asB_bl, RX.x_And, RX.x_Or, RX.x_Not, RX.x_If, RX.x_nil, RX.x_cons, RX.x_Tup, RX.x_Lst, RX.x_IxV, RX.x_B, RX.x_B1, RX.x_Cmp, RX.x_anil, RX.x_av, RX.x_ae, RX.x_Call, RX.x_CallK, RX.x_CallV, RX.vK_fn, RX.x_do, RX.goK_some, RX.backE_some, RX.back_ok, RX.back_exc, RX.x_Seq, RX.x_Pass, RX.x_Brk, RX.x_Cont, RX.x_Set, RX.x_Unp, RX.x_Par, RX.x_Expr, RX.x_Ret, RX.retK_v, RX.retK_o, RX.x_RetV, RX.x_RetN, RX.x_SIf, RX.x_For, RX.x_Raise, RX.itK_some, RX.rgK_some, RX.x_iE, RX.x_iR1, RX.x_forN, RX.x_forC, RX.x_Try, RX.try_ret, RX.try_next, RX.try_exc, RX.h1K_some, RX.suite_ret, RX.suite_next, RX.x_Fld, RX.fldK_some, RX.stK_some, RX.turn_next, RX.turn_cont, RX.turn_brk, RX.turn_ret, RX.end_ret, RX.end_next, RX.end_exc, RX.pk_t, RX.pk_f, RX.bnd_ok, RX.bnd_exc, RX.outK_ok, RX.outK_exc, RX.obnd_next, RX.obnd_ret, RX.obnd_brk, RX.obnd_cont, RX.obnd_exc, RX.tr_bl, RX.tr_int, RX.f_add, RX.f_sub, RX.f_mul, RX.f_div, RX.f_mod, RX.f_neg, RX.f_lt, RX.f_le, RX.f_gt, RX.f_ge, RX.f_eqI, RX.f_neI, RX.f_eqB, RX.f_isN, RX.f_isNotN, RX.look, RX.isOwn, RX.owns, RX.argOf, RX.argsOf, RX.backTo, RX.nodupN, RX.stSl, RX.stAll, RX.Tg.st, RX.Ex.frz, RX.Ex.sl, RX.finish, RX.outsOf, RX.Arg.sl, RX.D.items?, RX.D.asInt?, RX.permL, RX.D.isNon, List.getElem?_cons_zero, List.getElem?_cons_succ, List.getElem?_nil, List.set_cons_zero, List.set_cons_succ, List.map_cons, List.map_nil, List.nil_append, List.cons_append, List.replicate_succ, List.replicate_zero, List.length_cons, List.length_nil, List.contains_nil, List.contains_cons, List.isEmpty_nil, List.isEmpty_cons, List.filterMap_cons, List.filterMap_nil, Option.map_some, Option.map_none, Option.bind_some, Option.bind_none, List.any_cons, List.any_nil, RX.Arg.isOwn, Bool.not_true, Bool.not_false, Bool.true_and, Bool.false_and, Bool.and_true, Bool.and_false, Bool.or_true, Bool.or_false, Bool.true_or, Bool.false_or, if_true, if_false, Bool.false_eq_true, ↓reduceIte, ite_true, ite_false, decide_true, decide_false, Nat.reduceSub, Nat.reduceAdd, beq_self_eq_true, bIsi, isT, f_eqS]
    | tup l =>
      obtain ⟨h1, h2⟩ := Bool.and_eq_true_iff.mp (show (decide (l.length < 1000) && easL l) = true from h)
      have h1 := of_decide_eq_true h1
      have hd : depL l + 1 ≤ k + 1 := hk
      obtain ⟨ρ', e, s, e2, _⟩ := for_rng (C := callN T p) (tg := .v 2) (A := sIf (tNot (tE (dCall 18 [.e (dIxV 0 (dVar 2)), .e (dIxV 1 (dVar 2))]))) (sRet (dC (.bl false))) sPass)
        (ρ := [.val (.tup l), .val (.tup l), .none]) (fun i ρ => ∃ s, ρ = [.val (.tup l), .val (.tup l), s] ∧ (s = .none ∨ ∃ d, s = .val d)) (n := l.length) ⟨.none, rfl, .inl rfl⟩ fun i ρ hi ⟨s, e, hs⟩ => by
          subst e
          have hx : l[i]? = some l[i] := List.getElem?_eq_getElem hi
          obtain ⟨k1, k2⟩ := easL_at h2 hx
          have a := ih (n := p) (by omega) k1 (by omega)
          have b := (ix_nat hx).1
          refine ⟨[.val (.tup l), .val (.tup l), .val (.int i)], [.val (.tup l), .val (.tup l), .val (.int i)], ?_, .inl ?_, _, rfl, .inr ⟨_, rfl⟩⟩
          · rcases hs with rfl | ⟨d, rfl⟩ <;> rfl
          · simp -dsimp -implicitDefEqProofs (disch := first | assumption | omega | decide) only [RX.x_C, RX.varK_v, RX.varK_o, RX.x_Var, RX.toR_some, RX.toB_some, RX.toT_some, RX.toS_some, RX.lk_some, RX.x_Op, RX.x_Un, RX.x_tE, RX.x_tNot, RX.x_tAnd, RX.x_tOr, RX.asB_bl, RX.x_And, RX.x_Or, RX.x_Not, RX.x_If, RX.x_nil, RX.x_cons, RX.x_Tup, RX.x_Lst, RX.x_IxV, RX.x_B, RX.x_B1, RX.x_Cmp, RX.x_anil, RX.x_av, RX.x_ae, RX.x_Call, RX.x_CallK, RX.x_CallV, RX.vK_fn, RX.x_do, RX.goK_some, RX.backE_some, RX.back_ok, RX.back_exc, RX.x_Seq, RX.x_Pass, RX.x_Brk, RX.x_Cont, RX.x_Set, RX.x_Unp, RX.x_Par, RX.x_Expr, RX.x_Ret, RX.retK_v, RX.retK_o, RX.x_RetV, RX.x_RetN, RX.x_SIf, RX.x_For, RX.x_Raise, RX.itK_some, RX.rgK_some, RX.x_iE, RX.x_iR1, RX.x_forN, RX.x_forC, RX.x_Try, RX.try_ret, RX.try_next, RX.try_exc, RX.h1K_some, RX.suite_ret, RX.suite_next, RX.x_Fld, RX.fldK_some, RX.stK_some, RX.turn_next, RX.turn_cont, RX.turn_brk, RX.turn_ret, RX.end_ret, RX.end_next, RX.end_exc, RX.pk_t, RX.pk_f, RX.bnd_ok, RX.bnd_exc, RX.outK_ok, RX.outK_exc, RX.obnd_next, RX.obnd_ret, RX.obnd_brk, RX.obnd_cont, RX.obnd_exc, RX.tr_bl, RX.tr_int, RX.f_add, RX.f_sub, RX.f_mul, RX.f_div, RX.f_mod, RX.f_neg, RX.f_lt, RX.f_le, RX.f_gt, RX.f_ge, RX.f_eqI, RX.f_neI, RX.f_eqB, RX.f_isN, RX.f_isNotN, RX.look, RX.isOwn, RX.owns, RX.argOf, RX.argsOf, RX.backTo, RX.nodupN, RX.stSl, RX.stAll, RX.Tg.st, RX.Ex.frz, RX.Ex.sl, RX.finish, RX.outsOf, RX.Arg.sl, RX.D.items?, RX.D.asInt?, RX.permL, RX.D.isNon, List.getElem?_cons_zero, List.getElem?_cons_succ, List.getElem?_nil, List.set_cons_zero, List.set_cons_succ, List.map_cons, List.map_nil, List.nil_append, List.cons_append, List.replicate_succ, List.replicate_zero, List.length_cons, List.length_nil, List.contains_nil, List.contains_cons, List.isEmpty_nil, List.isEmpty_cons, List.filterMap_cons, List.filterMap_nil, Option.map_some, Option.map_none, Option.bind_some, Option.bind_none, List.any_cons, List.any_nil, RX.Arg.isOwn, Bool.not_true, Bool.not_false, Bool.true_and, Bool.false_and, Bool.and_true, Bool.and_false, Bool.or_true, Bool.or_false, Bool.true_or, Bool.false_or, if_true, if_false, Bool.false_eq_true, ↓reduceIte, ite_true, ite_false, decide_true, decide_false, Nat.reduceSub, Nat.reduceAdd, beq_self_eq_true, a, b]
      subst e2
      have hl : -16777216 < (l.length : Int) ∧ (l.length : Int) < 16777216 := by omega
      simp -dsimp -implicitDefEqProofs (disch := first | assumption | omega | decide) only [RX.x_C, RX.varK_v, RX.varK_o, RX.x_Var, RX.toR_some, RX.toB_some, RX.toT_some, RX.toS_some, RX.lk_some, RX.x_Op, RX.x_Un, RX.x_tE, RX.x_tNot, RX.x_tAnd, RX.x_tOr, RX.asB_bl, RX.x_And, RX.x_Or, RX.x_Not, RX.x_If, RX.x_nil, RX.x_cons, RX.x_Tup, RX.x_Lst, RX.x_IxV, RX.x_B, RX.x_B1, RX.x_Cmp, RX.x_anil, RX.x_av, RX.x_ae, RX.x_Call, RX.x_CallK, RX.x_CallV, RX.vK_fn, RX.x_do, RX.goK_some, RX.backE_some, RX.back_ok, RX.back_exc, RX.x_Seq, RX.x_Pass, RX.x_Brk, RX.x_Cont, RX.x_Set, RX.x_Unp, RX.x_Par, RX.x_Expr, RX.x_Ret, RX.retK_v, RX.retK_o, RX.x_RetV, RX.x_RetN, RX.x_SIf, RX.x_For, RX.x_Raise, RX.itK_some, RX.rgK_some, RX.x_iE, RX.x_iR1, RX.x_forN, RX.x_forC, RX.x_Try, RX.try_ret, RX.try_next, RX.try_exc, RX.h1K_some, RX.suite_ret, RX.suite_next, RX.x_Fld, RX.fldK_some, RX.stK_some, RX.turn_next, RX.turn_cont, RX.turn_brk, RX.turn_ret, RX.end_ret, RX.end_next, RX.end_exc, RX.pk_t, RX.pk_f, RX.bnd_ok, RX.bnd_exc, RX.outK_ok, RX.outK_exc, RX.obnd_next, RX.obnd_ret, RX.obnd_brk, RX.obnd_cont, RX.obnd_exc, RX.tr_bl, RX.tr_int, RX.f_add, RX.f_sub, RX.f_mul, RX.f_div, RX.f_mod, RX.f_neg, RX.f_lt, RX.f_le, RX.f_gt, RX.f_ge, RX.f_eqI, RX.f_neI, RX.f_eqB, RX.f_isN, RX.f_isNotN, RX.look, RX.isOwn, RX.owns, RX.argOf, RX.argsOf, RX.backTo, RX.nodupN, RX.stSl, RX.stAll, RX.Tg.st, RX.Ex.frz, RX.Ex.sl, RX.finish, RX.outsOf, RX.Arg.sl, RX.D.items?, RX.D.asInt?, RX.permL, RX.D.isNon, List.getElem?_cons_zero, List.getElem?_cons_succ, List.getElem?_nil, List.set_cons_zero, List.set_cons_succ, List.map_cons, List.map_nil, List.nil_append, List.cons_append, List.replicate_succ, List.replicate_zero, List.length_cons, List.length_nil, List.contains_nil, List.contains_cons, List.isEmpty_nil, List.isEmpty_cons, List.filterMap_cons, List.filterMap_nil, Option.map_some, Option.map_none, Option.bind_some, Option.bind_none, List.any_cons, List.any_nil, RX.Arg.isOwn, Bool.not_true, Bool.not_false, Bool.true_and, Bool.false_and, Bool.and_true, Bool.and_false, Bool.or_true, Bool.or_false, Bool.true_or, Bool.false_or, if_true, if_false, Bool.false_eq_true, ↓reduceIte, ite_true, ite_false, decide_true, decide_false, Nat.reduceSub, Nat.reduceAdd, beq_self_eq_true, bIsi, isT, lenT, asI, hl, e]
    | _ => cases h
/-! the greatest common divisor, by hand -/
abbrev gT : TD := tCmpB fNe (dVar 1) (dC (.int 0))
abbrev gB : DS := sPar 0 1 (dVar 1) (dOp fMod (dB1 bInt 0) (dVar 1))
theorem bInt_i {i : Int} : bInt [.int i] = some (.d (.int i)) := rfl
theorem share_loop (C : Calls) : ∀ b a : Nat, ∃ n, whileL gT gB C n [.val (.int a), .val (.int b)] = .next [.val (.int (Nat.gcd a b)), .val (.int 0)] := by
  intro b
  induction b using Nat.strongRecOn with
  | ind b ih =>
    intro a
    rcases Nat.eq_zero_or_pos b with rfl | hb
    · refine ⟨1, ?_⟩
      show (gT C _).out _ = _
      rw [show gT C [.val (.int (a : Int)), .val (.int ((0 : Nat) : Int))] = .ok false [.val (.int a), .val (.int 0)] from rfl]
      show Out.next _ = _
      rw [Nat.gcd_zero_right]
    · obtain ⟨n, e⟩ := ih (a % b) (Nat.mod_lt a hb) b
      refine ⟨n + 1, ?_⟩
      have e0 : ((b : Int) == 0) = false := beq_eq_false_iff_ne.mpr (by omega)
      have h1 : gT C [.val (.int (a : Int)), .val (.int (b : Int))] = .ok true [.val (.int a), .val (.int b)] := by
        simp -dsimp -implicitDefEqProofs (disch := first | assumption | omega | decide) only [RX.x_C, RX.varK_v, RX.varK_o, RX.x_Var, RX.toR_some, RX.toB_some, RX.toT_some, RX.toS_some, RX.lk_some, RX.x_Op, RX.x_Un, RX.x_tE, RX.x_tNot, RX.x_tAnd, RX.x_tOr, RX.asB_bl, RX.x_And, RX.x_Or, RX.x_Not, RX.x_If, RX.x_nil, RX.x_cons, RX.x_Tup, RX.x_Lst, RX.x_IxV, RX.x_B, RX.x_B1, RX.x_Cmp, RX.x_anil, RX.x_av, RX.x_ae, RX.x_Call, RX.x_CallK, RX.x_CallV, RX.vK_fn, RX.x_do, RX.goK_some, RX.backE_some, RX.back_ok, RX.back_exc, RX.x_Seq, RX.x_Pass, RX.x_Brk, RX.x_Cont, RX.x_Set, RX.x_Unp, RX.x_Par, RX.x_Expr, RX.x_Ret, RX.retK_v, RX.retK_o, RX.x_RetV, RX.x_RetN, RX.x_SIf, RX.x_For, RX.x_Raise, RX.itK_some, RX.rgK_some, RX.x_iE, RX.x_iR1, RX.x_forN, RX.x_forC, RX.x_Try, RX.try_ret, RX.try_next, RX.try_exc, RX.h1K_some, RX.suite_ret, RX.suite_next, RX.x_Fld, RX.fldK_some, RX.stK_some, RX.turn_next, RX.turn_cont, RX.turn_brk, RX.turn_ret, RX.end_ret, RX.end_next, RX.end_exc, RX.pk_t, RX.pk_f, RX.bnd_ok, RX.bnd_exc, RX.outK_ok, RX.outK_exc, RX.obnd_next, RX.obnd_ret, RX.obnd_brk, RX.obnd_cont, RX.obnd_exc, RX.tr_bl, RX.tr_int, RX.f_add, RX.f_sub, RX.f_mul, RX.f_div, RX.f_mod, RX.f_neg, RX.f_lt, RX.f_le, RX.f_gt, RX.f_ge, RX.f_eqI, RX.f_neI, RX.f_eqB, RX.f_isN, RX.f_isNotN, RX.look, RX.isOwn, RX.owns, RX.argOf, RX.argsOf, RX.backTo, RX.nodupN, RX.stSl, RX.stAll, RX.Tg.st, RX.Ex.frz, RX.Ex.sl, RX.finish, RX.outsOf, RX.Arg.sl, RX.D.items?, RX.D.asInt?, RX.permL, RX.D.isNon, List.getElem?_cons_zero, List.getElem?_cons_succ, List.getElem?_nil, List.set_cons_zero, List.set_cons_succ, List.map_cons, List.map_nil, List.nil_append, List.cons_append, List.replicate_succ, List.replicate_zero, List.length_cons, List.length_nil, List.contains_nil, List.contains_cons, List.isEmpty_nil, List.isEmpty_cons, List.filterMap_cons, List.filterMap_nil, Option.map_some, Option.map_none, Option.bind_some, Option.bind_none, List.any_cons, List.any_nil, RX.Arg.isOwn, Bool.not_true, Bool.not_false, Bool.true_and, Bool.false_and, Bool.and_true, Bool.and_false, Bool.or_true, Bool.or_false, Bool.true_or, Bool.false_or, if_true, if_false, Bool.false_eq_true, ↓reduceIte, ite_true, ite_false, decide_true, decide_false, Nat.reduceSub, Nat.reduceAdd, beq_self_eq_true, e0]
      have hm : (a : Int).fmod b = ((a % b : Nat) : Int) := by
        rw [Int.fmod_eq_emod_of_nonneg _ (by omega)]
        exact (Int.natCast_emod a b).symm
      have h2 : gB C [.val (.int (a : Int)), .val (.int (b : Int))] = .next [.val (.int b), .val (.int ((a % b : Nat) : Int))] := by
        have hb' : (b : Int) ≠ 0 := by omega
        simp -dsimp -implicitDefEqProofs (disch := first | assumption | omega | decide) only [RX.x_C, RX.varK_v, RX.varK_o, RX.x_Var, RX.toR_some, RX.toB_some, RX.toT_some, RX.toS_some, RX.lk_some, RX.x_Op, RX.x_Un, RX.x_tE, RX.x_tNot, RX.x_tAnd, RX.x_tOr, RX.asB_bl, RX.x_And, RX.x_Or, RX.x_Not, RX.x_If, RX.x_nil, RX.x_cons, RX.x_Tup, RX.x_Lst, RX.x_IxV, RX.x_B, RX.x_B1, RX.x_Cmp, RX.x_anil, RX.x_av, RX.x_ae, RX.x_Call, RX.x_CallK, RX.x_CallV, RX.vK_fn, RX.x_do, RX.goK_some, RX.backE_some, RX.back_ok, RX.back_exc, RX.x_Seq, RX.x_Pass, RX.x_Brk, RX.x_Cont, RX.x_Set, RX.x_Unp, RX.x_Par, RX.x_Expr, RX.x_Ret, RX.retK_v, RX.retK_o, RX.x_RetV, RX.x_RetN, RX.x_SIf, RX.x_For, RX.x_Raise, RX.itK_some, RX.rgK_some, RX.x_iE, RX.x_iR1, RX.x_forN, RX.x_forC, RX.x_Try, RX.try_ret, RX.try_next, RX.try_exc, RX.h1K_some, RX.suite_ret, RX.suite_next, RX.x_Fld, RX.fldK_some, RX.stK_some, RX.turn_next, RX.turn_cont, RX.turn_brk, RX.turn_ret, RX.end_ret, RX.end_next, RX.end_exc, RX.pk_t, RX.pk_f, RX.bnd_ok, RX.bnd_exc, RX.outK_ok, RX.outK_exc, RX.obnd_next, RX.obnd_ret, RX.obnd_brk, RX.obnd_cont, RX.obnd_exc, RX.tr_bl, RX.tr_int, RX.f_add, RX.f_sub, RX.f_mul, RX.f_div, RX.f_mod, RX.f_neg, RX.f_lt, RX.f_le, RX.f_gt, RX.f_ge, RX.f_eqI, RX.f_neI, RX.f_eqB, RX.f_isN, RX.f_isNotN, RX.look, RX.isOwn, RX.owns, RX.argOf, RX.argsOf, RX.backTo, RX.nodupN, RX.stSl, RX.stAll, RX.Tg.st, RX.Ex.frz, RX.Ex.sl, RX.finish, RX.outsOf, RX.Arg.sl, RX.D.items?, RX.D.asInt?, RX.permL, RX.D.isNon, List.getElem?_cons_zero, List.getElem?_cons_succ, List.getElem?_nil, List.set_cons_zero, List.set_cons_succ, List.map_cons, List.map_nil, List.nil_append, List.cons_append, List.replicate_succ, List.replicate_zero, List.length_cons, List.length_nil, List.contains_nil, List.contains_cons, List.isEmpty_nil, List.isEmpty_cons, List.filterMap_cons, List.filterMap_nil, Option.map_some, Option.map_none, Option.bind_some, Option.bind_none, List.any_cons, List.any_nil, RX.Arg.isOwn, Bool.not_true, Bool.not_false, Bool.true_and, Bool.false_and, Bool.and_true, Bool.and_false, Bool.or_true, Bool.or_false, Bool.true_or, Bool.false_or, if_true, if_false, Bool.false_eq_true, ↓reduceIte, ite_true, ite_false, decide_true, decide_false, Nat.reduceSub, Nat.reduceAdd, beq_self_eq_true, bInt_i, hb', hm]
      unfold whileL
      rw [h1]
      show (match gB C [.val (.int (a : Int)), .val (.int (b : Int))] with
        | .next ρ2 => whileL gT gB C n ρ2
        | .cont ρ2 => whileL gT gB C n ρ2
        | .brk ρ2 => .next ρ2
        | .ret r ρ2 => .ret r ρ2
        | .exc c fs ρ2 => .exc c fs ρ2
        | .stuck => .stuck) = _
      rw [h2]
      show whileL gT gB C n [.val (.int b), .val (.int ((a % b : Nat) : Int))] = _
      rw [e, Nat.gcd_comm a b, Nat.gcd_rec b a, Nat.gcd_comm (a % b) b]
theorem s19 {n : Nat} (hn : 1 ≤ n) (a b : Nat) : callN T n 19 [.d (.int a), .d (.int b)] = .ok (.d (.int (Nat.gcd a b))) [] := by
  obtain ⟨m, rfl, hm⟩ := up hn
  rw [callN_eq (d := d19) (np := 2) (ns := 2) rfl rfl]
  unfold d19
  obtain ⟨k, e⟩ := share_loop (callN T m) b a
  have w := sWhile_eq e (fun z => nomatch z)
  simp -dsimp -implicitDefEqProofs (disch := first | assumption | omega | decide) only [RX.x_C, RX.varK_v, RX.varK_o, RX.x_Var, RX.toR_some, RX.toB_some, RX.toT_some, RX.toS_some, RX.lk_some, RX.x_Op, RX.x_Un, RX.x_tE, RX.x_tNot, RX.x_tAnd, RX.x_tOr, RX.asB_bl, RX.x_And, RX.x_Or, RX.x_Not, RX.x_If, RX.x_nil, RX.x_cons, RX.x_Tup, RX.x_Lst, RX.x_IxV, RX.x_B, RX.x_B1, RX.x_Cmp, RX.x_anil, RX.x_av, RX.x_ae, RX.x_Call, RX.x_CallK, RX.x_CallV, RX.vK_fn, RX.x_do, RX.goK_some, RX.backE_some, RX.back_ok, RX.back_exc, RX.x_Seq, RX.x_Pass, RX.x_Brk, RX.x_Cont, RX.x_Set, RX.x_Unp, RX.x_Par, RX.x_Expr, RX.x_Ret, RX.retK_v, RX.retK_o, RX.x_RetV, RX.x_RetN, RX.x_SIf, RX.x_For, RX.x_Raise, RX.itK_some, RX.rgK_some, RX.x_iE, RX.x_iR1, RX.x_forN, RX.x_forC, RX.x_Try, RX.try_ret, RX.try_next, RX.try_exc, RX.h1K_some, RX.suite_ret, RX.suite_next, RX.x_Fld, RX.fldK_some, RX.stK_some, RX.turn_next, RX.turn_cont, RX.turn_brk, RX.turn_ret, RX.end_ret, RX.end_next, RX.end_exc, RX.pk_t, RX.pk_f, RX.bnd_ok, RX.bnd_exc, RX.outK_ok, RX.outK_exc, RX.obnd_next, RX.obnd_ret, RX.obnd_brk, RX.obnd_cont, RX.obnd_exc, RX.tr_bl, RX.tr_int, RX.f_add, RX.f_sub, RX.f_mul, RX.f_div, RX.f_mod, RX.f_neg, RX.f_lt, RX.f_le, RX.f_gt, RX.f_ge, RX.f_eqI, RX.f_neI, RX.f_eqB, RX.f_isN, RX.f_isNotN, RX.look, RX.isOwn, RX.owns, RX.argOf, RX.argsOf, RX.backTo, RX.nodupN, RX.stSl, RX.stAll, RX.Tg.st, RX.Ex.frz, RX.Ex.sl, RX.finish, RX.outsOf, RX.Arg.sl, RX.D.items?, RX.D.asInt?, RX.permL, RX.D.isNon, List.getElem?_cons_zero, List.getElem?_cons_succ, List.getElem?_nil, List.set_cons_zero, List.set_cons_succ, List.map_cons, List.map_nil, List.nil_append, List.cons_append, List.replicate_succ, List.replicate_zero, List.length_cons, List.length_nil, List.contains_nil, List.contains_cons, List.isEmpty_nil, List.isEmpty_cons, List.filterMap_cons, List.filterMap_nil, Option.map_some, Option.map_none, Option.bind_some, Option.bind_none, List.any_cons, List.any_nil, RX.Arg.isOwn, Bool.not_true, Bool.not_false, Bool.true_and, Bool.false_and, Bool.and_true, Bool.and_false, Bool.or_true, Bool.or_false, Bool.true_or, Bool.false_or, if_true, if_false, Bool.false_eq_true, ↓reduceIte, ite_true, ite_false, decide_true, decide_false, Nat.reduceSub, Nat.reduceAdd, beq_self_eq_true, w]
theorem absI {i : Int} : bAbs [.int i] = some (.d (.int i.natAbs)) := by
  show some (Ex.d (.int (if i < 0 then -i else i))) = _
  congr 3
  split <;> omega
theorem s20 {n : Nat} (hn : 2 ≤ n) (r : Rat) : callN T n 20 [.d (enc r)] = .ok (.d (.bl true)) [] := by
  obtain ⟨p, rfl, hp⟩ := up hn
  rw [callN_eq (d := d20) (np := 1) (ns := 1) rfl rfl]
  unfold d20 enc
  have a1 := s17 (n := p) (by omega) (x := .int r.num) rfl
  have a2 := s17 (n := p) (by omega) (x := .int r.den) rfl
  have i1 : isI (.int r.num) = true := rfl
  have i2 : isI (.int r.den) = true := rfl
  have g := s19 (n := p) (by omega) r.num.natAbs r.den
  have g1 : Nat.gcd r.num.natAbs r.den = 1 := r.reduced
  have h1 : decide ((1 : Int) ≤ r.den) = true := decide_eq_true (by have := r.den_pos; omega)
  rw [g1] at g
  simp -dsimp -implicitDefEqProofs (disch := first | assumption | omega | decide) only [RX.x_C, RX.varK_v, RX.varK_o, RX.x_Var, RX.toR_some, RX.toB_some, RX.toT_some, RX.toS_some, RX.lk_some, RX.x_Op, RX.x_Un, RX.x_tE, RX.x_tNot, RX.x_tAnd, RX.x_tOr, RX.asB_bl, RX.x_And, RX.x_Or, RX.x_Not, RX.x_If, RX.x_nil, RX.x_cons, RX.x_Tup, RX.x_Lst, RX.x_IxV, RX.x_B, RX.x_B1, RX.x_Cmp, RX.x_anil, RX.x_av, RX.x_ae, RX.x_Call, RX.x_CallK, RX.x_CallV, RX.vK_fn, RX.x_do, RX.goK_some, RX.backE_some, RX.back_ok, RX.back_exc, RX.x_Seq, RX.x_Pass, RX.x_Brk, RX.x_Cont, RX.x_Set, RX.x_Unp, RX.x_Par, RX.x_Expr, RX.x_Ret, RX.retK_v, RX.retK_o, RX.x_RetV, RX.x_RetN, RX.x_SIf, RX.x_For, RX.x_Raise, RX.itK_some, RX.rgK_some, RX.x_iE, RX.x_iR1, RX.x_forN, RX.x_forC, RX.x_Try, RX.try_ret, RX.try_next, RX.try_exc, RX.h1K_some, RX.suite_ret, RX.suite_next, RX.x_Fld, RX.fldK_some, RX.stK_some, RX.turn_next, RX.turn_cont, RX.turn_brk, RX.turn_ret, RX.end_ret, RX.end_next, RX.end_exc, RX.pk_t, RX.pk_f, RX.bnd_ok, RX.bnd_exc, RX.outK_ok, RX.outK_exc, RX.obnd_next, RX.obnd_ret, RX.obnd_brk, RX.obnd_cont, RX.obnd_exc, RX.tr_bl, RX.tr_int, RX.f_add, RX.f_sub, RX.f_mul, RX.f_div, RX.f_mod, RX.f_neg, RX.f_lt, RX.f_le, RX.f_gt, RX.f_ge, RX.f_eqI, RX.f_neI, RX.f_eqB, RX.f_isN, RX.f_isNotN, RX.look, RX.isOwn, RX.owns, RX.argOf, RX.argsOf, RX.backTo, RX.nodupN, RX.stSl, RX.stAll, RX.Tg.st, RX.Ex.frz, RX.Ex.sl, RX.finish, RX.outsOf, RX.Arg.sl, RX.D.items?, RX.D.asInt?, RX.permL, RX.D.isNon, List.getElem?_cons_zero, List.getElem?_cons_succ, List.getElem?_nil, List.set_cons_zero, List.set_cons_succ, List.map_cons, List.map_nil, List.nil_append, List.cons_append, List.replicate_succ, List.replicate_zero, List.length_cons, List.length_nil, List.contains_nil, List.contains_cons, List.isEmpty_nil, List.isEmpty_cons, List.filterMap_cons, List.filterMap_nil, Option.map_some, Option.map_none, Option.bind_some, Option.bind_none, List.any_cons, List.any_nil, RX.Arg.isOwn, Bool.not_true, Bool.not_false, Bool.true_and, Bool.false_and, Bool.and_true, Bool.and_false, Bool.or_true, Bool.or_false, Bool.true_or, Bool.false_or, if_true, if_false, Bool.false_eq_true, ↓reduceIte, ite_true, ite_false, decide_true, decide_false, Nat.reduceSub, Nat.reduceAdd, beq_self_eq_true, bIsi, isT, bl2, ne22, ix0, ix1, a1, a2, i1, i2, absI, g, h1]
  rfl
theorem s21 {n : Nat} (hn : 3 ≤ n) {r : Rat} {a b : Int} {k m : Nat} (hr : SmQ k r) (ha : Sm m a) (hb : Sm m b) (hk : k + m < 100000) (h : r.num * b = a * r.den) : callN T n 21 [.d (enc r), .d (.int a), .d (.int b)] = .ok (.d (.bl true)) [] := by
  obtain ⟨p, rfl, hp⟩ := up hn
  rw [callN_eq (d := d21) (np := 3) (ns := 3) rfl rfl]
  unfold d21
  have a1 := s20 (n := p) (by omega) r
  have m1 := mk hr.1 hb (by omega)
  have m2 := mk ha hr.2 (by omega)
  unfold enc at a1 ⊢
  simp -dsimp -implicitDefEqProofs (disch := first | assumption | omega | decide) only [RX.x_C, RX.varK_v, RX.varK_o, RX.x_Var, RX.toR_some, RX.toB_some, RX.toT_some, RX.toS_some, RX.lk_some, RX.x_Op, RX.x_Un, RX.x_tE, RX.x_tNot, RX.x_tAnd, RX.x_tOr, RX.asB_bl, RX.x_And, RX.x_Or, RX.x_Not, RX.x_If, RX.x_nil, RX.x_cons, RX.x_Tup, RX.x_Lst, RX.x_IxV, RX.x_B, RX.x_B1, RX.x_Cmp, RX.x_anil, RX.x_av, RX.x_ae, RX.x_Call, RX.x_CallK, RX.x_CallV, RX.vK_fn, RX.x_do, RX.goK_some, RX.backE_some, RX.back_ok, RX.back_exc, RX.x_Seq, RX.x_Pass, RX.x_Brk, RX.x_Cont, RX.x_Set, RX.x_Unp, RX.x_Par, RX.x_Expr, RX.x_Ret, RX.retK_v, RX.retK_o, RX.x_RetV, RX.x_RetN, RX.x_SIf, RX.x_For, RX.x_Raise, RX.itK_some, RX.rgK_some, RX.x_iE, RX.x_iR1, RX.x_forN, RX.x_forC, RX.x_Try, RX.try_ret, RX.try_next, RX.try_exc, RX.h1K_some, RX.suite_ret, RX.suite_next, RX.x_Fld, RX.fldK_some, RX.stK_some, RX.turn_next, RX.turn_cont, RX.turn_brk, RX.turn_ret, RX.end_ret, RX.end_next, RX.end_exc, RX.pk_t, RX.pk_f, RX.bnd_ok, RX.bnd_exc, RX.outK_ok, RX.outK_exc, RX.obnd_next, RX.obnd_ret, RX.obnd_brk, RX.obnd_cont, RX.obnd_exc, RX.tr_bl, RX.tr_int, RX.f_add, RX.f_sub, RX.f_mul, RX.f_div, RX.f_mod, RX.f_neg, RX.f_lt, RX.f_le, RX.f_gt, RX.f_ge, RX.f_eqI, RX.f_neI, RX.f_eqB, RX.f_isN, RX.f_isNotN, RX.look, RX.isOwn, RX.owns, RX.argOf, RX.argsOf, RX.backTo, RX.nodupN, RX.stSl, RX.stAll, RX.Tg.st, RX.Ex.frz, RX.Ex.sl, RX.finish, RX.outsOf, RX.Arg.sl, RX.D.items?, RX.D.asInt?, RX.permL, RX.D.isNon, List.getElem?_cons_zero, List.getElem?_cons_succ, List.getElem?_nil, List.set_cons_zero, List.set_cons_succ, List.map_cons, List.map_nil, List.nil_append, List.cons_append, List.replicate_succ, List.replicate_zero, List.length_cons, List.length_nil, List.contains_nil, List.contains_cons, List.isEmpty_nil, List.isEmpty_cons, List.filterMap_cons, List.filterMap_nil, Option.map_some, Option.map_none, Option.bind_some, Option.bind_none, List.any_cons, List.any_nil, RX.Arg.isOwn, Bool.not_true, Bool.not_false, Bool.true_and, Bool.false_and, Bool.and_true, Bool.and_false, Bool.or_true, Bool.or_false, Bool.true_or, Bool.false_or, if_true, if_false, Bool.false_eq_true, ↓reduceIte, ite_true, ite_false, decide_true, decide_false, Nat.reduceSub, Nat.reduceAdd, beq_self_eq_true, a1, ix0, ix1, m1, m2, h]
end K01
set_option Elab.async false
set_option linter.all false
set_option maxRecDepth 100000
set_option maxHeartbeats 4000000
namespace K01
open PySem RX MQ
/-! total -/
def qs (l : List Rat) : Rat := l.foldl (· + ·) 0
theorem blsOf_t : ∀ n : Nat, blsOf (List.replicate n (.bl true)) = some (List.replicate n true)
  | 0 => rfl
  | n + 1 => by
    rw [List.replicate_succ, List.replicate_succ]
    show (blsOf (List.replicate n (.bl true))).map (fun l => true :: l) = _
    rw [blsOf_t n]
    rfl
theorem all_t {n : Nat} : bAll [.lst (List.replicate n (.bl true))] = some (.d (.bl true)) := by
  show (blsOf (List.replicate n (.bl true))).map (fun bs => Ex.d (.bl (bs.all id))) = _
  rw [blsOf_t]
  show some (Ex.d (.bl ((List.replicate n true).all id))) = _
  congr 3
  rw [List.all_eq_true]
  intro x hx
  exact (List.mem_replicate.mp hx).2
theorem map_const_l {α : Type} (l : List α) (d : D) : l.map (fun _ => d) = List.replicate l.length d := by
  induction l with
  | nil => rfl
  | cons a l ih => rw [List.map_cons, ih, List.length_cons, List.replicate_succ]
theorem sum_size {k : Nat} : ∀ (l : List Rat) (a : Rat) (m : Nat), (∀ r ∈ l, SmQ k r) → SmQ m a → SmQ (m + l.length * (k + 1)) (l.foldl (· + ·) a)
  | [], a, m, _, ha => ha.mono (by omega)
  | r :: l, a, m, h, ha => by
    have h1 := smq_add ha (h r List.mem_cons_self)
    have := sum_size l (a + r) (m + k + 1) (fun x hx => h x (List.mem_cons_of_mem _ hx)) h1
    refine this.mono ?_
    rw [List.length_cons, Nat.succ_mul]
    omega
theorem enc0 : enc 0 = .tup [.int 0, .int 1] := rfl
theorem sm0 : SmQ 1 0 := ⟨by show Int.natAbs 0 < 2 ^ 1; decide, by show Int.natAbs 1 < 2 ^ 1; decide⟩
theorem s14 {n : Nat} (hn : 4 ≤ n) {l : List Rat} {k : Nat} (hl : l.length ≤ 100) (h : ∀ r ∈ l, SmQ k r) (hk : k ≤ 60) : callN T n 14 [.d (.tup (l.map enc))] = .ok (.d (enc (qs l))) [] := by
  obtain ⟨p, rfl, hp⟩ := up hn
  rw [callN_eq (d := d14) (np := 1) (ns := 3) rfl rfl]
  unfold d14
  have b := s3t (n := p) (by omega)
  have c : compL [1] (.v 1) (tests []) (dCall 2 [.v 1]) (callN T p) (l.map enc) (wipe [.val (.tup (l.map enc)), .none, .none] [1]) = .ok ((l.map enc).map fun _ => .bl true) [.val (.tup (l.map enc)), .none, .none] := by
    refine comp_of (ρ := [.val (.tup (l.map enc)), .none, .none]) rfl fun x hx => ?_
    obtain ⟨r, _, rfl⟩ := List.mem_map.mp hx
    have a := s2 (n := p) (by omega) r
    refine ⟨[.val (.tup (l.map enc)), .val (enc r), .none], .d (.bl true), [.val (.tup (l.map enc)), .val (enc r), .none], rfl, ?_, rfl, rfl⟩
    simp -dsimp -implicitDefEqProofs (disch := first | assumption | omega | decide) only [RX.x_C, RX.varK_v, RX.varK_o, RX.x_Var, RX.toR_some, RX.toB_some, RX.toT_some, RX.toS_some, RX.lk_some, RX.x_Op, RX.x_Un, RX.x_tE, RX.x_tNot, RX.x_tAnd, RX.x_tOr, RX.asB_bl, RX.x_And, RX.x_Or, RX.x_Not, RX.x_If, RX.x_nil, RX.x_cons, RX.x_Tup, RX.x_Lst, RX.x_IxV, RX.x_B, RX.x_B1, RX.x_Cmp, RX.x_anil, RX.x_av, RX.x_ae, RX.x_Call, RX.x_CallK, RX.x_CallV, RX.vK_fn, RX.x_do, RX.goK_some, RX.backE_some, RX.back_ok, RX.back_exc, RX.x_Seq, RX.x_Pass, RX.x_Brk, RX.x_Cont, RX.x_Set, RX.x_Unp, RX.x_Par, RX.x_Expr, RX.x_Ret, RX.retK_v, RX.retK_o, RX.x_RetV, RX.x_RetN, RX.x_SIf, RX.x_For, RX.x_Raise, RX.itK_some, RX.rgK_some, RX.x_iE, RX.x_iR1, RX.x_forN, RX.x_forC, RX.x_Try, RX.try_ret, RX.try_next, RX.try_exc, RX.h1K_some, RX.suite_ret, RX.suite_next, RX.x_Fld, RX.fldK_some, RX.stK_some, RX.turn_next, RX.turn_cont, RX.turn_brk, RX.turn_ret, RX.end_ret, RX.end_next, RX.end_exc, RX.pk_t, RX.pk_f, RX.bnd_ok, RX.bnd_exc, RX.outK_ok, RX.outK_exc, RX.obnd_next, RX.obnd_ret, RX.obnd_brk, RX.obnd_cont, RX.obnd_exc, RX.tr_bl, RX.tr_int, RX.f_add, RX.f_sub, RX.f_mul, RX.f_div, RX.f_mod, RX.f_neg, RX.f_lt, RX.f_le, RX.f_gt, RX.f_ge, RX.f_eqI, RX.f_neI, RX.f_eqB, RX.f_isN, RX.f_isNotN, RX.look, RX.isOwn, RX.owns, RX.argOf, RX.argsOf, RX.backTo, RX.nodupN, RX.stSl, RX.stAll, RX.Tg.st, RX.Ex.frz, RX.Ex.sl, RX.finish, RX.outsOf, RX.Arg.sl, RX.D.items?, RX.D.asInt?, RX.permL, RX.D.isNon, List.getElem?_cons_zero, List.getElem?_cons_succ, List.getElem?_nil, List.set_cons_zero, List.set_cons_succ, List.map_cons, List.map_nil, List.nil_append, List.cons_append, List.replicate_succ, List.replicate_zero, List.length_cons, List.length_nil, List.contains_nil, List.contains_cons, List.isEmpty_nil, List.isEmpty_cons, List.filterMap_cons, List.filterMap_nil, Option.map_some, Option.map_none, Option.bind_some, Option.bind_none, List.any_cons, List.any_nil, RX.Arg.isOwn, Bool.not_true, Bool.not_false, Bool.true_and, Bool.false_and, Bool.and_true, Bool.and_false, Bool.or_true, Bool.or_false, Bool.true_or, Bool.false_or, if_true, if_false, Bool.false_eq_true, ↓reduceIte, ite_true, ite_false, decide_true, decide_false, Nat.reduceSub, Nat.reduceAdd, beq_self_eq_true, a]
  have hc := x_Comp (C := callN T p) (ρ := [.val (.tup (l.map enc)), .none, .none]) (it := iE (dVar 0)) (l := l.map enc) (ρ1 := [.val (.tup (l.map enc)), .none, .none]) (by simp -dsimp -implicitDefEqProofs (disch := first | assumption | omega | decide) only [RX.x_C, RX.varK_v, RX.varK_o, RX.x_Var, RX.toR_some, RX.toB_some, RX.toT_some, RX.toS_some, RX.lk_some, RX.x_Op, RX.x_Un, RX.x_tE, RX.x_tNot, RX.x_tAnd, RX.x_tOr, RX.asB_bl, RX.x_And, RX.x_Or, RX.x_Not, RX.x_If, RX.x_nil, RX.x_cons, RX.x_Tup, RX.x_Lst, RX.x_IxV, RX.x_B, RX.x_B1, RX.x_Cmp, RX.x_anil, RX.x_av, RX.x_ae, RX.x_Call, RX.x_CallK, RX.x_CallV, RX.vK_fn, RX.x_do, RX.goK_some, RX.backE_some, RX.back_ok, RX.back_exc, RX.x_Seq, RX.x_Pass, RX.x_Brk, RX.x_Cont, RX.x_Set, RX.x_Unp, RX.x_Par, RX.x_Expr, RX.x_Ret, RX.retK_v, RX.retK_o, RX.x_RetV, RX.x_RetN, RX.x_SIf, RX.x_For, RX.x_Raise, RX.itK_some, RX.rgK_some, RX.x_iE, RX.x_iR1, RX.x_forN, RX.x_forC, RX.x_Try, RX.try_ret, RX.try_next, RX.try_exc, RX.h1K_some, RX.suite_ret, RX.suite_next, RX.x_Fld, RX.fldK_some, RX.stK_some, RX.turn_next, RX.turn_cont, RX.turn_brk, RX.turn_ret, RX.end_ret, RX.end_next, RX.end_exc, RX.pk_t, RX.pk_f, RX.bnd_ok, RX.bnd_exc, RX.outK_ok, RX.outK_exc, RX.obnd_next, RX.obnd_ret, RX.obnd_brk, RX.obnd_cont, RX.obnd_exc, RX.tr_bl, RX.tr_int, RX.f_add, RX.f_sub, RX.f_mul, RX.f_div, RX.f_mod, RX.f_neg, RX.f_lt, RX.f_le, RX.f_gt, RX.f_ge, RX.f_eqI, RX.f_neI, RX.f_eqB, RX.f_isN, RX.f_isNotN, RX.look, RX.isOwn, RX.owns, RX.argOf, RX.argsOf, RX.backTo, RX.nodupN, RX.stSl, RX.stAll, RX.Tg.st, RX.Ex.frz, RX.Ex.sl, RX.finish, RX.outsOf, RX.Arg.sl, RX.D.items?, RX.D.asInt?, RX.permL, RX.D.isNon, List.getElem?_cons_zero, List.getElem?_cons_succ, List.getElem?_nil, List.set_cons_zero, List.set_cons_succ, List.map_cons, List.map_nil, List.nil_append, List.cons_append, List.replicate_succ, List.replicate_zero, List.length_cons, List.length_nil, List.contains_nil, List.contains_cons, List.isEmpty_nil, List.isEmpty_cons, List.filterMap_cons, List.filterMap_nil, Option.map_some, Option.map_none, Option.bind_some, Option.bind_none, List.any_cons, List.any_nil, RX.Arg.isOwn, Bool.not_true, Bool.not_false, Bool.true_and, Bool.false_and, Bool.and_true, Bool.and_false, Bool.or_true, Bool.or_false, Bool.true_or, Bool.false_or, if_true, if_false, Bool.false_eq_true, ↓reduceIte, ite_true, ite_false, decide_true, decide_false, Nat.reduceSub, Nat.reduceAdd, beq_self_eq_true, itT]) (by rw [List.length_map]; show l.length < 16777216; omega) rfl c
  rw [map_const_l] at hc
  have hu : unwipe [.val (.tup (l.map enc)), .none, .none] [.val (.tup (l.map enc)), .none, .none] [1] = [.val (.tup (l.map enc)), .none, .none] := rfl
  rw [hu] at hc
  obtain ⟨ρ', e, s, e2, hs⟩ := for_inv (C := callN T p) (tg := .v 1) (A := sSet 2 (dCall 5 [.v 2, .v 1])) (l := l.map enc) (k := 0) (ρ := [.val (.tup (l.map enc)), .none, .val (enc 0)])
    (fun i ρ => ∃ s, ρ = [.val (.tup (l.map enc)), s, .val (enc ((l.take i).foldl (· + ·) 0))] ∧ (s = .none ∨ ∃ d, s = .val d)) ⟨.none, rfl, .inl rfl⟩ fun i x ρ hx ⟨s, e, hs⟩ => by
      subst e
      rw [List.getElem?_map] at hx
      cases er : l[i]? with
      | none => rw [er] at hx; cases hx
      | some r =>
        rw [er] at hx
        cases hx
        have hi : i < l.length := (List.getElem?_eq_some_iff.mp er).1
        rw [Nat.zero_add]
        have et : (l.take (i + 1)).foldl (· + ·) 0 = (l.take i).foldl (· + ·) 0 + r := by
          rw [List.take_add_one, er, List.foldl_append]
          rfl
        have z := sum_size (k := k) (l.take i) 0 1 (fun x hx => h x (List.mem_of_mem_take hx)) sm0
        have hlen : (l.take i).length ≤ 100 := by rw [List.length_take]; omega
        have hz : 1 + (l.take i).length * (k + 1) + k < 9000 := by
          have := Nat.mul_le_mul hlen (show k + 1 ≤ 61 by omega)
          omega
        have a := s5 (n := p) (by omega) z (h r (List.mem_of_getElem? er)) hz
        refine ⟨[.val (.tup (l.map enc)), .val (enc r), .val (enc ((l.take i).foldl (· + ·) 0))], [.val (.tup (l.map enc)), .val (enc r), .val (enc ((l.take (i + 1)).foldl (· + ·) 0))], ?_, .inl ?_, _, rfl, .inr ⟨_, rfl⟩⟩
        · rcases hs with rfl | ⟨d, rfl⟩ <;> rfl
        · rw [et]
          simp -dsimp -implicitDefEqProofs (disch := first | assumption | omega | decide) only [RX.x_C, RX.varK_v, RX.varK_o, RX.x_Var, RX.toR_some, RX.toB_some, RX.toT_some, RX.toS_some, RX.lk_some, RX.x_Op, RX.x_Un, RX.x_tE, RX.x_tNot, RX.x_tAnd, RX.x_tOr, RX.asB_bl, RX.x_And, RX.x_Or, RX.x_Not, RX.x_If, RX.x_nil, RX.x_cons, RX.x_Tup, RX.x_Lst, RX.x_IxV, RX.x_B, RX.x_B1, RX.x_Cmp, RX.x_anil, RX.x_av, RX.x_ae, RX.x_Call, RX.x_CallK, RX.x_CallV, RX.vK_fn, RX.x_do, RX.goK_some, RX.backE_some, RX.back_ok, RX.back_exc, RX.x_Seq, RX.x_Pass, RX.x_Brk, RX.x_Cont, RX.x_Set, RX.x_Unp, RX.x_Par, RX.x_Expr, RX.x_Ret, RX.retK_v, RX.retK_o, RX.x_RetV, RX.x_RetN, RX.x_SIf, RX.x_For, RX.x_Raise, RX.itK_some, RX.rgK_some, RX.x_iE, RX.x_iR1, RX.x_forN, RX.x_forC, RX.x_Try, RX.try_ret, RX.try_next, RX.try_exc, RX.h1K_some, RX.suite_ret, RX.suite_next, RX.x_Fld, RX.fldK_some, RX.stK_some, RX.turn_next, RX.turn_cont, RX.turn_brk, RX.turn_ret, RX.end_ret, RX.end_next, RX.end_exc, RX.pk_t, RX.pk_f, RX.bnd_ok, RX.bnd_exc, RX.outK_ok, RX.outK_exc, RX.obnd_next, RX.obnd_ret, RX.obnd_brk, RX.obnd_cont, RX.obnd_exc, RX.tr_bl, RX.tr_int, RX.f_add, RX.f_sub, RX.f_mul, RX.f_div, RX.f_mod, RX.f_neg, RX.f_lt, RX.f_le, RX.f_gt, RX.f_ge, RX.f_eqI, RX.f_neI, RX.f_eqB, RX.f_isN, RX.f_isNotN, RX.look, RX.isOwn, RX.owns, RX.argOf, RX.argsOf, RX.backTo, RX.nodupN, RX.stSl, RX.stAll, RX.Tg.st, RX.Ex.frz, RX.Ex.sl, RX.finish, RX.outsOf, RX.Arg.sl, RX.D.items?, RX.D.asInt?, RX.permL, RX.D.isNon, List.getElem?_cons_zero, List.getElem?_cons_succ, List.getElem?_nil, List.set_cons_zero, List.set_cons_succ, List.map_cons, List.map_nil, List.nil_append, List.cons_append, List.replicate_succ, List.replicate_zero, List.length_cons, List.length_nil, List.contains_nil, List.contains_cons, List.isEmpty_nil, List.isEmpty_cons, List.filterMap_cons, List.filterMap_nil, Option.map_some, Option.map_none, Option.bind_some, Option.bind_none, List.any_cons, List.any_nil, RX.Arg.isOwn, Bool.not_true, Bool.not_false, Bool.true_and, Bool.false_and, Bool.and_true, Bool.and_false, Bool.or_true, Bool.or_false, Bool.true_or, Bool.false_or, if_true, if_false, Bool.false_eq_true, ↓reduceIte, ite_true, ite_false, decide_true, decide_false, Nat.reduceSub, Nat.reduceAdd, beq_self_eq_true, a]
  subst e2
  rw [Nat.zero_add, List.length_map, List.take_length] at e
  rw [enc0] at e
  simp -dsimp -implicitDefEqProofs (disch := first | assumption | omega | decide) only [RX.x_C, RX.varK_v, RX.varK_o, RX.x_Var, RX.toR_some, RX.toB_some, RX.toT_some, RX.toS_some, RX.lk_some, RX.x_Op, RX.x_Un, RX.x_tE, RX.x_tNot, RX.x_tAnd, RX.x_tOr, RX.asB_bl, RX.x_And, RX.x_Or, RX.x_Not, RX.x_If, RX.x_nil, RX.x_cons, RX.x_Tup, RX.x_Lst, RX.x_IxV, RX.x_B, RX.x_B1, RX.x_Cmp, RX.x_anil, RX.x_av, RX.x_ae, RX.x_Call, RX.x_CallK, RX.x_CallV, RX.vK_fn, RX.x_do, RX.goK_some, RX.backE_some, RX.back_ok, RX.back_exc, RX.x_Seq, RX.x_Pass, RX.x_Brk, RX.x_Cont, RX.x_Set, RX.x_Unp, RX.x_Par, RX.x_Expr, RX.x_Ret, RX.retK_v, RX.retK_o, RX.x_RetV, RX.x_RetN, RX.x_SIf, RX.x_For, RX.x_Raise, RX.itK_some, RX.rgK_some, RX.x_iE, RX.x_iR1, RX.x_forN, RX.x_forC, RX.x_Try, RX.try_ret, RX.try_next, RX.try_exc, RX.h1K_some, RX.suite_ret, RX.suite_next, RX.x_Fld, RX.fldK_some, RX.stK_some, RX.turn_next, RX.turn_cont, RX.turn_brk, RX.turn_ret, RX.end_ret, RX.end_next, RX.end_exc, RX.pk_t, RX.pk_f, RX.bnd_ok, RX.bnd_exc, RX.outK_ok, RX.outK_exc, RX.obnd_next, RX.obnd_ret, RX.obnd_brk, RX.obnd_cont, RX.obnd_exc, RX.tr_bl, RX.tr_int, RX.f_add, RX.f_sub, RX.f_mul, RX.f_div, RX.f_mod, RX.f_neg, RX.f_lt, RX.f_le, RX.f_gt, RX.f_ge, RX.f_eqI, RX.f_neI, RX.f_eqB, RX.f_isN, RX.f_isNotN, RX.look, RX.isOwn, RX.owns, RX.argOf, RX.argsOf, RX.backTo, RX.nodupN, RX.stSl, RX.stAll, RX.Tg.st, RX.Ex.frz, RX.Ex.sl, RX.finish, RX.outsOf, RX.Arg.sl, RX.D.items?, RX.D.asInt?, RX.permL, RX.D.isNon, List.getElem?_cons_zero, List.getElem?_cons_succ, List.getElem?_nil, List.set_cons_zero, List.set_cons_succ, List.map_cons, List.map_nil, List.nil_append, List.cons_append, List.replicate_succ, List.replicate_zero, List.length_cons, List.length_nil, List.contains_nil, List.contains_cons, List.isEmpty_nil, List.isEmpty_cons, List.filterMap_cons, List.filterMap_nil, Option.map_some, Option.map_none, Option.bind_some, Option.bind_none, List.any_cons, List.any_nil, RX.Arg.isOwn, Bool.not_true, Bool.not_false, Bool.true_and, Bool.false_and, Bool.and_true, Bool.and_false, Bool.or_true, Bool.or_false, Bool.true_or, Bool.false_or, if_true, if_false, Bool.false_eq_true, ↓reduceIte, ite_true, ite_false, decide_true, decide_false, Nat.reduceSub, Nat.reduceAdd, beq_self_eq_true, bIsi, isT, hc, all_t, b, itT, e]
  rfl
/-! the feed -/
def MM : Int := 2147483587
structure Fd where
  s : Int
  ds : List Int
  lo : 0 ≤ s
  hi : s < MM
def Fd.l (f : Fd) : List D := .int f.s :: f.ds.map .int
/-- one number of the feed -/
def tk (f : Fd) (w : Int) : Int := if f.ds.length = 0 then ((f.s * 16807 + 4421).fmod MM).fdiv 64 |>.fmod w else (f.ds.getLastD 0).fmod w
def nx (f : Fd) : Fd := if f.ds.length = 0 then ⟨(f.s * 16807 + 4421).fmod MM, [], Int.fmod_nonneg_of_pos _ (by decide), Int.fmod_lt_of_pos _ (by decide)⟩ else ⟨f.s, f.ds.dropLast, f.lo, f.hi⟩
theorem tk_bd (f : Fd) {w : Int} (hw : 0 < w) : 0 ≤ tk f w ∧ tk f w < w := by
  unfold tk
  split
  · exact ⟨Int.fmod_nonneg_of_pos _ hw, Int.fmod_lt_of_pos _ hw⟩
  · exact ⟨Int.fmod_nonneg_of_pos _ hw, Int.fmod_lt_of_pos _ hw⟩
theorem lenL {l : List D} : bLen [.lst l] = some (.d (.int l.length)) := rfl
theorem smlit {x : Int} {k : Nat} (h : x.natAbs < 2 ^ k) : Sm k x := h
theorem putAt0 {a b : D} : putAt [a] 0 b = some [b] := rfl
theorem s16 {n : Nat} (hn : 1 ≤ n) (f : Fd) {w : Int} (hw : 0 < w) : callN T n 16 [.own f.l, .d (.int w)] = .ok (.d (.int (tk f w))) [(nx f).l] := by
  obtain ⟨p, rfl, hp⟩ := up hn
  rw [callN_eq (d := d16) (np := 2) (ns := 2) rfl rfl]
  unfold d16
  have hw0 : w ≠ 0 := by omega
  obtain ⟨s, ds, lo, hi⟩ := f
  have hM : MM = 2147483587 := rfl
  rcases ds.eq_nil_or_concat with rfl | ⟨ds', x, rfl⟩
  · have m1 : mulOk s 16807 = true := mk (k := 31) (m := 15) (by unfold Sm; omega) (by show (16807 : Int).natAbs < 2 ^ 15; decide) (by omega)
    have e1 : tk ⟨s, [], lo, hi⟩ w = ((((s * 16807 + 4421).fmod 2147483587).fdiv 64).fmod w) := rfl
    have e2 : (nx ⟨s, [], lo, hi⟩).l = [.int ((s * 16807 + 4421).fmod 2147483587)] := rfl
    have e3 : (Fd.mk s [] lo hi).l = [.int s] := rfl
    have c1 : fGt (.int 1) (.int 1) = some (.d (.bl false)) := rfl
    have i0 : fIx (.lst [.int s]) (.int 0) = some (.d (.int s)) := rfl
    have i1 : fIx (.lst [.int ((s * 16807 + 4421).fmod 2147483587)]) (.int 0) = some (.d (.int ((s * 16807 + 4421).fmod 2147483587))) := rfl
    have l1 : bLen [.lst [.int s]] = some (.d (.int 1)) := rfl
    have d64 : divOk 64 = true := by decide
    have n1 : (2147483587 : Int) ≠ 0 := by decide
    rw [e1, e2, e3]
    have sp : ∀ {C : Calls}, sPut 0 (dC (.int 0)) (dOp fMod (dOp fAdd (dOp fMul (dB bInt [(dIxV 0 (dC (.int 0)))]) (dC (.int 16807))) (dC (.int 4421))) (dC (.int 2147483587))) C [.par [.int s], .val (.int w)] = .next [.par [.int ((s * 16807 + 4421).fmod 2147483587)], .val (.int w)] := fun {C} => by
      have q : (dOp fMod (dOp fAdd (dOp fMul (dB bInt [(dIxV 0 (dC (.int 0)))]) (dC (.int 16807))) (dC (.int 4421))) (dC (.int 2147483587))) C [.par [.int s], .val (.int w)] = .ok (.d (.int ((s * 16807 + 4421).fmod 2147483587))) [.par [.int s], .val (.int w)] := by
        simp -dsimp -implicitDefEqProofs (disch := first | assumption | omega | decide) only [RX.x_C, RX.varK_v, RX.varK_o, RX.x_Var, RX.toR_some, RX.toB_some, RX.toT_some, RX.toS_some, RX.lk_some, RX.x_Op, RX.x_Un, RX.x_tE, RX.x_tNot, RX.x_tAnd, RX.x_tOr, RX.asB_bl, RX.x_And, RX.x_Or, RX.x_Not, RX.x_If, RX.x_nil, RX.x_cons, RX.x_Tup, RX.x_Lst, RX.x_IxV, RX.x_B, RX.x_B1, RX.x_Cmp, RX.x_anil, RX.x_av, RX.x_ae, RX.x_Call, RX.x_CallK, RX.x_CallV, RX.vK_fn, RX.x_do, RX.goK_some, RX.backE_some, RX.back_ok, RX.back_exc, RX.x_Seq, RX.x_Pass, RX.x_Brk, RX.x_Cont, RX.x_Set, RX.x_Unp, RX.x_Par, RX.x_Expr, RX.x_Ret, RX.retK_v, RX.retK_o, RX.x_RetV, RX.x_RetN, RX.x_SIf, RX.x_For, RX.x_Raise, RX.itK_some, RX.rgK_some, RX.x_iE, RX.x_iR1, RX.x_forN, RX.x_forC, RX.x_Try, RX.try_ret, RX.try_next, RX.try_exc, RX.h1K_some, RX.suite_ret, RX.suite_next, RX.x_Fld, RX.fldK_some, RX.stK_some, RX.turn_next, RX.turn_cont, RX.turn_brk, RX.turn_ret, RX.end_ret, RX.end_next, RX.end_exc, RX.pk_t, RX.pk_f, RX.bnd_ok, RX.bnd_exc, RX.outK_ok, RX.outK_exc, RX.obnd_next, RX.obnd_ret, RX.obnd_brk, RX.obnd_cont, RX.obnd_exc, RX.tr_bl, RX.tr_int, RX.f_add, RX.f_sub, RX.f_mul, RX.f_div, RX.f_mod, RX.f_neg, RX.f_lt, RX.f_le, RX.f_gt, RX.f_ge, RX.f_eqI, RX.f_neI, RX.f_eqB, RX.f_isN, RX.f_isNotN, RX.look, RX.isOwn, RX.owns, RX.argOf, RX.argsOf, RX.backTo, RX.nodupN, RX.stSl, RX.stAll, RX.Tg.st, RX.Ex.frz, RX.Ex.sl, RX.finish, RX.outsOf, RX.Arg.sl, RX.D.items?, RX.D.asInt?, RX.permL, RX.D.isNon, List.getElem?_cons_zero, List.getElem?_cons_succ, List.getElem?_nil, List.set_cons_zero, List.set_cons_succ, List.map_cons, List.map_nil, List.nil_append, List.cons_append, List.replicate_succ, List.replicate_zero, List.length_cons, List.length_nil, List.contains_nil, List.contains_cons, List.isEmpty_nil, List.isEmpty_cons, List.filterMap_cons, List.filterMap_nil, Option.map_some, Option.map_none, Option.bind_some, Option.bind_none, List.any_cons, List.any_nil, RX.Arg.isOwn, Bool.not_true, Bool.not_false, Bool.true_and, Bool.false_and, Bool.and_true, Bool.and_false, Bool.or_true, Bool.or_false, Bool.true_or, Bool.false_or, if_true, if_false, Bool.false_eq_true, ↓reduceIte, ite_true, ite_false, decide_true, decide_false, Nat.reduceSub, Nat.reduceAdd, beq_self_eq_true, i0, bInt_i, m1, n1]
      unfold sPut
      rw [q]
      rfl
    simp -dsimp -implicitDefEqProofs (disch := first | assumption | omega | decide) only [RX.x_C, RX.varK_v, RX.varK_o, RX.x_Var, RX.toR_some, RX.toB_some, RX.toT_some, RX.toS_some, RX.lk_some, RX.x_Op, RX.x_Un, RX.x_tE, RX.x_tNot, RX.x_tAnd, RX.x_tOr, RX.asB_bl, RX.x_And, RX.x_Or, RX.x_Not, RX.x_If, RX.x_nil, RX.x_cons, RX.x_Tup, RX.x_Lst, RX.x_IxV, RX.x_B, RX.x_B1, RX.x_Cmp, RX.x_anil, RX.x_av, RX.x_ae, RX.x_Call, RX.x_CallK, RX.x_CallV, RX.vK_fn, RX.x_do, RX.goK_some, RX.backE_some, RX.back_ok, RX.back_exc, RX.x_Seq, RX.x_Pass, RX.x_Brk, RX.x_Cont, RX.x_Set, RX.x_Unp, RX.x_Par, RX.x_Expr, RX.x_Ret, RX.retK_v, RX.retK_o, RX.x_RetV, RX.x_RetN, RX.x_SIf, RX.x_For, RX.x_Raise, RX.itK_some, RX.rgK_some, RX.x_iE, RX.x_iR1, RX.x_forN, RX.x_forC, RX.x_Try, RX.try_ret, RX.try_next, RX.try_exc, RX.h1K_some, RX.suite_ret, RX.suite_next, RX.x_Fld, RX.fldK_some, RX.stK_some, RX.turn_next, RX.turn_cont, RX.turn_brk, RX.turn_ret, RX.end_ret, RX.end_next, RX.end_exc, RX.pk_t, RX.pk_f, RX.bnd_ok, RX.bnd_exc, RX.outK_ok, RX.outK_exc, RX.obnd_next, RX.obnd_ret, RX.obnd_brk, RX.obnd_cont, RX.obnd_exc, RX.tr_bl, RX.tr_int, RX.f_add, RX.f_sub, RX.f_mul, RX.f_div, RX.f_mod, RX.f_neg, RX.f_lt, RX.f_le, RX.f_gt, RX.f_ge, RX.f_eqI, RX.f_neI, RX.f_eqB, RX.f_isN, RX.f_isNotN, RX.look, RX.isOwn, RX.owns, RX.argOf, RX.argsOf, RX.backTo, RX.nodupN, RX.stSl, RX.stAll, RX.Tg.st, RX.Ex.frz, RX.Ex.sl, RX.finish, RX.outsOf, RX.Arg.sl, RX.D.items?, RX.D.asInt?, RX.permL, RX.D.isNon, List.getElem?_cons_zero, List.getElem?_cons_succ, List.getElem?_nil, List.set_cons_zero, List.set_cons_succ, List.map_cons, List.map_nil, List.nil_append, List.cons_append, List.replicate_succ, List.replicate_zero, List.length_cons, List.length_nil, List.contains_nil, List.contains_cons, List.isEmpty_nil, List.isEmpty_cons, List.filterMap_cons, List.filterMap_nil, Option.map_some, Option.map_none, Option.bind_some, Option.bind_none, List.any_cons, List.any_nil, RX.Arg.isOwn, Bool.not_true, Bool.not_false, Bool.true_and, Bool.false_and, Bool.and_true, Bool.and_false, Bool.or_true, Bool.or_false, Bool.true_or, Bool.false_or, if_true, if_false, Bool.false_eq_true, ↓reduceIte, ite_true, ite_false, decide_true, decide_false, Nat.reduceSub, Nat.reduceAdd, beq_self_eq_true, l1, c1, sp, i1, bInt_i, d64, hw0]
  · rw [List.concat_eq_append]
    have e1 : tk ⟨s, ds' ++ [x], lo, hi⟩ w = x.fmod w := by
      unfold tk
      rw [if_neg (by simp)]
      simp
    have e2 : (nx ⟨s, ds' ++ [x], lo, hi⟩).l = .int s :: ds'.map .int := by
      unfold nx
      rw [if_neg (by simp)]
      simp [Fd.l]
    have e3 : (Fd.mk s (ds' ++ [x]) lo hi).l = (D.int s :: ds'.map D.int) ++ [D.int x] := by simp [Fd.l]
    rw [e1, e2, e3]
    obtain ⟨L, hL'⟩ : ∃ L, L = D.int s :: ds'.map D.int := ⟨_, rfl⟩
    rw [← hL']
    have hL : L.length = ds'.length + 1 := by rw [hL']; simp
    have c1 : decide ((1 : Int) < ((L ++ [D.int x]).length : Nat)) = true := decide_eq_true (by rw [List.length_append, hL, List.length_singleton]; omega)
    have pp : ∀ {C : Calls}, dPop 0 C [.par (L ++ [D.int x]), .val (.int w)] = .ok (.d (.int x)) [.par L, .val (.int w)] := fun {C} => by
      unfold dPop
      show (match (L ++ [D.int x])[(L ++ [D.int x]).length - 1]? with
        | some d => R.ok (Ex.d d) ([Sl.par (L ++ [D.int x]), Sl.val (.int w)].set 0 (.par (L ++ [D.int x]).dropLast))
        | none => .stuck) = _
      rw [List.length_append, List.length_singleton, Nat.add_sub_cancel, List.getElem?_concat_length, List.dropLast_concat]
      rfl
    simp -dsimp -implicitDefEqProofs (disch := first | assumption | omega | decide) only [RX.x_C, RX.varK_v, RX.varK_o, RX.x_Var, RX.toR_some, RX.toB_some, RX.toT_some, RX.toS_some, RX.lk_some, RX.x_Op, RX.x_Un, RX.x_tE, RX.x_tNot, RX.x_tAnd, RX.x_tOr, RX.asB_bl, RX.x_And, RX.x_Or, RX.x_Not, RX.x_If, RX.x_nil, RX.x_cons, RX.x_Tup, RX.x_Lst, RX.x_IxV, RX.x_B, RX.x_B1, RX.x_Cmp, RX.x_anil, RX.x_av, RX.x_ae, RX.x_Call, RX.x_CallK, RX.x_CallV, RX.vK_fn, RX.x_do, RX.goK_some, RX.backE_some, RX.back_ok, RX.back_exc, RX.x_Seq, RX.x_Pass, RX.x_Brk, RX.x_Cont, RX.x_Set, RX.x_Unp, RX.x_Par, RX.x_Expr, RX.x_Ret, RX.retK_v, RX.retK_o, RX.x_RetV, RX.x_RetN, RX.x_SIf, RX.x_For, RX.x_Raise, RX.itK_some, RX.rgK_some, RX.x_iE, RX.x_iR1, RX.x_forN, RX.x_forC, RX.x_Try, RX.try_ret, RX.try_next, RX.try_exc, RX.h1K_some, RX.suite_ret, RX.suite_next, RX.x_Fld, RX.fldK_some, RX.stK_some, RX.turn_next, RX.turn_cont, RX.turn_brk, RX.turn_ret, RX.end_ret, RX.end_next, RX.end_exc, RX.pk_t, RX.pk_f, RX.bnd_ok, RX.bnd_exc, RX.outK_ok, RX.outK_exc, RX.obnd_next, RX.obnd_ret, RX.obnd_brk, RX.obnd_cont, RX.obnd_exc, RX.tr_bl, RX.tr_int, RX.f_add, RX.f_sub, RX.f_mul, RX.f_div, RX.f_mod, RX.f_neg, RX.f_lt, RX.f_le, RX.f_gt, RX.f_ge, RX.f_eqI, RX.f_neI, RX.f_eqB, RX.f_isN, RX.f_isNotN, RX.look, RX.isOwn, RX.owns, RX.argOf, RX.argsOf, RX.backTo, RX.nodupN, RX.stSl, RX.stAll, RX.Tg.st, RX.Ex.frz, RX.Ex.sl, RX.finish, RX.outsOf, RX.Arg.sl, RX.D.items?, RX.D.asInt?, RX.permL, RX.D.isNon, List.getElem?_cons_zero, List.getElem?_cons_succ, List.getElem?_nil, List.set_cons_zero, List.set_cons_succ, List.map_cons, List.map_nil, List.nil_append, List.cons_append, List.replicate_succ, List.replicate_zero, List.length_cons, List.length_nil, List.contains_nil, List.contains_cons, List.isEmpty_nil, List.isEmpty_cons, List.filterMap_cons, List.filterMap_nil, Option.map_some, Option.map_none, Option.bind_some, Option.bind_none, List.any_cons, List.any_nil, RX.Arg.isOwn, Bool.not_true, Bool.not_false, Bool.true_and, Bool.false_and, Bool.and_true, Bool.and_false, Bool.or_true, Bool.or_false, Bool.true_or, Bool.false_or, if_true, if_false, Bool.false_eq_true, ↓reduceIte, ite_true, ite_false, decide_true, decide_false, Nat.reduceSub, Nat.reduceAdd, beq_self_eq_true, lenL, c1, pp, bInt_i, hw0]
end K01
set_option Elab.async false
set_option linter.all false
set_option maxRecDepth 100000
set_option maxHeartbeats 4000000
namespace K01
open PySem RX MQ
theorem r3 : rng 0 3 = [.int 0, .int 1, .int 2] := rfl
theorem bd3 : -16777216 < (3 : Int) ∧ (3 : Int) < 16777216 := by omega
theorem smC : Sm 17 100003 := by show (100003 : Int).natAbs < 2 ^ 17; decide
theorem tk_sm (f : Fd) {w : Int} {k : Nat} (hw : 0 < w) (hk : Sm k w) : Sm k (tk f w) := by
  obtain ⟨h1, h2⟩ := tk_bd f hw
  unfold Sm at *
  omega
theorem s22 {n : Nat} (hn : 2 ≤ n) (f : Fd) {w : Int} (hw : 0 < w) : ∃ (v : Int) (f' : Fd), callN T n 22 [.own f.l, .d (.int w)] = .ok (.d (.int v)) [f'.l] ∧ 0 ≤ v ∧ v < w := by
  obtain ⟨p, rfl, hp⟩ := up hn
  have c : (0 : Int) < 100003 := by decide
  have a1 := s16 (n := p) (by omega) f c
  have a2 := s16 (n := p) (by omega) (nx f) c
  have a3 := s16 (n := p) (by omega) (nx (nx f)) c
  have t1 := tk_sm f c smC
  have t2 := tk_sm (nx f) c smC
  refine ⟨(((0 * 100003 + tk f 100003) * 100003 + tk (nx f) 100003) * 100003 + tk (nx (nx f)) 100003).fmod w, nx (nx (nx f)), ?_, Int.fmod_nonneg_of_pos _ hw, Int.fmod_lt_of_pos _ hw⟩
  rw [callN_eq (d := d22) (np := 2) (ns := 4) rfl rfl]
  unfold d22
  have q0 : Sm 17 0 := by show (0 : Int).natAbs < 2 ^ 17; decide
  have q1 : Sm 35 (0 * 100003 + tk f 100003) := Sm.add (k := 34) (q0.mul smC) (t1.mono (by omega)) (by omega)
  have q2 : Sm 53 ((0 * 100003 + tk f 100003) * 100003 + tk (nx f) 100003) := Sm.add (k := 52) (q1.mul smC) (t2.mono (by omega)) (by omega)
  have m1 := mk q0 smC (by omega)
  have m2 := mk q1 smC (by omega)
  have m3 := mk q2 smC (by omega)
  have hw0 : w ≠ 0 := by omega
  simp -dsimp -implicitDefEqProofs (disch := first | assumption | omega | decide) only [RX.x_C, RX.varK_v, RX.varK_o, RX.x_Var, RX.toR_some, RX.toB_some, RX.toT_some, RX.toS_some, RX.lk_some, RX.x_Op, RX.x_Un, RX.x_tE, RX.x_tNot, RX.x_tAnd, RX.x_tOr, RX.asB_bl, RX.x_And, RX.x_Or, RX.x_Not, RX.x_If, RX.x_nil, RX.x_cons, RX.x_Tup, RX.x_Lst, RX.x_IxV, RX.x_B, RX.x_B1, RX.x_Cmp, RX.x_anil, RX.x_av, RX.x_ae, RX.x_Call, RX.x_CallK, RX.x_CallV, RX.vK_fn, RX.x_do, RX.goK_some, RX.backE_some, RX.back_ok, RX.back_exc, RX.x_Seq, RX.x_Pass, RX.x_Brk, RX.x_Cont, RX.x_Set, RX.x_Unp, RX.x_Par, RX.x_Expr, RX.x_Ret, RX.retK_v, RX.retK_o, RX.x_RetV, RX.x_RetN, RX.x_SIf, RX.x_For, RX.x_Raise, RX.itK_some, RX.rgK_some, RX.x_iE, RX.x_iR1, RX.x_forN, RX.x_forC, RX.x_Try, RX.try_ret, RX.try_next, RX.try_exc, RX.h1K_some, RX.suite_ret, RX.suite_next, RX.x_Fld, RX.fldK_some, RX.stK_some, RX.turn_next, RX.turn_cont, RX.turn_brk, RX.turn_ret, RX.end_ret, RX.end_next, RX.end_exc, RX.pk_t, RX.pk_f, RX.bnd_ok, RX.bnd_exc, RX.outK_ok, RX.outK_exc, RX.obnd_next, RX.obnd_ret, RX.obnd_brk, RX.obnd_cont, RX.obnd_exc, RX.tr_bl, RX.tr_int, RX.f_add, RX.f_sub, RX.f_mul, RX.f_div, RX.f_mod, RX.f_neg, RX.f_lt, RX.f_le, RX.f_gt, RX.f_ge, RX.f_eqI, RX.f_neI, RX.f_eqB, RX.f_isN, RX.f_isNotN, RX.look, RX.isOwn, RX.owns, RX.argOf, RX.argsOf, RX.backTo, RX.nodupN, RX.stSl, RX.stAll, RX.Tg.st, RX.Ex.frz, RX.Ex.sl, RX.finish, RX.outsOf, RX.Arg.sl, RX.D.items?, RX.D.asInt?, RX.permL, RX.D.isNon, List.getElem?_cons_zero, List.getElem?_cons_succ, List.getElem?_nil, List.set_cons_zero, List.set_cons_succ, List.map_cons, List.map_nil, List.nil_append, List.cons_append, List.replicate_succ, List.replicate_zero, List.length_cons, List.length_nil, List.contains_nil, List.contains_cons, List.isEmpty_nil, List.isEmpty_cons, List.filterMap_cons, List.filterMap_nil, Option.map_some, Option.map_none, Option.bind_some, Option.bind_none, List.any_cons, List.any_nil, RX.Arg.isOwn, Bool.not_true, Bool.not_false, Bool.true_and, Bool.false_and, Bool.and_true, Bool.and_false, Bool.or_true, Bool.or_false, Bool.true_or, Bool.false_or, if_true, if_false, Bool.false_eq_true, ↓reduceIte, ite_true, ite_false, decide_true, decide_false, Nat.reduceSub, Nat.reduceAdd, beq_self_eq_true, asI, bd3, r3, a1, a2, a3, m1, m2, m3, bInt_i, hw0]
theorem smlt {x y : Int} {k : Nat} (h0 : 0 ≤ x) (h : x < y) (hk : Sm k y) : Sm k x := by
  unfold Sm at *
  omega
theorem s23 {n : Nat} (hn : 3 ≤ n) (f : Fd) : ∃ (a : Int) (b : Nat) (f' : Fd), callN T n 23 [.own f.l] = .ok (.d (.tup [.int a, .int b])) [f'.l] ∧ 1 ≤ b ∧ Sm 51 a ∧ Sm 51 b := by
  obtain ⟨p, rfl, hp⟩ := up hn
  have a0 := s16 (n := p) (by omega) f (w := 8) (by decide)
  obtain ⟨c1, c2⟩ := tk_bd f (w := 8) (by decide)
  have P15 : fPow (.int 10) (.int 15) = some (.d (.int 1000000000000000)) := rfl
  have b0 : ∀ {k : Int}, (k == k) = true := fun {k} => beq_self_eq_true k
  rcases (show tk f 8 = 0 ∨ tk f 8 = 1 ∨ tk f 8 = 2 ∨ tk f 8 = 3 ∨ 4 ≤ tk f 8 by omega) with e | e | e | e | e
  · refine ⟨0, 1, nx f, ?_, by omega, by unfold Sm; decide, by unfold Sm; decide⟩
    rw [callN_eq (d := d23) (np := 1) (ns := 2) rfl rfl]
    unfold d23
    rw [e] at a0
    simp -dsimp -implicitDefEqProofs (disch := first | assumption | omega | decide) only [RX.x_C, RX.varK_v, RX.varK_o, RX.x_Var, RX.toR_some, RX.toB_some, RX.toT_some, RX.toS_some, RX.lk_some, RX.x_Op, RX.x_Un, RX.x_tE, RX.x_tNot, RX.x_tAnd, RX.x_tOr, RX.asB_bl, RX.x_And, RX.x_Or, RX.x_Not, RX.x_If, RX.x_nil, RX.x_cons, RX.x_Tup, RX.x_Lst, RX.x_IxV, RX.x_B, RX.x_B1, RX.x_Cmp, RX.x_anil, RX.x_av, RX.x_ae, RX.x_Call, RX.x_CallK, RX.x_CallV, RX.vK_fn, RX.x_do, RX.goK_some, RX.backE_some, RX.back_ok, RX.back_exc, RX.x_Seq, RX.x_Pass, RX.x_Brk, RX.x_Cont, RX.x_Set, RX.x_Unp, RX.x_Par, RX.x_Expr, RX.x_Ret, RX.retK_v, RX.retK_o, RX.x_RetV, RX.x_RetN, RX.x_SIf, RX.x_For, RX.x_Raise, RX.itK_some, RX.rgK_some, RX.x_iE, RX.x_iR1, RX.x_forN, RX.x_forC, RX.x_Try, RX.try_ret, RX.try_next, RX.try_exc, RX.h1K_some, RX.suite_ret, RX.suite_next, RX.x_Fld, RX.fldK_some, RX.stK_some, RX.turn_next, RX.turn_cont, RX.turn_brk, RX.turn_ret, RX.end_ret, RX.end_next, RX.end_exc, RX.pk_t, RX.pk_f, RX.bnd_ok, RX.bnd_exc, RX.outK_ok, RX.outK_exc, RX.obnd_next, RX.obnd_ret, RX.obnd_brk, RX.obnd_cont, RX.obnd_exc, RX.tr_bl, RX.tr_int, RX.f_add, RX.f_sub, RX.f_mul, RX.f_div, RX.f_mod, RX.f_neg, RX.f_lt, RX.f_le, RX.f_gt, RX.f_ge, RX.f_eqI, RX.f_neI, RX.f_eqB, RX.f_isN, RX.f_isNotN, RX.look, RX.isOwn, RX.owns, RX.argOf, RX.argsOf, RX.backTo, RX.nodupN, RX.stSl, RX.stAll, RX.Tg.st, RX.Ex.frz, RX.Ex.sl, RX.finish, RX.outsOf, RX.Arg.sl, RX.D.items?, RX.D.asInt?, RX.permL, RX.D.isNon, List.getElem?_cons_zero, List.getElem?_cons_succ, List.getElem?_nil, List.set_cons_zero, List.set_cons_succ, List.map_cons, List.map_nil, List.nil_append, List.cons_append, List.replicate_succ, List.replicate_zero, List.length_cons, List.length_nil, List.contains_nil, List.contains_cons, List.isEmpty_nil, List.isEmpty_cons, List.filterMap_cons, List.filterMap_nil, Option.map_some, Option.map_none, Option.bind_some, Option.bind_none, List.any_cons, List.any_nil, RX.Arg.isOwn, Bool.not_true, Bool.not_false, Bool.true_and, Bool.false_and, Bool.and_true, Bool.and_false, Bool.or_true, Bool.or_false, Bool.true_or, Bool.false_or, if_true, if_false, Bool.false_eq_true, ↓reduceIte, ite_true, ite_false, decide_true, decide_false, Nat.reduceSub, Nat.reduceAdd, beq_self_eq_true, a0]
    rfl
  · have a1 := s16 (n := p) (by omega) (nx f) (w := 2) (by decide)
    obtain ⟨k1, k2⟩ := tk_bd (nx f) (w := 2) (by decide)
    refine ⟨1 - 2 * tk (nx f) 2, 1, nx (nx f), ?_, by omega, by unfold Sm; omega, by unfold Sm; decide⟩
    rw [callN_eq (d := d23) (np := 1) (ns := 2) rfl rfl]
    unfold d23
    rw [e] at a0
    have n1 : ((1 : Int) == 0) = false := rfl
    have m1 : mulOk 2 (tk (nx f) 2) = true := mk (k := 2) (m := 2) (by unfold Sm; decide) (by unfold Sm; omega) (by omega)
    simp -dsimp -implicitDefEqProofs (disch := first | assumption | omega | decide) only [RX.x_C, RX.varK_v, RX.varK_o, RX.x_Var, RX.toR_some, RX.toB_some, RX.toT_some, RX.toS_some, RX.lk_some, RX.x_Op, RX.x_Un, RX.x_tE, RX.x_tNot, RX.x_tAnd, RX.x_tOr, RX.asB_bl, RX.x_And, RX.x_Or, RX.x_Not, RX.x_If, RX.x_nil, RX.x_cons, RX.x_Tup, RX.x_Lst, RX.x_IxV, RX.x_B, RX.x_B1, RX.x_Cmp, RX.x_anil, RX.x_av, RX.x_ae, RX.x_Call, RX.x_CallK, RX.x_CallV, RX.vK_fn, RX.x_do, RX.goK_some, RX.backE_some, RX.back_ok, RX.back_exc, RX.x_Seq, RX.x_Pass, RX.x_Brk, RX.x_Cont, RX.x_Set, RX.x_Unp, RX.x_Par, RX.x_Expr, RX.x_Ret, RX.retK_v, RX.retK_o, RX.x_RetV, RX.x_RetN, RX.x_SIf, RX.x_For, RX.x_Raise, RX.itK_some, RX.rgK_some, RX.x_iE, RX.x_iR1, RX.x_forN, RX.x_forC, RX.x_Try, RX.try_ret, RX.try_next, RX.try_exc, RX.h1K_some, RX.suite_ret, RX.suite_next, RX.x_Fld, RX.fldK_some, RX.stK_some, RX.turn_next, RX.turn_cont, RX.turn_brk, RX.turn_ret, RX.end_ret, RX.end_next, RX.end_exc, RX.pk_t, RX.pk_f, RX.bnd_ok, RX.bnd_exc, RX.outK_ok, RX.outK_exc, RX.obnd_next, RX.obnd_ret, RX.obnd_brk, RX.obnd_cont, RX.obnd_exc, RX.tr_bl, RX.tr_int, RX.f_add, RX.f_sub, RX.f_mul, RX.f_div, RX.f_mod, RX.f_neg, RX.f_lt, RX.f_le, RX.f_gt, RX.f_ge, RX.f_eqI, RX.f_neI, RX.f_eqB, RX.f_isN, RX.f_isNotN, RX.look, RX.isOwn, RX.owns, RX.argOf, RX.argsOf, RX.backTo, RX.nodupN, RX.stSl, RX.stAll, RX.Tg.st, RX.Ex.frz, RX.Ex.sl, RX.finish, RX.outsOf, RX.Arg.sl, RX.D.items?, RX.D.asInt?, RX.permL, RX.D.isNon, List.getElem?_cons_zero, List.getElem?_cons_succ, List.getElem?_nil, List.set_cons_zero, List.set_cons_succ, List.map_cons, List.map_nil, List.nil_append, List.cons_append, List.replicate_succ, List.replicate_zero, List.length_cons, List.length_nil, List.contains_nil, List.contains_cons, List.isEmpty_nil, List.isEmpty_cons, List.filterMap_cons, List.filterMap_nil, Option.map_some, Option.map_none, Option.bind_some, Option.bind_none, List.any_cons, List.any_nil, RX.Arg.isOwn, Bool.not_true, Bool.not_false, Bool.true_and, Bool.false_and, Bool.and_true, Bool.and_false, Bool.or_true, Bool.or_false, Bool.true_or, Bool.false_or, if_true, if_false, Bool.false_eq_true, ↓reduceIte, ite_true, ite_false, decide_true, decide_false, Nat.reduceSub, Nat.reduceAdd, beq_self_eq_true, a0, a1, n1, m1]
    rfl
  · obtain ⟨v, f1, a1, v1, v2⟩ := s22 (n := p) (by omega) (nx f) (w := 2 * 1000000000000000 + 1) (by decide)
    obtain ⟨u, f2, a2, u1, u2⟩ := s22 (n := p) (by omega) f1 (w := 1000000000000000) (by decide)
    refine ⟨v - 1000000000000000, (1 + u).toNat, f2, ?_, by omega, by unfold Sm; omega, by unfold Sm; omega⟩
    rw [callN_eq (d := d23) (np := 1) (ns := 2) rfl rfl]
    unfold d23
    rw [e] at a0
    have n1 : ((2 : Int) == 0) = false := rfl
    have n2 : ((2 : Int) == 1) = false := rfl
    have m1 : mulOk 2 1000000000000000 = true := by decide
    have z : ((1 + u).toNat : Int) = 1 + u := by omega
    rw [z]
    simp -dsimp -implicitDefEqProofs (disch := first | assumption | omega | decide) only [RX.x_C, RX.varK_v, RX.varK_o, RX.x_Var, RX.toR_some, RX.toB_some, RX.toT_some, RX.toS_some, RX.lk_some, RX.x_Op, RX.x_Un, RX.x_tE, RX.x_tNot, RX.x_tAnd, RX.x_tOr, RX.asB_bl, RX.x_And, RX.x_Or, RX.x_Not, RX.x_If, RX.x_nil, RX.x_cons, RX.x_Tup, RX.x_Lst, RX.x_IxV, RX.x_B, RX.x_B1, RX.x_Cmp, RX.x_anil, RX.x_av, RX.x_ae, RX.x_Call, RX.x_CallK, RX.x_CallV, RX.vK_fn, RX.x_do, RX.goK_some, RX.backE_some, RX.back_ok, RX.back_exc, RX.x_Seq, RX.x_Pass, RX.x_Brk, RX.x_Cont, RX.x_Set, RX.x_Unp, RX.x_Par, RX.x_Expr, RX.x_Ret, RX.retK_v, RX.retK_o, RX.x_RetV, RX.x_RetN, RX.x_SIf, RX.x_For, RX.x_Raise, RX.itK_some, RX.rgK_some, RX.x_iE, RX.x_iR1, RX.x_forN, RX.x_forC, RX.x_Try, RX.try_ret, RX.try_next, RX.try_exc, RX.h1K_some, RX.suite_ret, RX.suite_next, RX.x_Fld, RX.fldK_some, RX.stK_some, RX.turn_next, RX.turn_cont, RX.turn_brk, RX.turn_ret, RX.end_ret, RX.end_next, RX.end_exc, RX.pk_t, RX.pk_f, RX.bnd_ok, RX.bnd_exc, RX.outK_ok, RX.outK_exc, RX.obnd_next, RX.obnd_ret, RX.obnd_brk, RX.obnd_cont, RX.obnd_exc, RX.tr_bl, RX.tr_int, RX.f_add, RX.f_sub, RX.f_mul, RX.f_div, RX.f_mod, RX.f_neg, RX.f_lt, RX.f_le, RX.f_gt, RX.f_ge, RX.f_eqI, RX.f_neI, RX.f_eqB, RX.f_isN, RX.f_isNotN, RX.look, RX.isOwn, RX.owns, RX.argOf, RX.argsOf, RX.backTo, RX.nodupN, RX.stSl, RX.stAll, RX.Tg.st, RX.Ex.frz, RX.Ex.sl, RX.finish, RX.outsOf, RX.Arg.sl, RX.D.items?, RX.D.asInt?, RX.permL, RX.D.isNon, List.getElem?_cons_zero, List.getElem?_cons_succ, List.getElem?_nil, List.set_cons_zero, List.set_cons_succ, List.map_cons, List.map_nil, List.nil_append, List.cons_append, List.replicate_succ, List.replicate_zero, List.length_cons, List.length_nil, List.contains_nil, List.contains_cons, List.isEmpty_nil, List.isEmpty_cons, List.filterMap_cons, List.filterMap_nil, Option.map_some, Option.map_none, Option.bind_some, Option.bind_none, List.any_cons, List.any_nil, RX.Arg.isOwn, Bool.not_true, Bool.not_false, Bool.true_and, Bool.false_and, Bool.and_true, Bool.and_false, Bool.or_true, Bool.or_false, Bool.true_or, Bool.false_or, if_true, if_false, Bool.false_eq_true, ↓reduceIte, ite_true, ite_false, decide_true, decide_false, Nat.reduceSub, Nat.reduceAdd, beq_self_eq_true, a0, a1, a2, n1, n2, m1, P15]
  · have a1 := s16 (n := p) (by omega) (nx f) (w := 20001) (by decide)
    obtain ⟨k1, k2⟩ := tk_bd (nx f) (w := 20001) (by decide)
    have a2 := s16 (n := p) (by omega) (nx (nx f)) (w := 9999) (by decide)
    obtain ⟨k3, k4⟩ := tk_bd (nx (nx f)) (w := 9999) (by decide)
    refine ⟨tk (nx f) 20001 - 10000, (1 + tk (nx (nx f)) 9999).toNat, nx (nx (nx f)), ?_, by omega, by unfold Sm; omega, by unfold Sm; omega⟩
    rw [callN_eq (d := d23) (np := 1) (ns := 2) rfl rfl]
    unfold d23
    rw [e] at a0
    have n1 : ((3 : Int) == 0) = false := rfl
    have n2 : ((3 : Int) == 1) = false := rfl
    have n3 : ((3 : Int) == 2) = false := rfl
    have z : ((1 + tk (nx (nx f)) 9999).toNat : Int) = 1 + tk (nx (nx f)) 9999 := by omega
    rw [z]
    simp -dsimp -implicitDefEqProofs (disch := first | assumption | omega | decide) only [RX.x_C, RX.varK_v, RX.varK_o, RX.x_Var, RX.toR_some, RX.toB_some, RX.toT_some, RX.toS_some, RX.lk_some, RX.x_Op, RX.x_Un, RX.x_tE, RX.x_tNot, RX.x_tAnd, RX.x_tOr, RX.asB_bl, RX.x_And, RX.x_Or, RX.x_Not, RX.x_If, RX.x_nil, RX.x_cons, RX.x_Tup, RX.x_Lst, RX.x_IxV, RX.x_B, RX.x_B1, RX.x_Cmp, RX.x_anil, RX.x_av, RX.x_ae, RX.x_Call, RX.x_CallK, RX.x_CallV, RX.vK_fn, RX.x_do, RX.goK_some, RX.backE_some, RX.back_ok, RX.back_exc, RX.x_Seq, RX.x_Pass, RX.x_Brk, RX.x_Cont, RX.x_Set, RX.x_Unp, RX.x_Par, RX.x_Expr, RX.x_Ret, RX.retK_v, RX.retK_o, RX.x_RetV, RX.x_RetN, RX.x_SIf, RX.x_For, RX.x_Raise, RX.itK_some, RX.rgK_some, RX.x_iE, RX.x_iR1, RX.x_forN, RX.x_forC, RX.x_Try, RX.try_ret, RX.try_next, RX.try_exc, RX.h1K_some, RX.suite_ret, RX.suite_next, RX.x_Fld, RX.fldK_some, RX.stK_some, RX.turn_next, RX.turn_cont, RX.turn_brk, RX.turn_ret, RX.end_ret, RX.end_next, RX.end_exc, RX.pk_t, RX.pk_f, RX.bnd_ok, RX.bnd_exc, RX.outK_ok, RX.outK_exc, RX.obnd_next, RX.obnd_ret, RX.obnd_brk, RX.obnd_cont, RX.obnd_exc, RX.tr_bl, RX.tr_int, RX.f_add, RX.f_sub, RX.f_mul, RX.f_div, RX.f_mod, RX.f_neg, RX.f_lt, RX.f_le, RX.f_gt, RX.f_ge, RX.f_eqI, RX.f_neI, RX.f_eqB, RX.f_isN, RX.f_isNotN, RX.look, RX.isOwn, RX.owns, RX.argOf, RX.argsOf, RX.backTo, RX.nodupN, RX.stSl, RX.stAll, RX.Tg.st, RX.Ex.frz, RX.Ex.sl, RX.finish, RX.outsOf, RX.Arg.sl, RX.D.items?, RX.D.asInt?, RX.permL, RX.D.isNon, List.getElem?_cons_zero, List.getElem?_cons_succ, List.getElem?_nil, List.set_cons_zero, List.set_cons_succ, List.map_cons, List.map_nil, List.nil_append, List.cons_append, List.replicate_succ, List.replicate_zero, List.length_cons, List.length_nil, List.contains_nil, List.contains_cons, List.isEmpty_nil, List.isEmpty_cons, List.filterMap_cons, List.filterMap_nil, Option.map_some, Option.map_none, Option.bind_some, Option.bind_none, List.any_cons, List.any_nil, RX.Arg.isOwn, Bool.not_true, Bool.not_false, Bool.true_and, Bool.false_and, Bool.and_true, Bool.and_false, Bool.or_true, Bool.or_false, Bool.true_or, Bool.false_or, if_true, if_false, Bool.false_eq_true, ↓reduceIte, ite_true, ite_false, decide_true, decide_false, Nat.reduceSub, Nat.reduceAdd, beq_self_eq_true, a0, a1, a2, n1, n2, n3]
  · have a1 := s16 (n := p) (by omega) (nx f) (w := 81) (by decide)
    obtain ⟨k1, k2⟩ := tk_bd (nx f) (w := 81) (by decide)
    have a2 := s16 (n := p) (by omega) (nx (nx f)) (w := 24) (by decide)
    obtain ⟨k3, k4⟩ := tk_bd (nx (nx f)) (w := 24) (by decide)
    refine ⟨tk (nx f) 81 - 40, (1 + tk (nx (nx f)) 24).toNat, nx (nx (nx f)), ?_, by omega, by unfold Sm; omega, by unfold Sm; omega⟩
    rw [callN_eq (d := d23) (np := 1) (ns := 2) rfl rfl]
    unfold d23
    have n1 : (tk f 8 == 0) = false := beq_eq_false_iff_ne.mpr (by omega)
    have n2 : (tk f 8 == 1) = false := beq_eq_false_iff_ne.mpr (by omega)
    have n3 : (tk f 8 == 2) = false := beq_eq_false_iff_ne.mpr (by omega)
    have n4 : (tk f 8 == 3) = false := beq_eq_false_iff_ne.mpr (by omega)
    have z : ((1 + tk (nx (nx f)) 24).toNat : Int) = 1 + tk (nx (nx f)) 24 := by omega
    rw [z]
    simp -dsimp -implicitDefEqProofs (disch := first | assumption | omega | decide) only [RX.x_C, RX.varK_v, RX.varK_o, RX.x_Var, RX.toR_some, RX.toB_some, RX.toT_some, RX.toS_some, RX.lk_some, RX.x_Op, RX.x_Un, RX.x_tE, RX.x_tNot, RX.x_tAnd, RX.x_tOr, RX.asB_bl, RX.x_And, RX.x_Or, RX.x_Not, RX.x_If, RX.x_nil, RX.x_cons, RX.x_Tup, RX.x_Lst, RX.x_IxV, RX.x_B, RX.x_B1, RX.x_Cmp, RX.x_anil, RX.x_av, RX.x_ae, RX.x_Call, RX.x_CallK, RX.x_CallV, RX.vK_fn, RX.x_do, RX.goK_some, RX.backE_some, RX.back_ok, RX.back_exc, RX.x_Seq, RX.x_Pass, RX.x_Brk, RX.x_Cont, RX.x_Set, RX.x_Unp, RX.x_Par, RX.x_Expr, RX.x_Ret, RX.retK_v, RX.retK_o, RX.x_RetV, RX.x_RetN, RX.x_SIf, RX.x_For, RX.x_Raise, RX.itK_some, RX.rgK_some, RX.x_iE, RX.x_iR1, RX.x_forN, RX.x_forC, RX.x_Try, RX.try_ret, RX.try_next, RX.try_exc, RX.h1K_some, RX.suite_ret, RX.suite_next, RX.x_Fld, RX.fldK_some, RX.stK_some, RX.turn_next, RX.turn_cont, RX.turn_brk, RX.turn_ret, RX.end_ret, RX.end_next, RX.end_exc, RX.pk_t, RX.pk_f, RX.bnd_ok, RX.bnd_exc, RX.outK_ok, RX.outK_exc, RX.obnd_next, RX.obnd_ret, RX.obnd_brk, RX.obnd_cont, RX.obnd_exc, RX.tr_bl, RX.tr_int, RX.f_add, RX.f_sub, RX.f_mul, RX.f_div, RX.f_mod, RX.f_neg, RX.f_lt, RX.f_le, RX.f_gt, RX.f_ge, RX.f_eqI, RX.f_neI, RX.f_eqB, RX.f_isN, RX.f_isNotN, RX.look, RX.isOwn, RX.owns, RX.argOf, RX.argsOf, RX.backTo, RX.nodupN, RX.stSl, RX.stAll, RX.Tg.st, RX.Ex.frz, RX.Ex.sl, RX.finish, RX.outsOf, RX.Arg.sl, RX.D.items?, RX.D.asInt?, RX.permL, RX.D.isNon, List.getElem?_cons_zero, List.getElem?_cons_succ, List.getElem?_nil, List.set_cons_zero, List.set_cons_succ, List.map_cons, List.map_nil, List.nil_append, List.cons_append, List.replicate_succ, List.replicate_zero, List.length_cons, List.length_nil, List.contains_nil, List.contains_cons, List.isEmpty_nil, List.isEmpty_cons, List.filterMap_cons, List.filterMap_nil, Option.map_some, Option.map_none, Option.bind_some, Option.bind_none, List.any_cons, List.any_nil, RX.Arg.isOwn, Bool.not_true, Bool.not_false, Bool.true_and, Bool.false_and, Bool.and_true, Bool.and_false, Bool.or_true, Bool.or_false, Bool.true_or, Bool.false_or, if_true, if_false, Bool.false_eq_true, ↓reduceIte, ite_true, ite_false, decide_true, decide_false, Nat.reduceSub, Nat.reduceAdd, beq_self_eq_true, a0, a1, a2, n1, n2, n3, n4]
theorem s24 {n : Nat} (hn : 4 ≤ n) (f : Fd) : ∃ (r : Rat) (f' : Fd), callN T n 24 [.own f.l] = .ok (.d (enc r)) [f'.l] ∧ SmQ 51 r := by
  obtain ⟨p, rfl, hp⟩ := up hn
  obtain ⟨a, b, f', e, hb, sa, sb⟩ := s23 (n := p) (by omega) f
  have g := s19 (n := p) (by omega) a.natAbs b
  have hb0 : (0 : Int) < b := by omega
  obtain ⟨e1, e2⟩ := red_pos (a := a) hb0
  rw [Int.natAbs_natCast] at e1 e2
  refine ⟨Rat.divInt a b, f', ?_, smq_div sa sb (by omega)⟩
  rw [callN_eq (d := d24) (np := 1) (ns := 4) rfl rfl]
  unfold d24 enc
  have hg0 : 0 < Nat.gcd a.natAbs b := Nat.gcd_pos_of_pos_right _ (by omega)
  have sg : Sm 51 ((Nat.gcd a.natAbs b : Nat) : Int) := by
    unfold Sm at *
    have := Nat.le_of_dvd (by omega) (Nat.gcd_dvd_right a.natAbs b)
    omega
  have hd := dk sg (by omega) (by omega)
  simp -dsimp -implicitDefEqProofs (disch := first | assumption | omega | decide) only [RX.x_C, RX.varK_v, RX.varK_o, RX.x_Var, RX.toR_some, RX.toB_some, RX.toT_some, RX.toS_some, RX.lk_some, RX.x_Op, RX.x_Un, RX.x_tE, RX.x_tNot, RX.x_tAnd, RX.x_tOr, RX.asB_bl, RX.x_And, RX.x_Or, RX.x_Not, RX.x_If, RX.x_nil, RX.x_cons, RX.x_Tup, RX.x_Lst, RX.x_IxV, RX.x_B, RX.x_B1, RX.x_Cmp, RX.x_anil, RX.x_av, RX.x_ae, RX.x_Call, RX.x_CallK, RX.x_CallV, RX.vK_fn, RX.x_do, RX.goK_some, RX.backE_some, RX.back_ok, RX.back_exc, RX.x_Seq, RX.x_Pass, RX.x_Brk, RX.x_Cont, RX.x_Set, RX.x_Unp, RX.x_Par, RX.x_Expr, RX.x_Ret, RX.retK_v, RX.retK_o, RX.x_RetV, RX.x_RetN, RX.x_SIf, RX.x_For, RX.x_Raise, RX.itK_some, RX.rgK_some, RX.x_iE, RX.x_iR1, RX.x_forN, RX.x_forC, RX.x_Try, RX.try_ret, RX.try_next, RX.try_exc, RX.h1K_some, RX.suite_ret, RX.suite_next, RX.x_Fld, RX.fldK_some, RX.stK_some, RX.turn_next, RX.turn_cont, RX.turn_brk, RX.turn_ret, RX.end_ret, RX.end_next, RX.end_exc, RX.pk_t, RX.pk_f, RX.bnd_ok, RX.bnd_exc, RX.outK_ok, RX.outK_exc, RX.obnd_next, RX.obnd_ret, RX.obnd_brk, RX.obnd_cont, RX.obnd_exc, RX.tr_bl, RX.tr_int, RX.f_add, RX.f_sub, RX.f_mul, RX.f_div, RX.f_mod, RX.f_neg, RX.f_lt, RX.f_le, RX.f_gt, RX.f_ge, RX.f_eqI, RX.f_neI, RX.f_eqB, RX.f_isN, RX.f_isNotN, RX.look, RX.isOwn, RX.owns, RX.argOf, RX.argsOf, RX.backTo, RX.nodupN, RX.stSl, RX.stAll, RX.Tg.st, RX.Ex.frz, RX.Ex.sl, RX.finish, RX.outsOf, RX.Arg.sl, RX.D.items?, RX.D.asInt?, RX.permL, RX.D.isNon, List.getElem?_cons_zero, List.getElem?_cons_succ, List.getElem?_nil, List.set_cons_zero, List.set_cons_succ, List.map_cons, List.map_nil, List.nil_append, List.cons_append, List.replicate_succ, List.replicate_zero, List.length_cons, List.length_nil, List.contains_nil, List.contains_cons, List.isEmpty_nil, List.isEmpty_cons, List.filterMap_cons, List.filterMap_nil, Option.map_some, Option.map_none, Option.bind_some, Option.bind_none, List.any_cons, List.any_nil, RX.Arg.isOwn, Bool.not_true, Bool.not_false, Bool.true_and, Bool.false_and, Bool.and_true, Bool.and_false, Bool.or_true, Bool.or_false, Bool.true_or, Bool.false_or, if_true, if_false, Bool.false_eq_true, ↓reduceIte, ite_true, ite_false, decide_true, decide_false, Nat.reduceSub, Nat.reduceAdd, beq_self_eq_true, e, st2, absI, g, hd, e1, e2]
end K01
set_option Elab.async false
set_option linter.all false
set_option maxRecDepth 100000
set_option maxHeartbeats 4000000
namespace K01
open PySem RX MQ
/-! what is told, what is refused -/
theorem s25t {n k : Nat} {a b x : D} (h : callN T n k [.d a, .d b] = .ok (.d x) []) : callN T (n + 1) 25 [.d (.fn k), .d a, .d b] = .ok (.d (.tup [.str "told", x])) [] := by
  rw [callN_eq (d := d25) (np := 3) (ns := 4) rfl rfl]
  unfold d25
  simp -dsimp -implicitDefEqProofs (disch := first | assumption | omega | decide) only [RX.x_C, RX.varK_v, RX.varK_o, RX.x_Var, RX.toR_some, RX.toB_some, RX.toT_some, RX.toS_some, RX.lk_some, RX.x_Op, RX.x_Un, RX.x_tE, RX.x_tNot, RX.x_tAnd, RX.x_tOr, RX.asB_bl, RX.x_And, RX.x_Or, RX.x_Not, RX.x_If, RX.x_nil, RX.x_cons, RX.x_Tup, RX.x_Lst, RX.x_IxV, RX.x_B, RX.x_B1, RX.x_Cmp, RX.x_anil, RX.x_av, RX.x_ae, RX.x_Call, RX.x_CallK, RX.x_CallV, RX.vK_fn, RX.x_do, RX.goK_some, RX.backE_some, RX.back_ok, RX.back_exc, RX.x_Seq, RX.x_Pass, RX.x_Brk, RX.x_Cont, RX.x_Set, RX.x_Unp, RX.x_Par, RX.x_Expr, RX.x_Ret, RX.retK_v, RX.retK_o, RX.x_RetV, RX.x_RetN, RX.x_SIf, RX.x_For, RX.x_Raise, RX.itK_some, RX.rgK_some, RX.x_iE, RX.x_iR1, RX.x_forN, RX.x_forC, RX.x_Try, RX.try_ret, RX.try_next, RX.try_exc, RX.h1K_some, RX.suite_ret, RX.suite_next, RX.x_Fld, RX.fldK_some, RX.stK_some, RX.turn_next, RX.turn_cont, RX.turn_brk, RX.turn_ret, RX.end_ret, RX.end_next, RX.end_exc, RX.pk_t, RX.pk_f, RX.bnd_ok, RX.bnd_exc, RX.outK_ok, RX.outK_exc, RX.obnd_next, RX.obnd_ret, RX.obnd_brk, RX.obnd_cont, RX.obnd_exc, RX.tr_bl, RX.tr_int, RX.f_add, RX.f_sub, RX.f_mul, RX.f_div, RX.f_mod, RX.f_neg, RX.f_lt, RX.f_le, RX.f_gt, RX.f_ge, RX.f_eqI, RX.f_neI, RX.f_eqB, RX.f_isN, RX.f_isNotN, RX.look, RX.isOwn, RX.owns, RX.argOf, RX.argsOf, RX.backTo, RX.nodupN, RX.stSl, RX.stAll, RX.Tg.st, RX.Ex.frz, RX.Ex.sl, RX.finish, RX.outsOf, RX.Arg.sl, RX.D.items?, RX.D.asInt?, RX.permL, RX.D.isNon, List.getElem?_cons_zero, List.getElem?_cons_succ, List.getElem?_nil, List.set_cons_zero, List.set_cons_succ, List.map_cons, List.map_nil, List.nil_append, List.cons_append, List.replicate_succ, List.replicate_zero, List.length_cons, List.length_nil, List.contains_nil, List.contains_cons, List.isEmpty_nil, List.isEmpty_cons, List.filterMap_cons, List.filterMap_nil, Option.map_some, Option.map_none, Option.bind_some, Option.bind_none, List.any_cons, List.any_nil, RX.Arg.isOwn, Bool.not_true, Bool.not_false, Bool.true_and, Bool.false_and, Bool.and_true, Bool.and_false, Bool.or_true, Bool.or_false, Bool.true_or, Bool.false_or, if_true, if_false, Bool.false_eq_true, ↓reduceIte, ite_true, ite_false, decide_true, decide_false, Nat.reduceSub, Nat.reduceAdd, beq_self_eq_true, h]
theorem s25e {n k : Nat} {a b w z : D} (h : callN T n k [.d a, .d b] = .exc 0 [("word", w), ("at", z)]) : callN T (n + 1) 25 [.d (.fn k), .d a, .d b] = .ok (.d (.tup [.str "no", w, z])) [] := by
  rw [callN_eq (d := d25) (np := 3) (ns := 4) rfl rfl]
  unfold d25
  have m : m_NotUsable 0 = true := rfl
  have f1 : ([("word", w), ("at", z)] : List (Str × D)).lookup ("word" : Str) = some w := rfl
  have f2 : ([("word", w), ("at", z)] : List (Str × D)).lookup ("at" : Str) = some z := rfl
  simp -dsimp -implicitDefEqProofs (disch := first | assumption | omega | decide) only [RX.x_C, RX.varK_v, RX.varK_o, RX.x_Var, RX.toR_some, RX.toB_some, RX.toT_some, RX.toS_some, RX.lk_some, RX.x_Op, RX.x_Un, RX.x_tE, RX.x_tNot, RX.x_tAnd, RX.x_tOr, RX.asB_bl, RX.x_And, RX.x_Or, RX.x_Not, RX.x_If, RX.x_nil, RX.x_cons, RX.x_Tup, RX.x_Lst, RX.x_IxV, RX.x_B, RX.x_B1, RX.x_Cmp, RX.x_anil, RX.x_av, RX.x_ae, RX.x_Call, RX.x_CallK, RX.x_CallV, RX.vK_fn, RX.x_do, RX.goK_some, RX.backE_some, RX.back_ok, RX.back_exc, RX.x_Seq, RX.x_Pass, RX.x_Brk, RX.x_Cont, RX.x_Set, RX.x_Unp, RX.x_Par, RX.x_Expr, RX.x_Ret, RX.retK_v, RX.retK_o, RX.x_RetV, RX.x_RetN, RX.x_SIf, RX.x_For, RX.x_Raise, RX.itK_some, RX.rgK_some, RX.x_iE, RX.x_iR1, RX.x_forN, RX.x_forC, RX.x_Try, RX.try_ret, RX.try_next, RX.try_exc, RX.h1K_some, RX.suite_ret, RX.suite_next, RX.x_Fld, RX.fldK_some, RX.stK_some, RX.turn_next, RX.turn_cont, RX.turn_brk, RX.turn_ret, RX.end_ret, RX.end_next, RX.end_exc, RX.pk_t, RX.pk_f, RX.bnd_ok, RX.bnd_exc, RX.outK_ok, RX.outK_exc, RX.obnd_next, RX.obnd_ret, RX.obnd_brk, RX.obnd_cont, RX.obnd_exc, RX.tr_bl, RX.tr_int, RX.f_add, RX.f_sub, RX.f_mul, RX.f_div, RX.f_mod, RX.f_neg, RX.f_lt, RX.f_le, RX.f_gt, RX.f_ge, RX.f_eqI, RX.f_neI, RX.f_eqB, RX.f_isN, RX.f_isNotN, RX.look, RX.isOwn, RX.owns, RX.argOf, RX.argsOf, RX.backTo, RX.nodupN, RX.stSl, RX.stAll, RX.Tg.st, RX.Ex.frz, RX.Ex.sl, RX.finish, RX.outsOf, RX.Arg.sl, RX.D.items?, RX.D.asInt?, RX.permL, RX.D.isNon, List.getElem?_cons_zero, List.getElem?_cons_succ, List.getElem?_nil, List.set_cons_zero, List.set_cons_succ, List.map_cons, List.map_nil, List.nil_append, List.cons_append, List.replicate_succ, List.replicate_zero, List.length_cons, List.length_nil, List.contains_nil, List.contains_cons, List.isEmpty_nil, List.isEmpty_cons, List.filterMap_cons, List.filterMap_nil, Option.map_some, Option.map_none, Option.bind_some, Option.bind_none, List.any_cons, List.any_nil, RX.Arg.isOwn, Bool.not_true, Bool.not_false, Bool.true_and, Bool.false_and, Bool.and_true, Bool.and_false, Bool.or_true, Bool.or_false, Bool.true_or, Bool.false_or, if_true, if_false, Bool.false_eq_true, ↓reduceIte, ite_true, ite_false, decide_true, decide_false, Nat.reduceSub, Nat.reduceAdd, beq_self_eq_true, h, m, fldK_some f1, fldK_some f2]
theorem s26e {n : Nat} {a w z : D} (h : callN T n 14 [.d a] = .exc 0 [("word", w), ("at", z)]) : callN T (n + 1) 26 [.d a] = .ok (.d (.tup [.str "no", w, z])) [] := by
  rw [callN_eq (d := d26) (np := 1) (ns := 2) rfl rfl]
  unfold d26
  have m : m_NotUsable 0 = true := rfl
  have f1 : ([("word", w), ("at", z)] : List (Str × D)).lookup ("word" : Str) = some w := rfl
  have f2 : ([("word", w), ("at", z)] : List (Str × D)).lookup ("at" : Str) = some z := rfl
  simp -dsimp -implicitDefEqProofs (disch := first | assumption | omega | decide) only [RX.x_C, RX.varK_v, RX.varK_o, RX.x_Var, RX.toR_some, RX.toB_some, RX.toT_some, RX.toS_some, RX.lk_some, RX.x_Op, RX.x_Un, RX.x_tE, RX.x_tNot, RX.x_tAnd, RX.x_tOr, RX.asB_bl, RX.x_And, RX.x_Or, RX.x_Not, RX.x_If, RX.x_nil, RX.x_cons, RX.x_Tup, RX.x_Lst, RX.x_IxV, RX.x_B, RX.x_B1, RX.x_Cmp, RX.x_anil, RX.x_av, RX.x_ae, RX.x_Call, RX.x_CallK, RX.x_CallV, RX.vK_fn, RX.x_do, RX.goK_some, RX.backE_some, RX.back_ok, RX.back_exc, RX.x_Seq, RX.x_Pass, RX.x_Brk, RX.x_Cont, RX.x_Set, RX.x_Unp, RX.x_Par, RX.x_Expr, RX.x_Ret, RX.retK_v, RX.retK_o, RX.x_RetV, RX.x_RetN, RX.x_SIf, RX.x_For, RX.x_Raise, RX.itK_some, RX.rgK_some, RX.x_iE, RX.x_iR1, RX.x_forN, RX.x_forC, RX.x_Try, RX.try_ret, RX.try_next, RX.try_exc, RX.h1K_some, RX.suite_ret, RX.suite_next, RX.x_Fld, RX.fldK_some, RX.stK_some, RX.turn_next, RX.turn_cont, RX.turn_brk, RX.turn_ret, RX.end_ret, RX.end_next, RX.end_exc, RX.pk_t, RX.pk_f, RX.bnd_ok, RX.bnd_exc, RX.outK_ok, RX.outK_exc, RX.obnd_next, RX.obnd_ret, RX.obnd_brk, RX.obnd_cont, RX.obnd_exc, RX.tr_bl, RX.tr_int, RX.f_add, RX.f_sub, RX.f_mul, RX.f_div, RX.f_mod, RX.f_neg, RX.f_lt, RX.f_le, RX.f_gt, RX.f_ge, RX.f_eqI, RX.f_neI, RX.f_eqB, RX.f_isN, RX.f_isNotN, RX.look, RX.isOwn, RX.owns, RX.argOf, RX.argsOf, RX.backTo, RX.nodupN, RX.stSl, RX.stAll, RX.Tg.st, RX.Ex.frz, RX.Ex.sl, RX.finish, RX.outsOf, RX.Arg.sl, RX.D.items?, RX.D.asInt?, RX.permL, RX.D.isNon, List.getElem?_cons_zero, List.getElem?_cons_succ, List.getElem?_nil, List.set_cons_zero, List.set_cons_succ, List.map_cons, List.map_nil, List.nil_append, List.cons_append, List.replicate_succ, List.replicate_zero, List.length_cons, List.length_nil, List.contains_nil, List.contains_cons, List.isEmpty_nil, List.isEmpty_cons, List.filterMap_cons, List.filterMap_nil, Option.map_some, Option.map_none, Option.bind_some, Option.bind_none, List.any_cons, List.any_nil, RX.Arg.isOwn, Bool.not_true, Bool.not_false, Bool.true_and, Bool.false_and, Bool.and_true, Bool.and_false, Bool.or_true, Bool.or_false, Bool.true_or, Bool.false_or, if_true, if_false, Bool.false_eq_true, ↓reduceIte, ite_true, ite_false, decide_true, decide_false, Nat.reduceSub, Nat.reduceAdd, beq_self_eq_true, h, m, fldK_some f1, fldK_some f2]
/-! powers by hand -/
theorem s27 {n : Nat} (hn : 1 ≤ n) {r : Rat} {k c : Nat} (hr : SmQ k r) (hk : k ≤ 1000) (hc : c ≤ 1000) : callN T n 27 [.d (enc r), .d (.int c)] = .ok (.d (enc (r ^ c))) [] := by
  obtain ⟨p, rfl, hp⟩ := up hn
  rw [callN_eq (d := d27) (np := 2) (ns := 5) rfl rfl, enc_pow]
  unfold d27
  obtain ⟨ρ', e, s, h⟩ := for_rng (C := callN T p) (tg := .v 4) (A := sSeq (sSet 2 (dOp fMul (dVar 2) (dIxV 0 (dC (.int 0))))) (sSet 3 (dOp fMul (dVar 3) (dIxV 0 (dC (.int 1))))))
    (ρ := [.val (enc r), .val (.int c), .val (.int 1), .val (.int 1), .none]) (fun i ρ => ∃ s, ρ = [.val (enc r), .val (.int c), .val (.int (r.num ^ i)), .val (.int ((r.den : Int) ^ i)), s] ∧ (s = .none ∨ ∃ d, s = .val d)) (n := c)
    ⟨.none, by rw [Int.pow_zero, Int.pow_zero], .inl rfl⟩ fun i ρ hi ⟨s, e, hs⟩ => by
      subst e
      have q : i * k + 1 + k < 134000000 := by
        have := Nat.mul_le_mul (show i ≤ 1000 by omega) hk
        omega
      have m1 := mk (Sm.pow hr.1 i) hr.1 q
      have m2 := mk (Sm.pow hr.2 i) hr.2 q
      refine ⟨[.val (enc r), .val (.int c), .val (.int (r.num ^ i)), .val (.int ((r.den : Int) ^ i)), .val (.int i)], [.val (enc r), .val (.int c), .val (.int (r.num ^ (i + 1))), .val (.int ((r.den : Int) ^ (i + 1))), .val (.int i)], ?_, .inl ?_, _, rfl, .inr ⟨_, rfl⟩⟩
      · rcases hs with rfl | ⟨d, rfl⟩ <;> rfl
      · rw [Int.pow_succ, Int.pow_succ]
        unfold enc
        simp -dsimp -implicitDefEqProofs (disch := first | assumption | omega | decide) only [RX.x_C, RX.varK_v, RX.varK_o, RX.x_Var, RX.toR_some, RX.toB_some, RX.toT_some, RX.toS_some, RX.lk_some, RX.x_Op, RX.x_Un, RX.x_tE, RX.x_tNot, RX.x_tAnd, RX.x_tOr, RX.asB_bl, RX.x_And, RX.x_Or, RX.x_Not, RX.x_If, RX.x_nil, RX.x_cons, RX.x_Tup, RX.x_Lst, RX.x_IxV, RX.x_B, RX.x_B1, RX.x_Cmp, RX.x_anil, RX.x_av, RX.x_ae, RX.x_Call, RX.x_CallK, RX.x_CallV, RX.vK_fn, RX.x_do, RX.goK_some, RX.backE_some, RX.back_ok, RX.back_exc, RX.x_Seq, RX.x_Pass, RX.x_Brk, RX.x_Cont, RX.x_Set, RX.x_Unp, RX.x_Par, RX.x_Expr, RX.x_Ret, RX.retK_v, RX.retK_o, RX.x_RetV, RX.x_RetN, RX.x_SIf, RX.x_For, RX.x_Raise, RX.itK_some, RX.rgK_some, RX.x_iE, RX.x_iR1, RX.x_forN, RX.x_forC, RX.x_Try, RX.try_ret, RX.try_next, RX.try_exc, RX.h1K_some, RX.suite_ret, RX.suite_next, RX.x_Fld, RX.fldK_some, RX.stK_some, RX.turn_next, RX.turn_cont, RX.turn_brk, RX.turn_ret, RX.end_ret, RX.end_next, RX.end_exc, RX.pk_t, RX.pk_f, RX.bnd_ok, RX.bnd_exc, RX.outK_ok, RX.outK_exc, RX.obnd_next, RX.obnd_ret, RX.obnd_brk, RX.obnd_cont, RX.obnd_exc, RX.tr_bl, RX.tr_int, RX.f_add, RX.f_sub, RX.f_mul, RX.f_div, RX.f_mod, RX.f_neg, RX.f_lt, RX.f_le, RX.f_gt, RX.f_ge, RX.f_eqI, RX.f_neI, RX.f_eqB, RX.f_isN, RX.f_isNotN, RX.look, RX.isOwn, RX.owns, RX.argOf, RX.argsOf, RX.backTo, RX.nodupN, RX.stSl, RX.stAll, RX.Tg.st, RX.Ex.frz, RX.Ex.sl, RX.finish, RX.outsOf, RX.Arg.sl, RX.D.items?, RX.D.asInt?, RX.permL, RX.D.isNon, List.getElem?_cons_zero, List.getElem?_cons_succ, List.getElem?_nil, List.set_cons_zero, List.set_cons_succ, List.map_cons, List.map_nil, List.nil_append, List.cons_append, List.replicate_succ, List.replicate_zero, List.length_cons, List.length_nil, List.contains_nil, List.contains_cons, List.isEmpty_nil, List.isEmpty_cons, List.filterMap_cons, List.filterMap_nil, Option.map_some, Option.map_none, Option.bind_some, Option.bind_none, List.any_cons, List.any_nil, RX.Arg.isOwn, Bool.not_true, Bool.not_false, Bool.true_and, Bool.false_and, Bool.and_true, Bool.and_false, Bool.or_true, Bool.or_false, Bool.true_or, Bool.false_or, if_true, if_false, Bool.false_eq_true, ↓reduceIte, ite_true, ite_false, decide_true, decide_false, Nat.reduceSub, Nat.reduceAdd, beq_self_eq_true, ix0, ix1, m1, m2]
  obtain ⟨h, hs⟩ := h
  subst h
  have hc' : -16777216 < (c : Int) ∧ (c : Int) < 16777216 := by omega
  unfold enc at e ⊢
  simp -dsimp -implicitDefEqProofs (disch := first | assumption | omega | decide) only [RX.x_C, RX.varK_v, RX.varK_o, RX.x_Var, RX.toR_some, RX.toB_some, RX.toT_some, RX.toS_some, RX.lk_some, RX.x_Op, RX.x_Un, RX.x_tE, RX.x_tNot, RX.x_tAnd, RX.x_tOr, RX.asB_bl, RX.x_And, RX.x_Or, RX.x_Not, RX.x_If, RX.x_nil, RX.x_cons, RX.x_Tup, RX.x_Lst, RX.x_IxV, RX.x_B, RX.x_B1, RX.x_Cmp, RX.x_anil, RX.x_av, RX.x_ae, RX.x_Call, RX.x_CallK, RX.x_CallV, RX.vK_fn, RX.x_do, RX.goK_some, RX.backE_some, RX.back_ok, RX.back_exc, RX.x_Seq, RX.x_Pass, RX.x_Brk, RX.x_Cont, RX.x_Set, RX.x_Unp, RX.x_Par, RX.x_Expr, RX.x_Ret, RX.retK_v, RX.retK_o, RX.x_RetV, RX.x_RetN, RX.x_SIf, RX.x_For, RX.x_Raise, RX.itK_some, RX.rgK_some, RX.x_iE, RX.x_iR1, RX.x_forN, RX.x_forC, RX.x_Try, RX.try_ret, RX.try_next, RX.try_exc, RX.h1K_some, RX.suite_ret, RX.suite_next, RX.x_Fld, RX.fldK_some, RX.stK_some, RX.turn_next, RX.turn_cont, RX.turn_brk, RX.turn_ret, RX.end_ret, RX.end_next, RX.end_exc, RX.pk_t, RX.pk_f, RX.bnd_ok, RX.bnd_exc, RX.outK_ok, RX.outK_exc, RX.obnd_next, RX.obnd_ret, RX.obnd_brk, RX.obnd_cont, RX.obnd_exc, RX.tr_bl, RX.tr_int, RX.f_add, RX.f_sub, RX.f_mul, RX.f_div, RX.f_mod, RX.f_neg, RX.f_lt, RX.f_le, RX.f_gt, RX.f_ge, RX.f_eqI, RX.f_neI, RX.f_eqB, RX.f_isN, RX.f_isNotN, RX.look, RX.isOwn, RX.owns, RX.argOf, RX.argsOf, RX.backTo, RX.nodupN, RX.stSl, RX.stAll, RX.Tg.st, RX.Ex.frz, RX.Ex.sl, RX.finish, RX.outsOf, RX.Arg.sl, RX.D.items?, RX.D.asInt?, RX.permL, RX.D.isNon, List.getElem?_cons_zero, List.getElem?_cons_succ, List.getElem?_nil, List.set_cons_zero, List.set_cons_succ, List.map_cons, List.map_nil, List.nil_append, List.cons_append, List.replicate_succ, List.replicate_zero, List.length_cons, List.length_nil, List.contains_nil, List.contains_cons, List.isEmpty_nil, List.isEmpty_cons, List.filterMap_cons, List.filterMap_nil, Option.map_some, Option.map_none, Option.bind_some, Option.bind_none, List.any_cons, List.any_nil, RX.Arg.isOwn, Bool.not_true, Bool.not_false, Bool.true_and, Bool.false_and, Bool.and_true, Bool.and_false, Bool.or_true, Bool.or_false, Bool.true_or, Bool.false_or, if_true, if_false, Bool.false_eq_true, ↓reduceIte, ite_true, ite_false, decide_true, decide_false, Nat.reduceSub, Nat.reduceAdd, beq_self_eq_true, asI, hc', e]
/-! the sums -/
theorem eas_enc (r : Rat) : eas (enc r) = true := rfl
theorem dep_enc (r : Rat) : (enc r).dep ≤ 1 := by show max 0 (max 0 0) + 1 ≤ 1; decide
theorem eas_no (w : Str) : eas (.tup [.str "no", .str w, .int (-1)]) = true := rfl
theorem dep_no (w : Str) : (D.tup [.str "no", .str w, .int (-1)]).dep ≤ 1 := by show max 0 (max 0 (max 0 0)) + 1 ≤ 1; decide
theorem sameQ {n : Nat} (hn : 3 ≤ n) (r : Rat) : callN T n 18 [.d (enc r), .d (enc r)] = .ok (.d (.bl true)) [] := s18 1 hn (eas_enc r) (dep_enc r)
theorem sameB {n : Nat} (hn : 2 ≤ n) (b : Bool) : callN T n 18 [.d (.bl b), .d (.bl b)] = .ok (.d (.bl true)) [] := s18 0 hn rfl (Nat.le_refl _)
theorem sameN {n : Nat} (hn : 3 ≤ n) (w : Str) : callN T n 18 [.d (.tup [.str "no", .str w, .int (-1)]), .d (.tup [.str "no", .str w, .int (-1)])] = .ok (.d (.bl true)) [] := s18 1 hn (eas_no w) (dep_no w)
theorem mul_over {r s : Rat} (h : s ≠ 0) : s * (r / s) = r := by rw [Rat.mul_comm, Rat.div_mul_cancel h]
theorem s28 {n : Nat} (hn : 9 ≤ n) {r s : Rat} {k m : Nat} (hr : SmQ k r) (hs : SmQ m s) (hk : k + m ≤ 1000) : callN T n 28 [.d (enc r), .d (enc s)] = .ok (.d (.bl true)) [] := by
  obtain ⟨p, rfl, hp⟩ := up hn
  rw [callN_eq (d := d28) (np := 2) (ns := 2) rfl rfl]
  unfold d28
  have m1 := mk hr.1 hs.2 (by omega)
  have m2 := mk hs.1 hr.2 (by omega)
  have m3 := mk hr.2 hs.2 (by omega)
  have m4 := mk hr.1 hs.1 (by omega)
  have m5 := mk hr.2 hs.1 (by omega)
  have z1 : Sm (k + m) (r.num * s.den) := hr.1.mul hs.2
  have z2 : Sm (k + m) (s.num * r.den) := (hs.1.mul hr.2).mono (by omega)
  have z3 : Sm (k + m) ((r.den : Int) * s.den) := hr.2.mul hs.2
  have z4 : Sm (k + m) (r.num * s.num) := hr.1.mul hs.1
  have z5 : Sm (k + m) ((r.den : Int) * s.num) := hr.2.mul hs.1
  have a8 := s8 (n := p) (by omega) hr hs (by omega)
  have a9 := s9 (n := p) (by omega) hr hs (by omega)
  have a10 := s10 (n := p) (by omega) hr hs (by omega)
  have a10' := s10 (n := p) (by omega) hs hr (by omega)
  have a12 := s12 (n := p) (by omega) hr hs (by omega)
  have c8 := s21 (n := p) (by omega) (smq_add hr hs) (z1.add z2 (Nat.le_refl _)) (z3.mono (by omega)) (by omega) (is_div (mulden r s) (add_eq r s))
  have c9 := s21 (n := p) (by omega) (smq_sub hr hs) (z1.sub z2 (Nat.le_refl _)) (z3.mono (by omega)) (by omega) (is_div (mulden r s) (by rw [sub_eq, Int.neg_mul, ← Int.sub_eq_add_neg]))
  have c10 := s21 (n := p) (by omega) (smq_mul hr hs) z4 z3 (by omega) (is_div (mulden r s) (mul_eq r s))
  have b12 := sameB (n := p) (by omega) (decide (r.num * s.den < s.num * r.den))
  have q1 := s9 (n := p) (by omega) (smq_add hr hs) hs (by omega)
  rw [Rat.add_sub_cancel] at q1
  have q2 := s8 (n := p) (by omega) (smq_sub hr hs) hs (by omega)
  rw [Rat.sub_add_cancel] at q2
  have w := sameQ (n := p) (by omega) r
  by_cases h0 : s = 0
  · subst h0
    have e0 : ((0 : Rat).num == 0) = true := rfl
    have t := s25e (n := p - 1) (s11z (n := p - 1) (r := r) (by omega))
    rw [show p - 1 + 1 = p by omega] at t
    have sn := sameN (n := p) (by omega) "other"
    unfold enc at *
    simp -dsimp -implicitDefEqProofs (disch := first | assumption | omega | decide) only [RX.x_C, RX.varK_v, RX.varK_o, RX.x_Var, RX.toR_some, RX.toB_some, RX.toT_some, RX.toS_some, RX.lk_some, RX.x_Op, RX.x_Un, RX.x_tE, RX.x_tNot, RX.x_tAnd, RX.x_tOr, RX.asB_bl, RX.x_And, RX.x_Or, RX.x_Not, RX.x_If, RX.x_nil, RX.x_cons, RX.x_Tup, RX.x_Lst, RX.x_IxV, RX.x_B, RX.x_B1, RX.x_Cmp, RX.x_anil, RX.x_av, RX.x_ae, RX.x_Call, RX.x_CallK, RX.x_CallV, RX.vK_fn, RX.x_do, RX.goK_some, RX.backE_some, RX.back_ok, RX.back_exc, RX.x_Seq, RX.x_Pass, RX.x_Brk, RX.x_Cont, RX.x_Set, RX.x_Unp, RX.x_Par, RX.x_Expr, RX.x_Ret, RX.retK_v, RX.retK_o, RX.x_RetV, RX.x_RetN, RX.x_SIf, RX.x_For, RX.x_Raise, RX.itK_some, RX.rgK_some, RX.x_iE, RX.x_iR1, RX.x_forN, RX.x_forC, RX.x_Try, RX.try_ret, RX.try_next, RX.try_exc, RX.h1K_some, RX.suite_ret, RX.suite_next, RX.x_Fld, RX.fldK_some, RX.stK_some, RX.turn_next, RX.turn_cont, RX.turn_brk, RX.turn_ret, RX.end_ret, RX.end_next, RX.end_exc, RX.pk_t, RX.pk_f, RX.bnd_ok, RX.bnd_exc, RX.outK_ok, RX.outK_exc, RX.obnd_next, RX.obnd_ret, RX.obnd_brk, RX.obnd_cont, RX.obnd_exc, RX.tr_bl, RX.tr_int, RX.f_add, RX.f_sub, RX.f_mul, RX.f_div, RX.f_mod, RX.f_neg, RX.f_lt, RX.f_le, RX.f_gt, RX.f_ge, RX.f_eqI, RX.f_neI, RX.f_eqB, RX.f_isN, RX.f_isNotN, RX.look, RX.isOwn, RX.owns, RX.argOf, RX.argsOf, RX.backTo, RX.nodupN, RX.stSl, RX.stAll, RX.Tg.st, RX.Ex.frz, RX.Ex.sl, RX.finish, RX.outsOf, RX.Arg.sl, RX.D.items?, RX.D.asInt?, RX.permL, RX.D.isNon, List.getElem?_cons_zero, List.getElem?_cons_succ, List.getElem?_nil, List.set_cons_zero, List.set_cons_succ, List.map_cons, List.map_nil, List.nil_append, List.cons_append, List.replicate_succ, List.replicate_zero, List.length_cons, List.length_nil, List.contains_nil, List.contains_cons, List.isEmpty_nil, List.isEmpty_cons, List.filterMap_cons, List.filterMap_nil, Option.map_some, Option.map_none, Option.bind_some, Option.bind_none, List.any_cons, List.any_nil, RX.Arg.isOwn, Bool.not_true, Bool.not_false, Bool.true_and, Bool.false_and, Bool.and_true, Bool.and_false, Bool.or_true, Bool.or_false, Bool.true_or, Bool.false_or, if_true, if_false, Bool.false_eq_true, ↓reduceIte, ite_true, ite_false, decide_true, decide_false, Nat.reduceSub, Nat.reduceAdd, beq_self_eq_true, e0, a8, a9, a10, a12, c8, c9, c10, b12, m1, m2, m3, m4, m5, ix0, ix1, t, sn]
  · have hs0 : s.num ≠ 0 := fun e => h0 (Rat.num_eq_zero.mp e)
    have e0 : (s.num == 0) = false := beq_eq_false_iff_ne.mpr hs0
    have a11 := s11 (n := p) (by omega) hr hs (by omega) h0
    have c11 := s21 (n := p) (by omega) (smq_over hr hs h0) z1 z5 (by omega) (is_div (Int.mul_ne_zero (den1 r) hs0) (div_eq h0))
    have q3 := s11 (n := p) (by omega) (smq_mul hr hs) hs (by omega) h0
    rw [Rat.mul_div_cancel h0] at q3
    have q4 := s10 (n := p) (by omega) hs (smq_over hr hs h0) (by omega)
    rw [mul_over h0] at q4
    unfold enc at *
    simp -dsimp -implicitDefEqProofs (disch := first | assumption | omega | decide) only [RX.x_C, RX.varK_v, RX.varK_o, RX.x_Var, RX.toR_some, RX.toB_some, RX.toT_some, RX.toS_some, RX.lk_some, RX.x_Op, RX.x_Un, RX.x_tE, RX.x_tNot, RX.x_tAnd, RX.x_tOr, RX.asB_bl, RX.x_And, RX.x_Or, RX.x_Not, RX.x_If, RX.x_nil, RX.x_cons, RX.x_Tup, RX.x_Lst, RX.x_IxV, RX.x_B, RX.x_B1, RX.x_Cmp, RX.x_anil, RX.x_av, RX.x_ae, RX.x_Call, RX.x_CallK, RX.x_CallV, RX.vK_fn, RX.x_do, RX.goK_some, RX.backE_some, RX.back_ok, RX.back_exc, RX.x_Seq, RX.x_Pass, RX.x_Brk, RX.x_Cont, RX.x_Set, RX.x_Unp, RX.x_Par, RX.x_Expr, RX.x_Ret, RX.retK_v, RX.retK_o, RX.x_RetV, RX.x_RetN, RX.x_SIf, RX.x_For, RX.x_Raise, RX.itK_some, RX.rgK_some, RX.x_iE, RX.x_iR1, RX.x_forN, RX.x_forC, RX.x_Try, RX.try_ret, RX.try_next, RX.try_exc, RX.h1K_some, RX.suite_ret, RX.suite_next, RX.x_Fld, RX.fldK_some, RX.stK_some, RX.turn_next, RX.turn_cont, RX.turn_brk, RX.turn_ret, RX.end_ret, RX.end_next, RX.end_exc, RX.pk_t, RX.pk_f, RX.bnd_ok, RX.bnd_exc, RX.outK_ok, RX.outK_exc, RX.obnd_next, RX.obnd_ret, RX.obnd_brk, RX.obnd_cont, RX.obnd_exc, RX.tr_bl, RX.tr_int, RX.f_add, RX.f_sub, RX.f_mul, RX.f_div, RX.f_mod, RX.f_neg, RX.f_lt, RX.f_le, RX.f_gt, RX.f_ge, RX.f_eqI, RX.f_neI, RX.f_eqB, RX.f_isN, RX.f_isNotN, RX.look, RX.isOwn, RX.owns, RX.argOf, RX.argsOf, RX.backTo, RX.nodupN, RX.stSl, RX.stAll, RX.Tg.st, RX.Ex.frz, RX.Ex.sl, RX.finish, RX.outsOf, RX.Arg.sl, RX.D.items?, RX.D.asInt?, RX.permL, RX.D.isNon, List.getElem?_cons_zero, List.getElem?_cons_succ, List.getElem?_nil, List.set_cons_zero, List.set_cons_succ, List.map_cons, List.map_nil, List.nil_append, List.cons_append, List.replicate_succ, List.replicate_zero, List.length_cons, List.length_nil, List.contains_nil, List.contains_cons, List.isEmpty_nil, List.isEmpty_cons, List.filterMap_cons, List.filterMap_nil, Option.map_some, Option.map_none, Option.bind_some, Option.bind_none, List.any_cons, List.any_nil, RX.Arg.isOwn, Bool.not_true, Bool.not_false, Bool.true_and, Bool.false_and, Bool.and_true, Bool.and_false, Bool.or_true, Bool.or_false, Bool.true_or, Bool.false_or, if_true, if_false, Bool.false_eq_true, ↓reduceIte, ite_true, ite_false, decide_true, decide_false, Nat.reduceSub, Nat.reduceAdd, beq_self_eq_true, a8, a9, a10, a12, c8, c9, c10, b12, m1, m2, m3, m4, m5, ix0, ix1, e0, a11, c11, q1, q2, q3, q4, w]
end K01
set_option Elab.async false
set_option linter.all false
set_option maxRecDepth 100000
set_option maxHeartbeats 4000000
namespace K01
open PySem RX MQ
theorem s29 {n : Nat} (hn : 9 ≤ n) {r s : Rat} {c : Nat} (hr : SmQ 51 r) (hs : SmQ 51 s) (hc : c ≤ 60) : callN T n 29 [.d (enc r), .d (enc s), .d (.int c)] = .ok (.d (.bl true)) [] := by
  obtain ⟨p, rfl, hp⟩ := up hn
  rw [callN_eq (d := d29) (np := 3) (ns := 3) rfl rfl]
  unfold d29
  have a8 := s8 (n := p) (by omega) hr hs (by omega)
  have a9 := s9 (n := p) (by omega) hr hs (by omega)
  have a10 := s10 (n := p) (by omega) hr hs (by omega)
  have a12 := s12 (n := p) (by omega) hr hs (by omega)
  have a7 := s7 (n := p) (by omega) (a := r.num) (den1 r) hr.2 (by omega)
  rw [Rat.num_divInt_den] at a7
  have a13 := s13 (n := p) (by omega) hr (by omega) (show c ≤ 1000 by omega)
  have a14 := s14 (n := p) (by omega) (l := [r, s]) (k := 51) (by show 2 ≤ 100; omega) (by intro x hx; rcases List.mem_cons.mp hx with rfl | hx; exact hr; rcases List.mem_cons.mp hx with rfl | hx; exact hs; cases hx) (by omega)
  have e14 : qs [r, s] = r + s := by show 0 + r + s = _; rw [Rat.zero_add]
  rw [e14] at a14
  have a14' : callN T p 14 [.d (.tup [enc r, enc s])] = .ok (.d (enc (r + s))) [] := a14
  have w8 := sameQ (n := p) (by omega) (r + s)
  have w9 := sameQ (n := p) (by omega) (r - s)
  have w10 := sameQ (n := p) (by omega) (r * s)
  have w12 := sameB (n := p) (by omega) (decide (r.num * s.den < s.num * r.den))
  have w := sameQ (n := p) (by omega) r
  have w13 := sameQ (n := p) (by omega) (r ^ c)
  by_cases h0 : s = 0
  · subst h0
    have e0 : ((0 : Rat).num == 0) = true := rfl
    unfold enc at *
    simp -dsimp -implicitDefEqProofs (disch := first | assumption | omega | decide) only [RX.x_C, RX.varK_v, RX.varK_o, RX.x_Var, RX.toR_some, RX.toB_some, RX.toT_some, RX.toS_some, RX.lk_some, RX.x_Op, RX.x_Un, RX.x_tE, RX.x_tNot, RX.x_tAnd, RX.x_tOr, RX.asB_bl, RX.x_And, RX.x_Or, RX.x_Not, RX.x_If, RX.x_nil, RX.x_cons, RX.x_Tup, RX.x_Lst, RX.x_IxV, RX.x_B, RX.x_B1, RX.x_Cmp, RX.x_anil, RX.x_av, RX.x_ae, RX.x_Call, RX.x_CallK, RX.x_CallV, RX.vK_fn, RX.x_do, RX.goK_some, RX.backE_some, RX.back_ok, RX.back_exc, RX.x_Seq, RX.x_Pass, RX.x_Brk, RX.x_Cont, RX.x_Set, RX.x_Unp, RX.x_Par, RX.x_Expr, RX.x_Ret, RX.retK_v, RX.retK_o, RX.x_RetV, RX.x_RetN, RX.x_SIf, RX.x_For, RX.x_Raise, RX.itK_some, RX.rgK_some, RX.x_iE, RX.x_iR1, RX.x_forN, RX.x_forC, RX.x_Try, RX.try_ret, RX.try_next, RX.try_exc, RX.h1K_some, RX.suite_ret, RX.suite_next, RX.x_Fld, RX.fldK_some, RX.stK_some, RX.turn_next, RX.turn_cont, RX.turn_brk, RX.turn_ret, RX.end_ret, RX.end_next, RX.end_exc, RX.pk_t, RX.pk_f, RX.bnd_ok, RX.bnd_exc, RX.outK_ok, RX.outK_exc, RX.obnd_next, RX.obnd_ret, RX.obnd_brk, RX.obnd_cont, RX.obnd_exc, RX.tr_bl, RX.tr_int, RX.f_add, RX.f_sub, RX.f_mul, RX.f_div, RX.f_mod, RX.f_neg, RX.f_lt, RX.f_le, RX.f_gt, RX.f_ge, RX.f_eqI, RX.f_neI, RX.f_eqB, RX.f_isN, RX.f_isNotN, RX.look, RX.isOwn, RX.owns, RX.argOf, RX.argsOf, RX.backTo, RX.nodupN, RX.stSl, RX.stAll, RX.Tg.st, RX.Ex.frz, RX.Ex.sl, RX.finish, RX.outsOf, RX.Arg.sl, RX.D.items?, RX.D.asInt?, RX.permL, RX.D.isNon, List.getElem?_cons_zero, List.getElem?_cons_succ, List.getElem?_nil, List.set_cons_zero, List.set_cons_succ, List.map_cons, List.map_nil, List.nil_append, List.cons_append, List.replicate_succ, List.replicate_zero, List.length_cons, List.length_nil, List.contains_nil, List.contains_cons, List.isEmpty_nil, List.isEmpty_cons, List.filterMap_cons, List.filterMap_nil, Option.map_some, Option.map_none, Option.bind_some, Option.bind_none, List.any_cons, List.any_nil, RX.Arg.isOwn, Bool.not_true, Bool.not_false, Bool.true_and, Bool.false_and, Bool.and_true, Bool.and_false, Bool.or_true, Bool.or_false, Bool.true_or, Bool.false_or, if_true, if_false, Bool.false_eq_true, ↓reduceIte, ite_true, ite_false, decide_true, decide_false, Nat.reduceSub, Nat.reduceAdd, beq_self_eq_true, a8, a9, a10, a12, a7, a13, a14', w8, w9, w10, w12, w, w13, ix0, ix1, e0]
  · have hs0 : s.num ≠ 0 := fun e => h0 (Rat.num_eq_zero.mp e)
    have e0 : (s.num == 0) = false := beq_eq_false_iff_ne.mpr hs0
    have a11 := s11 (n := p) (by omega) hr hs (by omega) h0
    have w11 := sameQ (n := p) (by omega) (r / s)
    unfold enc at *
    simp -dsimp -implicitDefEqProofs (disch := first | assumption | omega | decide) only [RX.x_C, RX.varK_v, RX.varK_o, RX.x_Var, RX.toR_some, RX.toB_some, RX.toT_some, RX.toS_some, RX.lk_some, RX.x_Op, RX.x_Un, RX.x_tE, RX.x_tNot, RX.x_tAnd, RX.x_tOr, RX.asB_bl, RX.x_And, RX.x_Or, RX.x_Not, RX.x_If, RX.x_nil, RX.x_cons, RX.x_Tup, RX.x_Lst, RX.x_IxV, RX.x_B, RX.x_B1, RX.x_Cmp, RX.x_anil, RX.x_av, RX.x_ae, RX.x_Call, RX.x_CallK, RX.x_CallV, RX.vK_fn, RX.x_do, RX.goK_some, RX.backE_some, RX.back_ok, RX.back_exc, RX.x_Seq, RX.x_Pass, RX.x_Brk, RX.x_Cont, RX.x_Set, RX.x_Unp, RX.x_Par, RX.x_Expr, RX.x_Ret, RX.retK_v, RX.retK_o, RX.x_RetV, RX.x_RetN, RX.x_SIf, RX.x_For, RX.x_Raise, RX.itK_some, RX.rgK_some, RX.x_iE, RX.x_iR1, RX.x_forN, RX.x_forC, RX.x_Try, RX.try_ret, RX.try_next, RX.try_exc, RX.h1K_some, RX.suite_ret, RX.suite_next, RX.x_Fld, RX.fldK_some, RX.stK_some, RX.turn_next, RX.turn_cont, RX.turn_brk, RX.turn_ret, RX.end_ret, RX.end_next, RX.end_exc, RX.pk_t, RX.pk_f, RX.bnd_ok, RX.bnd_exc, RX.outK_ok, RX.outK_exc, RX.obnd_next, RX.obnd_ret, RX.obnd_brk, RX.obnd_cont, RX.obnd_exc, RX.tr_bl, RX.tr_int, RX.f_add, RX.f_sub, RX.f_mul, RX.f_div, RX.f_mod, RX.f_neg, RX.f_lt, RX.f_le, RX.f_gt, RX.f_ge, RX.f_eqI, RX.f_neI, RX.f_eqB, RX.f_isN, RX.f_isNotN, RX.look, RX.isOwn, RX.owns, RX.argOf, RX.argsOf, RX.backTo, RX.nodupN, RX.stSl, RX.stAll, RX.Tg.st, RX.Ex.frz, RX.Ex.sl, RX.finish, RX.outsOf, RX.Arg.sl, RX.D.items?, RX.D.asInt?, RX.permL, RX.D.isNon, List.getElem?_cons_zero, List.getElem?_cons_succ, List.getElem?_nil, List.set_cons_zero, List.set_cons_succ, List.map_cons, List.map_nil, List.nil_append, List.cons_append, List.replicate_succ, List.replicate_zero, List.length_cons, List.length_nil, List.contains_nil, List.contains_cons, List.isEmpty_nil, List.isEmpty_cons, List.filterMap_cons, List.filterMap_nil, Option.map_some, Option.map_none, Option.bind_some, Option.bind_none, List.any_cons, List.any_nil, RX.Arg.isOwn, Bool.not_true, Bool.not_false, Bool.true_and, Bool.false_and, Bool.and_true, Bool.and_false, Bool.or_true, Bool.or_false, Bool.true_or, Bool.false_or, if_true, if_false, Bool.false_eq_true, ↓reduceIte, ite_true, ite_false, decide_true, decide_false, Nat.reduceSub, Nat.reduceAdd, beq_self_eq_true, a8, a9, a10, a12, a7, a13, a14', a11, w8, w9, w10, w12, w, w13, w11, ix0, ix1, e0]
theorem s31 {n : Nat} (hn : 9 ≤ n) {a b : Int} {k : Nat} (ha : Sm k a) (hb : Sm k b) (hk : k ≤ 1000) : callN T n 31 [.d (.int a), .d (.int b)] = .ok (.d (.bl true)) [] := by
  obtain ⟨p, rfl, hp⟩ := up hn
  rw [callN_eq (d := d31) (np := 2) (ns := 2) rfl rfl]
  unfold d31
  by_cases h0 : b = 0
  · subst h0
    have e0 : ((0 : Int) == 0) = true := rfl
    have t := s25e (n := p - 1) (s7z (n := p - 1) (a := a) (by omega))
    rw [show p - 1 + 1 = p by omega] at t
    have sn := sameN (n := p) (by omega) "bottom"
    simp -dsimp -implicitDefEqProofs (disch := first | assumption | omega | decide) only [RX.x_C, RX.varK_v, RX.varK_o, RX.x_Var, RX.toR_some, RX.toB_some, RX.toT_some, RX.toS_some, RX.lk_some, RX.x_Op, RX.x_Un, RX.x_tE, RX.x_tNot, RX.x_tAnd, RX.x_tOr, RX.asB_bl, RX.x_And, RX.x_Or, RX.x_Not, RX.x_If, RX.x_nil, RX.x_cons, RX.x_Tup, RX.x_Lst, RX.x_IxV, RX.x_B, RX.x_B1, RX.x_Cmp, RX.x_anil, RX.x_av, RX.x_ae, RX.x_Call, RX.x_CallK, RX.x_CallV, RX.vK_fn, RX.x_do, RX.goK_some, RX.backE_some, RX.back_ok, RX.back_exc, RX.x_Seq, RX.x_Pass, RX.x_Brk, RX.x_Cont, RX.x_Set, RX.x_Unp, RX.x_Par, RX.x_Expr, RX.x_Ret, RX.retK_v, RX.retK_o, RX.x_RetV, RX.x_RetN, RX.x_SIf, RX.x_For, RX.x_Raise, RX.itK_some, RX.rgK_some, RX.x_iE, RX.x_iR1, RX.x_forN, RX.x_forC, RX.x_Try, RX.try_ret, RX.try_next, RX.try_exc, RX.h1K_some, RX.suite_ret, RX.suite_next, RX.x_Fld, RX.fldK_some, RX.stK_some, RX.turn_next, RX.turn_cont, RX.turn_brk, RX.turn_ret, RX.end_ret, RX.end_next, RX.end_exc, RX.pk_t, RX.pk_f, RX.bnd_ok, RX.bnd_exc, RX.outK_ok, RX.outK_exc, RX.obnd_next, RX.obnd_ret, RX.obnd_brk, RX.obnd_cont, RX.obnd_exc, RX.tr_bl, RX.tr_int, RX.f_add, RX.f_sub, RX.f_mul, RX.f_div, RX.f_mod, RX.f_neg, RX.f_lt, RX.f_le, RX.f_gt, RX.f_ge, RX.f_eqI, RX.f_neI, RX.f_eqB, RX.f_isN, RX.f_isNotN, RX.look, RX.isOwn, RX.owns, RX.argOf, RX.argsOf, RX.backTo, RX.nodupN, RX.stSl, RX.stAll, RX.Tg.st, RX.Ex.frz, RX.Ex.sl, RX.finish, RX.outsOf, RX.Arg.sl, RX.D.items?, RX.D.asInt?, RX.permL, RX.D.isNon, List.getElem?_cons_zero, List.getElem?_cons_succ, List.getElem?_nil, List.set_cons_zero, List.set_cons_succ, List.map_cons, List.map_nil, List.nil_append, List.cons_append, List.replicate_succ, List.replicate_zero, List.length_cons, List.length_nil, List.contains_nil, List.contains_cons, List.isEmpty_nil, List.isEmpty_cons, List.filterMap_cons, List.filterMap_nil, Option.map_some, Option.map_none, Option.bind_some, Option.bind_none, List.any_cons, List.any_nil, RX.Arg.isOwn, Bool.not_true, Bool.not_false, Bool.true_and, Bool.false_and, Bool.and_true, Bool.and_false, Bool.or_true, Bool.or_false, Bool.true_or, Bool.false_or, if_true, if_false, Bool.false_eq_true, ↓reduceIte, ite_true, ite_false, decide_true, decide_false, Nat.reduceSub, Nat.reduceAdd, beq_self_eq_true, e0, t, sn]
  · have e0 : (b == 0) = false := beq_eq_false_iff_ne.mpr h0
    have a7 := s7 (n := p) (by omega) (a := a) h0 hb (by omega)
    have c := s21 (n := p) (by omega) (smq_div ha hb h0) ha hb (by omega) (is_div h0 rfl)
    simp -dsimp -implicitDefEqProofs (disch := first | assumption | omega | decide) only [RX.x_C, RX.varK_v, RX.varK_o, RX.x_Var, RX.toR_some, RX.toB_some, RX.toT_some, RX.toS_some, RX.lk_some, RX.x_Op, RX.x_Un, RX.x_tE, RX.x_tNot, RX.x_tAnd, RX.x_tOr, RX.asB_bl, RX.x_And, RX.x_Or, RX.x_Not, RX.x_If, RX.x_nil, RX.x_cons, RX.x_Tup, RX.x_Lst, RX.x_IxV, RX.x_B, RX.x_B1, RX.x_Cmp, RX.x_anil, RX.x_av, RX.x_ae, RX.x_Call, RX.x_CallK, RX.x_CallV, RX.vK_fn, RX.x_do, RX.goK_some, RX.backE_some, RX.back_ok, RX.back_exc, RX.x_Seq, RX.x_Pass, RX.x_Brk, RX.x_Cont, RX.x_Set, RX.x_Unp, RX.x_Par, RX.x_Expr, RX.x_Ret, RX.retK_v, RX.retK_o, RX.x_RetV, RX.x_RetN, RX.x_SIf, RX.x_For, RX.x_Raise, RX.itK_some, RX.rgK_some, RX.x_iE, RX.x_iR1, RX.x_forN, RX.x_forC, RX.x_Try, RX.try_ret, RX.try_next, RX.try_exc, RX.h1K_some, RX.suite_ret, RX.suite_next, RX.x_Fld, RX.fldK_some, RX.stK_some, RX.turn_next, RX.turn_cont, RX.turn_brk, RX.turn_ret, RX.end_ret, RX.end_next, RX.end_exc, RX.pk_t, RX.pk_f, RX.bnd_ok, RX.bnd_exc, RX.outK_ok, RX.outK_exc, RX.obnd_next, RX.obnd_ret, RX.obnd_brk, RX.obnd_cont, RX.obnd_exc, RX.tr_bl, RX.tr_int, RX.f_add, RX.f_sub, RX.f_mul, RX.f_div, RX.f_mod, RX.f_neg, RX.f_lt, RX.f_le, RX.f_gt, RX.f_ge, RX.f_eqI, RX.f_neI, RX.f_eqB, RX.f_isN, RX.f_isNotN, RX.look, RX.isOwn, RX.owns, RX.argOf, RX.argsOf, RX.backTo, RX.nodupN, RX.stSl, RX.stAll, RX.Tg.st, RX.Ex.frz, RX.Ex.sl, RX.finish, RX.outsOf, RX.Arg.sl, RX.D.items?, RX.D.asInt?, RX.permL, RX.D.isNon, List.getElem?_cons_zero, List.getElem?_cons_succ, List.getElem?_nil, List.set_cons_zero, List.set_cons_succ, List.map_cons, List.map_nil, List.nil_append, List.cons_append, List.replicate_succ, List.replicate_zero, List.length_cons, List.length_nil, List.contains_nil, List.contains_cons, List.isEmpty_nil, List.isEmpty_cons, List.filterMap_cons, List.filterMap_nil, Option.map_some, Option.map_none, Option.bind_some, Option.bind_none, List.any_cons, List.any_nil, RX.Arg.isOwn, Bool.not_true, Bool.not_false, Bool.true_and, Bool.false_and, Bool.and_true, Bool.and_false, Bool.or_true, Bool.or_false, Bool.true_or, Bool.false_or, if_true, if_false, Bool.false_eq_true, ↓reduceIte, ite_true, ite_false, decide_true, decide_false, Nat.reduceSub, Nat.reduceAdd, beq_self_eq_true, e0, a7, c]
/-! a row added up, from both ends -/
theorem foldl_eq : ∀ (l : List Rat) (a : Rat), l.foldl (· + ·) a = a + l.foldr (· + ·) 0
  | [], a => (Rat.add_zero a).symm
  | x :: l, a => by
    show l.foldl (· + ·) (a + x) = a + (x + l.foldr (· + ·) 0)
    rw [foldl_eq l, Rat.add_assoc]
theorem qs_rev (l : List Rat) : qs l.reverse = qs l := by
  unfold qs
  rw [List.foldl_reverse, foldl_eq l, Rat.zero_add]
  congr 1
  funext x y
  exact Rat.add_comm y x
def tot (l : List Rat) : Int × Int := l.foldl (fun p x => (p.1 * x.den + x.num * p.2, p.2 * x.den)) (0, 1)
theorem tot_ok {k : Nat} : ∀ (l : List Rat) (p : Int × Int) (a : Rat) (m : Nat), (∀ r ∈ l, SmQ k r) → p.2 ≠ 0 → a = Rat.divInt p.1 p.2 → Sm m p.1 → Sm m p.2 →
    (l.foldl (fun p x => (p.1 * (x.den : Int) + x.num * p.2, p.2 * (x.den : Int))) p).2 ≠ 0 ∧ l.foldl (· + ·) a = Rat.divInt (l.foldl (fun p x => (p.1 * (x.den : Int) + x.num * p.2, p.2 * (x.den : Int))) p).1 (l.foldl (fun p x => (p.1 * (x.den : Int) + x.num * p.2, p.2 * (x.den : Int))) p).2 ∧
      Sm (m + l.length * (k + 1)) (l.foldl (fun p x => (p.1 * (x.den : Int) + x.num * p.2, p.2 * (x.den : Int))) p).1 ∧ Sm (m + l.length * (k + 1)) (l.foldl (fun p x => (p.1 * (x.den : Int) + x.num * p.2, p.2 * (x.den : Int))) p).2
  | [], p, a, m, _, h1, h2, h3, h4 => ⟨h1, h2, h3.mono (by omega), h4.mono (by omega)⟩
  | x :: l, p, a, m, h, h1, h2, h3, h4 => by
    have hx := h x List.mem_cons_self
    have e : a + x = Rat.divInt (p.1 * x.den + x.num * p.2) (p.2 * x.den) := by
      rw [h2]
      conv => lhs; rw [← Rat.num_divInt_den x]
      rw [Rat.divInt_add_divInt _ _ h1 (den1 x)]
    have n2 : p.2 * (x.den : Int) ≠ 0 := Int.mul_ne_zero h1 (den1 x)
    have z1 : Sm (m + k + 1) (p.1 * x.den + x.num * p.2) := Sm.add (k := m + k) (h3.mul hx.2) (by have := hx.1.mul h4; rw [Nat.add_comm k m] at this; exact this) (Nat.le_refl _)
    have z2 : Sm (m + k + 1) (p.2 * (x.den : Int)) := (h4.mul hx.2).mono (by omega)
    obtain ⟨q1, q2, q3, q4⟩ := tot_ok l (p.1 * x.den + x.num * p.2, p.2 * x.den) (a + x) (m + k + 1) (fun y hy => h y (List.mem_cons_of_mem _ hy)) n2 e z1 z2
    refine ⟨q1, q2, q3.mono ?_, q4.mono ?_⟩ <;> (rw [List.length_cons, Nat.succ_mul]; omega)
end K01
set_option Elab.async false
set_option linter.all false
set_option maxRecDepth 100000
set_option maxHeartbeats 4000000
namespace K01
open PySem RX MQ
abbrev st1 (p : Int × Int) (x : Rat) : Int × Int := (p.1 * x.den + x.num * p.2, p.2 * x.den)
theorem itL {l : List D} : (D.lst l).items? = some l := rfl
theorem bTupL {l : List D} : bTup [.lst l] = some (.d (.tup l)) := rfl
theorem rngMap {n : Nat} (g : Nat → D) (h : D → D) (e : ∀ i : Nat, i < n → h (.int (i : Int)) = g i) : (rng 0 (n : Int)).map h = (List.range n).map g := by
  unfold rng
  rw [Int.sub_zero, Int.toNat_natCast, List.map_map]
  apply List.map_congr_left
  intro i hi
  have := e i (List.mem_range.mp hi)
  show h (.int (0 + (i : Int))) = g i
  rw [Int.zero_add]
  exact this
theorem rev_map (l : List D) : (List.range l.length).map (fun i => l.getD (l.length - 1 - i) .non) = l.reverse := by
  apply List.ext_getElem?
  intro i
  rw [List.getElem?_map]
  by_cases hi : i < l.length
  · rw [List.getElem?_range hi, List.getElem?_reverse hi]
    show some (l.getD (l.length - 1 - i) .non) = _
    rw [List.getD_eq_getElem?_getD, List.getElem?_eq_getElem (by omega)]
    rfl
  · rw [List.getElem?_eq_none (by rw [List.length_range]; omega), List.getElem?_eq_none (by rw [List.length_reverse]; omega)]
    rfl
/-- item len - 1 - k of the walk backwards -/
def bk (l : List D) : D → D
  | .int k => l.getD (l.length - 1 - k.toNat) .non
  | _ => .non
theorem bk_nat (l : List D) (i : Nat) : bk l (.int (i : Int)) = l.getD (l.length - 1 - i) .non := by
  show l.getD (l.length - 1 - (i : Int).toNat) .non = _
  rw [Int.toNat_natCast]
theorem s30 {n : Nat} (hn : 9 ≤ n) {l : List Rat} (hl : l.length ≤ 12) (h : ∀ r ∈ l, SmQ 51 r) : callN T n 30 [.d (.lst (l.map enc))] = .ok (.d (.bl true)) [] := by
  obtain ⟨p, rfl, hp⟩ := up hn
  rw [callN_eq (d := d30) (np := 1) (ns := 7) rfl rfl]
  unfold d30
  have sm1 : Sm 1 (0 : Int) := by unfold Sm; decide
  have sm2 : Sm 1 (1 : Int) := by unfold Sm; decide
  obtain ⟨t1, t2, t3, t4⟩ := tot_ok (k := 51) l (0, 1) 0 1 h (by decide) rfl sm1 sm2
  have hlz : 1 + l.length * (51 + 1) ≤ 1000 := by
    have := Nat.mul_le_mul hl (show 51 + 1 ≤ 52 by omega)
    omega
  obtain ⟨ρ', e, s, e2, hs⟩ := for_inv (C := callN T p) (tg := .v 3) (A := sSeq (sSet 1 (dOp fAdd (dOp fMul (dVar 1) (dIxV 3 (dC (.int 1)))) (dOp fMul (dIxV 3 (dC (.int 0))) (dVar 2)))) (sSet 2 (dOp fMul (dVar 2) (dIxV 3 (dC (.int 1))))))
    (l := l.map enc) (k := 0) (ρ := [.val (.lst (l.map enc)), .val (.int 0), .val (.int 1), .none, .none, .none, .none])
    (fun i ρ => ∃ s, ρ = [.val (.lst (l.map enc)), .val (.int ((l.take i).foldl st1 (0, 1)).1), .val (.int ((l.take i).foldl st1 (0, 1)).2), s, .none, .none, .none] ∧ (s = .none ∨ ∃ d, s = .val d)) ⟨.none, rfl, .inl rfl⟩ fun i x ρ hx ⟨s, e, hs⟩ => by
      subst e
      rw [List.getElem?_map] at hx
      cases er : l[i]? with
      | none => rw [er] at hx; cases hx
      | some r =>
        rw [er] at hx
        cases hx
        rw [Nat.zero_add]
        have hr := h r (List.mem_of_getElem? er)
        have et : (l.take (i + 1)).foldl st1 (0, 1) = st1 ((l.take i).foldl st1 (0, 1)) r := by
          rw [List.take_add_one, er, List.foldl_append]
          rfl
        obtain ⟨_, _, z3, z4⟩ := tot_ok (k := 51) (l.take i) (0, 1) 0 1 (fun x hx => h x (List.mem_of_mem_take hx)) (by decide) rfl sm1 sm2
        have hlen : (l.take i).length ≤ 12 := by rw [List.length_take]; omega
        have hz : 1 + (l.take i).length * (51 + 1) ≤ 1000 := by
          have := Nat.mul_le_mul hlen (show 51 + 1 ≤ 52 by omega)
          omega
        have m1 := mk z3 hr.2 (by omega)
        have m2 := mk hr.1 z4 (by omega)
        have m3 := mk z4 hr.2 (by omega)
        rw [et]
        generalize (l.take i).foldl st1 (0, 1) = q at *
        refine ⟨[.val (.lst (l.map enc)), .val (.int q.1), .val (.int q.2), .val (enc r), .none, .none, .none], [.val (.lst (l.map enc)), .val (.int (st1 q r).1), .val (.int (st1 q r).2), .val (enc r), .none, .none, .none], ?_, .inl ?_, _, rfl, .inr ⟨_, rfl⟩⟩
        · rcases hs with rfl | ⟨d, rfl⟩ <;> rfl
        · unfold enc
          simp -dsimp -implicitDefEqProofs (disch := first | assumption | omega | decide) only [RX.x_C, RX.varK_v, RX.varK_o, RX.x_Var, RX.toR_some, RX.toB_some, RX.toT_some, RX.toS_some, RX.lk_some, RX.x_Op, RX.x_Un, RX.x_tE, RX.x_tNot, RX.x_tAnd, RX.x_tOr, RX.asB_bl, RX.x_And, RX.x_Or, RX.x_Not, RX.x_If, RX.x_nil, RX.x_cons, RX.x_Tup, RX.x_Lst, RX.x_IxV, RX.x_B, RX.x_B1, RX.x_Cmp, RX.x_anil, RX.x_av, RX.x_ae, RX.x_Call, RX.x_CallK, RX.x_CallV, RX.vK_fn, RX.x_do, RX.goK_some, RX.backE_some, RX.back_ok, RX.back_exc, RX.x_Seq, RX.x_Pass, RX.x_Brk, RX.x_Cont, RX.x_Set, RX.x_Unp, RX.x_Par, RX.x_Expr, RX.x_Ret, RX.retK_v, RX.retK_o, RX.x_RetV, RX.x_RetN, RX.x_SIf, RX.x_For, RX.x_Raise, RX.itK_some, RX.rgK_some, RX.x_iE, RX.x_iR1, RX.x_forN, RX.x_forC, RX.x_Try, RX.try_ret, RX.try_next, RX.try_exc, RX.h1K_some, RX.suite_ret, RX.suite_next, RX.x_Fld, RX.fldK_some, RX.stK_some, RX.turn_next, RX.turn_cont, RX.turn_brk, RX.turn_ret, RX.end_ret, RX.end_next, RX.end_exc, RX.pk_t, RX.pk_f, RX.bnd_ok, RX.bnd_exc, RX.outK_ok, RX.outK_exc, RX.obnd_next, RX.obnd_ret, RX.obnd_brk, RX.obnd_cont, RX.obnd_exc, RX.tr_bl, RX.tr_int, RX.f_add, RX.f_sub, RX.f_mul, RX.f_div, RX.f_mod, RX.f_neg, RX.f_lt, RX.f_le, RX.f_gt, RX.f_ge, RX.f_eqI, RX.f_neI, RX.f_eqB, RX.f_isN, RX.f_isNotN, RX.look, RX.isOwn, RX.owns, RX.argOf, RX.argsOf, RX.backTo, RX.nodupN, RX.stSl, RX.stAll, RX.Tg.st, RX.Ex.frz, RX.Ex.sl, RX.finish, RX.outsOf, RX.Arg.sl, RX.D.items?, RX.D.asInt?, RX.permL, RX.D.isNon, List.getElem?_cons_zero, List.getElem?_cons_succ, List.getElem?_nil, List.set_cons_zero, List.set_cons_succ, List.map_cons, List.map_nil, List.nil_append, List.cons_append, List.replicate_succ, List.replicate_zero, List.length_cons, List.length_nil, List.contains_nil, List.contains_cons, List.isEmpty_nil, List.isEmpty_cons, List.filterMap_cons, List.filterMap_nil, Option.map_some, Option.map_none, Option.bind_some, Option.bind_none, List.any_cons, List.any_nil, RX.Arg.isOwn, Bool.not_true, Bool.not_false, Bool.true_and, Bool.false_and, Bool.and_true, Bool.and_false, Bool.or_true, Bool.or_false, Bool.true_or, Bool.false_or, if_true, if_false, Bool.false_eq_true, ↓reduceIte, ite_true, ite_false, decide_true, decide_false, Nat.reduceSub, Nat.reduceAdd, beq_self_eq_true, ix0, ix1, m1, m2, m3]
  subst e2
  rw [Nat.zero_add, List.length_map, List.take_length] at e
  have a := s14 (n := p) (by omega) (l := l) (k := 51) (by omega) h (by omega)
  have ar := s14 (n := p) (by omega) (l := l.reverse) (k := 51) (by rw [List.length_reverse]; omega) (fun r hr => h r (List.mem_reverse.mp hr)) (by omega)
  rw [qs_rev, List.map_reverse] at ar
  have zq := sum_size (k := 51) l 0 1 h sm0
  have zq' : SmQ 1000 (qs l) := zq.mono (by omega)
  have c := s21 (n := p) (by omega) zq' (t3.mono hlz) (t4.mono hlz) (by omega) (is_div t1 t2)
  have w := sameQ (n := p) (by omega) (qs l)
  generalize l.foldl st1 (0, 1) = q at *
  have c' : callN T p 21 [.d (enc (qs l)), .d (.int q.1), .d (.int q.2)] = .ok (.d (.bl true)) [] := c
  have hlm : (l.map enc).length = l.length := List.length_map _
  generalize hL : l.map enc = L at *
  have comp : ∀ (v : D), dComp [6] (iR1 (dB1 bLen 0)) (.v 6) (tests []) (dIxV 0 (dOp fSub (dOp fSub (dB1 bLen 0) (dC (.int 1))) (dVar 6))) (callN T p) [.val (.lst L), .val (.int q.1), .val (.int q.2), s, .val v, .none, .none] = .ok (.fresh L.reverse) [.val (.lst L), .val (.int q.1), .val (.int q.2), s, .val v, .none, .none] := fun v => by
    have hl' : -16777216 < (L.length : Int) ∧ (L.length : Int) < 16777216 := by omega
    have cc : compL [6] (.v 6) (tests []) (dIxV 0 (dOp fSub (dOp fSub (dB1 bLen 0) (dC (.int 1))) (dVar 6))) (callN T p) (rng 0 L.length) (wipe [.val (.lst L), .val (.int q.1), .val (.int q.2), s, .val v, .none, .none] [6]) = .ok ((rng 0 L.length).map (bk L)) [.val (.lst L), .val (.int q.1), .val (.int q.2), s, .val v, .none, .none] := by
      refine comp_of (ρ := [.val (.lst L), .val (.int q.1), .val (.int q.2), s, .val v, .none, .none]) rfl fun x hx => ?_
      obtain ⟨i, hi⟩ := List.mem_iff_getElem?.mp hx
      obtain ⟨h1, h2⟩ := rng_get hi
      have hi' : i < L.length := by omega
      rw [Int.zero_add] at h2
      subst h2
      have hx : L[L.length - 1 - i]? = some (L.getD (L.length - 1 - i) .non) := by
        rw [List.getD_eq_getElem?_getD, List.getElem?_eq_getElem (by omega)]
        rfl
      have ix := (ix_nat hx).2
      have ei : ((L.length - 1 - i : Nat) : Int) = (L.length : Int) - 1 - i := by omega
      rw [ei] at ix
      refine ⟨[.val (.lst L), .val (.int q.1), .val (.int q.2), s, .val v, .none, .val (.int i)], .d (L.getD (L.length - 1 - i) .non), [.val (.lst L), .val (.int q.1), .val (.int q.2), s, .val v, .none, .val (.int i)], rfl, ?_, (bk_nat L i).symm, rfl⟩
      simp -dsimp -implicitDefEqProofs (disch := first | assumption | omega | decide) only [RX.x_C, RX.varK_v, RX.varK_o, RX.x_Var, RX.toR_some, RX.toB_some, RX.toT_some, RX.toS_some, RX.lk_some, RX.x_Op, RX.x_Un, RX.x_tE, RX.x_tNot, RX.x_tAnd, RX.x_tOr, RX.asB_bl, RX.x_And, RX.x_Or, RX.x_Not, RX.x_If, RX.x_nil, RX.x_cons, RX.x_Tup, RX.x_Lst, RX.x_IxV, RX.x_B, RX.x_B1, RX.x_Cmp, RX.x_anil, RX.x_av, RX.x_ae, RX.x_Call, RX.x_CallK, RX.x_CallV, RX.vK_fn, RX.x_do, RX.goK_some, RX.backE_some, RX.back_ok, RX.back_exc, RX.x_Seq, RX.x_Pass, RX.x_Brk, RX.x_Cont, RX.x_Set, RX.x_Unp, RX.x_Par, RX.x_Expr, RX.x_Ret, RX.retK_v, RX.retK_o, RX.x_RetV, RX.x_RetN, RX.x_SIf, RX.x_For, RX.x_Raise, RX.itK_some, RX.rgK_some, RX.x_iE, RX.x_iR1, RX.x_forN, RX.x_forC, RX.x_Try, RX.try_ret, RX.try_next, RX.try_exc, RX.h1K_some, RX.suite_ret, RX.suite_next, RX.x_Fld, RX.fldK_some, RX.stK_some, RX.turn_next, RX.turn_cont, RX.turn_brk, RX.turn_ret, RX.end_ret, RX.end_next, RX.end_exc, RX.pk_t, RX.pk_f, RX.bnd_ok, RX.bnd_exc, RX.outK_ok, RX.outK_exc, RX.obnd_next, RX.obnd_ret, RX.obnd_brk, RX.obnd_cont, RX.obnd_exc, RX.tr_bl, RX.tr_int, RX.f_add, RX.f_sub, RX.f_mul, RX.f_div, RX.f_mod, RX.f_neg, RX.f_lt, RX.f_le, RX.f_gt, RX.f_ge, RX.f_eqI, RX.f_neI, RX.f_eqB, RX.f_isN, RX.f_isNotN, RX.look, RX.isOwn, RX.owns, RX.argOf, RX.argsOf, RX.backTo, RX.nodupN, RX.stSl, RX.stAll, RX.Tg.st, RX.Ex.frz, RX.Ex.sl, RX.finish, RX.outsOf, RX.Arg.sl, RX.D.items?, RX.D.asInt?, RX.permL, RX.D.isNon, List.getElem?_cons_zero, List.getElem?_cons_succ, List.getElem?_nil, List.set_cons_zero, List.set_cons_succ, List.map_cons, List.map_nil, List.nil_append, List.cons_append, List.replicate_succ, List.replicate_zero, List.length_cons, List.length_nil, List.contains_nil, List.contains_cons, List.isEmpty_nil, List.isEmpty_cons, List.filterMap_cons, List.filterMap_nil, Option.map_some, Option.map_none, Option.bind_some, Option.bind_none, List.any_cons, List.any_nil, RX.Arg.isOwn, Bool.not_true, Bool.not_false, Bool.true_and, Bool.false_and, Bool.and_true, Bool.and_false, Bool.or_true, Bool.or_false, Bool.true_or, Bool.false_or, if_true, if_false, Bool.false_eq_true, ↓reduceIte, ite_true, ite_false, decide_true, decide_false, Nat.reduceSub, Nat.reduceAdd, beq_self_eq_true, lenL, ix]
    have hc := x_Comp (C := callN T p) (ρ := [.val (.lst L), .val (.int q.1), .val (.int q.2), s, .val v, .none, .none]) (it := iR1 (dB1 bLen 0)) (l := rng 0 L.length) (ρ1 := [.val (.lst L), .val (.int q.1), .val (.int q.2), s, .val v, .none, .none]) (by simp -dsimp -implicitDefEqProofs (disch := first | assumption | omega | decide) only [RX.x_C, RX.varK_v, RX.varK_o, RX.x_Var, RX.toR_some, RX.toB_some, RX.toT_some, RX.toS_some, RX.lk_some, RX.x_Op, RX.x_Un, RX.x_tE, RX.x_tNot, RX.x_tAnd, RX.x_tOr, RX.asB_bl, RX.x_And, RX.x_Or, RX.x_Not, RX.x_If, RX.x_nil, RX.x_cons, RX.x_Tup, RX.x_Lst, RX.x_IxV, RX.x_B, RX.x_B1, RX.x_Cmp, RX.x_anil, RX.x_av, RX.x_ae, RX.x_Call, RX.x_CallK, RX.x_CallV, RX.vK_fn, RX.x_do, RX.goK_some, RX.backE_some, RX.back_ok, RX.back_exc, RX.x_Seq, RX.x_Pass, RX.x_Brk, RX.x_Cont, RX.x_Set, RX.x_Unp, RX.x_Par, RX.x_Expr, RX.x_Ret, RX.retK_v, RX.retK_o, RX.x_RetV, RX.x_RetN, RX.x_SIf, RX.x_For, RX.x_Raise, RX.itK_some, RX.rgK_some, RX.x_iE, RX.x_iR1, RX.x_forN, RX.x_forC, RX.x_Try, RX.try_ret, RX.try_next, RX.try_exc, RX.h1K_some, RX.suite_ret, RX.suite_next, RX.x_Fld, RX.fldK_some, RX.stK_some, RX.turn_next, RX.turn_cont, RX.turn_brk, RX.turn_ret, RX.end_ret, RX.end_next, RX.end_exc, RX.pk_t, RX.pk_f, RX.bnd_ok, RX.bnd_exc, RX.outK_ok, RX.outK_exc, RX.obnd_next, RX.obnd_ret, RX.obnd_brk, RX.obnd_cont, RX.obnd_exc, RX.tr_bl, RX.tr_int, RX.f_add, RX.f_sub, RX.f_mul, RX.f_div, RX.f_mod, RX.f_neg, RX.f_lt, RX.f_le, RX.f_gt, RX.f_ge, RX.f_eqI, RX.f_neI, RX.f_eqB, RX.f_isN, RX.f_isNotN, RX.look, RX.isOwn, RX.owns, RX.argOf, RX.argsOf, RX.backTo, RX.nodupN, RX.stSl, RX.stAll, RX.Tg.st, RX.Ex.frz, RX.Ex.sl, RX.finish, RX.outsOf, RX.Arg.sl, RX.D.items?, RX.D.asInt?, RX.permL, RX.D.isNon, List.getElem?_cons_zero, List.getElem?_cons_succ, List.getElem?_nil, List.set_cons_zero, List.set_cons_succ, List.map_cons, List.map_nil, List.nil_append, List.cons_append, List.replicate_succ, List.replicate_zero, List.length_cons, List.length_nil, List.contains_nil, List.contains_cons, List.isEmpty_nil, List.isEmpty_cons, List.filterMap_cons, List.filterMap_nil, Option.map_some, Option.map_none, Option.bind_some, Option.bind_none, List.any_cons, List.any_nil, RX.Arg.isOwn, Bool.not_true, Bool.not_false, Bool.true_and, Bool.false_and, Bool.and_true, Bool.and_false, Bool.or_true, Bool.or_false, Bool.true_or, Bool.false_or, if_true, if_false, Bool.false_eq_true, ↓reduceIte, ite_true, ite_false, decide_true, decide_false, Nat.reduceSub, Nat.reduceAdd, beq_self_eq_true, lenL, asI, hl']) (by rw [rng_len]; show _ < 16777216; omega) rfl cc
    rw [rngMap (fun i => L.getD (L.length - 1 - i) .non) (bk L) (fun i _ => bk_nat L i), rev_map] at hc
    exact hc
  rcases hs with rfl | ⟨d, rfl⟩
  · simp -dsimp -implicitDefEqProofs (disch := first | assumption | omega | decide) only [RX.x_C, RX.varK_v, RX.varK_o, RX.x_Var, RX.toR_some, RX.toB_some, RX.toT_some, RX.toS_some, RX.lk_some, RX.x_Op, RX.x_Un, RX.x_tE, RX.x_tNot, RX.x_tAnd, RX.x_tOr, RX.asB_bl, RX.x_And, RX.x_Or, RX.x_Not, RX.x_If, RX.x_nil, RX.x_cons, RX.x_Tup, RX.x_Lst, RX.x_IxV, RX.x_B, RX.x_B1, RX.x_Cmp, RX.x_anil, RX.x_av, RX.x_ae, RX.x_Call, RX.x_CallK, RX.x_CallV, RX.vK_fn, RX.x_do, RX.goK_some, RX.backE_some, RX.back_ok, RX.back_exc, RX.x_Seq, RX.x_Pass, RX.x_Brk, RX.x_Cont, RX.x_Set, RX.x_Unp, RX.x_Par, RX.x_Expr, RX.x_Ret, RX.retK_v, RX.retK_o, RX.x_RetV, RX.x_RetN, RX.x_SIf, RX.x_For, RX.x_Raise, RX.itK_some, RX.rgK_some, RX.x_iE, RX.x_iR1, RX.x_forN, RX.x_forC, RX.x_Try, RX.try_ret, RX.try_next, RX.try_exc, RX.h1K_some, RX.suite_ret, RX.suite_next, RX.x_Fld, RX.fldK_some, RX.stK_some, RX.turn_next, RX.turn_cont, RX.turn_brk, RX.turn_ret, RX.end_ret, RX.end_next, RX.end_exc, RX.pk_t, RX.pk_f, RX.bnd_ok, RX.bnd_exc, RX.outK_ok, RX.outK_exc, RX.obnd_next, RX.obnd_ret, RX.obnd_brk, RX.obnd_cont, RX.obnd_exc, RX.tr_bl, RX.tr_int, RX.f_add, RX.f_sub, RX.f_mul, RX.f_div, RX.f_mod, RX.f_neg, RX.f_lt, RX.f_le, RX.f_gt, RX.f_ge, RX.f_eqI, RX.f_neI, RX.f_eqB, RX.f_isN, RX.f_isNotN, RX.look, RX.isOwn, RX.owns, RX.argOf, RX.argsOf, RX.backTo, RX.nodupN, RX.stSl, RX.stAll, RX.Tg.st, RX.Ex.frz, RX.Ex.sl, RX.finish, RX.outsOf, RX.Arg.sl, RX.D.items?, RX.D.asInt?, RX.permL, RX.D.isNon, List.getElem?_cons_zero, List.getElem?_cons_succ, List.getElem?_nil, List.set_cons_zero, List.set_cons_succ, List.map_cons, List.map_nil, List.nil_append, List.cons_append, List.replicate_succ, List.replicate_zero, List.length_cons, List.length_nil, List.contains_nil, List.contains_cons, List.isEmpty_nil, List.isEmpty_cons, List.filterMap_cons, List.filterMap_nil, Option.map_some, Option.map_none, Option.bind_some, Option.bind_none, List.any_cons, List.any_nil, RX.Arg.isOwn, Bool.not_true, Bool.not_false, Bool.true_and, Bool.false_and, Bool.and_true, Bool.and_false, Bool.or_true, Bool.or_false, Bool.true_or, Bool.false_or, if_true, if_false, Bool.false_eq_true, ↓reduceIte, ite_true, ite_false, decide_true, decide_false, Nat.reduceSub, Nat.reduceAdd, beq_self_eq_true, itL, e, bTupL, a, comp, ar, c', w]
  · simp -dsimp -implicitDefEqProofs (disch := first | assumption | omega | decide) only [RX.x_C, RX.varK_v, RX.varK_o, RX.x_Var, RX.toR_some, RX.toB_some, RX.toT_some, RX.toS_some, RX.lk_some, RX.x_Op, RX.x_Un, RX.x_tE, RX.x_tNot, RX.x_tAnd, RX.x_tOr, RX.asB_bl, RX.x_And, RX.x_Or, RX.x_Not, RX.x_If, RX.x_nil, RX.x_cons, RX.x_Tup, RX.x_Lst, RX.x_IxV, RX.x_B, RX.x_B1, RX.x_Cmp, RX.x_anil, RX.x_av, RX.x_ae, RX.x_Call, RX.x_CallK, RX.x_CallV, RX.vK_fn, RX.x_do, RX.goK_some, RX.backE_some, RX.back_ok, RX.back_exc, RX.x_Seq, RX.x_Pass, RX.x_Brk, RX.x_Cont, RX.x_Set, RX.x_Unp, RX.x_Par, RX.x_Expr, RX.x_Ret, RX.retK_v, RX.retK_o, RX.x_RetV, RX.x_RetN, RX.x_SIf, RX.x_For, RX.x_Raise, RX.itK_some, RX.rgK_some, RX.x_iE, RX.x_iR1, RX.x_forN, RX.x_forC, RX.x_Try, RX.try_ret, RX.try_next, RX.try_exc, RX.h1K_some, RX.suite_ret, RX.suite_next, RX.x_Fld, RX.fldK_some, RX.stK_some, RX.turn_next, RX.turn_cont, RX.turn_brk, RX.turn_ret, RX.end_ret, RX.end_next, RX.end_exc, RX.pk_t, RX.pk_f, RX.bnd_ok, RX.bnd_exc, RX.outK_ok, RX.outK_exc, RX.obnd_next, RX.obnd_ret, RX.obnd_brk, RX.obnd_cont, RX.obnd_exc, RX.tr_bl, RX.tr_int, RX.f_add, RX.f_sub, RX.f_mul, RX.f_div, RX.f_mod, RX.f_neg, RX.f_lt, RX.f_le, RX.f_gt, RX.f_ge, RX.f_eqI, RX.f_neI, RX.f_eqB, RX.f_isN, RX.f_isNotN, RX.look, RX.isOwn, RX.owns, RX.argOf, RX.argsOf, RX.backTo, RX.nodupN, RX.stSl, RX.stAll, RX.Tg.st, RX.Ex.frz, RX.Ex.sl, RX.finish, RX.outsOf, RX.Arg.sl, RX.D.items?, RX.D.asInt?, RX.permL, RX.D.isNon, List.getElem?_cons_zero, List.getElem?_cons_succ, List.getElem?_nil, List.set_cons_zero, List.set_cons_succ, List.map_cons, List.map_nil, List.nil_append, List.cons_append, List.replicate_succ, List.replicate_zero, List.length_cons, List.length_nil, List.contains_nil, List.contains_cons, List.isEmpty_nil, List.isEmpty_cons, List.filterMap_cons, List.filterMap_nil, Option.map_some, Option.map_none, Option.bind_some, Option.bind_none, List.any_cons, List.any_nil, RX.Arg.isOwn, Bool.not_true, Bool.not_false, Bool.true_and, Bool.false_and, Bool.and_true, Bool.and_false, Bool.or_true, Bool.or_false, Bool.true_or, Bool.false_or, if_true, if_false, Bool.false_eq_true, ↓reduceIte, ite_true, ite_false, decide_true, decide_false, Nat.reduceSub, Nat.reduceAdd, beq_self_eq_true, itL, e, bTupL, a, comp, ar, c', w]
end K01
set_option Elab.async false
set_option linter.all false
set_option maxRecDepth 100000
set_option maxHeartbeats 4000000
namespace K01
open PySem RX MQ
/-! the feed made of a script -/
abbrev NV (s : Sl) : Prop := s = .none ∨ ∃ d, s = .val d
theorem app2 {C : Calls} {a : Den} {y : D} {l : List D} {s0 s1 s3 s4 s5 : Sl} (h : a C [s0, s1, .own l, s3, s4, s5] = .ok (.d y) [s0, s1, .own l, s3, s4, s5]) (hl : l.length < LIM) : sApp 2 a C [s0, s1, .own l, s3, s4, s5] = .next [s0, s1, .own (l ++ [y]), s3, s4, s5] := by
  unfold sApp
  show (a C [s0, s1, .own l, s3, s4, s5]).out _ = _
  rw [h]
  show (if l.length < LIM then Out.next ([s0, s1, .own l, s3, s4, s5].set 2 (.own (l ++ [y]))) else .stuck) = _
  rw [if_pos hl]
  rfl
theorem cat1 {a : D} {l : List D} (h : l.length + 1 ≤ LIM) : fAdd (.lst [a]) (.lst l) = some (.fresh (a :: l)) := by
  show (if [a].length + l.length ≤ LIM then some (Ex.fresh ([a] ++ l)) else none) = _
  rw [if_pos (by rw [List.length_singleton]; omega)]
  rfl
theorem scrT {l : List Int} : (D.scr l).items? = some (l.map .int) := rfl
theorem dmap (ds : List Int) (x : Int) : ds.map D.int ++ [.int x] = (ds ++ [x]).map D.int := by rw [List.map_append]; rfl
theorem s15 {n : Nat} (hn : 1 ≤ n) {ns : List Int} (hl : ns.length ≤ 63) : ∃ f : Fd, callN T n 15 [.d (.scr ns)] = .ok (.fresh f.l) [] := by
  obtain ⟨p, rfl, hp⟩ := up hn
  have hM : MM = 2147483587 := rfl
  obtain ⟨ρ', e, st, ds, s3, s4, s5, e2, lo, hi, hds, h3, h4, h5⟩ := for_inv (C := callN T p) (tg := .v 3) (A := sSeq (sSet 1 (dOp fMod (dOp fAdd (dOp fMul (dVar 1) (dC (.int 40503))) (dVar 3)) (dC (.int 2147483587)))) (sSeq (sSet 4 (dB1 bAbs 3)) (sIf (tCmpB fGe (dVar 4) (dOp fPow (dC (.int 10)) (dC (.int 18)))) (sFor (.v 5) (iR1 (dC (.int 60))) (sIf (tCmpB fGt (dVar 4) (dC (.int 0))) (sSeq (sApp 2 (dOp fMod (dVar 4) (dC (.int 100003)))) (sSet 4 (dOp fDiv (dVar 4) (dC (.int 100003))))) sPass)) sPass)))
    (l := ns.map .int) (k := 0) (ρ := [.val (.scr ns), .val (.int 390217), .own [], .none, .none, .none])
    (fun i ρ => ∃ (st : Int) (ds : List Int) (s3 s4 s5 : Sl), ρ = [.val (.scr ns), .val (.int st), .own (ds.map .int), s3, s4, s5] ∧ 0 ≤ st ∧ st < MM ∧ ds.length ≤ 60 * i ∧ NV s3 ∧ NV s4 ∧ NV s5)
    ⟨390217, [], .none, .none, .none, rfl, by decide, by decide, Nat.le_refl _, .inl rfl, .inl rfl, .inl rfl⟩ fun i x ρ hx ⟨st, ds, s3, s4, s5, e, lo, hi, hds, h3, h4, h5⟩ => by
      subst e
      rw [Nat.zero_add] at hds ⊢
      rw [List.getElem?_map] at hx
      cases er : ns[i]? with
      | none => rw [er] at hx; cases hx
      | some c =>
        rw [er] at hx
        cases hx
        have hi63 : i < 63 := by have := (List.getElem?_eq_some_iff.mp er).1; omega
        have m1 : mulOk st 40503 = true := mk (k := 31) (m := 16) (by unfold Sm; omega) (by show (40503 : Int).natAbs < 2 ^ 16; decide) (by omega)
        have n1 : (2147483587 : Int) ≠ 0 := by decide
        have P18 : fPow (.int 10) (.int 18) = some (.d (.int 1000000000000000000)) := rfl
        have lo' : 0 ≤ (st * 40503 + c).fmod 2147483587 := Int.fmod_nonneg_of_pos _ (by decide)
        have hi' : (st * 40503 + c).fmod 2147483587 < MM := Int.fmod_lt_of_pos _ (by decide)
        generalize hst : (st * 40503 + c).fmod 2147483587 = st' at *
        refine ⟨[.val (.scr ns), .val (.int st), .own (ds.map .int), .val (.int c), s4, s5], ?_⟩
        have t3 : (Tg.v 3).st [.val (.scr ns), .val (.int st), .own (ds.map .int), s3, s4, s5] (.int c) = some [.val (.scr ns), .val (.int st), .own (ds.map .int), .val (.int c), s4, s5] := by
          rcases h3 with rfl | ⟨d, rfl⟩ <;> rfl
        by_cases hb : (1000000000000000000 : Int) ≤ c.natAbs
        · have hb' := decide_eq_true hb
          obtain ⟨ρ'', e', ds', r', k', e2', hd', hk'⟩ := for_rng (C := callN T p) (tg := .v 5) (A := sIf (tCmpB fGt (dVar 4) (dC (.int 0))) (sSeq (sApp 2 (dOp fMod (dVar 4) (dC (.int 100003)))) (sSet 4 (dOp fDiv (dVar 4) (dC (.int 100003))))) sPass)
            (ρ := [.val (.scr ns), .val (.int st'), .own (ds.map .int), .val (.int c), .val (.int c.natAbs), s5]) (fun j ρ => ∃ (ds' : List Int) (r : Int) (k : Sl), ρ = [.val (.scr ns), .val (.int st'), .own (ds'.map .int), .val (.int c), .val (.int r), k] ∧ ds'.length ≤ 60 * i + j ∧ NV k) (n := 60)
            ⟨ds, c.natAbs, s5, rfl, hds, h5⟩ fun j ρ hj ⟨ds', r, k, e, hd, hk⟩ => by
              subst e
              have t5 : (Tg.v 5).st [.val (.scr ns), .val (.int st'), .own (ds'.map .int), .val (.int c), .val (.int r), k] (.int (j : Int)) = some [.val (.scr ns), .val (.int st'), .own (ds'.map .int), .val (.int c), .val (.int r), .val (.int j)] := by
                rcases hk with rfl | ⟨d, rfl⟩ <;> rfl
              have n2 : (100003 : Int) ≠ 0 := by decide
              have d2 : divOk 100003 = true := by decide
              refine ⟨[.val (.scr ns), .val (.int st'), .own (ds'.map .int), .val (.int c), .val (.int r), .val (.int j)], ?_⟩
              by_cases hr : (0 : Int) < r
              · refine ⟨[.val (.scr ns), .val (.int st'), .own ((ds' ++ [r.fmod 100003]).map .int), .val (.int c), .val (.int (r.fdiv 100003)), .val (.int j)], t5, .inl ?_, _, _, _, rfl, ?_, .inr ⟨_, rfl⟩⟩
                · have hr' := decide_eq_true hr
                  have ap := app2 (C := callN T p) (a := dOp fMod (dVar 4) (dC (.int 100003))) (y := .int (r.fmod 100003)) (l := ds'.map .int) (s0 := .val (.scr ns)) (s1 := .val (.int st')) (s3 := .val (.int c)) (s4 := .val (.int r)) (s5 := .val (.int j)) (by simp -dsimp -implicitDefEqProofs (disch := first | assumption | omega | decide) only [RX.x_C, RX.varK_v, RX.varK_o, RX.x_Var, RX.toR_some, RX.toB_some, RX.toT_some, RX.toS_some, RX.lk_some, RX.x_Op, RX.x_Un, RX.x_tE, RX.x_tNot, RX.x_tAnd, RX.x_tOr, RX.asB_bl, RX.x_And, RX.x_Or, RX.x_Not, RX.x_If, RX.x_nil, RX.x_cons, RX.x_Tup, RX.x_Lst, RX.x_IxV, RX.x_B, RX.x_B1, RX.x_Cmp, RX.x_anil, RX.x_av, RX.x_ae, RX.x_Call, RX.x_CallK, RX.x_CallV, RX.vK_fn, RX.x_do, RX.goK_some, RX.backE_some, RX.back_ok, RX.back_exc, RX.x_Seq, RX.x_Pass, RX.x_Brk, RX.x_Cont, RX.x_Set, RX.x_Unp, RX.x_Par, RX.x_Expr, RX.x_Ret, RX.retK_v, RX.retK_o, RX.x_RetV, RX.x_RetN, RX.x_SIf, RX.x_For, RX.x_Raise, RX.itK_some, RX.rgK_some, RX.x_iE, RX.x_iR1, RX.x_forN, RX.x_forC, RX.x_Try, RX.try_ret, RX.try_next, RX.try_exc, RX.h1K_some, RX.suite_ret, RX.suite_next, RX.x_Fld, RX.fldK_some, RX.stK_some, RX.turn_next, RX.turn_cont, RX.turn_brk, RX.turn_ret, RX.end_ret, RX.end_next, RX.end_exc, RX.pk_t, RX.pk_f, RX.bnd_ok, RX.bnd_exc, RX.outK_ok, RX.outK_exc, RX.obnd_next, RX.obnd_ret, RX.obnd_brk, RX.obnd_cont, RX.obnd_exc, RX.tr_bl, RX.tr_int, RX.f_add, RX.f_sub, RX.f_mul, RX.f_div, RX.f_mod, RX.f_neg, RX.f_lt, RX.f_le, RX.f_gt, RX.f_ge, RX.f_eqI, RX.f_neI, RX.f_eqB, RX.f_isN, RX.f_isNotN, RX.look, RX.isOwn, RX.owns, RX.argOf, RX.argsOf, RX.backTo, RX.nodupN, RX.stSl, RX.stAll, RX.Tg.st, RX.Ex.frz, RX.Ex.sl, RX.finish, RX.outsOf, RX.Arg.sl, RX.D.items?, RX.D.asInt?, RX.permL, RX.D.isNon, List.getElem?_cons_zero, List.getElem?_cons_succ, List.getElem?_nil, List.set_cons_zero, List.set_cons_succ, List.map_cons, List.map_nil, List.nil_append, List.cons_append, List.replicate_succ, List.replicate_zero, List.length_cons, List.length_nil, List.contains_nil, List.contains_cons, List.isEmpty_nil, List.isEmpty_cons, List.filterMap_cons, List.filterMap_nil, Option.map_some, Option.map_none, Option.bind_some, Option.bind_none, List.any_cons, List.any_nil, RX.Arg.isOwn, Bool.not_true, Bool.not_false, Bool.true_and, Bool.false_and, Bool.and_true, Bool.and_false, Bool.or_true, Bool.or_false, Bool.true_or, Bool.false_or, if_true, if_false, Bool.false_eq_true, ↓reduceIte, ite_true, ite_false, decide_true, decide_false, Nat.reduceSub, Nat.reduceAdd, beq_self_eq_true, n2]) (by rw [List.length_map]; show ds'.length < 16777216; omega)
                  rw [dmap] at ap
                  simp -dsimp -implicitDefEqProofs (disch := first | assumption | omega | decide) only [RX.x_C, RX.varK_v, RX.varK_o, RX.x_Var, RX.toR_some, RX.toB_some, RX.toT_some, RX.toS_some, RX.lk_some, RX.x_Op, RX.x_Un, RX.x_tE, RX.x_tNot, RX.x_tAnd, RX.x_tOr, RX.asB_bl, RX.x_And, RX.x_Or, RX.x_Not, RX.x_If, RX.x_nil, RX.x_cons, RX.x_Tup, RX.x_Lst, RX.x_IxV, RX.x_B, RX.x_B1, RX.x_Cmp, RX.x_anil, RX.x_av, RX.x_ae, RX.x_Call, RX.x_CallK, RX.x_CallV, RX.vK_fn, RX.x_do, RX.goK_some, RX.backE_some, RX.back_ok, RX.back_exc, RX.x_Seq, RX.x_Pass, RX.x_Brk, RX.x_Cont, RX.x_Set, RX.x_Unp, RX.x_Par, RX.x_Expr, RX.x_Ret, RX.retK_v, RX.retK_o, RX.x_RetV, RX.x_RetN, RX.x_SIf, RX.x_For, RX.x_Raise, RX.itK_some, RX.rgK_some, RX.x_iE, RX.x_iR1, RX.x_forN, RX.x_forC, RX.x_Try, RX.try_ret, RX.try_next, RX.try_exc, RX.h1K_some, RX.suite_ret, RX.suite_next, RX.x_Fld, RX.fldK_some, RX.stK_some, RX.turn_next, RX.turn_cont, RX.turn_brk, RX.turn_ret, RX.end_ret, RX.end_next, RX.end_exc, RX.pk_t, RX.pk_f, RX.bnd_ok, RX.bnd_exc, RX.outK_ok, RX.outK_exc, RX.obnd_next, RX.obnd_ret, RX.obnd_brk, RX.obnd_cont, RX.obnd_exc, RX.tr_bl, RX.tr_int, RX.f_add, RX.f_sub, RX.f_mul, RX.f_div, RX.f_mod, RX.f_neg, RX.f_lt, RX.f_le, RX.f_gt, RX.f_ge, RX.f_eqI, RX.f_neI, RX.f_eqB, RX.f_isN, RX.f_isNotN, RX.look, RX.isOwn, RX.owns, RX.argOf, RX.argsOf, RX.backTo, RX.nodupN, RX.stSl, RX.stAll, RX.Tg.st, RX.Ex.frz, RX.Ex.sl, RX.finish, RX.outsOf, RX.Arg.sl, RX.D.items?, RX.D.asInt?, RX.permL, RX.D.isNon, List.getElem?_cons_zero, List.getElem?_cons_succ, List.getElem?_nil, List.set_cons_zero, List.set_cons_succ, List.map_cons, List.map_nil, List.nil_append, List.cons_append, List.replicate_succ, List.replicate_zero, List.length_cons, List.length_nil, List.contains_nil, List.contains_cons, List.isEmpty_nil, List.isEmpty_cons, List.filterMap_cons, List.filterMap_nil, Option.map_some, Option.map_none, Option.bind_some, Option.bind_none, List.any_cons, List.any_nil, RX.Arg.isOwn, Bool.not_true, Bool.not_false, Bool.true_and, Bool.false_and, Bool.and_true, Bool.and_false, Bool.or_true, Bool.or_false, Bool.true_or, Bool.false_or, if_true, if_false, Bool.false_eq_true, ↓reduceIte, ite_true, ite_false, decide_true, decide_false, Nat.reduceSub, Nat.reduceAdd, beq_self_eq_true, hr', ap, d2]
                · rw [List.length_append, List.length_singleton]; omega
              · refine ⟨[.val (.scr ns), .val (.int st'), .own (ds'.map .int), .val (.int c), .val (.int r), .val (.int j)], t5, .inl ?_, _, _, _, rfl, by omega, .inr ⟨_, rfl⟩⟩
                have hr' := decide_eq_false hr
                simp -dsimp -implicitDefEqProofs (disch := first | assumption | omega | decide) only [RX.x_C, RX.varK_v, RX.varK_o, RX.x_Var, RX.toR_some, RX.toB_some, RX.toT_some, RX.toS_some, RX.lk_some, RX.x_Op, RX.x_Un, RX.x_tE, RX.x_tNot, RX.x_tAnd, RX.x_tOr, RX.asB_bl, RX.x_And, RX.x_Or, RX.x_Not, RX.x_If, RX.x_nil, RX.x_cons, RX.x_Tup, RX.x_Lst, RX.x_IxV, RX.x_B, RX.x_B1, RX.x_Cmp, RX.x_anil, RX.x_av, RX.x_ae, RX.x_Call, RX.x_CallK, RX.x_CallV, RX.vK_fn, RX.x_do, RX.goK_some, RX.backE_some, RX.back_ok, RX.back_exc, RX.x_Seq, RX.x_Pass, RX.x_Brk, RX.x_Cont, RX.x_Set, RX.x_Unp, RX.x_Par, RX.x_Expr, RX.x_Ret, RX.retK_v, RX.retK_o, RX.x_RetV, RX.x_RetN, RX.x_SIf, RX.x_For, RX.x_Raise, RX.itK_some, RX.rgK_some, RX.x_iE, RX.x_iR1, RX.x_forN, RX.x_forC, RX.x_Try, RX.try_ret, RX.try_next, RX.try_exc, RX.h1K_some, RX.suite_ret, RX.suite_next, RX.x_Fld, RX.fldK_some, RX.stK_some, RX.turn_next, RX.turn_cont, RX.turn_brk, RX.turn_ret, RX.end_ret, RX.end_next, RX.end_exc, RX.pk_t, RX.pk_f, RX.bnd_ok, RX.bnd_exc, RX.outK_ok, RX.outK_exc, RX.obnd_next, RX.obnd_ret, RX.obnd_brk, RX.obnd_cont, RX.obnd_exc, RX.tr_bl, RX.tr_int, RX.f_add, RX.f_sub, RX.f_mul, RX.f_div, RX.f_mod, RX.f_neg, RX.f_lt, RX.f_le, RX.f_gt, RX.f_ge, RX.f_eqI, RX.f_neI, RX.f_eqB, RX.f_isN, RX.f_isNotN, RX.look, RX.isOwn, RX.owns, RX.argOf, RX.argsOf, RX.backTo, RX.nodupN, RX.stSl, RX.stAll, RX.Tg.st, RX.Ex.frz, RX.Ex.sl, RX.finish, RX.outsOf, RX.Arg.sl, RX.D.items?, RX.D.asInt?, RX.permL, RX.D.isNon, List.getElem?_cons_zero, List.getElem?_cons_succ, List.getElem?_nil, List.set_cons_zero, List.set_cons_succ, List.map_cons, List.map_nil, List.nil_append, List.cons_append, List.replicate_succ, List.replicate_zero, List.length_cons, List.length_nil, List.contains_nil, List.contains_cons, List.isEmpty_nil, List.isEmpty_cons, List.filterMap_cons, List.filterMap_nil, Option.map_some, Option.map_none, Option.bind_some, Option.bind_none, List.any_cons, List.any_nil, RX.Arg.isOwn, Bool.not_true, Bool.not_false, Bool.true_and, Bool.false_and, Bool.and_true, Bool.and_false, Bool.or_true, Bool.or_false, Bool.true_or, Bool.false_or, if_true, if_false, Bool.false_eq_true, ↓reduceIte, ite_true, ite_false, decide_true, decide_false, Nat.reduceSub, Nat.reduceAdd, beq_self_eq_true, hr']
          subst e2'
          have h60 : -16777216 < (60 : Int) ∧ (60 : Int) < 16777216 := by omega
          have e'' : forL (.v 5) (sIf (tCmpB fGt (dVar 4) (dC (.int 0))) (sSeq (sApp 2 (dOp fMod (dVar 4) (dC (.int 100003)))) (sSet 4 (dOp fDiv (dVar 4) (dC (.int 100003))))) sPass) (callN T p) (rng 0 60) [.val (.scr ns), .val (.int st'), .own (ds.map .int), .val (.int c), .val (.int c.natAbs), s5] = .next [.val (.scr ns), .val (.int st'), .own (ds'.map .int), .val (.int c), .val (.int r'), k'] := e'
          refine ⟨[.val (.scr ns), .val (.int st'), .own (ds'.map .int), .val (.int c), .val (.int r'), k'], t3, .inl ?_, st', ds', _, _, _, rfl, lo', hi', by omega, .inr ⟨_, rfl⟩, .inr ⟨_, rfl⟩, hk'⟩
          rcases h4 with rfl | ⟨d, rfl⟩
          · simp -dsimp -implicitDefEqProofs (disch := first | assumption | omega | decide) only [RX.x_C, RX.varK_v, RX.varK_o, RX.x_Var, RX.toR_some, RX.toB_some, RX.toT_some, RX.toS_some, RX.lk_some, RX.x_Op, RX.x_Un, RX.x_tE, RX.x_tNot, RX.x_tAnd, RX.x_tOr, RX.asB_bl, RX.x_And, RX.x_Or, RX.x_Not, RX.x_If, RX.x_nil, RX.x_cons, RX.x_Tup, RX.x_Lst, RX.x_IxV, RX.x_B, RX.x_B1, RX.x_Cmp, RX.x_anil, RX.x_av, RX.x_ae, RX.x_Call, RX.x_CallK, RX.x_CallV, RX.vK_fn, RX.x_do, RX.goK_some, RX.backE_some, RX.back_ok, RX.back_exc, RX.x_Seq, RX.x_Pass, RX.x_Brk, RX.x_Cont, RX.x_Set, RX.x_Unp, RX.x_Par, RX.x_Expr, RX.x_Ret, RX.retK_v, RX.retK_o, RX.x_RetV, RX.x_RetN, RX.x_SIf, RX.x_For, RX.x_Raise, RX.itK_some, RX.rgK_some, RX.x_iE, RX.x_iR1, RX.x_forN, RX.x_forC, RX.x_Try, RX.try_ret, RX.try_next, RX.try_exc, RX.h1K_some, RX.suite_ret, RX.suite_next, RX.x_Fld, RX.fldK_some, RX.stK_some, RX.turn_next, RX.turn_cont, RX.turn_brk, RX.turn_ret, RX.end_ret, RX.end_next, RX.end_exc, RX.pk_t, RX.pk_f, RX.bnd_ok, RX.bnd_exc, RX.outK_ok, RX.outK_exc, RX.obnd_next, RX.obnd_ret, RX.obnd_brk, RX.obnd_cont, RX.obnd_exc, RX.tr_bl, RX.tr_int, RX.f_add, RX.f_sub, RX.f_mul, RX.f_div, RX.f_mod, RX.f_neg, RX.f_lt, RX.f_le, RX.f_gt, RX.f_ge, RX.f_eqI, RX.f_neI, RX.f_eqB, RX.f_isN, RX.f_isNotN, RX.look, RX.isOwn, RX.owns, RX.argOf, RX.argsOf, RX.backTo, RX.nodupN, RX.stSl, RX.stAll, RX.Tg.st, RX.Ex.frz, RX.Ex.sl, RX.finish, RX.outsOf, RX.Arg.sl, RX.D.items?, RX.D.asInt?, RX.permL, RX.D.isNon, List.getElem?_cons_zero, List.getElem?_cons_succ, List.getElem?_nil, List.set_cons_zero, List.set_cons_succ, List.map_cons, List.map_nil, List.nil_append, List.cons_append, List.replicate_succ, List.replicate_zero, List.length_cons, List.length_nil, List.contains_nil, List.contains_cons, List.isEmpty_nil, List.isEmpty_cons, List.filterMap_cons, List.filterMap_nil, Option.map_some, Option.map_none, Option.bind_some, Option.bind_none, List.any_cons, List.any_nil, RX.Arg.isOwn, Bool.not_true, Bool.not_false, Bool.true_and, Bool.false_and, Bool.and_true, Bool.and_false, Bool.or_true, Bool.or_false, Bool.true_or, Bool.false_or, if_true, if_false, Bool.false_eq_true, ↓reduceIte, ite_true, ite_false, decide_true, decide_false, Nat.reduceSub, Nat.reduceAdd, beq_self_eq_true, m1, n1, hst, absI, P18, hb', asI, h60, e'']
          · simp -dsimp -implicitDefEqProofs (disch := first | assumption | omega | decide) only [RX.x_C, RX.varK_v, RX.varK_o, RX.x_Var, RX.toR_some, RX.toB_some, RX.toT_some, RX.toS_some, RX.lk_some, RX.x_Op, RX.x_Un, RX.x_tE, RX.x_tNot, RX.x_tAnd, RX.x_tOr, RX.asB_bl, RX.x_And, RX.x_Or, RX.x_Not, RX.x_If, RX.x_nil, RX.x_cons, RX.x_Tup, RX.x_Lst, RX.x_IxV, RX.x_B, RX.x_B1, RX.x_Cmp, RX.x_anil, RX.x_av, RX.x_ae, RX.x_Call, RX.x_CallK, RX.x_CallV, RX.vK_fn, RX.x_do, RX.goK_some, RX.backE_some, RX.back_ok, RX.back_exc, RX.x_Seq, RX.x_Pass, RX.x_Brk, RX.x_Cont, RX.x_Set, RX.x_Unp, RX.x_Par, RX.x_Expr, RX.x_Ret, RX.retK_v, RX.retK_o, RX.x_RetV, RX.x_RetN, RX.x_SIf, RX.x_For, RX.x_Raise, RX.itK_some, RX.rgK_some, RX.x_iE, RX.x_iR1, RX.x_forN, RX.x_forC, RX.x_Try, RX.try_ret, RX.try_next, RX.try_exc, RX.h1K_some, RX.suite_ret, RX.suite_next, RX.x_Fld, RX.fldK_some, RX.stK_some, RX.turn_next, RX.turn_cont, RX.turn_brk, RX.turn_ret, RX.end_ret, RX.end_next, RX.end_exc, RX.pk_t, RX.pk_f, RX.bnd_ok, RX.bnd_exc, RX.outK_ok, RX.outK_exc, RX.obnd_next, RX.obnd_ret, RX.obnd_brk, RX.obnd_cont, RX.obnd_exc, RX.tr_bl, RX.tr_int, RX.f_add, RX.f_sub, RX.f_mul, RX.f_div, RX.f_mod, RX.f_neg, RX.f_lt, RX.f_le, RX.f_gt, RX.f_ge, RX.f_eqI, RX.f_neI, RX.f_eqB, RX.f_isN, RX.f_isNotN, RX.look, RX.isOwn, RX.owns, RX.argOf, RX.argsOf, RX.backTo, RX.nodupN, RX.stSl, RX.stAll, RX.Tg.st, RX.Ex.frz, RX.Ex.sl, RX.finish, RX.outsOf, RX.Arg.sl, RX.D.items?, RX.D.asInt?, RX.permL, RX.D.isNon, List.getElem?_cons_zero, List.getElem?_cons_succ, List.getElem?_nil, List.set_cons_zero, List.set_cons_succ, List.map_cons, List.map_nil, List.nil_append, List.cons_append, List.replicate_succ, List.replicate_zero, List.length_cons, List.length_nil, List.contains_nil, List.contains_cons, List.isEmpty_nil, List.isEmpty_cons, List.filterMap_cons, List.filterMap_nil, Option.map_some, Option.map_none, Option.bind_some, Option.bind_none, List.any_cons, List.any_nil, RX.Arg.isOwn, Bool.not_true, Bool.not_false, Bool.true_and, Bool.false_and, Bool.and_true, Bool.and_false, Bool.or_true, Bool.or_false, Bool.true_or, Bool.false_or, if_true, if_false, Bool.false_eq_true, ↓reduceIte, ite_true, ite_false, decide_true, decide_false, Nat.reduceSub, Nat.reduceAdd, beq_self_eq_true, m1, n1, hst, absI, P18, hb', asI, h60, e'']
        · have hb' := decide_eq_false hb
          refine ⟨[.val (.scr ns), .val (.int st'), .own (ds.map .int), .val (.int c), .val (.int c.natAbs), s5], t3, .inl ?_, st', ds, _, _, _, rfl, lo', hi', by omega, .inr ⟨_, rfl⟩, .inr ⟨_, rfl⟩, h5⟩
          rcases h4 with rfl | ⟨d, rfl⟩
          · simp -dsimp -implicitDefEqProofs (disch := first | assumption | omega | decide) only [RX.x_C, RX.varK_v, RX.varK_o, RX.x_Var, RX.toR_some, RX.toB_some, RX.toT_some, RX.toS_some, RX.lk_some, RX.x_Op, RX.x_Un, RX.x_tE, RX.x_tNot, RX.x_tAnd, RX.x_tOr, RX.asB_bl, RX.x_And, RX.x_Or, RX.x_Not, RX.x_If, RX.x_nil, RX.x_cons, RX.x_Tup, RX.x_Lst, RX.x_IxV, RX.x_B, RX.x_B1, RX.x_Cmp, RX.x_anil, RX.x_av, RX.x_ae, RX.x_Call, RX.x_CallK, RX.x_CallV, RX.vK_fn, RX.x_do, RX.goK_some, RX.backE_some, RX.back_ok, RX.back_exc, RX.x_Seq, RX.x_Pass, RX.x_Brk, RX.x_Cont, RX.x_Set, RX.x_Unp, RX.x_Par, RX.x_Expr, RX.x_Ret, RX.retK_v, RX.retK_o, RX.x_RetV, RX.x_RetN, RX.x_SIf, RX.x_For, RX.x_Raise, RX.itK_some, RX.rgK_some, RX.x_iE, RX.x_iR1, RX.x_forN, RX.x_forC, RX.x_Try, RX.try_ret, RX.try_next, RX.try_exc, RX.h1K_some, RX.suite_ret, RX.suite_next, RX.x_Fld, RX.fldK_some, RX.stK_some, RX.turn_next, RX.turn_cont, RX.turn_brk, RX.turn_ret, RX.end_ret, RX.end_next, RX.end_exc, RX.pk_t, RX.pk_f, RX.bnd_ok, RX.bnd_exc, RX.outK_ok, RX.outK_exc, RX.obnd_next, RX.obnd_ret, RX.obnd_brk, RX.obnd_cont, RX.obnd_exc, RX.tr_bl, RX.tr_int, RX.f_add, RX.f_sub, RX.f_mul, RX.f_div, RX.f_mod, RX.f_neg, RX.f_lt, RX.f_le, RX.f_gt, RX.f_ge, RX.f_eqI, RX.f_neI, RX.f_eqB, RX.f_isN, RX.f_isNotN, RX.look, RX.isOwn, RX.owns, RX.argOf, RX.argsOf, RX.backTo, RX.nodupN, RX.stSl, RX.stAll, RX.Tg.st, RX.Ex.frz, RX.Ex.sl, RX.finish, RX.outsOf, RX.Arg.sl, RX.D.items?, RX.D.asInt?, RX.permL, RX.D.isNon, List.getElem?_cons_zero, List.getElem?_cons_succ, List.getElem?_nil, List.set_cons_zero, List.set_cons_succ, List.map_cons, List.map_nil, List.nil_append, List.cons_append, List.replicate_succ, List.replicate_zero, List.length_cons, List.length_nil, List.contains_nil, List.contains_cons, List.isEmpty_nil, List.isEmpty_cons, List.filterMap_cons, List.filterMap_nil, Option.map_some, Option.map_none, Option.bind_some, Option.bind_none, List.any_cons, List.any_nil, RX.Arg.isOwn, Bool.not_true, Bool.not_false, Bool.true_and, Bool.false_and, Bool.and_true, Bool.and_false, Bool.or_true, Bool.or_false, Bool.true_or, Bool.false_or, if_true, if_false, Bool.false_eq_true, ↓reduceIte, ite_true, ite_false, decide_true, decide_false, Nat.reduceSub, Nat.reduceAdd, beq_self_eq_true, m1, n1, hst, absI, P18, hb']
          · simp -dsimp -implicitDefEqProofs (disch := first | assumption | omega | decide) only [RX.x_C, RX.varK_v, RX.varK_o, RX.x_Var, RX.toR_some, RX.toB_some, RX.toT_some, RX.toS_some, RX.lk_some, RX.x_Op, RX.x_Un, RX.x_tE, RX.x_tNot, RX.x_tAnd, RX.x_tOr, RX.asB_bl, RX.x_And, RX.x_Or, RX.x_Not, RX.x_If, RX.x_nil, RX.x_cons, RX.x_Tup, RX.x_Lst, RX.x_IxV, RX.x_B, RX.x_B1, RX.x_Cmp, RX.x_anil, RX.x_av, RX.x_ae, RX.x_Call, RX.x_CallK, RX.x_CallV, RX.vK_fn, RX.x_do, RX.goK_some, RX.backE_some, RX.back_ok, RX.back_exc, RX.x_Seq, RX.x_Pass, RX.x_Brk, RX.x_Cont, RX.x_Set, RX.x_Unp, RX.x_Par, RX.x_Expr, RX.x_Ret, RX.retK_v, RX.retK_o, RX.x_RetV, RX.x_RetN, RX.x_SIf, RX.x_For, RX.x_Raise, RX.itK_some, RX.rgK_some, RX.x_iE, RX.x_iR1, RX.x_forN, RX.x_forC, RX.x_Try, RX.try_ret, RX.try_next, RX.try_exc, RX.h1K_some, RX.suite_ret, RX.suite_next, RX.x_Fld, RX.fldK_some, RX.stK_some, RX.turn_next, RX.turn_cont, RX.turn_brk, RX.turn_ret, RX.end_ret, RX.end_next, RX.end_exc, RX.pk_t, RX.pk_f, RX.bnd_ok, RX.bnd_exc, RX.outK_ok, RX.outK_exc, RX.obnd_next, RX.obnd_ret, RX.obnd_brk, RX.obnd_cont, RX.obnd_exc, RX.tr_bl, RX.tr_int, RX.f_add, RX.f_sub, RX.f_mul, RX.f_div, RX.f_mod, RX.f_neg, RX.f_lt, RX.f_le, RX.f_gt, RX.f_ge, RX.f_eqI, RX.f_neI, RX.f_eqB, RX.f_isN, RX.f_isNotN, RX.look, RX.isOwn, RX.owns, RX.argOf, RX.argsOf, RX.backTo, RX.nodupN, RX.stSl, RX.stAll, RX.Tg.st, RX.Ex.frz, RX.Ex.sl, RX.finish, RX.outsOf, RX.Arg.sl, RX.D.items?, RX.D.asInt?, RX.permL, RX.D.isNon, List.getElem?_cons_zero, List.getElem?_cons_succ, List.getElem?_nil, List.set_cons_zero, List.set_cons_succ, List.map_cons, List.map_nil, List.nil_append, List.cons_append, List.replicate_succ, List.replicate_zero, List.length_cons, List.length_nil, List.contains_nil, List.contains_cons, List.isEmpty_nil, List.isEmpty_cons, List.filterMap_cons, List.filterMap_nil, Option.map_some, Option.map_none, Option.bind_some, Option.bind_none, List.any_cons, List.any_nil, RX.Arg.isOwn, Bool.not_true, Bool.not_false, Bool.true_and, Bool.false_and, Bool.and_true, Bool.and_false, Bool.or_true, Bool.or_false, Bool.true_or, Bool.false_or, if_true, if_false, Bool.false_eq_true, ↓reduceIte, ite_true, ite_false, decide_true, decide_false, Nat.reduceSub, Nat.reduceAdd, beq_self_eq_true, m1, n1, hst, absI, P18, hb']
  subst e2
  rw [Nat.zero_add, List.length_map] at hds
  have hdl : ds.length ≤ 3780 := by omega
  generalize hL : ds.map D.int = L at *
  have hLl : L.length = ds.length := by rw [← hL, List.length_map]
  have cc : compL [5] (.v 5) (tests []) (dIxV 2 (dOp fSub (dOp fSub (dB1 bLen 2) (dC (.int 1))) (dVar 5))) (callN T p) (rng 0 L.length) (wipe [.val (.scr ns), .val (.int st), .own L, s3, s4, s5] [5]) = .ok ((rng 0 L.length).map (bk L)) [.val (.scr ns), .val (.int st), .own L, s3, s4, .none] := by
    refine comp_of (ρ := [.val (.scr ns), .val (.int st), .own L, s3, s4, .none]) rfl fun x hx => ?_
    obtain ⟨i, hi⟩ := List.mem_iff_getElem?.mp hx
    obtain ⟨h1, h2⟩ := rng_get hi
    have hi' : i < L.length := by omega
    rw [Int.zero_add] at h2
    subst h2
    have hx : L[L.length - 1 - i]? = some (L.getD (L.length - 1 - i) .non) := by
      rw [List.getD_eq_getElem?_getD, List.getElem?_eq_getElem (by omega)]
      rfl
    have ix := (ix_nat hx).2
    have ei : ((L.length - 1 - i : Nat) : Int) = (L.length : Int) - 1 - i := by omega
    rw [ei] at ix
    refine ⟨[.val (.scr ns), .val (.int st), .own L, s3, s4, .val (.int i)], .d (L.getD (L.length - 1 - i) .non), [.val (.scr ns), .val (.int st), .own L, s3, s4, .val (.int i)], rfl, ?_, (bk_nat L i).symm, rfl⟩
    simp -dsimp -implicitDefEqProofs (disch := first | assumption | omega | decide) only [RX.x_C, RX.varK_v, RX.varK_o, RX.x_Var, RX.toR_some, RX.toB_some, RX.toT_some, RX.toS_some, RX.lk_some, RX.x_Op, RX.x_Un, RX.x_tE, RX.x_tNot, RX.x_tAnd, RX.x_tOr, RX.asB_bl, RX.x_And, RX.x_Or, RX.x_Not, RX.x_If, RX.x_nil, RX.x_cons, RX.x_Tup, RX.x_Lst, RX.x_IxV, RX.x_B, RX.x_B1, RX.x_Cmp, RX.x_anil, RX.x_av, RX.x_ae, RX.x_Call, RX.x_CallK, RX.x_CallV, RX.vK_fn, RX.x_do, RX.goK_some, RX.backE_some, RX.back_ok, RX.back_exc, RX.x_Seq, RX.x_Pass, RX.x_Brk, RX.x_Cont, RX.x_Set, RX.x_Unp, RX.x_Par, RX.x_Expr, RX.x_Ret, RX.retK_v, RX.retK_o, RX.x_RetV, RX.x_RetN, RX.x_SIf, RX.x_For, RX.x_Raise, RX.itK_some, RX.rgK_some, RX.x_iE, RX.x_iR1, RX.x_forN, RX.x_forC, RX.x_Try, RX.try_ret, RX.try_next, RX.try_exc, RX.h1K_some, RX.suite_ret, RX.suite_next, RX.x_Fld, RX.fldK_some, RX.stK_some, RX.turn_next, RX.turn_cont, RX.turn_brk, RX.turn_ret, RX.end_ret, RX.end_next, RX.end_exc, RX.pk_t, RX.pk_f, RX.bnd_ok, RX.bnd_exc, RX.outK_ok, RX.outK_exc, RX.obnd_next, RX.obnd_ret, RX.obnd_brk, RX.obnd_cont, RX.obnd_exc, RX.tr_bl, RX.tr_int, RX.f_add, RX.f_sub, RX.f_mul, RX.f_div, RX.f_mod, RX.f_neg, RX.f_lt, RX.f_le, RX.f_gt, RX.f_ge, RX.f_eqI, RX.f_neI, RX.f_eqB, RX.f_isN, RX.f_isNotN, RX.look, RX.isOwn, RX.owns, RX.argOf, RX.argsOf, RX.backTo, RX.nodupN, RX.stSl, RX.stAll, RX.Tg.st, RX.Ex.frz, RX.Ex.sl, RX.finish, RX.outsOf, RX.Arg.sl, RX.D.items?, RX.D.asInt?, RX.permL, RX.D.isNon, List.getElem?_cons_zero, List.getElem?_cons_succ, List.getElem?_nil, List.set_cons_zero, List.set_cons_succ, List.map_cons, List.map_nil, List.nil_append, List.cons_append, List.replicate_succ, List.replicate_zero, List.length_cons, List.length_nil, List.contains_nil, List.contains_cons, List.isEmpty_nil, List.isEmpty_cons, List.filterMap_cons, List.filterMap_nil, Option.map_some, Option.map_none, Option.bind_some, Option.bind_none, List.any_cons, List.any_nil, RX.Arg.isOwn, Bool.not_true, Bool.not_false, Bool.true_and, Bool.false_and, Bool.and_true, Bool.and_false, Bool.or_true, Bool.or_false, Bool.true_or, Bool.false_or, if_true, if_false, Bool.false_eq_true, ↓reduceIte, ite_true, ite_false, decide_true, decide_false, Nat.reduceSub, Nat.reduceAdd, beq_self_eq_true, lenL, ix]
  have hl' : -16777216 < (L.length : Int) ∧ (L.length : Int) < 16777216 := by omega
  have hfree : [5].all (fun v => free1 ([.val (.scr ns), .val (.int st), .own L, s3, s4, s5] : RX.Env)[v]?) = true := by
    rcases h5 with rfl | ⟨d, rfl⟩ <;> rfl
  have hc := x_Comp (C := callN T p) (ρ := [.val (.scr ns), .val (.int st), .own L, s3, s4, s5]) (it := iR1 (dB1 bLen 2)) (l := rng 0 L.length) (ρ1 := [.val (.scr ns), .val (.int st), .own L, s3, s4, s5]) (by simp -dsimp -implicitDefEqProofs (disch := first | assumption | omega | decide) only [RX.x_C, RX.varK_v, RX.varK_o, RX.x_Var, RX.toR_some, RX.toB_some, RX.toT_some, RX.toS_some, RX.lk_some, RX.x_Op, RX.x_Un, RX.x_tE, RX.x_tNot, RX.x_tAnd, RX.x_tOr, RX.asB_bl, RX.x_And, RX.x_Or, RX.x_Not, RX.x_If, RX.x_nil, RX.x_cons, RX.x_Tup, RX.x_Lst, RX.x_IxV, RX.x_B, RX.x_B1, RX.x_Cmp, RX.x_anil, RX.x_av, RX.x_ae, RX.x_Call, RX.x_CallK, RX.x_CallV, RX.vK_fn, RX.x_do, RX.goK_some, RX.backE_some, RX.back_ok, RX.back_exc, RX.x_Seq, RX.x_Pass, RX.x_Brk, RX.x_Cont, RX.x_Set, RX.x_Unp, RX.x_Par, RX.x_Expr, RX.x_Ret, RX.retK_v, RX.retK_o, RX.x_RetV, RX.x_RetN, RX.x_SIf, RX.x_For, RX.x_Raise, RX.itK_some, RX.rgK_some, RX.x_iE, RX.x_iR1, RX.x_forN, RX.x_forC, RX.x_Try, RX.try_ret, RX.try_next, RX.try_exc, RX.h1K_some, RX.suite_ret, RX.suite_next, RX.x_Fld, RX.fldK_some, RX.stK_some, RX.turn_next, RX.turn_cont, RX.turn_brk, RX.turn_ret, RX.end_ret, RX.end_next, RX.end_exc, RX.pk_t, RX.pk_f, RX.bnd_ok, RX.bnd_exc, RX.outK_ok, RX.outK_exc, RX.obnd_next, RX.obnd_ret, RX.obnd_brk, RX.obnd_cont, RX.obnd_exc, RX.tr_bl, RX.tr_int, RX.f_add, RX.f_sub, RX.f_mul, RX.f_div, RX.f_mod, RX.f_neg, RX.f_lt, RX.f_le, RX.f_gt, RX.f_ge, RX.f_eqI, RX.f_neI, RX.f_eqB, RX.f_isN, RX.f_isNotN, RX.look, RX.isOwn, RX.owns, RX.argOf, RX.argsOf, RX.backTo, RX.nodupN, RX.stSl, RX.stAll, RX.Tg.st, RX.Ex.frz, RX.Ex.sl, RX.finish, RX.outsOf, RX.Arg.sl, RX.D.items?, RX.D.asInt?, RX.permL, RX.D.isNon, List.getElem?_cons_zero, List.getElem?_cons_succ, List.getElem?_nil, List.set_cons_zero, List.set_cons_succ, List.map_cons, List.map_nil, List.nil_append, List.cons_append, List.replicate_succ, List.replicate_zero, List.length_cons, List.length_nil, List.contains_nil, List.contains_cons, List.isEmpty_nil, List.isEmpty_cons, List.filterMap_cons, List.filterMap_nil, Option.map_some, Option.map_none, Option.bind_some, Option.bind_none, List.any_cons, List.any_nil, RX.Arg.isOwn, Bool.not_true, Bool.not_false, Bool.true_and, Bool.false_and, Bool.and_true, Bool.and_false, Bool.or_true, Bool.or_false, Bool.true_or, Bool.false_or, if_true, if_false, Bool.false_eq_true, ↓reduceIte, ite_true, ite_false, decide_true, decide_false, Nat.reduceSub, Nat.reduceAdd, beq_self_eq_true, lenL, asI, hl']) (by rw [rng_len]; show _ < 16777216; omega) hfree cc
  rw [rngMap (fun i => L.getD (L.length - 1 - i) .non) (bk L) (fun i _ => bk_nat L i), rev_map] at hc
  refine ⟨⟨st, ds.reverse, lo, hi⟩, ?_⟩
  have el : (Fd.mk st ds.reverse lo hi).l = .int st :: L.reverse := by
    unfold Fd.l
    rw [List.map_reverse, hL]
  rw [el]
  rw [callN_eq (d := d15) (np := 1) (ns := 6) rfl rfl]
  unfold d15
  have ct := cat1 (a := .int st) (l := L.reverse) (by rw [List.length_reverse]; show _ ≤ 16777216; omega)
  have ei : ([] : List Int).map D.int = [] := rfl
  simp -dsimp -implicitDefEqProofs (disch := first | assumption | omega | decide) only [RX.x_C, RX.varK_v, RX.varK_o, RX.x_Var, RX.toR_some, RX.toB_some, RX.toT_some, RX.toS_some, RX.lk_some, RX.x_Op, RX.x_Un, RX.x_tE, RX.x_tNot, RX.x_tAnd, RX.x_tOr, RX.asB_bl, RX.x_And, RX.x_Or, RX.x_Not, RX.x_If, RX.x_nil, RX.x_cons, RX.x_Tup, RX.x_Lst, RX.x_IxV, RX.x_B, RX.x_B1, RX.x_Cmp, RX.x_anil, RX.x_av, RX.x_ae, RX.x_Call, RX.x_CallK, RX.x_CallV, RX.vK_fn, RX.x_do, RX.goK_some, RX.backE_some, RX.back_ok, RX.back_exc, RX.x_Seq, RX.x_Pass, RX.x_Brk, RX.x_Cont, RX.x_Set, RX.x_Unp, RX.x_Par, RX.x_Expr, RX.x_Ret, RX.retK_v, RX.retK_o, RX.x_RetV, RX.x_RetN, RX.x_SIf, RX.x_For, RX.x_Raise, RX.itK_some, RX.rgK_some, RX.x_iE, RX.x_iR1, RX.x_forN, RX.x_forC, RX.x_Try, RX.try_ret, RX.try_next, RX.try_exc, RX.h1K_some, RX.suite_ret, RX.suite_next, RX.x_Fld, RX.fldK_some, RX.stK_some, RX.turn_next, RX.turn_cont, RX.turn_brk, RX.turn_ret, RX.end_ret, RX.end_next, RX.end_exc, RX.pk_t, RX.pk_f, RX.bnd_ok, RX.bnd_exc, RX.outK_ok, RX.outK_exc, RX.obnd_next, RX.obnd_ret, RX.obnd_brk, RX.obnd_cont, RX.obnd_exc, RX.tr_bl, RX.tr_int, RX.f_add, RX.f_sub, RX.f_mul, RX.f_div, RX.f_mod, RX.f_neg, RX.f_lt, RX.f_le, RX.f_gt, RX.f_ge, RX.f_eqI, RX.f_neI, RX.f_eqB, RX.f_isN, RX.f_isNotN, RX.look, RX.isOwn, RX.owns, RX.argOf, RX.argsOf, RX.backTo, RX.nodupN, RX.stSl, RX.stAll, RX.Tg.st, RX.Ex.frz, RX.Ex.sl, RX.finish, RX.outsOf, RX.Arg.sl, RX.D.items?, RX.D.asInt?, RX.permL, RX.D.isNon, List.getElem?_cons_zero, List.getElem?_cons_succ, List.getElem?_nil, List.set_cons_zero, List.set_cons_succ, List.map_cons, List.map_nil, List.nil_append, List.cons_append, List.replicate_succ, List.replicate_zero, List.length_cons, List.length_nil, List.contains_nil, List.contains_cons, List.isEmpty_nil, List.isEmpty_cons, List.filterMap_cons, List.filterMap_nil, Option.map_some, Option.map_none, Option.bind_some, Option.bind_none, List.any_cons, List.any_nil, RX.Arg.isOwn, Bool.not_true, Bool.not_false, Bool.true_and, Bool.false_and, Bool.and_true, Bool.and_false, Bool.or_true, Bool.or_false, Bool.true_or, Bool.false_or, if_true, if_false, Bool.false_eq_true, ↓reduceIte, ite_true, ite_false, decide_true, decide_false, Nat.reduceSub, Nat.reduceAdd, beq_self_eq_true, scrT, e, hc, ct]
end K01
set_option Elab.async false
set_option linter.all false
set_option maxRecDepth 100000
set_option maxHeartbeats 4000000
namespace K01
open PySem RX MQ
/-! what is refused -/
def bads : List D := [.tup [.int 2, .int 4], .tup [.int 1, .int 0], .tup [.int 0, .int 2], .tup [.int 1, .int (-1)], .lst [.int 0, .int 1], .tup [.bl true, .int 1], .tup [.int 1, .bl true], .non, .int 0, .str "0", .tup [.int 1], .tup [.int 1, .int 2, .int 3], .tup [], .tup [.int (-6), .int 9]]
theorem seq_next {A B : DS} {C : Calls} {ρ ρ1 : RX.Env} (h : A C ρ = .next ρ1) : sSeq A B C ρ = B C ρ1 := by rw [x_Seq, h, obnd_next]
theorem s32 {n : Nat} (hn : 2 ≤ n) (f : Fd) : ∃ (x : D) (f' : Fd), callN T n 32 [.own f.l] = .ok (.d x) [f'.l] ∧ x ∈ bads := by
  obtain ⟨p, rfl, hp⟩ := up hn
  obtain ⟨c1, c2⟩ := tk_bd f (w := 14) (by decide)
  have hx : bads[(tk f 14).toNat]? = some (bads[(tk f 14).toNat]'(by show (tk f 14).toNat < 14; omega)) := List.getElem?_eq_getElem _
  have ix := (ix_nat hx).2
  have ei : ((tk f 14).toNat : Int) = tk f 14 := by omega
  rw [ei] at ix
  have a := s16 (n := p) (by omega) f (w := 14) (by decide)
  have l14 : bLen [.lst bads] = some (.d (.int 14)) := rfl
  refine ⟨_, nx f, ?_, List.getElem_mem (n := (tk f 14).toNat) (by show (tk f 14).toNat < 14; omega)⟩
  rw [callN_eq (d := d32) (np := 1) (ns := 2) rfl rfl]
  unfold d32
  have e0 : List.map Arg.sl [.own f.l] ++ List.replicate (2 - 1) Sl.none = [.par f.l, .none] := rfl
  rw [e0, seq_next (ρ1 := [.par f.l, .own bads]) rfl]
  simp -dsimp -implicitDefEqProofs (disch := first | assumption | omega | decide) only [RX.x_C, RX.varK_v, RX.varK_o, RX.x_Var, RX.toR_some, RX.toB_some, RX.toT_some, RX.toS_some, RX.lk_some, RX.x_Op, RX.x_Un, RX.x_tE, RX.x_tNot, RX.x_tAnd, RX.x_tOr, RX.asB_bl, RX.x_And, RX.x_Or, RX.x_Not, RX.x_If, RX.x_nil, RX.x_cons, RX.x_Tup, RX.x_Lst, RX.x_IxV, RX.x_B, RX.x_B1, RX.x_Cmp, RX.x_anil, RX.x_av, RX.x_ae, RX.x_Call, RX.x_CallK, RX.x_CallV, RX.vK_fn, RX.x_do, RX.goK_some, RX.backE_some, RX.back_ok, RX.back_exc, RX.x_Seq, RX.x_Pass, RX.x_Brk, RX.x_Cont, RX.x_Set, RX.x_Unp, RX.x_Par, RX.x_Expr, RX.x_Ret, RX.retK_v, RX.retK_o, RX.x_RetV, RX.x_RetN, RX.x_SIf, RX.x_For, RX.x_Raise, RX.itK_some, RX.rgK_some, RX.x_iE, RX.x_iR1, RX.x_forN, RX.x_forC, RX.x_Try, RX.try_ret, RX.try_next, RX.try_exc, RX.h1K_some, RX.suite_ret, RX.suite_next, RX.x_Fld, RX.fldK_some, RX.stK_some, RX.turn_next, RX.turn_cont, RX.turn_brk, RX.turn_ret, RX.end_ret, RX.end_next, RX.end_exc, RX.pk_t, RX.pk_f, RX.bnd_ok, RX.bnd_exc, RX.outK_ok, RX.outK_exc, RX.obnd_next, RX.obnd_ret, RX.obnd_brk, RX.obnd_cont, RX.obnd_exc, RX.tr_bl, RX.tr_int, RX.f_add, RX.f_sub, RX.f_mul, RX.f_div, RX.f_mod, RX.f_neg, RX.f_lt, RX.f_le, RX.f_gt, RX.f_ge, RX.f_eqI, RX.f_neI, RX.f_eqB, RX.f_isN, RX.f_isNotN, RX.look, RX.isOwn, RX.owns, RX.argOf, RX.argsOf, RX.backTo, RX.nodupN, RX.stSl, RX.stAll, RX.Tg.st, RX.Ex.frz, RX.Ex.sl, RX.finish, RX.outsOf, RX.Arg.sl, RX.D.items?, RX.D.asInt?, RX.permL, RX.D.isNon, List.getElem?_cons_zero, List.getElem?_cons_succ, List.getElem?_nil, List.set_cons_zero, List.set_cons_succ, List.map_cons, List.map_nil, List.nil_append, List.cons_append, List.replicate_succ, List.replicate_zero, List.length_cons, List.length_nil, List.contains_nil, List.contains_cons, List.isEmpty_nil, List.isEmpty_cons, List.filterMap_cons, List.filterMap_nil, Option.map_some, Option.map_none, Option.bind_some, Option.bind_none, List.any_cons, List.any_nil, RX.Arg.isOwn, Bool.not_true, Bool.not_false, Bool.true_and, Bool.false_and, Bool.and_true, Bool.and_false, Bool.or_true, Bool.or_false, Bool.true_or, Bool.false_or, if_true, if_false, Bool.false_eq_true, ↓reduceIte, ite_true, ite_false, decide_true, decide_false, Nat.reduceSub, Nat.reduceAdd, beq_self_eq_true, l14, a, ix]
theorem s2b {n : Nat} (hn : 3 ≤ n) : ∀ x ∈ bads, callN T n 2 [.d x] = .ok (.d (.bl false)) [] := by
  obtain ⟨m, rfl⟩ : ∃ m, n = m + 3 := ⟨n - 3, by omega⟩
  exact all_cons rfl (all_cons rfl (all_cons rfl (all_cons rfl (all_cons rfl (all_cons rfl (all_cons rfl (all_cons rfl (all_cons rfl (all_cons rfl (all_cons rfl (all_cons rfl (all_cons rfl (all_cons rfl (all_nil))))))))))))))
section
variable {n : Nat} {x y : D} {r : Rat}
theorem s6b (hn : 4 ≤ n) (hx : x ∈ bads) : callN T n 6 [.d x, .d y] = .exc 0 [("word", .str "one"), ("at", .int (-1))] := by
  obtain ⟨p, rfl, hp⟩ := up hn
  rw [callN_eq (d := d6) (np := 2) (ns := 2) rfl rfl]
  unfold d6
  have a := s2b (n := p) (by omega) x hx
  have b := s3f (n := p) (by omega)
  simp -dsimp -implicitDefEqProofs (disch := first | assumption | omega | decide) only [RX.x_C, RX.varK_v, RX.varK_o, RX.x_Var, RX.toR_some, RX.toB_some, RX.toT_some, RX.toS_some, RX.lk_some, RX.x_Op, RX.x_Un, RX.x_tE, RX.x_tNot, RX.x_tAnd, RX.x_tOr, RX.asB_bl, RX.x_And, RX.x_Or, RX.x_Not, RX.x_If, RX.x_nil, RX.x_cons, RX.x_Tup, RX.x_Lst, RX.x_IxV, RX.x_B, RX.x_B1, RX.x_Cmp, RX.x_anil, RX.x_av, RX.x_ae, RX.x_Call, RX.x_CallK, RX.x_CallV, RX.vK_fn, RX.x_do, RX.goK_some, RX.backE_some, RX.back_ok, RX.back_exc, RX.x_Seq, RX.x_Pass, RX.x_Brk, RX.x_Cont, RX.x_Set, RX.x_Unp, RX.x_Par, RX.x_Expr, RX.x_Ret, RX.retK_v, RX.retK_o, RX.x_RetV, RX.x_RetN, RX.x_SIf, RX.x_For, RX.x_Raise, RX.itK_some, RX.rgK_some, RX.x_iE, RX.x_iR1, RX.x_forN, RX.x_forC, RX.x_Try, RX.try_ret, RX.try_next, RX.try_exc, RX.h1K_some, RX.suite_ret, RX.suite_next, RX.x_Fld, RX.fldK_some, RX.stK_some, RX.turn_next, RX.turn_cont, RX.turn_brk, RX.turn_ret, RX.end_ret, RX.end_next, RX.end_exc, RX.pk_t, RX.pk_f, RX.bnd_ok, RX.bnd_exc, RX.outK_ok, RX.outK_exc, RX.obnd_next, RX.obnd_ret, RX.obnd_brk, RX.obnd_cont, RX.obnd_exc, RX.tr_bl, RX.tr_int, RX.f_add, RX.f_sub, RX.f_mul, RX.f_div, RX.f_mod, RX.f_neg, RX.f_lt, RX.f_le, RX.f_gt, RX.f_ge, RX.f_eqI, RX.f_neI, RX.f_eqB, RX.f_isN, RX.f_isNotN, RX.look, RX.isOwn, RX.owns, RX.argOf, RX.argsOf, RX.backTo, RX.nodupN, RX.stSl, RX.stAll, RX.Tg.st, RX.Ex.frz, RX.Ex.sl, RX.finish, RX.outsOf, RX.Arg.sl, RX.D.items?, RX.D.asInt?, RX.permL, RX.D.isNon, List.getElem?_cons_zero, List.getElem?_cons_succ, List.getElem?_nil, List.set_cons_zero, List.set_cons_succ, List.map_cons, List.map_nil, List.nil_append, List.cons_append, List.replicate_succ, List.replicate_zero, List.length_cons, List.length_nil, List.contains_nil, List.contains_cons, List.isEmpty_nil, List.isEmpty_cons, List.filterMap_cons, List.filterMap_nil, Option.map_some, Option.map_none, Option.bind_some, Option.bind_none, List.any_cons, List.any_nil, RX.Arg.isOwn, Bool.not_true, Bool.not_false, Bool.true_and, Bool.false_and, Bool.and_true, Bool.and_false, Bool.or_true, Bool.or_false, Bool.true_or, Bool.false_or, if_true, if_false, Bool.false_eq_true, ↓reduceIte, ite_true, ite_false, decide_true, decide_false, Nat.reduceSub, Nat.reduceAdd, beq_self_eq_true, a, b]
theorem s6c (hn : 4 ≤ n) (hx : x ∈ bads) : callN T n 6 [.d (enc r), .d x] = .exc 0 [("word", .str "other"), ("at", .int (-1))] := by
  obtain ⟨p, rfl, hp⟩ := up hn
  rw [callN_eq (d := d6) (np := 2) (ns := 2) rfl rfl]
  unfold d6
  have a := s2b (n := p) (by omega) x hx
  have a1 := s2 (n := p) (by omega) r
  have b := s3f (n := p) (by omega)
  have b1 := s3t (n := p) (by omega)
  simp -dsimp -implicitDefEqProofs (disch := first | assumption | omega | decide) only [RX.x_C, RX.varK_v, RX.varK_o, RX.x_Var, RX.toR_some, RX.toB_some, RX.toT_some, RX.toS_some, RX.lk_some, RX.x_Op, RX.x_Un, RX.x_tE, RX.x_tNot, RX.x_tAnd, RX.x_tOr, RX.asB_bl, RX.x_And, RX.x_Or, RX.x_Not, RX.x_If, RX.x_nil, RX.x_cons, RX.x_Tup, RX.x_Lst, RX.x_IxV, RX.x_B, RX.x_B1, RX.x_Cmp, RX.x_anil, RX.x_av, RX.x_ae, RX.x_Call, RX.x_CallK, RX.x_CallV, RX.vK_fn, RX.x_do, RX.goK_some, RX.backE_some, RX.back_ok, RX.back_exc, RX.x_Seq, RX.x_Pass, RX.x_Brk, RX.x_Cont, RX.x_Set, RX.x_Unp, RX.x_Par, RX.x_Expr, RX.x_Ret, RX.retK_v, RX.retK_o, RX.x_RetV, RX.x_RetN, RX.x_SIf, RX.x_For, RX.x_Raise, RX.itK_some, RX.rgK_some, RX.x_iE, RX.x_iR1, RX.x_forN, RX.x_forC, RX.x_Try, RX.try_ret, RX.try_next, RX.try_exc, RX.h1K_some, RX.suite_ret, RX.suite_next, RX.x_Fld, RX.fldK_some, RX.stK_some, RX.turn_next, RX.turn_cont, RX.turn_brk, RX.turn_ret, RX.end_ret, RX.end_next, RX.end_exc, RX.pk_t, RX.pk_f, RX.bnd_ok, RX.bnd_exc, RX.outK_ok, RX.outK_exc, RX.obnd_next, RX.obnd_ret, RX.obnd_brk, RX.obnd_cont, RX.obnd_exc, RX.tr_bl, RX.tr_int, RX.f_add, RX.f_sub, RX.f_mul, RX.f_div, RX.f_mod, RX.f_neg, RX.f_lt, RX.f_le, RX.f_gt, RX.f_ge, RX.f_eqI, RX.f_neI, RX.f_eqB, RX.f_isN, RX.f_isNotN, RX.look, RX.isOwn, RX.owns, RX.argOf, RX.argsOf, RX.backTo, RX.nodupN, RX.stSl, RX.stAll, RX.Tg.st, RX.Ex.frz, RX.Ex.sl, RX.finish, RX.outsOf, RX.Arg.sl, RX.D.items?, RX.D.asInt?, RX.permL, RX.D.isNon, List.getElem?_cons_zero, List.getElem?_cons_succ, List.getElem?_nil, List.set_cons_zero, List.set_cons_succ, List.map_cons, List.map_nil, List.nil_append, List.cons_append, List.replicate_succ, List.replicate_zero, List.length_cons, List.length_nil, List.contains_nil, List.contains_cons, List.isEmpty_nil, List.isEmpty_cons, List.filterMap_cons, List.filterMap_nil, Option.map_some, Option.map_none, Option.bind_some, Option.bind_none, List.any_cons, List.any_nil, RX.Arg.isOwn, Bool.not_true, Bool.not_false, Bool.true_and, Bool.false_and, Bool.and_true, Bool.and_false, Bool.or_true, Bool.or_false, Bool.true_or, Bool.false_or, if_true, if_false, Bool.false_eq_true, ↓reduceIte, ite_true, ite_false, decide_true, decide_false, Nat.reduceSub, Nat.reduceAdd, beq_self_eq_true, a, a1, b, b1]
theorem e8b (hn : 5 ≤ n) (hx : x ∈ bads) : callN T n 8 [.d x, .d y] = .exc 0 [("word", .str "one"), ("at", .int (-1))] := by
  obtain ⟨p, rfl, hp⟩ := up hn
  rw [callN_eq (d := d8) (np := 2) (ns := 2) rfl rfl]
  unfold d8
  have a := s6b (n := p) (y := y) (by omega) hx
  simp -dsimp -implicitDefEqProofs (disch := first | assumption | omega | decide) only [RX.x_C, RX.varK_v, RX.varK_o, RX.x_Var, RX.toR_some, RX.toB_some, RX.toT_some, RX.toS_some, RX.lk_some, RX.x_Op, RX.x_Un, RX.x_tE, RX.x_tNot, RX.x_tAnd, RX.x_tOr, RX.asB_bl, RX.x_And, RX.x_Or, RX.x_Not, RX.x_If, RX.x_nil, RX.x_cons, RX.x_Tup, RX.x_Lst, RX.x_IxV, RX.x_B, RX.x_B1, RX.x_Cmp, RX.x_anil, RX.x_av, RX.x_ae, RX.x_Call, RX.x_CallK, RX.x_CallV, RX.vK_fn, RX.x_do, RX.goK_some, RX.backE_some, RX.back_ok, RX.back_exc, RX.x_Seq, RX.x_Pass, RX.x_Brk, RX.x_Cont, RX.x_Set, RX.x_Unp, RX.x_Par, RX.x_Expr, RX.x_Ret, RX.retK_v, RX.retK_o, RX.x_RetV, RX.x_RetN, RX.x_SIf, RX.x_For, RX.x_Raise, RX.itK_some, RX.rgK_some, RX.x_iE, RX.x_iR1, RX.x_forN, RX.x_forC, RX.x_Try, RX.try_ret, RX.try_next, RX.try_exc, RX.h1K_some, RX.suite_ret, RX.suite_next, RX.x_Fld, RX.fldK_some, RX.stK_some, RX.turn_next, RX.turn_cont, RX.turn_brk, RX.turn_ret, RX.end_ret, RX.end_next, RX.end_exc, RX.pk_t, RX.pk_f, RX.bnd_ok, RX.bnd_exc, RX.outK_ok, RX.outK_exc, RX.obnd_next, RX.obnd_ret, RX.obnd_brk, RX.obnd_cont, RX.obnd_exc, RX.tr_bl, RX.tr_int, RX.f_add, RX.f_sub, RX.f_mul, RX.f_div, RX.f_mod, RX.f_neg, RX.f_lt, RX.f_le, RX.f_gt, RX.f_ge, RX.f_eqI, RX.f_neI, RX.f_eqB, RX.f_isN, RX.f_isNotN, RX.look, RX.isOwn, RX.owns, RX.argOf, RX.argsOf, RX.backTo, RX.nodupN, RX.stSl, RX.stAll, RX.Tg.st, RX.Ex.frz, RX.Ex.sl, RX.finish, RX.outsOf, RX.Arg.sl, RX.D.items?, RX.D.asInt?, RX.permL, RX.D.isNon, List.getElem?_cons_zero, List.getElem?_cons_succ, List.getElem?_nil, List.set_cons_zero, List.set_cons_succ, List.map_cons, List.map_nil, List.nil_append, List.cons_append, List.replicate_succ, List.replicate_zero, List.length_cons, List.length_nil, List.contains_nil, List.contains_cons, List.isEmpty_nil, List.isEmpty_cons, List.filterMap_cons, List.filterMap_nil, Option.map_some, Option.map_none, Option.bind_some, Option.bind_none, List.any_cons, List.any_nil, RX.Arg.isOwn, Bool.not_true, Bool.not_false, Bool.true_and, Bool.false_and, Bool.and_true, Bool.and_false, Bool.or_true, Bool.or_false, Bool.true_or, Bool.false_or, if_true, if_false, Bool.false_eq_true, ↓reduceIte, ite_true, ite_false, decide_true, decide_false, Nat.reduceSub, Nat.reduceAdd, beq_self_eq_true, a]
theorem e8c (hn : 5 ≤ n) (hx : x ∈ bads) : callN T n 8 [.d (enc r), .d x] = .exc 0 [("word", .str "other"), ("at", .int (-1))] := by
  obtain ⟨p, rfl, hp⟩ := up hn
  rw [callN_eq (d := d8) (np := 2) (ns := 2) rfl rfl]
  unfold d8
  have a := s6c (n := p) (r := r) (by omega) hx
  simp -dsimp -implicitDefEqProofs (disch := first | assumption | omega | decide) only [RX.x_C, RX.varK_v, RX.varK_o, RX.x_Var, RX.toR_some, RX.toB_some, RX.toT_some, RX.toS_some, RX.lk_some, RX.x_Op, RX.x_Un, RX.x_tE, RX.x_tNot, RX.x_tAnd, RX.x_tOr, RX.asB_bl, RX.x_And, RX.x_Or, RX.x_Not, RX.x_If, RX.x_nil, RX.x_cons, RX.x_Tup, RX.x_Lst, RX.x_IxV, RX.x_B, RX.x_B1, RX.x_Cmp, RX.x_anil, RX.x_av, RX.x_ae, RX.x_Call, RX.x_CallK, RX.x_CallV, RX.vK_fn, RX.x_do, RX.goK_some, RX.backE_some, RX.back_ok, RX.back_exc, RX.x_Seq, RX.x_Pass, RX.x_Brk, RX.x_Cont, RX.x_Set, RX.x_Unp, RX.x_Par, RX.x_Expr, RX.x_Ret, RX.retK_v, RX.retK_o, RX.x_RetV, RX.x_RetN, RX.x_SIf, RX.x_For, RX.x_Raise, RX.itK_some, RX.rgK_some, RX.x_iE, RX.x_iR1, RX.x_forN, RX.x_forC, RX.x_Try, RX.try_ret, RX.try_next, RX.try_exc, RX.h1K_some, RX.suite_ret, RX.suite_next, RX.x_Fld, RX.fldK_some, RX.stK_some, RX.turn_next, RX.turn_cont, RX.turn_brk, RX.turn_ret, RX.end_ret, RX.end_next, RX.end_exc, RX.pk_t, RX.pk_f, RX.bnd_ok, RX.bnd_exc, RX.outK_ok, RX.outK_exc, RX.obnd_next, RX.obnd_ret, RX.obnd_brk, RX.obnd_cont, RX.obnd_exc, RX.tr_bl, RX.tr_int, RX.f_add, RX.f_sub, RX.f_mul, RX.f_div, RX.f_mod, RX.f_neg, RX.f_lt, RX.f_le, RX.f_gt, RX.f_ge, RX.f_eqI, RX.f_neI, RX.f_eqB, RX.f_isN, RX.f_isNotN, RX.look, RX.isOwn, RX.owns, RX.argOf, RX.argsOf, RX.backTo, RX.nodupN, RX.stSl, RX.stAll, RX.Tg.st, RX.Ex.frz, RX.Ex.sl, RX.finish, RX.outsOf, RX.Arg.sl, RX.D.items?, RX.D.asInt?, RX.permL, RX.D.isNon, List.getElem?_cons_zero, List.getElem?_cons_succ, List.getElem?_nil, List.set_cons_zero, List.set_cons_succ, List.map_cons, List.map_nil, List.nil_append, List.cons_append, List.replicate_succ, List.replicate_zero, List.length_cons, List.length_nil, List.contains_nil, List.contains_cons, List.isEmpty_nil, List.isEmpty_cons, List.filterMap_cons, List.filterMap_nil, Option.map_some, Option.map_none, Option.bind_some, Option.bind_none, List.any_cons, List.any_nil, RX.Arg.isOwn, Bool.not_true, Bool.not_false, Bool.true_and, Bool.false_and, Bool.and_true, Bool.and_false, Bool.or_true, Bool.or_false, Bool.true_or, Bool.false_or, if_true, if_false, Bool.false_eq_true, ↓reduceIte, ite_true, ite_false, decide_true, decide_false, Nat.reduceSub, Nat.reduceAdd, beq_self_eq_true, a]
theorem e9b (hn : 5 ≤ n) (hx : x ∈ bads) : callN T n 9 [.d x, .d y] = .exc 0 [("word", .str "one"), ("at", .int (-1))] := by
  obtain ⟨p, rfl, hp⟩ := up hn
  rw [callN_eq (d := d9) (np := 2) (ns := 2) rfl rfl]
  unfold d9
  have a := s6b (n := p) (y := y) (by omega) hx
  simp -dsimp -implicitDefEqProofs (disch := first | assumption | omega | decide) only [RX.x_C, RX.varK_v, RX.varK_o, RX.x_Var, RX.toR_some, RX.toB_some, RX.toT_some, RX.toS_some, RX.lk_some, RX.x_Op, RX.x_Un, RX.x_tE, RX.x_tNot, RX.x_tAnd, RX.x_tOr, RX.asB_bl, RX.x_And, RX.x_Or, RX.x_Not, RX.x_If, RX.x_nil, RX.x_cons, RX.x_Tup, RX.x_Lst, RX.x_IxV, RX.x_B, RX.x_B1, RX.x_Cmp, RX.x_anil, RX.x_av, RX.x_ae, RX.x_Call, RX.x_CallK, RX.x_CallV, RX.vK_fn, RX.x_do, RX.goK_some, RX.backE_some, RX.back_ok, RX.back_exc, RX.x_Seq, RX.x_Pass, RX.x_Brk, RX.x_Cont, RX.x_Set, RX.x_Unp, RX.x_Par, RX.x_Expr, RX.x_Ret, RX.retK_v, RX.retK_o, RX.x_RetV, RX.x_RetN, RX.x_SIf, RX.x_For, RX.x_Raise, RX.itK_some, RX.rgK_some, RX.x_iE, RX.x_iR1, RX.x_forN, RX.x_forC, RX.x_Try, RX.try_ret, RX.try_next, RX.try_exc, RX.h1K_some, RX.suite_ret, RX.suite_next, RX.x_Fld, RX.fldK_some, RX.stK_some, RX.turn_next, RX.turn_cont, RX.turn_brk, RX.turn_ret, RX.end_ret, RX.end_next, RX.end_exc, RX.pk_t, RX.pk_f, RX.bnd_ok, RX.bnd_exc, RX.outK_ok, RX.outK_exc, RX.obnd_next, RX.obnd_ret, RX.obnd_brk, RX.obnd_cont, RX.obnd_exc, RX.tr_bl, RX.tr_int, RX.f_add, RX.f_sub, RX.f_mul, RX.f_div, RX.f_mod, RX.f_neg, RX.f_lt, RX.f_le, RX.f_gt, RX.f_ge, RX.f_eqI, RX.f_neI, RX.f_eqB, RX.f_isN, RX.f_isNotN, RX.look, RX.isOwn, RX.owns, RX.argOf, RX.argsOf, RX.backTo, RX.nodupN, RX.stSl, RX.stAll, RX.Tg.st, RX.Ex.frz, RX.Ex.sl, RX.finish, RX.outsOf, RX.Arg.sl, RX.D.items?, RX.D.asInt?, RX.permL, RX.D.isNon, List.getElem?_cons_zero, List.getElem?_cons_succ, List.getElem?_nil, List.set_cons_zero, List.set_cons_succ, List.map_cons, List.map_nil, List.nil_append, List.cons_append, List.replicate_succ, List.replicate_zero, List.length_cons, List.length_nil, List.contains_nil, List.contains_cons, List.isEmpty_nil, List.isEmpty_cons, List.filterMap_cons, List.filterMap_nil, Option.map_some, Option.map_none, Option.bind_some, Option.bind_none, List.any_cons, List.any_nil, RX.Arg.isOwn, Bool.not_true, Bool.not_false, Bool.true_and, Bool.false_and, Bool.and_true, Bool.and_false, Bool.or_true, Bool.or_false, Bool.true_or, Bool.false_or, if_true, if_false, Bool.false_eq_true, ↓reduceIte, ite_true, ite_false, decide_true, decide_false, Nat.reduceSub, Nat.reduceAdd, beq_self_eq_true, a]
theorem e9c (hn : 5 ≤ n) (hx : x ∈ bads) : callN T n 9 [.d (enc r), .d x] = .exc 0 [("word", .str "other"), ("at", .int (-1))] := by
  obtain ⟨p, rfl, hp⟩ := up hn
  rw [callN_eq (d := d9) (np := 2) (ns := 2) rfl rfl]
  unfold d9
  have a := s6c (n := p) (r := r) (by omega) hx
  simp -dsimp -implicitDefEqProofs (disch := first | assumption | omega | decide) only [RX.x_C, RX.varK_v, RX.varK_o, RX.x_Var, RX.toR_some, RX.toB_some, RX.toT_some, RX.toS_some, RX.lk_some, RX.x_Op, RX.x_Un, RX.x_tE, RX.x_tNot, RX.x_tAnd, RX.x_tOr, RX.asB_bl, RX.x_And, RX.x_Or, RX.x_Not, RX.x_If, RX.x_nil, RX.x_cons, RX.x_Tup, RX.x_Lst, RX.x_IxV, RX.x_B, RX.x_B1, RX.x_Cmp, RX.x_anil, RX.x_av, RX.x_ae, RX.x_Call, RX.x_CallK, RX.x_CallV, RX.vK_fn, RX.x_do, RX.goK_some, RX.backE_some, RX.back_ok, RX.back_exc, RX.x_Seq, RX.x_Pass, RX.x_Brk, RX.x_Cont, RX.x_Set, RX.x_Unp, RX.x_Par, RX.x_Expr, RX.x_Ret, RX.retK_v, RX.retK_o, RX.x_RetV, RX.x_RetN, RX.x_SIf, RX.x_For, RX.x_Raise, RX.itK_some, RX.rgK_some, RX.x_iE, RX.x_iR1, RX.x_forN, RX.x_forC, RX.x_Try, RX.try_ret, RX.try_next, RX.try_exc, RX.h1K_some, RX.suite_ret, RX.suite_next, RX.x_Fld, RX.fldK_some, RX.stK_some, RX.turn_next, RX.turn_cont, RX.turn_brk, RX.turn_ret, RX.end_ret, RX.end_next, RX.end_exc, RX.pk_t, RX.pk_f, RX.bnd_ok, RX.bnd_exc, RX.outK_ok, RX.outK_exc, RX.obnd_next, RX.obnd_ret, RX.obnd_brk, RX.obnd_cont, RX.obnd_exc, RX.tr_bl, RX.tr_int, RX.f_add, RX.f_sub, RX.f_mul, RX.f_div, RX.f_mod, RX.f_neg, RX.f_lt, RX.f_le, RX.f_gt, RX.f_ge, RX.f_eqI, RX.f_neI, RX.f_eqB, RX.f_isN, RX.f_isNotN, RX.look, RX.isOwn, RX.owns, RX.argOf, RX.argsOf, RX.backTo, RX.nodupN, RX.stSl, RX.stAll, RX.Tg.st, RX.Ex.frz, RX.Ex.sl, RX.finish, RX.outsOf, RX.Arg.sl, RX.D.items?, RX.D.asInt?, RX.permL, RX.D.isNon, List.getElem?_cons_zero, List.getElem?_cons_succ, List.getElem?_nil, List.set_cons_zero, List.set_cons_succ, List.map_cons, List.map_nil, List.nil_append, List.cons_append, List.replicate_succ, List.replicate_zero, List.length_cons, List.length_nil, List.contains_nil, List.contains_cons, List.isEmpty_nil, List.isEmpty_cons, List.filterMap_cons, List.filterMap_nil, Option.map_some, Option.map_none, Option.bind_some, Option.bind_none, List.any_cons, List.any_nil, RX.Arg.isOwn, Bool.not_true, Bool.not_false, Bool.true_and, Bool.false_and, Bool.and_true, Bool.and_false, Bool.or_true, Bool.or_false, Bool.true_or, Bool.false_or, if_true, if_false, Bool.false_eq_true, ↓reduceIte, ite_true, ite_false, decide_true, decide_false, Nat.reduceSub, Nat.reduceAdd, beq_self_eq_true, a]
theorem e10b (hn : 5 ≤ n) (hx : x ∈ bads) : callN T n 10 [.d x, .d y] = .exc 0 [("word", .str "one"), ("at", .int (-1))] := by
  obtain ⟨p, rfl, hp⟩ := up hn
  rw [callN_eq (d := d10) (np := 2) (ns := 2) rfl rfl]
  unfold d10
  have a := s6b (n := p) (y := y) (by omega) hx
  simp -dsimp -implicitDefEqProofs (disch := first | assumption | omega | decide) only [RX.x_C, RX.varK_v, RX.varK_o, RX.x_Var, RX.toR_some, RX.toB_some, RX.toT_some, RX.toS_some, RX.lk_some, RX.x_Op, RX.x_Un, RX.x_tE, RX.x_tNot, RX.x_tAnd, RX.x_tOr, RX.asB_bl, RX.x_And, RX.x_Or, RX.x_Not, RX.x_If, RX.x_nil, RX.x_cons, RX.x_Tup, RX.x_Lst, RX.x_IxV, RX.x_B, RX.x_B1, RX.x_Cmp, RX.x_anil, RX.x_av, RX.x_ae, RX.x_Call, RX.x_CallK, RX.x_CallV, RX.vK_fn, RX.x_do, RX.goK_some, RX.backE_some, RX.back_ok, RX.back_exc, RX.x_Seq, RX.x_Pass, RX.x_Brk, RX.x_Cont, RX.x_Set, RX.x_Unp, RX.x_Par, RX.x_Expr, RX.x_Ret, RX.retK_v, RX.retK_o, RX.x_RetV, RX.x_RetN, RX.x_SIf, RX.x_For, RX.x_Raise, RX.itK_some, RX.rgK_some, RX.x_iE, RX.x_iR1, RX.x_forN, RX.x_forC, RX.x_Try, RX.try_ret, RX.try_next, RX.try_exc, RX.h1K_some, RX.suite_ret, RX.suite_next, RX.x_Fld, RX.fldK_some, RX.stK_some, RX.turn_next, RX.turn_cont, RX.turn_brk, RX.turn_ret, RX.end_ret, RX.end_next, RX.end_exc, RX.pk_t, RX.pk_f, RX.bnd_ok, RX.bnd_exc, RX.outK_ok, RX.outK_exc, RX.obnd_next, RX.obnd_ret, RX.obnd_brk, RX.obnd_cont, RX.obnd_exc, RX.tr_bl, RX.tr_int, RX.f_add, RX.f_sub, RX.f_mul, RX.f_div, RX.f_mod, RX.f_neg, RX.f_lt, RX.f_le, RX.f_gt, RX.f_ge, RX.f_eqI, RX.f_neI, RX.f_eqB, RX.f_isN, RX.f_isNotN, RX.look, RX.isOwn, RX.owns, RX.argOf, RX.argsOf, RX.backTo, RX.nodupN, RX.stSl, RX.stAll, RX.Tg.st, RX.Ex.frz, RX.Ex.sl, RX.finish, RX.outsOf, RX.Arg.sl, RX.D.items?, RX.D.asInt?, RX.permL, RX.D.isNon, List.getElem?_cons_zero, List.getElem?_cons_succ, List.getElem?_nil, List.set_cons_zero, List.set_cons_succ, List.map_cons, List.map_nil, List.nil_append, List.cons_append, List.replicate_succ, List.replicate_zero, List.length_cons, List.length_nil, List.contains_nil, List.contains_cons, List.isEmpty_nil, List.isEmpty_cons, List.filterMap_cons, List.filterMap_nil, Option.map_some, Option.map_none, Option.bind_some, Option.bind_none, List.any_cons, List.any_nil, RX.Arg.isOwn, Bool.not_true, Bool.not_false, Bool.true_and, Bool.false_and, Bool.and_true, Bool.and_false, Bool.or_true, Bool.or_false, Bool.true_or, Bool.false_or, if_true, if_false, Bool.false_eq_true, ↓reduceIte, ite_true, ite_false, decide_true, decide_false, Nat.reduceSub, Nat.reduceAdd, beq_self_eq_true, a]
theorem e10c (hn : 5 ≤ n) (hx : x ∈ bads) : callN T n 10 [.d (enc r), .d x] = .exc 0 [("word", .str "other"), ("at", .int (-1))] := by
  obtain ⟨p, rfl, hp⟩ := up hn
  rw [callN_eq (d := d10) (np := 2) (ns := 2) rfl rfl]
  unfold d10
  have a := s6c (n := p) (r := r) (by omega) hx
  simp -dsimp -implicitDefEqProofs (disch := first | assumption | omega | decide) only [RX.x_C, RX.varK_v, RX.varK_o, RX.x_Var, RX.toR_some, RX.toB_some, RX.toT_some, RX.toS_some, RX.lk_some, RX.x_Op, RX.x_Un, RX.x_tE, RX.x_tNot, RX.x_tAnd, RX.x_tOr, RX.asB_bl, RX.x_And, RX.x_Or, RX.x_Not, RX.x_If, RX.x_nil, RX.x_cons, RX.x_Tup, RX.x_Lst, RX.x_IxV, RX.x_B, RX.x_B1, RX.x_Cmp, RX.x_anil, RX.x_av, RX.x_ae, RX.x_Call, RX.x_CallK, RX.x_CallV, RX.vK_fn, RX.x_do, RX.goK_some, RX.backE_some, RX.back_ok, RX.back_exc, RX.x_Seq, RX.x_Pass, RX.x_Brk, RX.x_Cont, RX.x_Set, RX.x_Unp, RX.x_Par, RX.x_Expr, RX.x_Ret, RX.retK_v, RX.retK_o, RX.x_RetV, RX.x_RetN, RX.x_SIf, RX.x_For, RX.x_Raise, RX.itK_some, RX.rgK_some, RX.x_iE, RX.x_iR1, RX.x_forN, RX.x_forC, RX.x_Try, RX.try_ret, RX.try_next, RX.try_exc, RX.h1K_some, RX.suite_ret, RX.suite_next, RX.x_Fld, RX.fldK_some, RX.stK_some, RX.turn_next, RX.turn_cont, RX.turn_brk, RX.turn_ret, RX.end_ret, RX.end_next, RX.end_exc, RX.pk_t, RX.pk_f, RX.bnd_ok, RX.bnd_exc, RX.outK_ok, RX.outK_exc, RX.obnd_next, RX.obnd_ret, RX.obnd_brk, RX.obnd_cont, RX.obnd_exc, RX.tr_bl, RX.tr_int, RX.f_add, RX.f_sub, RX.f_mul, RX.f_div, RX.f_mod, RX.f_neg, RX.f_lt, RX.f_le, RX.f_gt, RX.f_ge, RX.f_eqI, RX.f_neI, RX.f_eqB, RX.f_isN, RX.f_isNotN, RX.look, RX.isOwn, RX.owns, RX.argOf, RX.argsOf, RX.backTo, RX.nodupN, RX.stSl, RX.stAll, RX.Tg.st, RX.Ex.frz, RX.Ex.sl, RX.finish, RX.outsOf, RX.Arg.sl, RX.D.items?, RX.D.asInt?, RX.permL, RX.D.isNon, List.getElem?_cons_zero, List.getElem?_cons_succ, List.getElem?_nil, List.set_cons_zero, List.set_cons_succ, List.map_cons, List.map_nil, List.nil_append, List.cons_append, List.replicate_succ, List.replicate_zero, List.length_cons, List.length_nil, List.contains_nil, List.contains_cons, List.isEmpty_nil, List.isEmpty_cons, List.filterMap_cons, List.filterMap_nil, Option.map_some, Option.map_none, Option.bind_some, Option.bind_none, List.any_cons, List.any_nil, RX.Arg.isOwn, Bool.not_true, Bool.not_false, Bool.true_and, Bool.false_and, Bool.and_true, Bool.and_false, Bool.or_true, Bool.or_false, Bool.true_or, Bool.false_or, if_true, if_false, Bool.false_eq_true, ↓reduceIte, ite_true, ite_false, decide_true, decide_false, Nat.reduceSub, Nat.reduceAdd, beq_self_eq_true, a]
theorem e11b (hn : 5 ≤ n) (hx : x ∈ bads) : callN T n 11 [.d x, .d y] = .exc 0 [("word", .str "one"), ("at", .int (-1))] := by
  obtain ⟨p, rfl, hp⟩ := up hn
  rw [callN_eq (d := d11) (np := 2) (ns := 2) rfl rfl]
  unfold d11
  have a := s6b (n := p) (y := y) (by omega) hx
  simp -dsimp -implicitDefEqProofs (disch := first | assumption | omega | decide) only [RX.x_C, RX.varK_v, RX.varK_o, RX.x_Var, RX.toR_some, RX.toB_some, RX.toT_some, RX.toS_some, RX.lk_some, RX.x_Op, RX.x_Un, RX.x_tE, RX.x_tNot, RX.x_tAnd, RX.x_tOr, RX.asB_bl, RX.x_And, RX.x_Or, RX.x_Not, RX.x_If, RX.x_nil, RX.x_cons, RX.x_Tup, RX.x_Lst, RX.x_IxV, RX.x_B, RX.x_B1, RX.x_Cmp, RX.x_anil, RX.x_av, RX.x_ae, RX.x_Call, RX.x_CallK, RX.x_CallV, RX.vK_fn, RX.x_do, RX.goK_some, RX.backE_some, RX.back_ok, RX.back_exc, RX.x_Seq, RX.x_Pass, RX.x_Brk, RX.x_Cont, RX.x_Set, RX.x_Unp, RX.x_Par, RX.x_Expr, RX.x_Ret, RX.retK_v, RX.retK_o, RX.x_RetV, RX.x_RetN, RX.x_SIf, RX.x_For, RX.x_Raise, RX.itK_some, RX.rgK_some, RX.x_iE, RX.x_iR1, RX.x_forN, RX.x_forC, RX.x_Try, RX.try_ret, RX.try_next, RX.try_exc, RX.h1K_some, RX.suite_ret, RX.suite_next, RX.x_Fld, RX.fldK_some, RX.stK_some, RX.turn_next, RX.turn_cont, RX.turn_brk, RX.turn_ret, RX.end_ret, RX.end_next, RX.end_exc, RX.pk_t, RX.pk_f, RX.bnd_ok, RX.bnd_exc, RX.outK_ok, RX.outK_exc, RX.obnd_next, RX.obnd_ret, RX.obnd_brk, RX.obnd_cont, RX.obnd_exc, RX.tr_bl, RX.tr_int, RX.f_add, RX.f_sub, RX.f_mul, RX.f_div, RX.f_mod, RX.f_neg, RX.f_lt, RX.f_le, RX.f_gt, RX.f_ge, RX.f_eqI, RX.f_neI, RX.f_eqB, RX.f_isN, RX.f_isNotN, RX.look, RX.isOwn, RX.owns, RX.argOf, RX.argsOf, RX.backTo, RX.nodupN, RX.stSl, RX.stAll, RX.Tg.st, RX.Ex.frz, RX.Ex.sl, RX.finish, RX.outsOf, RX.Arg.sl, RX.D.items?, RX.D.asInt?, RX.permL, RX.D.isNon, List.getElem?_cons_zero, List.getElem?_cons_succ, List.getElem?_nil, List.set_cons_zero, List.set_cons_succ, List.map_cons, List.map_nil, List.nil_append, List.cons_append, List.replicate_succ, List.replicate_zero, List.length_cons, List.length_nil, List.contains_nil, List.contains_cons, List.isEmpty_nil, List.isEmpty_cons, List.filterMap_cons, List.filterMap_nil, Option.map_some, Option.map_none, Option.bind_some, Option.bind_none, List.any_cons, List.any_nil, RX.Arg.isOwn, Bool.not_true, Bool.not_false, Bool.true_and, Bool.false_and, Bool.and_true, Bool.and_false, Bool.or_true, Bool.or_false, Bool.true_or, Bool.false_or, if_true, if_false, Bool.false_eq_true, ↓reduceIte, ite_true, ite_false, decide_true, decide_false, Nat.reduceSub, Nat.reduceAdd, beq_self_eq_true, a]
theorem e11c (hn : 5 ≤ n) (hx : x ∈ bads) : callN T n 11 [.d (enc r), .d x] = .exc 0 [("word", .str "other"), ("at", .int (-1))] := by
  obtain ⟨p, rfl, hp⟩ := up hn
  rw [callN_eq (d := d11) (np := 2) (ns := 2) rfl rfl]
  unfold d11
  have a := s6c (n := p) (r := r) (by omega) hx
  simp -dsimp -implicitDefEqProofs (disch := first | assumption | omega | decide) only [RX.x_C, RX.varK_v, RX.varK_o, RX.x_Var, RX.toR_some, RX.toB_some, RX.toT_some, RX.toS_some, RX.lk_some, RX.x_Op, RX.x_Un, RX.x_tE, RX.x_tNot, RX.x_tAnd, RX.x_tOr, RX.asB_bl, RX.x_And, RX.x_Or, RX.x_Not, RX.x_If, RX.x_nil, RX.x_cons, RX.x_Tup, RX.x_Lst, RX.x_IxV, RX.x_B, RX.x_B1, RX.x_Cmp, RX.x_anil, RX.x_av, RX.x_ae, RX.x_Call, RX.x_CallK, RX.x_CallV, RX.vK_fn, RX.x_do, RX.goK_some, RX.backE_some, RX.back_ok, RX.back_exc, RX.x_Seq, RX.x_Pass, RX.x_Brk, RX.x_Cont, RX.x_Set, RX.x_Unp, RX.x_Par, RX.x_Expr, RX.x_Ret, RX.retK_v, RX.retK_o, RX.x_RetV, RX.x_RetN, RX.x_SIf, RX.x_For, RX.x_Raise, RX.itK_some, RX.rgK_some, RX.x_iE, RX.x_iR1, RX.x_forN, RX.x_forC, RX.x_Try, RX.try_ret, RX.try_next, RX.try_exc, RX.h1K_some, RX.suite_ret, RX.suite_next, RX.x_Fld, RX.fldK_some, RX.stK_some, RX.turn_next, RX.turn_cont, RX.turn_brk, RX.turn_ret, RX.end_ret, RX.end_next, RX.end_exc, RX.pk_t, RX.pk_f, RX.bnd_ok, RX.bnd_exc, RX.outK_ok, RX.outK_exc, RX.obnd_next, RX.obnd_ret, RX.obnd_brk, RX.obnd_cont, RX.obnd_exc, RX.tr_bl, RX.tr_int, RX.f_add, RX.f_sub, RX.f_mul, RX.f_div, RX.f_mod, RX.f_neg, RX.f_lt, RX.f_le, RX.f_gt, RX.f_ge, RX.f_eqI, RX.f_neI, RX.f_eqB, RX.f_isN, RX.f_isNotN, RX.look, RX.isOwn, RX.owns, RX.argOf, RX.argsOf, RX.backTo, RX.nodupN, RX.stSl, RX.stAll, RX.Tg.st, RX.Ex.frz, RX.Ex.sl, RX.finish, RX.outsOf, RX.Arg.sl, RX.D.items?, RX.D.asInt?, RX.permL, RX.D.isNon, List.getElem?_cons_zero, List.getElem?_cons_succ, List.getElem?_nil, List.set_cons_zero, List.set_cons_succ, List.map_cons, List.map_nil, List.nil_append, List.cons_append, List.replicate_succ, List.replicate_zero, List.length_cons, List.length_nil, List.contains_nil, List.contains_cons, List.isEmpty_nil, List.isEmpty_cons, List.filterMap_cons, List.filterMap_nil, Option.map_some, Option.map_none, Option.bind_some, Option.bind_none, List.any_cons, List.any_nil, RX.Arg.isOwn, Bool.not_true, Bool.not_false, Bool.true_and, Bool.false_and, Bool.and_true, Bool.and_false, Bool.or_true, Bool.or_false, Bool.true_or, Bool.false_or, if_true, if_false, Bool.false_eq_true, ↓reduceIte, ite_true, ite_false, decide_true, decide_false, Nat.reduceSub, Nat.reduceAdd, beq_self_eq_true, a]
theorem e12b (hn : 5 ≤ n) (hx : x ∈ bads) : callN T n 12 [.d x, .d y] = .exc 0 [("word", .str "one"), ("at", .int (-1))] := by
  obtain ⟨p, rfl, hp⟩ := up hn
  rw [callN_eq (d := d12) (np := 2) (ns := 2) rfl rfl]
  unfold d12
  have a := s6b (n := p) (y := y) (by omega) hx
  simp -dsimp -implicitDefEqProofs (disch := first | assumption | omega | decide) only [RX.x_C, RX.varK_v, RX.varK_o, RX.x_Var, RX.toR_some, RX.toB_some, RX.toT_some, RX.toS_some, RX.lk_some, RX.x_Op, RX.x_Un, RX.x_tE, RX.x_tNot, RX.x_tAnd, RX.x_tOr, RX.asB_bl, RX.x_And, RX.x_Or, RX.x_Not, RX.x_If, RX.x_nil, RX.x_cons, RX.x_Tup, RX.x_Lst, RX.x_IxV, RX.x_B, RX.x_B1, RX.x_Cmp, RX.x_anil, RX.x_av, RX.x_ae, RX.x_Call, RX.x_CallK, RX.x_CallV, RX.vK_fn, RX.x_do, RX.goK_some, RX.backE_some, RX.back_ok, RX.back_exc, RX.x_Seq, RX.x_Pass, RX.x_Brk, RX.x_Cont, RX.x_Set, RX.x_Unp, RX.x_Par, RX.x_Expr, RX.x_Ret, RX.retK_v, RX.retK_o, RX.x_RetV, RX.x_RetN, RX.x_SIf, RX.x_For, RX.x_Raise, RX.itK_some, RX.rgK_some, RX.x_iE, RX.x_iR1, RX.x_forN, RX.x_forC, RX.x_Try, RX.try_ret, RX.try_next, RX.try_exc, RX.h1K_some, RX.suite_ret, RX.suite_next, RX.x_Fld, RX.fldK_some, RX.stK_some, RX.turn_next, RX.turn_cont, RX.turn_brk, RX.turn_ret, RX.end_ret, RX.end_next, RX.end_exc, RX.pk_t, RX.pk_f, RX.bnd_ok, RX.bnd_exc, RX.outK_ok, RX.outK_exc, RX.obnd_next, RX.obnd_ret, RX.obnd_brk, RX.obnd_cont, RX.obnd_exc, RX.tr_bl, RX.tr_int, RX.f_add, RX.f_sub, RX.f_mul, RX.f_div, RX.f_mod, RX.f_neg, RX.f_lt, RX.f_le, RX.f_gt, RX.f_ge, RX.f_eqI, RX.f_neI, RX.f_eqB, RX.f_isN, RX.f_isNotN, RX.look, RX.isOwn, RX.owns, RX.argOf, RX.argsOf, RX.backTo, RX.nodupN, RX.stSl, RX.stAll, RX.Tg.st, RX.Ex.frz, RX.Ex.sl, RX.finish, RX.outsOf, RX.Arg.sl, RX.D.items?, RX.D.asInt?, RX.permL, RX.D.isNon, List.getElem?_cons_zero, List.getElem?_cons_succ, List.getElem?_nil, List.set_cons_zero, List.set_cons_succ, List.map_cons, List.map_nil, List.nil_append, List.cons_append, List.replicate_succ, List.replicate_zero, List.length_cons, List.length_nil, List.contains_nil, List.contains_cons, List.isEmpty_nil, List.isEmpty_cons, List.filterMap_cons, List.filterMap_nil, Option.map_some, Option.map_none, Option.bind_some, Option.bind_none, List.any_cons, List.any_nil, RX.Arg.isOwn, Bool.not_true, Bool.not_false, Bool.true_and, Bool.false_and, Bool.and_true, Bool.and_false, Bool.or_true, Bool.or_false, Bool.true_or, Bool.false_or, if_true, if_false, Bool.false_eq_true, ↓reduceIte, ite_true, ite_false, decide_true, decide_false, Nat.reduceSub, Nat.reduceAdd, beq_self_eq_true, a]
theorem e12c (hn : 5 ≤ n) (hx : x ∈ bads) : callN T n 12 [.d (enc r), .d x] = .exc 0 [("word", .str "other"), ("at", .int (-1))] := by
  obtain ⟨p, rfl, hp⟩ := up hn
  rw [callN_eq (d := d12) (np := 2) (ns := 2) rfl rfl]
  unfold d12
  have a := s6c (n := p) (r := r) (by omega) hx
  simp -dsimp -implicitDefEqProofs (disch := first | assumption | omega | decide) only [RX.x_C, RX.varK_v, RX.varK_o, RX.x_Var, RX.toR_some, RX.toB_some, RX.toT_some, RX.toS_some, RX.lk_some, RX.x_Op, RX.x_Un, RX.x_tE, RX.x_tNot, RX.x_tAnd, RX.x_tOr, RX.asB_bl, RX.x_And, RX.x_Or, RX.x_Not, RX.x_If, RX.x_nil, RX.x_cons, RX.x_Tup, RX.x_Lst, RX.x_IxV, RX.x_B, RX.x_B1, RX.x_Cmp, RX.x_anil, RX.x_av, RX.x_ae, RX.x_Call, RX.x_CallK, RX.x_CallV, RX.vK_fn, RX.x_do, RX.goK_some, RX.backE_some, RX.back_ok, RX.back_exc, RX.x_Seq, RX.x_Pass, RX.x_Brk, RX.x_Cont, RX.x_Set, RX.x_Unp, RX.x_Par, RX.x_Expr, RX.x_Ret, RX.retK_v, RX.retK_o, RX.x_RetV, RX.x_RetN, RX.x_SIf, RX.x_For, RX.x_Raise, RX.itK_some, RX.rgK_some, RX.x_iE, RX.x_iR1, RX.x_forN, RX.x_forC, RX.x_Try, RX.try_ret, RX.try_next, RX.try_exc, RX.h1K_some, RX.suite_ret, RX.suite_next, RX.x_Fld, RX.fldK_some, RX.stK_some, RX.turn_next, RX.turn_cont, RX.turn_brk, RX.turn_ret, RX.end_ret, RX.end_next, RX.end_exc, RX.pk_t, RX.pk_f, RX.bnd_ok, RX.bnd_exc, RX.outK_ok, RX.outK_exc, RX.obnd_next, RX.obnd_ret, RX.obnd_brk, RX.obnd_cont, RX.obnd_exc, RX.tr_bl, RX.tr_int, RX.f_add, RX.f_sub, RX.f_mul, RX.f_div, RX.f_mod, RX.f_neg, RX.f_lt, RX.f_le, RX.f_gt, RX.f_ge, RX.f_eqI, RX.f_neI, RX.f_eqB, RX.f_isN, RX.f_isNotN, RX.look, RX.isOwn, RX.owns, RX.argOf, RX.argsOf, RX.backTo, RX.nodupN, RX.stSl, RX.stAll, RX.Tg.st, RX.Ex.frz, RX.Ex.sl, RX.finish, RX.outsOf, RX.Arg.sl, RX.D.items?, RX.D.asInt?, RX.permL, RX.D.isNon, List.getElem?_cons_zero, List.getElem?_cons_succ, List.getElem?_nil, List.set_cons_zero, List.set_cons_succ, List.map_cons, List.map_nil, List.nil_append, List.cons_append, List.replicate_succ, List.replicate_zero, List.length_cons, List.length_nil, List.contains_nil, List.contains_cons, List.isEmpty_nil, List.isEmpty_cons, List.filterMap_cons, List.filterMap_nil, Option.map_some, Option.map_none, Option.bind_some, Option.bind_none, List.any_cons, List.any_nil, RX.Arg.isOwn, Bool.not_true, Bool.not_false, Bool.true_and, Bool.false_and, Bool.and_true, Bool.and_false, Bool.or_true, Bool.or_false, Bool.true_or, Bool.false_or, if_true, if_false, Bool.false_eq_true, ↓reduceIte, ite_true, ite_false, decide_true, decide_false, Nat.reduceSub, Nat.reduceAdd, beq_self_eq_true, a]
theorem s33 (hn : 9 ≤ n) (hx : x ∈ bads) : callN T n 33 [.d x, .d (enc r)] = .ok (.d (.bl true)) [] := by
  obtain ⟨p, rfl⟩ : ∃ p, n = p + 9 := ⟨n - 9, by omega⟩
  rw [callN_eq (d := d33) (np := 2) (ns := 3) rfl rfl]
  unfold d33
  have w1 := sameN (n := p + 8) (by omega) "one"
  have w2 := sameN (n := p + 8) (by omega) "other"
  have a8 := s25e (e8b (n := p + 7) (y := enc r) (by omega) hx)
  have b8 := s25e (e8c (n := p + 7) (r := r) (by omega) hx)
  have c8 := s25e (e8b (n := p + 7) (y := x) (by omega) hx)
  have a9 := s25e (e9b (n := p + 7) (y := enc r) (by omega) hx)
  have b9 := s25e (e9c (n := p + 7) (r := r) (by omega) hx)
  have c9 := s25e (e9b (n := p + 7) (y := x) (by omega) hx)
  have a10 := s25e (e10b (n := p + 7) (y := enc r) (by omega) hx)
  have b10 := s25e (e10c (n := p + 7) (r := r) (by omega) hx)
  have c10 := s25e (e10b (n := p + 7) (y := x) (by omega) hx)
  have a11 := s25e (e11b (n := p + 7) (y := enc r) (by omega) hx)
  have b11 := s25e (e11c (n := p + 7) (r := r) (by omega) hx)
  have c11 := s25e (e11b (n := p + 7) (y := x) (by omega) hx)
  have a12 := s25e (e12b (n := p + 7) (y := enc r) (by omega) hx)
  have b12 := s25e (e12c (n := p + 7) (r := r) (by omega) hx)
  have c12 := s25e (e12b (n := p + 7) (y := x) (by omega) hx)
  have z := s25e (e11b (n := p + 7) (y := .tup [.int 0, .int 1]) (by omega) hx)
  simp -dsimp -implicitDefEqProofs (disch := first | assumption | omega | decide) only [RX.x_C, RX.varK_v, RX.varK_o, RX.x_Var, RX.toR_some, RX.toB_some, RX.toT_some, RX.toS_some, RX.lk_some, RX.x_Op, RX.x_Un, RX.x_tE, RX.x_tNot, RX.x_tAnd, RX.x_tOr, RX.asB_bl, RX.x_And, RX.x_Or, RX.x_Not, RX.x_If, RX.x_nil, RX.x_cons, RX.x_Tup, RX.x_Lst, RX.x_IxV, RX.x_B, RX.x_B1, RX.x_Cmp, RX.x_anil, RX.x_av, RX.x_ae, RX.x_Call, RX.x_CallK, RX.x_CallV, RX.vK_fn, RX.x_do, RX.goK_some, RX.backE_some, RX.back_ok, RX.back_exc, RX.x_Seq, RX.x_Pass, RX.x_Brk, RX.x_Cont, RX.x_Set, RX.x_Unp, RX.x_Par, RX.x_Expr, RX.x_Ret, RX.retK_v, RX.retK_o, RX.x_RetV, RX.x_RetN, RX.x_SIf, RX.x_For, RX.x_Raise, RX.itK_some, RX.rgK_some, RX.x_iE, RX.x_iR1, RX.x_forN, RX.x_forC, RX.x_Try, RX.try_ret, RX.try_next, RX.try_exc, RX.h1K_some, RX.suite_ret, RX.suite_next, RX.x_Fld, RX.fldK_some, RX.stK_some, RX.turn_next, RX.turn_cont, RX.turn_brk, RX.turn_ret, RX.end_ret, RX.end_next, RX.end_exc, RX.pk_t, RX.pk_f, RX.bnd_ok, RX.bnd_exc, RX.outK_ok, RX.outK_exc, RX.obnd_next, RX.obnd_ret, RX.obnd_brk, RX.obnd_cont, RX.obnd_exc, RX.tr_bl, RX.tr_int, RX.f_add, RX.f_sub, RX.f_mul, RX.f_div, RX.f_mod, RX.f_neg, RX.f_lt, RX.f_le, RX.f_gt, RX.f_ge, RX.f_eqI, RX.f_neI, RX.f_eqB, RX.f_isN, RX.f_isNotN, RX.look, RX.isOwn, RX.owns, RX.argOf, RX.argsOf, RX.backTo, RX.nodupN, RX.stSl, RX.stAll, RX.Tg.st, RX.Ex.frz, RX.Ex.sl, RX.finish, RX.outsOf, RX.Arg.sl, RX.D.items?, RX.D.asInt?, RX.permL, RX.D.isNon, List.getElem?_cons_zero, List.getElem?_cons_succ, List.getElem?_nil, List.set_cons_zero, List.set_cons_succ, List.map_cons, List.map_nil, List.nil_append, List.cons_append, List.replicate_succ, List.replicate_zero, List.length_cons, List.length_nil, List.contains_nil, List.contains_cons, List.isEmpty_nil, List.isEmpty_cons, List.filterMap_cons, List.filterMap_nil, Option.map_some, Option.map_none, Option.bind_some, Option.bind_none, List.any_cons, List.any_nil, RX.Arg.isOwn, Bool.not_true, Bool.not_false, Bool.true_and, Bool.false_and, Bool.and_true, Bool.and_false, Bool.or_true, Bool.or_false, Bool.true_or, Bool.false_or, if_true, if_false, Bool.false_eq_true, ↓reduceIte, ite_true, ite_false, decide_true, decide_false, Nat.reduceSub, Nat.reduceAdd, beq_self_eq_true, itT, w1, w2, a8, b8, c8, a9, b9, c9, a10, b10, c10, a11, b11, c11, a12, b12, c12, z]
end
end K01
set_option Elab.async false
set_option linter.all false
set_option maxRecDepth 100000
set_option maxHeartbeats 4000000
namespace K01
open PySem RX MQ
def odds : List D := [.non, .bl true, .bl false, .int (-1), .tup [.int 2], .str "2", .lst [], .tup [.int 1, .int 1]]
theorem s1o {n : Nat} (hn : 2 ≤ n) : ∀ x ∈ odds, callN T n 1 [.d x] = .ok (.d (.bl false)) [] := by
  obtain ⟨m, rfl⟩ : ∃ m, n = m + 2 := ⟨n - 2, by omega⟩
  exact all_cons rfl (all_cons rfl (all_cons rfl (all_cons rfl (all_cons rfl (all_cons rfl (all_cons rfl (all_cons rfl (all_nil))))))))
theorem e13b {n : Nat} (hn : 4 ≤ n) {x y : D} (hx : x ∈ bads) : callN T n 13 [.d x, .d y] = .exc 0 [("word", .str "one"), ("at", .int (-1))] := by
  obtain ⟨p, rfl, hp⟩ := up hn
  rw [callN_eq (d := d13) (np := 2) (ns := 5) rfl rfl]
  unfold d13
  have a := s2b (n := p) (by omega) x hx
  have b := s3f (n := p) (by omega)
  simp -dsimp -implicitDefEqProofs (disch := first | assumption | omega | decide) only [RX.x_C, RX.varK_v, RX.varK_o, RX.x_Var, RX.toR_some, RX.toB_some, RX.toT_some, RX.toS_some, RX.lk_some, RX.x_Op, RX.x_Un, RX.x_tE, RX.x_tNot, RX.x_tAnd, RX.x_tOr, RX.asB_bl, RX.x_And, RX.x_Or, RX.x_Not, RX.x_If, RX.x_nil, RX.x_cons, RX.x_Tup, RX.x_Lst, RX.x_IxV, RX.x_B, RX.x_B1, RX.x_Cmp, RX.x_anil, RX.x_av, RX.x_ae, RX.x_Call, RX.x_CallK, RX.x_CallV, RX.vK_fn, RX.x_do, RX.goK_some, RX.backE_some, RX.back_ok, RX.back_exc, RX.x_Seq, RX.x_Pass, RX.x_Brk, RX.x_Cont, RX.x_Set, RX.x_Unp, RX.x_Par, RX.x_Expr, RX.x_Ret, RX.retK_v, RX.retK_o, RX.x_RetV, RX.x_RetN, RX.x_SIf, RX.x_For, RX.x_Raise, RX.itK_some, RX.rgK_some, RX.x_iE, RX.x_iR1, RX.x_forN, RX.x_forC, RX.x_Try, RX.try_ret, RX.try_next, RX.try_exc, RX.h1K_some, RX.suite_ret, RX.suite_next, RX.x_Fld, RX.fldK_some, RX.stK_some, RX.turn_next, RX.turn_cont, RX.turn_brk, RX.turn_ret, RX.end_ret, RX.end_next, RX.end_exc, RX.pk_t, RX.pk_f, RX.bnd_ok, RX.bnd_exc, RX.outK_ok, RX.outK_exc, RX.obnd_next, RX.obnd_ret, RX.obnd_brk, RX.obnd_cont, RX.obnd_exc, RX.tr_bl, RX.tr_int, RX.f_add, RX.f_sub, RX.f_mul, RX.f_div, RX.f_mod, RX.f_neg, RX.f_lt, RX.f_le, RX.f_gt, RX.f_ge, RX.f_eqI, RX.f_neI, RX.f_eqB, RX.f_isN, RX.f_isNotN, RX.look, RX.isOwn, RX.owns, RX.argOf, RX.argsOf, RX.backTo, RX.nodupN, RX.stSl, RX.stAll, RX.Tg.st, RX.Ex.frz, RX.Ex.sl, RX.finish, RX.outsOf, RX.Arg.sl, RX.D.items?, RX.D.asInt?, RX.permL, RX.D.isNon, List.getElem?_cons_zero, List.getElem?_cons_succ, List.getElem?_nil, List.set_cons_zero, List.set_cons_succ, List.map_cons, List.map_nil, List.nil_append, List.cons_append, List.replicate_succ, List.replicate_zero, List.length_cons, List.length_nil, List.contains_nil, List.contains_cons, List.isEmpty_nil, List.isEmpty_cons, List.filterMap_cons, List.filterMap_nil, Option.map_some, Option.map_none, Option.bind_some, Option.bind_none, List.any_cons, List.any_nil, RX.Arg.isOwn, Bool.not_true, Bool.not_false, Bool.true_and, Bool.false_and, Bool.and_true, Bool.and_false, Bool.or_true, Bool.or_false, Bool.true_or, Bool.false_or, if_true, if_false, Bool.false_eq_true, ↓reduceIte, ite_true, ite_false, decide_true, decide_false, Nat.reduceSub, Nat.reduceAdd, beq_self_eq_true, a, b]
theorem e13c {n : Nat} (hn : 4 ≤ n) {r : Rat} {y : D} (hy : y ∈ odds) : callN T n 13 [.d (enc r), .d y] = .exc 0 [("word", .str "many"), ("at", .int (-1))] := by
  obtain ⟨p, rfl, hp⟩ := up hn
  rw [callN_eq (d := d13) (np := 2) (ns := 5) rfl rfl]
  unfold d13
  have a := s2 (n := p) (by omega) r
  have a1 := s1o (n := p) (by omega) y hy
  have b := s3f (n := p) (by omega)
  have b1 := s3t (n := p) (by omega)
  simp -dsimp -implicitDefEqProofs (disch := first | assumption | omega | decide) only [RX.x_C, RX.varK_v, RX.varK_o, RX.x_Var, RX.toR_some, RX.toB_some, RX.toT_some, RX.toS_some, RX.lk_some, RX.x_Op, RX.x_Un, RX.x_tE, RX.x_tNot, RX.x_tAnd, RX.x_tOr, RX.asB_bl, RX.x_And, RX.x_Or, RX.x_Not, RX.x_If, RX.x_nil, RX.x_cons, RX.x_Tup, RX.x_Lst, RX.x_IxV, RX.x_B, RX.x_B1, RX.x_Cmp, RX.x_anil, RX.x_av, RX.x_ae, RX.x_Call, RX.x_CallK, RX.x_CallV, RX.vK_fn, RX.x_do, RX.goK_some, RX.backE_some, RX.back_ok, RX.back_exc, RX.x_Seq, RX.x_Pass, RX.x_Brk, RX.x_Cont, RX.x_Set, RX.x_Unp, RX.x_Par, RX.x_Expr, RX.x_Ret, RX.retK_v, RX.retK_o, RX.x_RetV, RX.x_RetN, RX.x_SIf, RX.x_For, RX.x_Raise, RX.itK_some, RX.rgK_some, RX.x_iE, RX.x_iR1, RX.x_forN, RX.x_forC, RX.x_Try, RX.try_ret, RX.try_next, RX.try_exc, RX.h1K_some, RX.suite_ret, RX.suite_next, RX.x_Fld, RX.fldK_some, RX.stK_some, RX.turn_next, RX.turn_cont, RX.turn_brk, RX.turn_ret, RX.end_ret, RX.end_next, RX.end_exc, RX.pk_t, RX.pk_f, RX.bnd_ok, RX.bnd_exc, RX.outK_ok, RX.outK_exc, RX.obnd_next, RX.obnd_ret, RX.obnd_brk, RX.obnd_cont, RX.obnd_exc, RX.tr_bl, RX.tr_int, RX.f_add, RX.f_sub, RX.f_mul, RX.f_div, RX.f_mod, RX.f_neg, RX.f_lt, RX.f_le, RX.f_gt, RX.f_ge, RX.f_eqI, RX.f_neI, RX.f_eqB, RX.f_isN, RX.f_isNotN, RX.look, RX.isOwn, RX.owns, RX.argOf, RX.argsOf, RX.backTo, RX.nodupN, RX.stSl, RX.stAll, RX.Tg.st, RX.Ex.frz, RX.Ex.sl, RX.finish, RX.outsOf, RX.Arg.sl, RX.D.items?, RX.D.asInt?, RX.permL, RX.D.isNon, List.getElem?_cons_zero, List.getElem?_cons_succ, List.getElem?_nil, List.set_cons_zero, List.set_cons_succ, List.map_cons, List.map_nil, List.nil_append, List.cons_append, List.replicate_succ, List.replicate_zero, List.length_cons, List.length_nil, List.contains_nil, List.contains_cons, List.isEmpty_nil, List.isEmpty_cons, List.filterMap_cons, List.filterMap_nil, Option.map_some, Option.map_none, Option.bind_some, Option.bind_none, List.any_cons, List.any_nil, RX.Arg.isOwn, Bool.not_true, Bool.not_false, Bool.true_and, Bool.false_and, Bool.and_true, Bool.and_false, Bool.or_true, Bool.or_false, Bool.true_or, Bool.false_or, if_true, if_false, Bool.false_eq_true, ↓reduceIte, ite_true, ite_false, decide_true, decide_false, Nat.reduceSub, Nat.reduceAdd, beq_self_eq_true, a, a1, b, b1]
theorem q_lst {n : Nat} (hn : 3 ≤ n) {l : List D} : callN T n 2 [.d (.lst l)] = .ok (.d (.bl false)) [] := by
  obtain ⟨p, rfl, hp⟩ := up hn
  rw [callN_eq (d := d2) (np := 1) (ns := 3) rfl rfl]
  unfold d2
  simp -dsimp -implicitDefEqProofs (disch := first | assumption | omega | decide) only [RX.x_C, RX.varK_v, RX.varK_o, RX.x_Var, RX.toR_some, RX.toB_some, RX.toT_some, RX.toS_some, RX.lk_some, RX.x_Op, RX.x_Un, RX.x_tE, RX.x_tNot, RX.x_tAnd, RX.x_tOr, RX.asB_bl, RX.x_And, RX.x_Or, RX.x_Not, RX.x_If, RX.x_nil, RX.x_cons, RX.x_Tup, RX.x_Lst, RX.x_IxV, RX.x_B, RX.x_B1, RX.x_Cmp, RX.x_anil, RX.x_av, RX.x_ae, RX.x_Call, RX.x_CallK, RX.x_CallV, RX.vK_fn, RX.x_do, RX.goK_some, RX.backE_some, RX.back_ok, RX.back_exc, RX.x_Seq, RX.x_Pass, RX.x_Brk, RX.x_Cont, RX.x_Set, RX.x_Unp, RX.x_Par, RX.x_Expr, RX.x_Ret, RX.retK_v, RX.retK_o, RX.x_RetV, RX.x_RetN, RX.x_SIf, RX.x_For, RX.x_Raise, RX.itK_some, RX.rgK_some, RX.x_iE, RX.x_iR1, RX.x_forN, RX.x_forC, RX.x_Try, RX.try_ret, RX.try_next, RX.try_exc, RX.h1K_some, RX.suite_ret, RX.suite_next, RX.x_Fld, RX.fldK_some, RX.stK_some, RX.turn_next, RX.turn_cont, RX.turn_brk, RX.turn_ret, RX.end_ret, RX.end_next, RX.end_exc, RX.pk_t, RX.pk_f, RX.bnd_ok, RX.bnd_exc, RX.outK_ok, RX.outK_exc, RX.obnd_next, RX.obnd_ret, RX.obnd_brk, RX.obnd_cont, RX.obnd_exc, RX.tr_bl, RX.tr_int, RX.f_add, RX.f_sub, RX.f_mul, RX.f_div, RX.f_mod, RX.f_neg, RX.f_lt, RX.f_le, RX.f_gt, RX.f_ge, RX.f_eqI, RX.f_neI, RX.f_eqB, RX.f_isN, RX.f_isNotN, RX.look, RX.isOwn, RX.owns, RX.argOf, RX.argsOf, RX.backTo, RX.nodupN, RX.stSl, RX.stAll, RX.Tg.st, RX.Ex.frz, RX.Ex.sl, RX.finish, RX.outsOf, RX.Arg.sl, RX.D.items?, RX.D.asInt?, RX.permL, RX.D.isNon, List.getElem?_cons_zero, List.getElem?_cons_succ, List.getElem?_nil, List.set_cons_zero, List.set_cons_succ, List.map_cons, List.map_nil, List.nil_append, List.cons_append, List.replicate_succ, List.replicate_zero, List.length_cons, List.length_nil, List.contains_nil, List.contains_cons, List.isEmpty_nil, List.isEmpty_cons, List.filterMap_cons, List.filterMap_nil, Option.map_some, Option.map_none, Option.bind_some, Option.bind_none, List.any_cons, List.any_nil, RX.Arg.isOwn, Bool.not_true, Bool.not_false, Bool.true_and, Bool.false_and, Bool.and_true, Bool.and_false, Bool.or_true, Bool.or_false, Bool.true_or, Bool.false_or, if_true, if_false, Bool.false_eq_true, ↓reduceIte, ite_true, ite_false, decide_true, decide_false, Nat.reduceSub, Nat.reduceAdd, beq_self_eq_true, bIsi, isT]
theorem q_int {n : Nat} (hn : 3 ≤ n) {i : Int} : callN T n 2 [.d (.int i)] = .ok (.d (.bl false)) [] := by
  obtain ⟨p, rfl, hp⟩ := up hn
  rw [callN_eq (d := d2) (np := 1) (ns := 3) rfl rfl]
  unfold d2
  simp -dsimp -implicitDefEqProofs (disch := first | assumption | omega | decide) only [RX.x_C, RX.varK_v, RX.varK_o, RX.x_Var, RX.toR_some, RX.toB_some, RX.toT_some, RX.toS_some, RX.lk_some, RX.x_Op, RX.x_Un, RX.x_tE, RX.x_tNot, RX.x_tAnd, RX.x_tOr, RX.asB_bl, RX.x_And, RX.x_Or, RX.x_Not, RX.x_If, RX.x_nil, RX.x_cons, RX.x_Tup, RX.x_Lst, RX.x_IxV, RX.x_B, RX.x_B1, RX.x_Cmp, RX.x_anil, RX.x_av, RX.x_ae, RX.x_Call, RX.x_CallK, RX.x_CallV, RX.vK_fn, RX.x_do, RX.goK_some, RX.backE_some, RX.back_ok, RX.back_exc, RX.x_Seq, RX.x_Pass, RX.x_Brk, RX.x_Cont, RX.x_Set, RX.x_Unp, RX.x_Par, RX.x_Expr, RX.x_Ret, RX.retK_v, RX.retK_o, RX.x_RetV, RX.x_RetN, RX.x_SIf, RX.x_For, RX.x_Raise, RX.itK_some, RX.rgK_some, RX.x_iE, RX.x_iR1, RX.x_forN, RX.x_forC, RX.x_Try, RX.try_ret, RX.try_next, RX.try_exc, RX.h1K_some, RX.suite_ret, RX.suite_next, RX.x_Fld, RX.fldK_some, RX.stK_some, RX.turn_next, RX.turn_cont, RX.turn_brk, RX.turn_ret, RX.end_ret, RX.end_next, RX.end_exc, RX.pk_t, RX.pk_f, RX.bnd_ok, RX.bnd_exc, RX.outK_ok, RX.outK_exc, RX.obnd_next, RX.obnd_ret, RX.obnd_brk, RX.obnd_cont, RX.obnd_exc, RX.tr_bl, RX.tr_int, RX.f_add, RX.f_sub, RX.f_mul, RX.f_div, RX.f_mod, RX.f_neg, RX.f_lt, RX.f_le, RX.f_gt, RX.f_ge, RX.f_eqI, RX.f_neI, RX.f_eqB, RX.f_isN, RX.f_isNotN, RX.look, RX.isOwn, RX.owns, RX.argOf, RX.argsOf, RX.backTo, RX.nodupN, RX.stSl, RX.stAll, RX.Tg.st, RX.Ex.frz, RX.Ex.sl, RX.finish, RX.outsOf, RX.Arg.sl, RX.D.items?, RX.D.asInt?, RX.permL, RX.D.isNon, List.getElem?_cons_zero, List.getElem?_cons_succ, List.getElem?_nil, List.set_cons_zero, List.set_cons_succ, List.map_cons, List.map_nil, List.nil_append, List.cons_append, List.replicate_succ, List.replicate_zero, List.length_cons, List.length_nil, List.contains_nil, List.contains_cons, List.isEmpty_nil, List.isEmpty_cons, List.filterMap_cons, List.filterMap_nil, Option.map_some, Option.map_none, Option.bind_some, Option.bind_none, List.any_cons, List.any_nil, RX.Arg.isOwn, Bool.not_true, Bool.not_false, Bool.true_and, Bool.false_and, Bool.and_true, Bool.and_false, Bool.or_true, Bool.or_false, Bool.true_or, Bool.false_or, if_true, if_false, Bool.false_eq_true, ↓reduceIte, ite_true, ite_false, decide_true, decide_false, Nat.reduceSub, Nat.reduceAdd, beq_self_eq_true, bIsi, isT]
/-! total, refused -/
noncomputable def qd (n : Nat) (y : D) : Bool := open Classical in decide (callN T n 2 [.d y] = .ok (.d (.bl true)) [])
theorem qd_eq {n : Nat} {y : D} {b : Bool} (h : callN T n 2 [.d y] = .ok (.d (.bl b)) []) : qd n y = b := by
  classical
  unfold qd
  cases b with
  | true => exact @decide_eq_true _ _ h
  | false => exact @decide_eq_false _ _ (by rw [h]; intro z; cases z)
theorem blsOf_map (q : D → Bool) : ∀ l : List D, blsOf (l.map fun y => .bl (q y)) = some (l.map q)
  | [] => rfl
  | y :: l => by
    show (blsOf (l.map fun y => .bl (q y))).map (fun z => q y :: z) = _
    rw [blsOf_map q l]
    rfl
theorem all_f {q : D → Bool} {l : List D} {y : D} (hy : y ∈ l) (h : q y = false) : bAll [.lst (l.map fun y => .bl (q y))] = some (.d (.bl false)) := by
  show (blsOf (l.map fun y => .bl (q y))).map (fun bs => Ex.d (.bl (bs.all id))) = _
  rw [blsOf_map]
  show some (Ex.d (.bl ((l.map q).all id))) = _
  congr 3
  rw [List.all_eq_false]
  exact ⟨false, List.mem_map.mpr ⟨y, hy, h⟩, by decide⟩
theorem e14 {n : Nat} (hn : 4 ≤ n) {l : List D} {y : D} (hl : l.length ≤ 100) (h : ∀ z ∈ l, ∃ b, callN T (n - 1) 2 [.d z] = .ok (.d (.bl b)) []) (hy : y ∈ l) (hb : callN T (n - 1) 2 [.d y] = .ok (.d (.bl false)) []) :
    callN T n 14 [.d (.tup l)] = .exc 0 [("word", .str "quotients"), ("at", .int (-1))] := by
  obtain ⟨p, rfl, hp⟩ := up hn
  rw [Nat.add_sub_cancel] at h hb
  rw [callN_eq (d := d14) (np := 1) (ns := 3) rfl rfl]
  unfold d14
  have b := s3f (n := p) (by omega)
  have c : compL [1] (.v 1) (tests []) (dCall 2 [.v 1]) (callN T p) l (wipe [.val (.tup l), .none, .none] [1]) = .ok (l.map fun y => .bl (qd p y)) [.val (.tup l), .none, .none] := by
    refine comp_of (ρ := [.val (.tup l), .none, .none]) rfl fun x hx => ?_
    obtain ⟨k, a⟩ := h x hx
    refine ⟨[.val (.tup l), .val x, .none], .d (.bl k), [.val (.tup l), .val x, .none], rfl, ?_, ?_, rfl⟩
    · simp -dsimp -implicitDefEqProofs (disch := first | assumption | omega | decide) only [RX.x_C, RX.varK_v, RX.varK_o, RX.x_Var, RX.toR_some, RX.toB_some, RX.toT_some, RX.toS_some, RX.lk_some, RX.x_Op, RX.x_Un, RX.x_tE, RX.x_tNot, RX.x_tAnd, RX.x_tOr, RX.asB_bl, RX.x_And, RX.x_Or, RX.x_Not, RX.x_If, RX.x_nil, RX.x_cons, RX.x_Tup, RX.x_Lst, RX.x_IxV, RX.x_B, RX.x_B1, RX.x_Cmp, RX.x_anil, RX.x_av, RX.x_ae, RX.x_Call, RX.x_CallK, RX.x_CallV, RX.vK_fn, RX.x_do, RX.goK_some, RX.backE_some, RX.back_ok, RX.back_exc, RX.x_Seq, RX.x_Pass, RX.x_Brk, RX.x_Cont, RX.x_Set, RX.x_Unp, RX.x_Par, RX.x_Expr, RX.x_Ret, RX.retK_v, RX.retK_o, RX.x_RetV, RX.x_RetN, RX.x_SIf, RX.x_For, RX.x_Raise, RX.itK_some, RX.rgK_some, RX.x_iE, RX.x_iR1, RX.x_forN, RX.x_forC, RX.x_Try, RX.try_ret, RX.try_next, RX.try_exc, RX.h1K_some, RX.suite_ret, RX.suite_next, RX.x_Fld, RX.fldK_some, RX.stK_some, RX.turn_next, RX.turn_cont, RX.turn_brk, RX.turn_ret, RX.end_ret, RX.end_next, RX.end_exc, RX.pk_t, RX.pk_f, RX.bnd_ok, RX.bnd_exc, RX.outK_ok, RX.outK_exc, RX.obnd_next, RX.obnd_ret, RX.obnd_brk, RX.obnd_cont, RX.obnd_exc, RX.tr_bl, RX.tr_int, RX.f_add, RX.f_sub, RX.f_mul, RX.f_div, RX.f_mod, RX.f_neg, RX.f_lt, RX.f_le, RX.f_gt, RX.f_ge, RX.f_eqI, RX.f_neI, RX.f_eqB, RX.f_isN, RX.f_isNotN, RX.look, RX.isOwn, RX.owns, RX.argOf, RX.argsOf, RX.backTo, RX.nodupN, RX.stSl, RX.stAll, RX.Tg.st, RX.Ex.frz, RX.Ex.sl, RX.finish, RX.outsOf, RX.Arg.sl, RX.D.items?, RX.D.asInt?, RX.permL, RX.D.isNon, List.getElem?_cons_zero, List.getElem?_cons_succ, List.getElem?_nil, List.set_cons_zero, List.set_cons_succ, List.map_cons, List.map_nil, List.nil_append, List.cons_append, List.replicate_succ, List.replicate_zero, List.length_cons, List.length_nil, List.contains_nil, List.contains_cons, List.isEmpty_nil, List.isEmpty_cons, List.filterMap_cons, List.filterMap_nil, Option.map_some, Option.map_none, Option.bind_some, Option.bind_none, List.any_cons, List.any_nil, RX.Arg.isOwn, Bool.not_true, Bool.not_false, Bool.true_and, Bool.false_and, Bool.and_true, Bool.and_false, Bool.or_true, Bool.or_false, Bool.true_or, Bool.false_or, if_true, if_false, Bool.false_eq_true, ↓reduceIte, ite_true, ite_false, decide_true, decide_false, Nat.reduceSub, Nat.reduceAdd, beq_self_eq_true, a]
    · rw [qd_eq a]
      rfl
  have hc := x_Comp (C := callN T p) (ρ := [.val (.tup l), .none, .none]) (it := iE (dVar 0)) (l := l) (ρ1 := [.val (.tup l), .none, .none]) (by simp -dsimp -implicitDefEqProofs (disch := first | assumption | omega | decide) only [RX.x_C, RX.varK_v, RX.varK_o, RX.x_Var, RX.toR_some, RX.toB_some, RX.toT_some, RX.toS_some, RX.lk_some, RX.x_Op, RX.x_Un, RX.x_tE, RX.x_tNot, RX.x_tAnd, RX.x_tOr, RX.asB_bl, RX.x_And, RX.x_Or, RX.x_Not, RX.x_If, RX.x_nil, RX.x_cons, RX.x_Tup, RX.x_Lst, RX.x_IxV, RX.x_B, RX.x_B1, RX.x_Cmp, RX.x_anil, RX.x_av, RX.x_ae, RX.x_Call, RX.x_CallK, RX.x_CallV, RX.vK_fn, RX.x_do, RX.goK_some, RX.backE_some, RX.back_ok, RX.back_exc, RX.x_Seq, RX.x_Pass, RX.x_Brk, RX.x_Cont, RX.x_Set, RX.x_Unp, RX.x_Par, RX.x_Expr, RX.x_Ret, RX.retK_v, RX.retK_o, RX.x_RetV, RX.x_RetN, RX.x_SIf, RX.x_For, RX.x_Raise, RX.itK_some, RX.rgK_some, RX.x_iE, RX.x_iR1, RX.x_forN, RX.x_forC, RX.x_Try, RX.try_ret, RX.try_next, RX.try_exc, RX.h1K_some, RX.suite_ret, RX.suite_next, RX.x_Fld, RX.fldK_some, RX.stK_some, RX.turn_next, RX.turn_cont, RX.turn_brk, RX.turn_ret, RX.end_ret, RX.end_next, RX.end_exc, RX.pk_t, RX.pk_f, RX.bnd_ok, RX.bnd_exc, RX.outK_ok, RX.outK_exc, RX.obnd_next, RX.obnd_ret, RX.obnd_brk, RX.obnd_cont, RX.obnd_exc, RX.tr_bl, RX.tr_int, RX.f_add, RX.f_sub, RX.f_mul, RX.f_div, RX.f_mod, RX.f_neg, RX.f_lt, RX.f_le, RX.f_gt, RX.f_ge, RX.f_eqI, RX.f_neI, RX.f_eqB, RX.f_isN, RX.f_isNotN, RX.look, RX.isOwn, RX.owns, RX.argOf, RX.argsOf, RX.backTo, RX.nodupN, RX.stSl, RX.stAll, RX.Tg.st, RX.Ex.frz, RX.Ex.sl, RX.finish, RX.outsOf, RX.Arg.sl, RX.D.items?, RX.D.asInt?, RX.permL, RX.D.isNon, List.getElem?_cons_zero, List.getElem?_cons_succ, List.getElem?_nil, List.set_cons_zero, List.set_cons_succ, List.map_cons, List.map_nil, List.nil_append, List.cons_append, List.replicate_succ, List.replicate_zero, List.length_cons, List.length_nil, List.contains_nil, List.contains_cons, List.isEmpty_nil, List.isEmpty_cons, List.filterMap_cons, List.filterMap_nil, Option.map_some, Option.map_none, Option.bind_some, Option.bind_none, List.any_cons, List.any_nil, RX.Arg.isOwn, Bool.not_true, Bool.not_false, Bool.true_and, Bool.false_and, Bool.and_true, Bool.and_false, Bool.or_true, Bool.or_false, Bool.true_or, Bool.false_or, if_true, if_false, Bool.false_eq_true, ↓reduceIte, ite_true, ite_false, decide_true, decide_false, Nat.reduceSub, Nat.reduceAdd, beq_self_eq_true, itT]) (by show l.length < 16777216; omega) rfl c
  have hu : unwipe [.val (.tup l), .none, .none] [.val (.tup l), .none, .none] [1] = [.val (.tup l), .none, .none] := rfl
  rw [hu] at hc
  have af := all_f hy (qd_eq hb)
  simp -dsimp -implicitDefEqProofs (disch := first | assumption | omega | decide) only [RX.x_C, RX.varK_v, RX.varK_o, RX.x_Var, RX.toR_some, RX.toB_some, RX.toT_some, RX.toS_some, RX.lk_some, RX.x_Op, RX.x_Un, RX.x_tE, RX.x_tNot, RX.x_tAnd, RX.x_tOr, RX.asB_bl, RX.x_And, RX.x_Or, RX.x_Not, RX.x_If, RX.x_nil, RX.x_cons, RX.x_Tup, RX.x_Lst, RX.x_IxV, RX.x_B, RX.x_B1, RX.x_Cmp, RX.x_anil, RX.x_av, RX.x_ae, RX.x_Call, RX.x_CallK, RX.x_CallV, RX.vK_fn, RX.x_do, RX.goK_some, RX.backE_some, RX.back_ok, RX.back_exc, RX.x_Seq, RX.x_Pass, RX.x_Brk, RX.x_Cont, RX.x_Set, RX.x_Unp, RX.x_Par, RX.x_Expr, RX.x_Ret, RX.retK_v, RX.retK_o, RX.x_RetV, RX.x_RetN, RX.x_SIf, RX.x_For, RX.x_Raise, RX.itK_some, RX.rgK_some, RX.x_iE, RX.x_iR1, RX.x_forN, RX.x_forC, RX.x_Try, RX.try_ret, RX.try_next, RX.try_exc, RX.h1K_some, RX.suite_ret, RX.suite_next, RX.x_Fld, RX.fldK_some, RX.stK_some, RX.turn_next, RX.turn_cont, RX.turn_brk, RX.turn_ret, RX.end_ret, RX.end_next, RX.end_exc, RX.pk_t, RX.pk_f, RX.bnd_ok, RX.bnd_exc, RX.outK_ok, RX.outK_exc, RX.obnd_next, RX.obnd_ret, RX.obnd_brk, RX.obnd_cont, RX.obnd_exc, RX.tr_bl, RX.tr_int, RX.f_add, RX.f_sub, RX.f_mul, RX.f_div, RX.f_mod, RX.f_neg, RX.f_lt, RX.f_le, RX.f_gt, RX.f_ge, RX.f_eqI, RX.f_neI, RX.f_eqB, RX.f_isN, RX.f_isNotN, RX.look, RX.isOwn, RX.owns, RX.argOf, RX.argsOf, RX.backTo, RX.nodupN, RX.stSl, RX.stAll, RX.Tg.st, RX.Ex.frz, RX.Ex.sl, RX.finish, RX.outsOf, RX.Arg.sl, RX.D.items?, RX.D.asInt?, RX.permL, RX.D.isNon, List.getElem?_cons_zero, List.getElem?_cons_succ, List.getElem?_nil, List.set_cons_zero, List.set_cons_succ, List.map_cons, List.map_nil, List.nil_append, List.cons_append, List.replicate_succ, List.replicate_zero, List.length_cons, List.length_nil, List.contains_nil, List.contains_cons, List.isEmpty_nil, List.isEmpty_cons, List.filterMap_cons, List.filterMap_nil, Option.map_some, Option.map_none, Option.bind_some, Option.bind_none, List.any_cons, List.any_nil, RX.Arg.isOwn, Bool.not_true, Bool.not_false, Bool.true_and, Bool.false_and, Bool.and_true, Bool.and_false, Bool.or_true, Bool.or_false, Bool.true_or, Bool.false_or, if_true, if_false, Bool.false_eq_true, ↓reduceIte, ite_true, ite_false, decide_true, decide_false, Nat.reduceSub, Nat.reduceAdd, beq_self_eq_true, bIsi, isT, hc, af, b]
theorem e14n {n : Nat} (hn : 4 ≤ n) : callN T n 14 [.d .non] = .exc 0 [("word", .str "quotients"), ("at", .int (-1))] := by
  obtain ⟨p, rfl, hp⟩ := up hn
  rw [callN_eq (d := d14) (np := 1) (ns := 3) rfl rfl]
  unfold d14
  have b := s3f (n := p) (by omega)
  simp -dsimp -implicitDefEqProofs (disch := first | assumption | omega | decide) only [RX.x_C, RX.varK_v, RX.varK_o, RX.x_Var, RX.toR_some, RX.toB_some, RX.toT_some, RX.toS_some, RX.lk_some, RX.x_Op, RX.x_Un, RX.x_tE, RX.x_tNot, RX.x_tAnd, RX.x_tOr, RX.asB_bl, RX.x_And, RX.x_Or, RX.x_Not, RX.x_If, RX.x_nil, RX.x_cons, RX.x_Tup, RX.x_Lst, RX.x_IxV, RX.x_B, RX.x_B1, RX.x_Cmp, RX.x_anil, RX.x_av, RX.x_ae, RX.x_Call, RX.x_CallK, RX.x_CallV, RX.vK_fn, RX.x_do, RX.goK_some, RX.backE_some, RX.back_ok, RX.back_exc, RX.x_Seq, RX.x_Pass, RX.x_Brk, RX.x_Cont, RX.x_Set, RX.x_Unp, RX.x_Par, RX.x_Expr, RX.x_Ret, RX.retK_v, RX.retK_o, RX.x_RetV, RX.x_RetN, RX.x_SIf, RX.x_For, RX.x_Raise, RX.itK_some, RX.rgK_some, RX.x_iE, RX.x_iR1, RX.x_forN, RX.x_forC, RX.x_Try, RX.try_ret, RX.try_next, RX.try_exc, RX.h1K_some, RX.suite_ret, RX.suite_next, RX.x_Fld, RX.fldK_some, RX.stK_some, RX.turn_next, RX.turn_cont, RX.turn_brk, RX.turn_ret, RX.end_ret, RX.end_next, RX.end_exc, RX.pk_t, RX.pk_f, RX.bnd_ok, RX.bnd_exc, RX.outK_ok, RX.outK_exc, RX.obnd_next, RX.obnd_ret, RX.obnd_brk, RX.obnd_cont, RX.obnd_exc, RX.tr_bl, RX.tr_int, RX.f_add, RX.f_sub, RX.f_mul, RX.f_div, RX.f_mod, RX.f_neg, RX.f_lt, RX.f_le, RX.f_gt, RX.f_ge, RX.f_eqI, RX.f_neI, RX.f_eqB, RX.f_isN, RX.f_isNotN, RX.look, RX.isOwn, RX.owns, RX.argOf, RX.argsOf, RX.backTo, RX.nodupN, RX.stSl, RX.stAll, RX.Tg.st, RX.Ex.frz, RX.Ex.sl, RX.finish, RX.outsOf, RX.Arg.sl, RX.D.items?, RX.D.asInt?, RX.permL, RX.D.isNon, List.getElem?_cons_zero, List.getElem?_cons_succ, List.getElem?_nil, List.set_cons_zero, List.set_cons_succ, List.map_cons, List.map_nil, List.nil_append, List.cons_append, List.replicate_succ, List.replicate_zero, List.length_cons, List.length_nil, List.contains_nil, List.contains_cons, List.isEmpty_nil, List.isEmpty_cons, List.filterMap_cons, List.filterMap_nil, Option.map_some, Option.map_none, Option.bind_some, Option.bind_none, List.any_cons, List.any_nil, RX.Arg.isOwn, Bool.not_true, Bool.not_false, Bool.true_and, Bool.false_and, Bool.and_true, Bool.and_false, Bool.or_true, Bool.or_false, Bool.true_or, Bool.false_or, if_true, if_false, Bool.false_eq_true, ↓reduceIte, ite_true, ite_false, decide_true, decide_false, Nat.reduceSub, Nat.reduceAdd, beq_self_eq_true, bIsi, isT, b]
theorem e14l {n : Nat} (hn : 4 ≤ n) {l : List D} : callN T n 14 [.d (.lst l)] = .exc 0 [("word", .str "quotients"), ("at", .int (-1))] := by
  obtain ⟨p, rfl, hp⟩ := up hn
  rw [callN_eq (d := d14) (np := 1) (ns := 3) rfl rfl]
  unfold d14
  have b := s3f (n := p) (by omega)
  simp -dsimp -implicitDefEqProofs (disch := first | assumption | omega | decide) only [RX.x_C, RX.varK_v, RX.varK_o, RX.x_Var, RX.toR_some, RX.toB_some, RX.toT_some, RX.toS_some, RX.lk_some, RX.x_Op, RX.x_Un, RX.x_tE, RX.x_tNot, RX.x_tAnd, RX.x_tOr, RX.asB_bl, RX.x_And, RX.x_Or, RX.x_Not, RX.x_If, RX.x_nil, RX.x_cons, RX.x_Tup, RX.x_Lst, RX.x_IxV, RX.x_B, RX.x_B1, RX.x_Cmp, RX.x_anil, RX.x_av, RX.x_ae, RX.x_Call, RX.x_CallK, RX.x_CallV, RX.vK_fn, RX.x_do, RX.goK_some, RX.backE_some, RX.back_ok, RX.back_exc, RX.x_Seq, RX.x_Pass, RX.x_Brk, RX.x_Cont, RX.x_Set, RX.x_Unp, RX.x_Par, RX.x_Expr, RX.x_Ret, RX.retK_v, RX.retK_o, RX.x_RetV, RX.x_RetN, RX.x_SIf, RX.x_For, RX.x_Raise, RX.itK_some, RX.rgK_some, RX.x_iE, RX.x_iR1, RX.x_forN, RX.x_forC, RX.x_Try, RX.try_ret, RX.try_next, RX.try_exc, RX.h1K_some, RX.suite_ret, RX.suite_next, RX.x_Fld, RX.fldK_some, RX.stK_some, RX.turn_next, RX.turn_cont, RX.turn_brk, RX.turn_ret, RX.end_ret, RX.end_next, RX.end_exc, RX.pk_t, RX.pk_f, RX.bnd_ok, RX.bnd_exc, RX.outK_ok, RX.outK_exc, RX.obnd_next, RX.obnd_ret, RX.obnd_brk, RX.obnd_cont, RX.obnd_exc, RX.tr_bl, RX.tr_int, RX.f_add, RX.f_sub, RX.f_mul, RX.f_div, RX.f_mod, RX.f_neg, RX.f_lt, RX.f_le, RX.f_gt, RX.f_ge, RX.f_eqI, RX.f_neI, RX.f_eqB, RX.f_isN, RX.f_isNotN, RX.look, RX.isOwn, RX.owns, RX.argOf, RX.argsOf, RX.backTo, RX.nodupN, RX.stSl, RX.stAll, RX.Tg.st, RX.Ex.frz, RX.Ex.sl, RX.finish, RX.outsOf, RX.Arg.sl, RX.D.items?, RX.D.asInt?, RX.permL, RX.D.isNon, List.getElem?_cons_zero, List.getElem?_cons_succ, List.getElem?_nil, List.set_cons_zero, List.set_cons_succ, List.map_cons, List.map_nil, List.nil_append, List.cons_append, List.replicate_succ, List.replicate_zero, List.length_cons, List.length_nil, List.contains_nil, List.contains_cons, List.isEmpty_nil, List.isEmpty_cons, List.filterMap_cons, List.filterMap_nil, Option.map_some, Option.map_none, Option.bind_some, Option.bind_none, List.any_cons, List.any_nil, RX.Arg.isOwn, Bool.not_true, Bool.not_false, Bool.true_and, Bool.false_and, Bool.and_true, Bool.and_false, Bool.or_true, Bool.or_false, Bool.true_or, Bool.false_or, if_true, if_false, Bool.false_eq_true, ↓reduceIte, ite_true, ite_false, decide_true, decide_false, Nat.reduceSub, Nat.reduceAdd, beq_self_eq_true, bIsi, isT, b]
theorem mem2 {P : D → Prop} {a b : D} (h1 : P a) (h2 : P b) : ∀ z ∈ [a, b], P z := all_cons h1 (all_cons h2 all_nil)
theorem mem3 {P : D → Prop} {a b c : D} (h1 : P a) (h2 : P b) (h3 : P c) : ∀ z ∈ [a, b, c], P z := all_cons h1 (all_cons h2 (all_cons h3 all_nil))
theorem s34 {n : Nat} (hn : 12 ≤ n) {x o : D} {r : Rat} (hx : x ∈ bads) (ho : o ∈ odds) : callN T n 34 [.d x, .d (enc r), .d o] = .ok (.d (.bl true)) [] := by
  obtain ⟨p, rfl⟩ : ∃ p, n = p + 12 := ⟨n - 12, by omega⟩
  rw [callN_eq (d := d34) (np := 3) (ns := 4) rfl rfl]
  unfold d34
  have w1 := sameN (n := p + 11) (by omega) "one"
  have w2 := sameN (n := p + 11) (by omega) "many"
  have w3 := sameN (n := p + 11) (by omega) "quotients"
  have w4 := sameN (n := p + 11) (by omega) "top"
  have w5 := sameN (n := p + 11) (by omega) "bottom"
  have r1 := s25e (e13b (n := p + 10) (y := o) (by omega) hx)
  have r2 := s25e (e13c (n := p + 10) (r := r) (by omega) ho)
  have g2 := s2 (n := p + 9) (by omega) r
  have b2 := s2b (n := p + 9) (by omega) x hx
  have l2 := q_lst (n := p + 9) (l := [x]) (by omega)
  have t1 := s26e (e14l (n := p + 10) (l := [enc r]) (by omega))
  have t2 := s26e (e14n (n := p + 10) (by omega))
  have t3 := s26e (e14 (n := p + 10) (l := [enc r, x]) (y := x) (by omega) (by show 2 ≤ 100; omega) (mem2 ⟨_, g2⟩ ⟨_, b2⟩) (List.mem_cons_of_mem _ List.mem_cons_self) b2)
  have t4 := s26e (e14 (n := p + 10) (l := [x, enc r]) (y := x) (by omega) (by show 2 ≤ 100; omega) (mem2 ⟨_, b2⟩ ⟨_, g2⟩) List.mem_cons_self b2)
  have t5 := s26e (e14 (n := p + 10) (l := [.int r.num, .int r.den]) (y := .int r.num) (by omega) (by show 2 ≤ 100; omega) (mem2 ⟨_, q_int (by omega)⟩ ⟨_, q_int (by omega)⟩) List.mem_cons_self (q_int (by omega)))
  have t5' : callN T (p + 11) 26 [.d (enc r)] = .ok (.d (.tup [.str "no", .str "quotients", .int (-1)])) [] := t5
  have t6 := s26e (e14 (n := p + 10) (l := [enc r, .lst [x], enc r]) (y := .lst [x]) (by omega) (by show 3 ≤ 100; omega) (mem3 ⟨_, g2⟩ ⟨_, l2⟩ ⟨_, g2⟩) (List.mem_cons_of_mem _ List.mem_cons_self) l2)
  have u0 := s25e (n := p + 10) (show callN T (p + 10) 7 [.d (.non), .d (.int 0)] = .exc 0 [("word", .str "top"), ("at", .int (-1))] from rfl)
  have u1 := s25e (n := p + 10) (show callN T (p + 10) 7 [.d (.non), .d (.int 3)] = .exc 0 [("word", .str "top"), ("at", .int (-1))] from rfl)
  have v1 := s25e (n := p + 10) (show callN T (p + 10) 7 [.d (.int (-3)), .d (.non)] = .exc 0 [("word", .str "bottom"), ("at", .int (-1))] from rfl)
  have u2 := s25e (n := p + 10) (show callN T (p + 10) 7 [.d (.bl true), .d (.int 3)] = .exc 0 [("word", .str "top"), ("at", .int (-1))] from rfl)
  have v2 := s25e (n := p + 10) (show callN T (p + 10) 7 [.d (.int (-3)), .d (.bl true)] = .exc 0 [("word", .str "bottom"), ("at", .int (-1))] from rfl)
  have u3 := s25e (n := p + 10) (show callN T (p + 10) 7 [.d (.str "1"), .d (.int 3)] = .exc 0 [("word", .str "top"), ("at", .int (-1))] from rfl)
  have v3 := s25e (n := p + 10) (show callN T (p + 10) 7 [.d (.int (-3)), .d (.str "1")] = .exc 0 [("word", .str "bottom"), ("at", .int (-1))] from rfl)
  have u4 := s25e (n := p + 10) (show callN T (p + 10) 7 [.d (.tup [.int 1, .int 1]), .d (.int 3)] = .exc 0 [("word", .str "top"), ("at", .int (-1))] from rfl)
  have v4 := s25e (n := p + 10) (show callN T (p + 10) 7 [.d (.int (-3)), .d (.tup [.int 1, .int 1])] = .exc 0 [("word", .str "bottom"), ("at", .int (-1))] from rfl)
  have u5 := s25e (n := p + 10) (show callN T (p + 10) 7 [.d (.lst [.int 1]), .d (.int 3)] = .exc 0 [("word", .str "top"), ("at", .int (-1))] from rfl)
  have v5 := s25e (n := p + 10) (show callN T (p + 10) 7 [.d (.int (-3)), .d (.lst [.int 1])] = .exc 0 [("word", .str "bottom"), ("at", .int (-1))] from rfl)
  have u9 := s25e (n := p + 10) (show callN T (p + 10) 7 [.d (.bl false), .d (.bl false)] = .exc 0 [("word", .str "top"), ("at", .int (-1))] from rfl)
  simp -dsimp -implicitDefEqProofs (disch := first | assumption | omega | decide) only [RX.x_C, RX.varK_v, RX.varK_o, RX.x_Var, RX.toR_some, RX.toB_some, RX.toT_some, RX.toS_some, RX.lk_some, RX.x_Op, RX.x_Un, RX.x_tE, RX.x_tNot, RX.x_tAnd, RX.x_tOr, RX.asB_bl, RX.x_And, RX.x_Or, RX.x_Not, RX.x_If, RX.x_nil, RX.x_cons, RX.x_Tup, RX.x_Lst, RX.x_IxV, RX.x_B, RX.x_B1, RX.x_Cmp, RX.x_anil, RX.x_av, RX.x_ae, RX.x_Call, RX.x_CallK, RX.x_CallV, RX.vK_fn, RX.x_do, RX.goK_some, RX.backE_some, RX.back_ok, RX.back_exc, RX.x_Seq, RX.x_Pass, RX.x_Brk, RX.x_Cont, RX.x_Set, RX.x_Unp, RX.x_Par, RX.x_Expr, RX.x_Ret, RX.retK_v, RX.retK_o, RX.x_RetV, RX.x_RetN, RX.x_SIf, RX.x_For, RX.x_Raise, RX.itK_some, RX.rgK_some, RX.x_iE, RX.x_iR1, RX.x_forN, RX.x_forC, RX.x_Try, RX.try_ret, RX.try_next, RX.try_exc, RX.h1K_some, RX.suite_ret, RX.suite_next, RX.x_Fld, RX.fldK_some, RX.stK_some, RX.turn_next, RX.turn_cont, RX.turn_brk, RX.turn_ret, RX.end_ret, RX.end_next, RX.end_exc, RX.pk_t, RX.pk_f, RX.bnd_ok, RX.bnd_exc, RX.outK_ok, RX.outK_exc, RX.obnd_next, RX.obnd_ret, RX.obnd_brk, RX.obnd_cont, RX.obnd_exc, RX.tr_bl, RX.tr_int, RX.f_add, RX.f_sub, RX.f_mul, RX.f_div, RX.f_mod, RX.f_neg, RX.f_lt, RX.f_le, RX.f_gt, RX.f_ge, RX.f_eqI, RX.f_neI, RX.f_eqB, RX.f_isN, RX.f_isNotN, RX.look, RX.isOwn, RX.owns, RX.argOf, RX.argsOf, RX.backTo, RX.nodupN, RX.stSl, RX.stAll, RX.Tg.st, RX.Ex.frz, RX.Ex.sl, RX.finish, RX.outsOf, RX.Arg.sl, RX.D.items?, RX.D.asInt?, RX.permL, RX.D.isNon, List.getElem?_cons_zero, List.getElem?_cons_succ, List.getElem?_nil, List.set_cons_zero, List.set_cons_succ, List.map_cons, List.map_nil, List.nil_append, List.cons_append, List.replicate_succ, List.replicate_zero, List.length_cons, List.length_nil, List.contains_nil, List.contains_cons, List.isEmpty_nil, List.isEmpty_cons, List.filterMap_cons, List.filterMap_nil, Option.map_some, Option.map_none, Option.bind_some, Option.bind_none, List.any_cons, List.any_nil, RX.Arg.isOwn, Bool.not_true, Bool.not_false, Bool.true_and, Bool.false_and, Bool.and_true, Bool.and_false, Bool.or_true, Bool.or_false, Bool.true_or, Bool.false_or, if_true, if_false, Bool.false_eq_true, ↓reduceIte, ite_true, ite_false, decide_true, decide_false, Nat.reduceSub, Nat.reduceAdd, beq_self_eq_true, itT, w1, w2, w3, w4, w5, r1, r2, t1, t2, t3, t4, t5', t6, u0, u1, v1, u2, v2, u3, v3, u4, v4, u5, v5, u9]
end K01
set_option Elab.async false
set_option linter.all false
set_option maxRecDepth 100000
set_option maxHeartbeats 4000000
namespace K01
open PySem RX MQ
theorem pick {l : List D} {t : Int} (h0 : 0 ≤ t) (h1 : t < l.length) : ∃ o, o ∈ l ∧ fIx (.lst l) (.int t) = some (.d o) := by
  have hi : t.toNat < l.length := by omega
  have ix := (ix_nat (List.getElem?_eq_getElem hi)).2
  have ei : (t.toNat : Int) = t := by omega
  rw [ei] at ix
  exact ⟨_, List.getElem_mem hi, ix⟩
theorem sm_fdiv {a k : Int} {m : Nat} (h : Sm m a) (hk : 0 < k) : Sm m (a.fdiv k) := by
  unfold Sm at *
  rw [Int.fdiv_eq_ediv_of_nonneg _ (by omega)]
  have := Int.natAbs_ediv_le_natAbs a k
  omega
theorem s35 {n : Nat} (hn : 14 ≤ n) (f : Fd) (r : Rat) : ∃ f' : Fd, callN T n 35 [.own f.l, .d (enc r)] = .ok (.d (.bl true)) [f'.l] := by
  obtain ⟨p, rfl, hp⟩ := up hn
  have a1 := s16 (n := p) (by omega) f (w := 9) (by decide)
  obtain ⟨b1, c1⟩ := tk_bd f (w := 9) (by decide)
  have a2 := s16 (n := p) (by omega) (nx f) (w := 2) (by decide)
  obtain ⟨b2, c2⟩ := tk_bd (nx f) (w := 2) (by decide)
  obtain ⟨a, b, f3, a3, hb, sa, sb⟩ := s23 (n := p) (by omega) (nx (nx f))
  have a4 := s16 (n := p) (by omega) f3 (w := 25) (by decide)
  obtain ⟨b4, c4⟩ := tk_bd f3 (w := 25) (by decide)
  have a5 := s16 (n := p) (by omega) (nx f3) (w := 25) (by decide)
  obtain ⟨b5, c5⟩ := tk_bd (nx f3) (w := 25) (by decide)
  obtain ⟨x, f6, a6, hx⟩ := s32 (n := p) (by omega) (nx (nx f3))
  have a7 := s16 (n := p) (by omega) f6 (w := 8) (by decide)
  obtain ⟨b7, c7⟩ := tk_bd f6 (w := 8) (by decide)
  obtain ⟨o, ho, ix⟩ := pick (l := odds) b7 (by show _ < (8 : Int); omega)
  refine ⟨nx f6, ?_⟩
  have t1 : Sm 4 (1 + tk f 9) := by unfold Sm; omega
  have t2 : Sm 4 (2 : Int) := by unfold Sm; decide
  have t3 : Sm 4 (tk (nx f) 2) := by unfold Sm; omega
  have t4 : Sm 4 (1 - 2 * tk (nx f) 2) := by unfold Sm; omega
  have m1 := mk t2 t3 (by omega)
  have m2 := mk t1 t4 (by omega)
  have hs : Sm 8 ((1 + tk f 9) * (1 - 2 * tk (nx f) 2)) := t1.mul t4
  obtain ⟨sc, hsc⟩ : ∃ sc, (1 + tk f 9) * (1 - 2 * tk (nx f) 2) = sc := ⟨_, rfl⟩
  rw [hsc] at hs
  have d10 : divOk 10 = true := by decide
  have d9 : divOk 9 = true := by decide
  have u1 : Sm 51 (a.fdiv 10) := sm_fdiv sa (by decide)
  have u2 : Sm 51 ((b : Int).fdiv 9) := sm_fdiv sb (by decide)
  have m3 := mk u1 hs (by omega)
  have m4 := mk u2 hs (by omega)
  have v1 := s31 (n := p) (by omega) (u1.mul hs) (u2.mul hs) (by omega)
  have v2 := s31 (n := p) (by omega) (k := 59) (u1.mul hs) (b := -((b : Int).fdiv 9) - 1) (Sm.sub (k := 58) (u2.neg.mono (by omega)) (by unfold Sm; decide) (by omega)) (by omega)
  have v3 := s31 (n := p) (by omega) (k := 10) (a := tk f3 25 - 12) (b := tk (nx f3) 25 - 12) (by unfold Sm; omega) (by unfold Sm; omega) (by omega)
  have v4 := s31 (n := p) (by omega) (k := 8) (a := 0) (by unfold Sm; decide) hs (by omega)
  have w1 := s33 (n := p) (by omega) (r := r) hx
  have w2 := s34 (n := p) (by omega) (r := r) hx ho
  rw [callN_eq (d := d35) (np := 2) (ns := 7) rfl rfl]
  unfold d35
  unfold odds at ix
  simp -dsimp -implicitDefEqProofs (disch := first | assumption | omega | decide) only [RX.x_C, RX.varK_v, RX.varK_o, RX.x_Var, RX.toR_some, RX.toB_some, RX.toT_some, RX.toS_some, RX.lk_some, RX.x_Op, RX.x_Un, RX.x_tE, RX.x_tNot, RX.x_tAnd, RX.x_tOr, RX.asB_bl, RX.x_And, RX.x_Or, RX.x_Not, RX.x_If, RX.x_nil, RX.x_cons, RX.x_Tup, RX.x_Lst, RX.x_IxV, RX.x_B, RX.x_B1, RX.x_Cmp, RX.x_anil, RX.x_av, RX.x_ae, RX.x_Call, RX.x_CallK, RX.x_CallV, RX.vK_fn, RX.x_do, RX.goK_some, RX.backE_some, RX.back_ok, RX.back_exc, RX.x_Seq, RX.x_Pass, RX.x_Brk, RX.x_Cont, RX.x_Set, RX.x_Unp, RX.x_Par, RX.x_Expr, RX.x_Ret, RX.retK_v, RX.retK_o, RX.x_RetV, RX.x_RetN, RX.x_SIf, RX.x_For, RX.x_Raise, RX.itK_some, RX.rgK_some, RX.x_iE, RX.x_iR1, RX.x_forN, RX.x_forC, RX.x_Try, RX.try_ret, RX.try_next, RX.try_exc, RX.h1K_some, RX.suite_ret, RX.suite_next, RX.x_Fld, RX.fldK_some, RX.stK_some, RX.turn_next, RX.turn_cont, RX.turn_brk, RX.turn_ret, RX.end_ret, RX.end_next, RX.end_exc, RX.pk_t, RX.pk_f, RX.bnd_ok, RX.bnd_exc, RX.outK_ok, RX.outK_exc, RX.obnd_next, RX.obnd_ret, RX.obnd_brk, RX.obnd_cont, RX.obnd_exc, RX.tr_bl, RX.tr_int, RX.f_add, RX.f_sub, RX.f_mul, RX.f_div, RX.f_mod, RX.f_neg, RX.f_lt, RX.f_le, RX.f_gt, RX.f_ge, RX.f_eqI, RX.f_neI, RX.f_eqB, RX.f_isN, RX.f_isNotN, RX.look, RX.isOwn, RX.owns, RX.argOf, RX.argsOf, RX.backTo, RX.nodupN, RX.stSl, RX.stAll, RX.Tg.st, RX.Ex.frz, RX.Ex.sl, RX.finish, RX.outsOf, RX.Arg.sl, RX.D.items?, RX.D.asInt?, RX.permL, RX.D.isNon, List.getElem?_cons_zero, List.getElem?_cons_succ, List.getElem?_nil, List.set_cons_zero, List.set_cons_succ, List.map_cons, List.map_nil, List.nil_append, List.cons_append, List.replicate_succ, List.replicate_zero, List.length_cons, List.length_nil, List.contains_nil, List.contains_cons, List.isEmpty_nil, List.isEmpty_cons, List.filterMap_cons, List.filterMap_nil, Option.map_some, Option.map_none, Option.bind_some, Option.bind_none, List.any_cons, List.any_nil, RX.Arg.isOwn, Bool.not_true, Bool.not_false, Bool.true_and, Bool.false_and, Bool.and_true, Bool.and_false, Bool.or_true, Bool.or_false, Bool.true_or, Bool.false_or, if_true, if_false, Bool.false_eq_true, ↓reduceIte, ite_true, ite_false, decide_true, decide_false, Nat.reduceSub, Nat.reduceAdd, beq_self_eq_true, a1, a2, a3, a4, a5, a6, a7, m1, m2, hsc, m3, m4, d10, d9, st2, v1, v2, v3, v4, w1, w2, ix]
end K01
set_option Elab.async false
set_option linter.all false
set_option maxRecDepth 100000
set_option maxHeartbeats 4000000
namespace K01
open PySem RX MQ
def half : Rat := ⟨1, 2, by decide, by decide⟩
theorem enc_half : enc half = .tup [.int 1, .int 2] := rfl
theorem sm_half : SmQ 3 half := ⟨by show Int.natAbs 1 < 2 ^ 3; decide, by show Int.natAbs 2 < 2 ^ 3; decide⟩
theorem enc1 : enc 1 = .tup [.int 1, .int 1] := rfl
theorem zpow (c : Nat) : (0 : Rat) ^ (c + 1) = 0 := by rw [Rat.pow_succ, Rat.mul_zero]
theorem bMax2 {i j : Int} : bMax [.int i, .int j] = some (.d (.int (if j > i then j else i))) := rfl
theorem encs_of : ∀ {ys : List D}, (∀ y ∈ ys, ∃ r, y = enc r ∧ SmQ 51 r) → ∃ l : List Rat, ys = l.map enc ∧ ∀ r ∈ l, SmQ 51 r
  | [], _ => ⟨[], rfl, fun r h => nomatch h⟩
  | y :: ys, h => by
    obtain ⟨r, e, hr⟩ := h y List.mem_cons_self
    obtain ⟨l, e2, hl⟩ := encs_of fun z hz => h z (List.mem_cons_of_mem _ hz)
    exact ⟨r :: l, by rw [e, e2]; rfl, all_cons hr hl⟩
/-- the count -/
theorem count_ok {p : Nat} (hp : 1 ≤ p) {ns : List Int} {ra rb rc rs : Rat} (f : Fd) {c : Nat} (hc : c ≤ 60) : ∃ (c' : Nat) (f' : Fd), (sIf (tAnd (tCmpB fLt (dB bAbs [(dIxV 2 (dC (.int 0)))]) (dC (.int 41))) (tAnd (tCmpB fLt (dIxV 2 (dC (.int 1))) (dC (.int 25))) (tCmpB fEq (dCall 16 [.v 1, .e (dC (.int 4))]) (dC (.int 0))))) (sSet 8 (dOp fIx (dLst [(dC (.int 0)), (dC (.int 1)), (dC (.int 2)), (dC (.int 7)), (dC (.int 33)), (dC (.int 59)), (dC (.int 60))]) (dCall 16 [.v 1, .e (dC (.int 7))]))) sPass) (callN T p) [.val (.scr ns), .own (f).l, .val (enc ra), .val (enc rb), .val (enc rc), .val (enc rc), .val (enc rc), .val (enc rs), .val (.int c), .none, .none] = .next [.val (.scr ns), .own (f').l, .val (enc ra), .val (enc rb), .val (enc rc), .val (enc rc), .val (enc rc), .val (enc rs), .val (.int c'), .none, .none] ∧ c' ≤ 60 := by
  have a1 := s16 (n := p) (by omega) f (w := 4) (by decide)
  have a2 := s16 (n := p) (by omega) (nx f) (w := 7) (by decide)
  obtain ⟨b2, c2⟩ := tk_bd (nx f) (w := 7) (by decide)
  by_cases h1 : (ra.num.natAbs : Int) < 41
  · have h1' := decide_eq_true h1
    by_cases h2 : (ra.den : Int) < 25
    · have h2' := decide_eq_true h2
      by_cases h3 : tk f 4 = 0
      · have h3' : (tk f 4 == 0) = true := beq_iff_eq.mpr h3
        obtain ⟨k, hk, ix⟩ : ∃ k : Nat, k ≤ 60 ∧ fIx (.lst [.int 0, .int 1, .int 2, .int 7, .int 33, .int 59, .int 60]) (.int (tk (nx f) 7)) = some (.d (.int k)) := by
          rcases (show tk (nx f) 7 = 0 ∨ tk (nx f) 7 = 1 ∨ tk (nx f) 7 = 2 ∨ tk (nx f) 7 = 3 ∨ tk (nx f) 7 = 4 ∨ tk (nx f) 7 = 5 ∨ tk (nx f) 7 = 6 by omega) with e | e | e | e | e | e | e <;> rw [e]
          · exact ⟨0, by omega, rfl⟩
          · exact ⟨1, by omega, rfl⟩
          · exact ⟨2, by omega, rfl⟩
          · exact ⟨7, by omega, rfl⟩
          · exact ⟨33, by omega, rfl⟩
          · exact ⟨59, by omega, rfl⟩
          · exact ⟨60, by omega, rfl⟩
        refine ⟨k, nx (nx f), ?_, hk⟩
        unfold enc
        simp -dsimp -implicitDefEqProofs (disch := first | assumption | omega | decide) only [RX.x_C, RX.varK_v, RX.varK_o, RX.x_Var, RX.toR_some, RX.toB_some, RX.toT_some, RX.toS_some, RX.lk_some, RX.x_Op, RX.x_Un, RX.x_tE, RX.x_tNot, RX.x_tAnd, RX.x_tOr, RX.asB_bl, RX.x_And, RX.x_Or, RX.x_Not, RX.x_If, RX.x_nil, RX.x_cons, RX.x_Tup, RX.x_Lst, RX.x_IxV, RX.x_B, RX.x_B1, RX.x_Cmp, RX.x_anil, RX.x_av, RX.x_ae, RX.x_Call, RX.x_CallK, RX.x_CallV, RX.vK_fn, RX.x_do, RX.goK_some, RX.backE_some, RX.back_ok, RX.back_exc, RX.x_Seq, RX.x_Pass, RX.x_Brk, RX.x_Cont, RX.x_Set, RX.x_Unp, RX.x_Par, RX.x_Expr, RX.x_Ret, RX.retK_v, RX.retK_o, RX.x_RetV, RX.x_RetN, RX.x_SIf, RX.x_For, RX.x_Raise, RX.itK_some, RX.rgK_some, RX.x_iE, RX.x_iR1, RX.x_forN, RX.x_forC, RX.x_Try, RX.try_ret, RX.try_next, RX.try_exc, RX.h1K_some, RX.suite_ret, RX.suite_next, RX.x_Fld, RX.fldK_some, RX.stK_some, RX.turn_next, RX.turn_cont, RX.turn_brk, RX.turn_ret, RX.end_ret, RX.end_next, RX.end_exc, RX.pk_t, RX.pk_f, RX.bnd_ok, RX.bnd_exc, RX.outK_ok, RX.outK_exc, RX.obnd_next, RX.obnd_ret, RX.obnd_brk, RX.obnd_cont, RX.obnd_exc, RX.tr_bl, RX.tr_int, RX.f_add, RX.f_sub, RX.f_mul, RX.f_div, RX.f_mod, RX.f_neg, RX.f_lt, RX.f_le, RX.f_gt, RX.f_ge, RX.f_eqI, RX.f_neI, RX.f_eqB, RX.f_isN, RX.f_isNotN, RX.look, RX.isOwn, RX.owns, RX.argOf, RX.argsOf, RX.backTo, RX.nodupN, RX.stSl, RX.stAll, RX.Tg.st, RX.Ex.frz, RX.Ex.sl, RX.finish, RX.outsOf, RX.Arg.sl, RX.D.items?, RX.D.asInt?, RX.permL, RX.D.isNon, List.getElem?_cons_zero, List.getElem?_cons_succ, List.getElem?_nil, List.set_cons_zero, List.set_cons_succ, List.map_cons, List.map_nil, List.nil_append, List.cons_append, List.replicate_succ, List.replicate_zero, List.length_cons, List.length_nil, List.contains_nil, List.contains_cons, List.isEmpty_nil, List.isEmpty_cons, List.filterMap_cons, List.filterMap_nil, Option.map_some, Option.map_none, Option.bind_some, Option.bind_none, List.any_cons, List.any_nil, RX.Arg.isOwn, Bool.not_true, Bool.not_false, Bool.true_and, Bool.false_and, Bool.and_true, Bool.and_false, Bool.or_true, Bool.or_false, Bool.true_or, Bool.false_or, if_true, if_false, Bool.false_eq_true, ↓reduceIte, ite_true, ite_false, decide_true, decide_false, Nat.reduceSub, Nat.reduceAdd, beq_self_eq_true, ix0, ix1, absI, h1', h2', a1, h3', a2, ix]
      · have h3' : (tk f 4 == 0) = false := beq_eq_false_iff_ne.mpr h3
        refine ⟨c, nx f, ?_, hc⟩
        unfold enc
        simp -dsimp -implicitDefEqProofs (disch := first | assumption | omega | decide) only [RX.x_C, RX.varK_v, RX.varK_o, RX.x_Var, RX.toR_some, RX.toB_some, RX.toT_some, RX.toS_some, RX.lk_some, RX.x_Op, RX.x_Un, RX.x_tE, RX.x_tNot, RX.x_tAnd, RX.x_tOr, RX.asB_bl, RX.x_And, RX.x_Or, RX.x_Not, RX.x_If, RX.x_nil, RX.x_cons, RX.x_Tup, RX.x_Lst, RX.x_IxV, RX.x_B, RX.x_B1, RX.x_Cmp, RX.x_anil, RX.x_av, RX.x_ae, RX.x_Call, RX.x_CallK, RX.x_CallV, RX.vK_fn, RX.x_do, RX.goK_some, RX.backE_some, RX.back_ok, RX.back_exc, RX.x_Seq, RX.x_Pass, RX.x_Brk, RX.x_Cont, RX.x_Set, RX.x_Unp, RX.x_Par, RX.x_Expr, RX.x_Ret, RX.retK_v, RX.retK_o, RX.x_RetV, RX.x_RetN, RX.x_SIf, RX.x_For, RX.x_Raise, RX.itK_some, RX.rgK_some, RX.x_iE, RX.x_iR1, RX.x_forN, RX.x_forC, RX.x_Try, RX.try_ret, RX.try_next, RX.try_exc, RX.h1K_some, RX.suite_ret, RX.suite_next, RX.x_Fld, RX.fldK_some, RX.stK_some, RX.turn_next, RX.turn_cont, RX.turn_brk, RX.turn_ret, RX.end_ret, RX.end_next, RX.end_exc, RX.pk_t, RX.pk_f, RX.bnd_ok, RX.bnd_exc, RX.outK_ok, RX.outK_exc, RX.obnd_next, RX.obnd_ret, RX.obnd_brk, RX.obnd_cont, RX.obnd_exc, RX.tr_bl, RX.tr_int, RX.f_add, RX.f_sub, RX.f_mul, RX.f_div, RX.f_mod, RX.f_neg, RX.f_lt, RX.f_le, RX.f_gt, RX.f_ge, RX.f_eqI, RX.f_neI, RX.f_eqB, RX.f_isN, RX.f_isNotN, RX.look, RX.isOwn, RX.owns, RX.argOf, RX.argsOf, RX.backTo, RX.nodupN, RX.stSl, RX.stAll, RX.Tg.st, RX.Ex.frz, RX.Ex.sl, RX.finish, RX.outsOf, RX.Arg.sl, RX.D.items?, RX.D.asInt?, RX.permL, RX.D.isNon, List.getElem?_cons_zero, List.getElem?_cons_succ, List.getElem?_nil, List.set_cons_zero, List.set_cons_succ, List.map_cons, List.map_nil, List.nil_append, List.cons_append, List.replicate_succ, List.replicate_zero, List.length_cons, List.length_nil, List.contains_nil, List.contains_cons, List.isEmpty_nil, List.isEmpty_cons, List.filterMap_cons, List.filterMap_nil, Option.map_some, Option.map_none, Option.bind_some, Option.bind_none, List.any_cons, List.any_nil, RX.Arg.isOwn, Bool.not_true, Bool.not_false, Bool.true_and, Bool.false_and, Bool.and_true, Bool.and_false, Bool.or_true, Bool.or_false, Bool.true_or, Bool.false_or, if_true, if_false, Bool.false_eq_true, ↓reduceIte, ite_true, ite_false, decide_true, decide_false, Nat.reduceSub, Nat.reduceAdd, beq_self_eq_true, ix0, ix1, absI, h1', h2', a1, h3']
    · have h2' := decide_eq_false h2
      refine ⟨c, f, ?_, hc⟩
      unfold enc
      simp -dsimp -implicitDefEqProofs (disch := first | assumption | omega | decide) only [RX.x_C, RX.varK_v, RX.varK_o, RX.x_Var, RX.toR_some, RX.toB_some, RX.toT_some, RX.toS_some, RX.lk_some, RX.x_Op, RX.x_Un, RX.x_tE, RX.x_tNot, RX.x_tAnd, RX.x_tOr, RX.asB_bl, RX.x_And, RX.x_Or, RX.x_Not, RX.x_If, RX.x_nil, RX.x_cons, RX.x_Tup, RX.x_Lst, RX.x_IxV, RX.x_B, RX.x_B1, RX.x_Cmp, RX.x_anil, RX.x_av, RX.x_ae, RX.x_Call, RX.x_CallK, RX.x_CallV, RX.vK_fn, RX.x_do, RX.goK_some, RX.backE_some, RX.back_ok, RX.back_exc, RX.x_Seq, RX.x_Pass, RX.x_Brk, RX.x_Cont, RX.x_Set, RX.x_Unp, RX.x_Par, RX.x_Expr, RX.x_Ret, RX.retK_v, RX.retK_o, RX.x_RetV, RX.x_RetN, RX.x_SIf, RX.x_For, RX.x_Raise, RX.itK_some, RX.rgK_some, RX.x_iE, RX.x_iR1, RX.x_forN, RX.x_forC, RX.x_Try, RX.try_ret, RX.try_next, RX.try_exc, RX.h1K_some, RX.suite_ret, RX.suite_next, RX.x_Fld, RX.fldK_some, RX.stK_some, RX.turn_next, RX.turn_cont, RX.turn_brk, RX.turn_ret, RX.end_ret, RX.end_next, RX.end_exc, RX.pk_t, RX.pk_f, RX.bnd_ok, RX.bnd_exc, RX.outK_ok, RX.outK_exc, RX.obnd_next, RX.obnd_ret, RX.obnd_brk, RX.obnd_cont, RX.obnd_exc, RX.tr_bl, RX.tr_int, RX.f_add, RX.f_sub, RX.f_mul, RX.f_div, RX.f_mod, RX.f_neg, RX.f_lt, RX.f_le, RX.f_gt, RX.f_ge, RX.f_eqI, RX.f_neI, RX.f_eqB, RX.f_isN, RX.f_isNotN, RX.look, RX.isOwn, RX.owns, RX.argOf, RX.argsOf, RX.backTo, RX.nodupN, RX.stSl, RX.stAll, RX.Tg.st, RX.Ex.frz, RX.Ex.sl, RX.finish, RX.outsOf, RX.Arg.sl, RX.D.items?, RX.D.asInt?, RX.permL, RX.D.isNon, List.getElem?_cons_zero, List.getElem?_cons_succ, List.getElem?_nil, List.set_cons_zero, List.set_cons_succ, List.map_cons, List.map_nil, List.nil_append, List.cons_append, List.replicate_succ, List.replicate_zero, List.length_cons, List.length_nil, List.contains_nil, List.contains_cons, List.isEmpty_nil, List.isEmpty_cons, List.filterMap_cons, List.filterMap_nil, Option.map_some, Option.map_none, Option.bind_some, Option.bind_none, List.any_cons, List.any_nil, RX.Arg.isOwn, Bool.not_true, Bool.not_false, Bool.true_and, Bool.false_and, Bool.and_true, Bool.and_false, Bool.or_true, Bool.or_false, Bool.true_or, Bool.false_or, if_true, if_false, Bool.false_eq_true, ↓reduceIte, ite_true, ite_false, decide_true, decide_false, Nat.reduceSub, Nat.reduceAdd, beq_self_eq_true, ix0, ix1, absI, h1', h2']
  · have h1' := decide_eq_false h1
    refine ⟨c, f, ?_, hc⟩
    unfold enc
    simp -dsimp -implicitDefEqProofs (disch := first | assumption | omega | decide) only [RX.x_C, RX.varK_v, RX.varK_o, RX.x_Var, RX.toR_some, RX.toB_some, RX.toT_some, RX.toS_some, RX.lk_some, RX.x_Op, RX.x_Un, RX.x_tE, RX.x_tNot, RX.x_tAnd, RX.x_tOr, RX.asB_bl, RX.x_And, RX.x_Or, RX.x_Not, RX.x_If, RX.x_nil, RX.x_cons, RX.x_Tup, RX.x_Lst, RX.x_IxV, RX.x_B, RX.x_B1, RX.x_Cmp, RX.x_anil, RX.x_av, RX.x_ae, RX.x_Call, RX.x_CallK, RX.x_CallV, RX.vK_fn, RX.x_do, RX.goK_some, RX.backE_some, RX.back_ok, RX.back_exc, RX.x_Seq, RX.x_Pass, RX.x_Brk, RX.x_Cont, RX.x_Set, RX.x_Unp, RX.x_Par, RX.x_Expr, RX.x_Ret, RX.retK_v, RX.retK_o, RX.x_RetV, RX.x_RetN, RX.x_SIf, RX.x_For, RX.x_Raise, RX.itK_some, RX.rgK_some, RX.x_iE, RX.x_iR1, RX.x_forN, RX.x_forC, RX.x_Try, RX.try_ret, RX.try_next, RX.try_exc, RX.h1K_some, RX.suite_ret, RX.suite_next, RX.x_Fld, RX.fldK_some, RX.stK_some, RX.turn_next, RX.turn_cont, RX.turn_brk, RX.turn_ret, RX.end_ret, RX.end_next, RX.end_exc, RX.pk_t, RX.pk_f, RX.bnd_ok, RX.bnd_exc, RX.outK_ok, RX.outK_exc, RX.obnd_next, RX.obnd_ret, RX.obnd_brk, RX.obnd_cont, RX.obnd_exc, RX.tr_bl, RX.tr_int, RX.f_add, RX.f_sub, RX.f_mul, RX.f_div, RX.f_mod, RX.f_neg, RX.f_lt, RX.f_le, RX.f_gt, RX.f_ge, RX.f_eqI, RX.f_neI, RX.f_eqB, RX.f_isN, RX.f_isNotN, RX.look, RX.isOwn, RX.owns, RX.argOf, RX.argsOf, RX.backTo, RX.nodupN, RX.stSl, RX.stAll, RX.Tg.st, RX.Ex.frz, RX.Ex.sl, RX.finish, RX.outsOf, RX.Arg.sl, RX.D.items?, RX.D.asInt?, RX.permL, RX.D.isNon, List.getElem?_cons_zero, List.getElem?_cons_succ, List.getElem?_nil, List.set_cons_zero, List.set_cons_succ, List.map_cons, List.map_nil, List.nil_append, List.cons_append, List.replicate_succ, List.replicate_zero, List.length_cons, List.length_nil, List.contains_nil, List.contains_cons, List.isEmpty_nil, List.isEmpty_cons, List.filterMap_cons, List.filterMap_nil, Option.map_some, Option.map_none, Option.bind_some, Option.bind_none, List.any_cons, List.any_nil, RX.Arg.isOwn, Bool.not_true, Bool.not_false, Bool.true_and, Bool.false_and, Bool.and_true, Bool.and_false, Bool.or_true, Bool.or_false, Bool.true_or, Bool.false_or, if_true, if_false, Bool.false_eq_true, ↓reduceIte, ite_true, ite_false, decide_true, decide_false, Nat.reduceSub, Nat.reduceAdd, beq_self_eq_true, ix0, ix1, absI, h1']
/-- what follows the count -/
theorem tail_ok {p : Nat} (hp : 15 ≤ p) {ns : List Int} {ra rb rc rs : Rat} (f : Fd) {c : Nat} (hc : c ≤ 60) (ha : SmQ 51 ra) (hb : SmQ 51 rb) : ∃ ρ, (sSeq (sSet 9 (dCall 27 [.v 2, .v 8])) (sSeq (sIf (tOr (tNot (tE (dCall 18 [.e (dCall 13 [.v 2, .v 8]), .v 9]))) (tNot (tE (dCall 18 [.e (dCall 13 [.e (dTup [(dC (.int 0)), (dC (.int 1))]), .e (dC (.int 0))]), .e (dTup [(dC (.int 1)), (dC (.int 1))])])))) (sRet (dC (.bl false))) sPass) (sSeq (sIf (tOr (tNot (tE (dCall 18 [.e (dCall 13 [.e (dTup [(dC (.int 0)), (dC (.int 1))]), .e (dB bMax [(dC (.int 1)), (dVar 8)])]), .e (dTup [(dC (.int 0)), (dC (.int 1))])]))) (tNot (tE (dCall 18 [.e (dCall 13 [.v 2, .e (dC (.int 0))]), .e (dTup [(dC (.int 1)), (dC (.int 1))])])))) (sRet (dC (.bl false))) sPass) (sSeq (sIf (tNot (tE (dCall 30 [.e (dComp [10] (iR1 (dCall 16 [.v 1, .e (dC (.int 13))])) (.v 10) (tests []) (dCall 24 [.v 1]))]))) (sRet (dC (.bl false))) sPass) (sSeq (sIf (tOr (tNot (tE (dCall 18 [.e (dCall 14 [.e (dTup [])]), .e (dTup [(dC (.int 0)), (dC (.int 1))])]))) (tNot (tE (dCall 18 [.e (dCall 14 [.e (dTup [(dVar 3)])]), .v 3])))) (sRet (dC (.bl false))) sPass) (sRet (dAnd (dCall 29 [.v 2, .v 3, .v 8]) (dCall 35 [.v 1, .v 4])))))))) (callN T p) [.val (.scr ns), .own (f).l, .val (enc ra), .val (enc rb), .val (enc rc), .val (enc rc), .val (enc rc), .val (enc rs), .val (.int c), .none, .none] = .ret (.d (.bl true)) ρ := by
  have a27 := s27 (n := p) (by omega) ha (by omega) (show c ≤ 1000 by omega)
  have a13 := s13 (n := p) (by omega) ha (by omega) (show c ≤ 1000 by omega)
  have z13 := s13 (n := p) (by omega) sm0 (by omega) (show 0 ≤ 1000 by omega)
  rw [Rat.pow_zero] at z13
  have y13 := s13 (n := p) (by omega) ha (by omega) (show 0 ≤ 1000 by omega)
  rw [Rat.pow_zero] at y13
  have x13 := s13 (n := p) (by omega) sm0 (by omega) (show (if c > 1 then c else 1) ≤ 1000 by split <;> omega)
  have ex : (0 : Rat) ^ (if c > 1 then c else 1) = 0 := by
    split
    · rename_i h
      obtain ⟨k, rfl⟩ : ∃ k, c = k + 1 := ⟨c - 1, by omega⟩
      exact zpow k
    · exact zpow 0
  rw [ex] at x13
  have em : (if (c : Int) > 1 then (c : Int) else 1) = (((if c > 1 then c else 1) : Nat) : Int) := by
    split <;> split <;> omega
  have w1 := sameQ (n := p) (by omega) (ra ^ c)
  have w2 := sameQ (n := p) (by omega) 1
  have w3 := sameQ (n := p) (by omega) 0
  have w4 := sameQ (n := p) (by omega) rb
  have a30' := s16 (n := p) (by omega) f (w := 13) (by decide)
  obtain ⟨b0, c0⟩ := tk_bd f (w := 13) (by decide)
  obtain ⟨m, hm⟩ : ∃ m : Nat, tk f 13 = (m : Int) := ⟨(tk f 13).toNat, by omega⟩
  have hm13 : m < 13 := by omega
  obtain ⟨ys, ρ', e1, e2, e3, g, e4⟩ := comp_st (C := callN T p) (vs := [10]) (tg := .v 10) (elt := dCall 24 [.v 1]) (fun _ ρ => ∃ g : Fd, ρ = [.val (.scr ns), .own (g).l, .val (enc ra), .val (enc rb), .val (enc rc), .val (enc rc), .val (enc rc), .val (enc rs), .val (.int c), .val (enc (ra ^ c)), .none]) (fun _ y => ∃ r, y = enc r ∧ SmQ 51 r)
    (l := rng 0 m) (k := 0) (ρ := wipe [.val (.scr ns), .own (nx f).l, .val (enc ra), .val (enc rb), .val (enc rc), .val (enc rc), .val (enc rc), .val (enc rs), .val (.int c), .val (enc (ra ^ c)), .none] [10]) ⟨nx f, rfl⟩ fun i x ρ hx ⟨g, e⟩ => by
      rw [e]
      obtain ⟨r, g', a, hr⟩ := s24 (n := p) (by omega) g
      refine ⟨[.val (.scr ns), .own (g).l, .val (enc ra), .val (enc rb), .val (enc rc), .val (enc rc), .val (enc rc), .val (enc rs), .val (.int c), .val (enc (ra ^ c)), .val x], .d (enc r), [.val (.scr ns), .own (g').l, .val (enc ra), .val (enc rb), .val (enc rc), .val (enc rc), .val (enc rc), .val (enc rs), .val (.int c), .val (enc (ra ^ c)), .val x], rfl, ?_, ⟨r, rfl, hr⟩, g', rfl⟩
      simp -dsimp -implicitDefEqProofs (disch := first | assumption | omega | decide) only [RX.x_C, RX.varK_v, RX.varK_o, RX.x_Var, RX.toR_some, RX.toB_some, RX.toT_some, RX.toS_some, RX.lk_some, RX.x_Op, RX.x_Un, RX.x_tE, RX.x_tNot, RX.x_tAnd, RX.x_tOr, RX.asB_bl, RX.x_And, RX.x_Or, RX.x_Not, RX.x_If, RX.x_nil, RX.x_cons, RX.x_Tup, RX.x_Lst, RX.x_IxV, RX.x_B, RX.x_B1, RX.x_Cmp, RX.x_anil, RX.x_av, RX.x_ae, RX.x_Call, RX.x_CallK, RX.x_CallV, RX.vK_fn, RX.x_do, RX.goK_some, RX.backE_some, RX.back_ok, RX.back_exc, RX.x_Seq, RX.x_Pass, RX.x_Brk, RX.x_Cont, RX.x_Set, RX.x_Unp, RX.x_Par, RX.x_Expr, RX.x_Ret, RX.retK_v, RX.retK_o, RX.x_RetV, RX.x_RetN, RX.x_SIf, RX.x_For, RX.x_Raise, RX.itK_some, RX.rgK_some, RX.x_iE, RX.x_iR1, RX.x_forN, RX.x_forC, RX.x_Try, RX.try_ret, RX.try_next, RX.try_exc, RX.h1K_some, RX.suite_ret, RX.suite_next, RX.x_Fld, RX.fldK_some, RX.stK_some, RX.turn_next, RX.turn_cont, RX.turn_brk, RX.turn_ret, RX.end_ret, RX.end_next, RX.end_exc, RX.pk_t, RX.pk_f, RX.bnd_ok, RX.bnd_exc, RX.outK_ok, RX.outK_exc, RX.obnd_next, RX.obnd_ret, RX.obnd_brk, RX.obnd_cont, RX.obnd_exc, RX.tr_bl, RX.tr_int, RX.f_add, RX.f_sub, RX.f_mul, RX.f_div, RX.f_mod, RX.f_neg, RX.f_lt, RX.f_le, RX.f_gt, RX.f_ge, RX.f_eqI, RX.f_neI, RX.f_eqB, RX.f_isN, RX.f_isNotN, RX.look, RX.isOwn, RX.owns, RX.argOf, RX.argsOf, RX.backTo, RX.nodupN, RX.stSl, RX.stAll, RX.Tg.st, RX.Ex.frz, RX.Ex.sl, RX.finish, RX.outsOf, RX.Arg.sl, RX.D.items?, RX.D.asInt?, RX.permL, RX.D.isNon, List.getElem?_cons_zero, List.getElem?_cons_succ, List.getElem?_nil, List.set_cons_zero, List.set_cons_succ, List.map_cons, List.map_nil, List.nil_append, List.cons_append, List.replicate_succ, List.replicate_zero, List.length_cons, List.length_nil, List.contains_nil, List.contains_cons, List.isEmpty_nil, List.isEmpty_cons, List.filterMap_cons, List.filterMap_nil, Option.map_some, Option.map_none, Option.bind_some, Option.bind_none, List.any_cons, List.any_nil, RX.Arg.isOwn, Bool.not_true, Bool.not_false, Bool.true_and, Bool.false_and, Bool.and_true, Bool.and_false, Bool.or_true, Bool.or_false, Bool.true_or, Bool.false_or, if_true, if_false, Bool.false_eq_true, ↓reduceIte, ite_true, ite_false, decide_true, decide_false, Nat.reduceSub, Nat.reduceAdd, beq_self_eq_true, a]
  subst e4
  have hlm : (rng 0 (m : Int)).length = m := by rw [rng_len]; omega
  obtain ⟨l, hl, hq⟩ := encs_of (ys := ys) fun y hy => by
    obtain ⟨i, hi⟩ := List.mem_iff_getElem?.mp hy
    exact e3 i y hi
  subst hl
  have hll : l.length ≤ 12 := by
    rw [hlm, List.length_map] at e2
    omega
  have hb13 : -16777216 < (m : Int) ∧ (m : Int) < 16777216 := by omega
  have hcomp := x_Comp (C := callN T p) (ρ := [.val (.scr ns), .own (f).l, .val (enc ra), .val (enc rb), .val (enc rc), .val (enc rc), .val (enc rc), .val (enc rs), .val (.int c), .val (enc (ra ^ c)), .none]) (it := iR1 (dCall 16 [.v 1, .e (dC (.int 13))])) (l := rng 0 m) (ρ1 := [.val (.scr ns), .own (nx f).l, .val (enc ra), .val (enc rb), .val (enc rc), .val (enc rc), .val (enc rc), .val (enc rs), .val (.int c), .val (enc (ra ^ c)), .none]) (by simp -dsimp -implicitDefEqProofs (disch := first | assumption | omega | decide) only [RX.x_C, RX.varK_v, RX.varK_o, RX.x_Var, RX.toR_some, RX.toB_some, RX.toT_some, RX.toS_some, RX.lk_some, RX.x_Op, RX.x_Un, RX.x_tE, RX.x_tNot, RX.x_tAnd, RX.x_tOr, RX.asB_bl, RX.x_And, RX.x_Or, RX.x_Not, RX.x_If, RX.x_nil, RX.x_cons, RX.x_Tup, RX.x_Lst, RX.x_IxV, RX.x_B, RX.x_B1, RX.x_Cmp, RX.x_anil, RX.x_av, RX.x_ae, RX.x_Call, RX.x_CallK, RX.x_CallV, RX.vK_fn, RX.x_do, RX.goK_some, RX.backE_some, RX.back_ok, RX.back_exc, RX.x_Seq, RX.x_Pass, RX.x_Brk, RX.x_Cont, RX.x_Set, RX.x_Unp, RX.x_Par, RX.x_Expr, RX.x_Ret, RX.retK_v, RX.retK_o, RX.x_RetV, RX.x_RetN, RX.x_SIf, RX.x_For, RX.x_Raise, RX.itK_some, RX.rgK_some, RX.x_iE, RX.x_iR1, RX.x_forN, RX.x_forC, RX.x_Try, RX.try_ret, RX.try_next, RX.try_exc, RX.h1K_some, RX.suite_ret, RX.suite_next, RX.x_Fld, RX.fldK_some, RX.stK_some, RX.turn_next, RX.turn_cont, RX.turn_brk, RX.turn_ret, RX.end_ret, RX.end_next, RX.end_exc, RX.pk_t, RX.pk_f, RX.bnd_ok, RX.bnd_exc, RX.outK_ok, RX.outK_exc, RX.obnd_next, RX.obnd_ret, RX.obnd_brk, RX.obnd_cont, RX.obnd_exc, RX.tr_bl, RX.tr_int, RX.f_add, RX.f_sub, RX.f_mul, RX.f_div, RX.f_mod, RX.f_neg, RX.f_lt, RX.f_le, RX.f_gt, RX.f_ge, RX.f_eqI, RX.f_neI, RX.f_eqB, RX.f_isN, RX.f_isNotN, RX.look, RX.isOwn, RX.owns, RX.argOf, RX.argsOf, RX.backTo, RX.nodupN, RX.stSl, RX.stAll, RX.Tg.st, RX.Ex.frz, RX.Ex.sl, RX.finish, RX.outsOf, RX.Arg.sl, RX.D.items?, RX.D.asInt?, RX.permL, RX.D.isNon, List.getElem?_cons_zero, List.getElem?_cons_succ, List.getElem?_nil, List.set_cons_zero, List.set_cons_succ, List.map_cons, List.map_nil, List.nil_append, List.cons_append, List.replicate_succ, List.replicate_zero, List.length_cons, List.length_nil, List.contains_nil, List.contains_cons, List.isEmpty_nil, List.isEmpty_cons, List.filterMap_cons, List.filterMap_nil, Option.map_some, Option.map_none, Option.bind_some, Option.bind_none, List.any_cons, List.any_nil, RX.Arg.isOwn, Bool.not_true, Bool.not_false, Bool.true_and, Bool.false_and, Bool.and_true, Bool.and_false, Bool.or_true, Bool.or_false, Bool.true_or, Bool.false_or, if_true, if_false, Bool.false_eq_true, ↓reduceIte, ite_true, ite_false, decide_true, decide_false, Nat.reduceSub, Nat.reduceAdd, beq_self_eq_true, a30', hm, asI, hb13]) (by rw [hlm]; show m < 16777216; omega) rfl e1
  have hu : unwipe [.val (.scr ns), .own (nx f).l, .val (enc ra), .val (enc rb), .val (enc rc), .val (enc rc), .val (enc rc), .val (enc rs), .val (.int c), .val (enc (ra ^ c)), .none] [.val (.scr ns), .own (g).l, .val (enc ra), .val (enc rb), .val (enc rc), .val (enc rc), .val (enc rc), .val (enc rs), .val (.int c), .val (enc (ra ^ c)), .none] [10] = [.val (.scr ns), .own (g).l, .val (enc ra), .val (enc rb), .val (enc rc), .val (enc rc), .val (enc rc), .val (enc rs), .val (.int c), .val (enc (ra ^ c)), .none] := rfl
  rw [hu] at hcomp
  have a30 := s30 (n := p) (by omega) hll hq
  have t0 := s14 (n := p) (by omega) (l := []) (k := 51) (by show 0 ≤ 100; omega) all_nil (by omega)
  have t0' : callN T p 14 [.d (.tup [])] = .ok (.d (enc 0)) [] := t0
  have t1 := s14 (n := p) (by omega) (l := [rb]) (k := 51) (by show 1 ≤ 100; omega) (all_cons hb all_nil) (by omega)
  have eb : qs [rb] = rb := Rat.zero_add rb
  rw [eb] at t1
  have t1' : callN T p 14 [.d (.tup [enc rb])] = .ok (.d (enc rb)) [] := t1
  have a29 := s29 (n := p) (by omega) ha hb hc
  obtain ⟨f9, a35⟩ := s35 (n := p) (by omega) g rc
  rw [enc0] at z13 x13 w3 t0'
  rw [enc1] at z13 y13 w2
  refine ⟨[.val (.scr ns), .own (f9).l, .val (enc ra), .val (enc rb), .val (enc rc), .val (enc rc), .val (enc rc), .val (enc rs), .val (.int c), .val (enc (ra ^ c)), .none], ?_⟩
  have n0 : (((0 : Nat) : Int)) = 0 := rfl
  rw [n0] at z13 y13
  simp -dsimp -implicitDefEqProofs (disch := first | assumption | omega | decide) only [RX.x_C, RX.varK_v, RX.varK_o, RX.x_Var, RX.toR_some, RX.toB_some, RX.toT_some, RX.toS_some, RX.lk_some, RX.x_Op, RX.x_Un, RX.x_tE, RX.x_tNot, RX.x_tAnd, RX.x_tOr, RX.asB_bl, RX.x_And, RX.x_Or, RX.x_Not, RX.x_If, RX.x_nil, RX.x_cons, RX.x_Tup, RX.x_Lst, RX.x_IxV, RX.x_B, RX.x_B1, RX.x_Cmp, RX.x_anil, RX.x_av, RX.x_ae, RX.x_Call, RX.x_CallK, RX.x_CallV, RX.vK_fn, RX.x_do, RX.goK_some, RX.backE_some, RX.back_ok, RX.back_exc, RX.x_Seq, RX.x_Pass, RX.x_Brk, RX.x_Cont, RX.x_Set, RX.x_Unp, RX.x_Par, RX.x_Expr, RX.x_Ret, RX.retK_v, RX.retK_o, RX.x_RetV, RX.x_RetN, RX.x_SIf, RX.x_For, RX.x_Raise, RX.itK_some, RX.rgK_some, RX.x_iE, RX.x_iR1, RX.x_forN, RX.x_forC, RX.x_Try, RX.try_ret, RX.try_next, RX.try_exc, RX.h1K_some, RX.suite_ret, RX.suite_next, RX.x_Fld, RX.fldK_some, RX.stK_some, RX.turn_next, RX.turn_cont, RX.turn_brk, RX.turn_ret, RX.end_ret, RX.end_next, RX.end_exc, RX.pk_t, RX.pk_f, RX.bnd_ok, RX.bnd_exc, RX.outK_ok, RX.outK_exc, RX.obnd_next, RX.obnd_ret, RX.obnd_brk, RX.obnd_cont, RX.obnd_exc, RX.tr_bl, RX.tr_int, RX.f_add, RX.f_sub, RX.f_mul, RX.f_div, RX.f_mod, RX.f_neg, RX.f_lt, RX.f_le, RX.f_gt, RX.f_ge, RX.f_eqI, RX.f_neI, RX.f_eqB, RX.f_isN, RX.f_isNotN, RX.look, RX.isOwn, RX.owns, RX.argOf, RX.argsOf, RX.backTo, RX.nodupN, RX.stSl, RX.stAll, RX.Tg.st, RX.Ex.frz, RX.Ex.sl, RX.finish, RX.outsOf, RX.Arg.sl, RX.D.items?, RX.D.asInt?, RX.permL, RX.D.isNon, List.getElem?_cons_zero, List.getElem?_cons_succ, List.getElem?_nil, List.set_cons_zero, List.set_cons_succ, List.map_cons, List.map_nil, List.nil_append, List.cons_append, List.replicate_succ, List.replicate_zero, List.length_cons, List.length_nil, List.contains_nil, List.contains_cons, List.isEmpty_nil, List.isEmpty_cons, List.filterMap_cons, List.filterMap_nil, Option.map_some, Option.map_none, Option.bind_some, Option.bind_none, List.any_cons, List.any_nil, RX.Arg.isOwn, Bool.not_true, Bool.not_false, Bool.true_and, Bool.false_and, Bool.and_true, Bool.and_false, Bool.or_true, Bool.or_false, Bool.true_or, Bool.false_or, if_true, if_false, Bool.false_eq_true, ↓reduceIte, ite_true, ite_false, decide_true, decide_false, Nat.reduceSub, Nat.reduceAdd, beq_self_eq_true, a27, a13, z13, y13, x13, w1, w2, w3, w4, bMax2, em, hcomp, a30, t0', t1', a29, a35]
theorem s36 {n : Nat} (hn : 20 ≤ n) {ns : List Int} (hl : ns.length ≤ 63) : callN T n 36 [.d (.scr ns)] = .ok (.d (.bl true)) [] := by
  obtain ⟨p, rfl, hp⟩ := up hn
  obtain ⟨f0, a0⟩ := s15 (n := p) (by omega) hl
  obtain ⟨ra, f1, a1, ha⟩ := s24 (n := p) (by omega) f0
  obtain ⟨rb, f2, a2, hb⟩ := s24 (n := p) (by omega) f1
  obtain ⟨rc, f3, a3, hc⟩ := s24 (n := p) (by omega) f2
  rw [callN_eq (d := d36) (np := 1) (ns := 11) rfl rfl]
  unfold d36
  have e0 : List.map Arg.sl [.d (.scr ns)] ++ List.replicate (11 - 1) Sl.none = [.val (.scr ns), .none, .none, .none, .none, .none, .none, .none, .none, .none, .none] := rfl
  rw [e0]
  have h0 : (sSet 1 (dCall 15 [.v 0])) (callN T p) [.val (.scr ns), .none, .none, .none, .none, .none, .none, .none, .none, .none, .none] = .next [.val (.scr ns), .own f0.l, .none, .none, .none, .none, .none, .none, .none, .none, .none] := by simp -dsimp -implicitDefEqProofs (disch := first | assumption | omega | decide) only [RX.x_C, RX.varK_v, RX.varK_o, RX.x_Var, RX.toR_some, RX.toB_some, RX.toT_some, RX.toS_some, RX.lk_some, RX.x_Op, RX.x_Un, RX.x_tE, RX.x_tNot, RX.x_tAnd, RX.x_tOr, RX.asB_bl, RX.x_And, RX.x_Or, RX.x_Not, RX.x_If, RX.x_nil, RX.x_cons, RX.x_Tup, RX.x_Lst, RX.x_IxV, RX.x_B, RX.x_B1, RX.x_Cmp, RX.x_anil, RX.x_av, RX.x_ae, RX.x_Call, RX.x_CallK, RX.x_CallV, RX.vK_fn, RX.x_do, RX.goK_some, RX.backE_some, RX.back_ok, RX.back_exc, RX.x_Seq, RX.x_Pass, RX.x_Brk, RX.x_Cont, RX.x_Set, RX.x_Unp, RX.x_Par, RX.x_Expr, RX.x_Ret, RX.retK_v, RX.retK_o, RX.x_RetV, RX.x_RetN, RX.x_SIf, RX.x_For, RX.x_Raise, RX.itK_some, RX.rgK_some, RX.x_iE, RX.x_iR1, RX.x_forN, RX.x_forC, RX.x_Try, RX.try_ret, RX.try_next, RX.try_exc, RX.h1K_some, RX.suite_ret, RX.suite_next, RX.x_Fld, RX.fldK_some, RX.stK_some, RX.turn_next, RX.turn_cont, RX.turn_brk, RX.turn_ret, RX.end_ret, RX.end_next, RX.end_exc, RX.pk_t, RX.pk_f, RX.bnd_ok, RX.bnd_exc, RX.outK_ok, RX.outK_exc, RX.obnd_next, RX.obnd_ret, RX.obnd_brk, RX.obnd_cont, RX.obnd_exc, RX.tr_bl, RX.tr_int, RX.f_add, RX.f_sub, RX.f_mul, RX.f_div, RX.f_mod, RX.f_neg, RX.f_lt, RX.f_le, RX.f_gt, RX.f_ge, RX.f_eqI, RX.f_neI, RX.f_eqB, RX.f_isN, RX.f_isNotN, RX.look, RX.isOwn, RX.owns, RX.argOf, RX.argsOf, RX.backTo, RX.nodupN, RX.stSl, RX.stAll, RX.Tg.st, RX.Ex.frz, RX.Ex.sl, RX.finish, RX.outsOf, RX.Arg.sl, RX.D.items?, RX.D.asInt?, RX.permL, RX.D.isNon, List.getElem?_cons_zero, List.getElem?_cons_succ, List.getElem?_nil, List.set_cons_zero, List.set_cons_succ, List.map_cons, List.map_nil, List.nil_append, List.cons_append, List.replicate_succ, List.replicate_zero, List.length_cons, List.length_nil, List.contains_nil, List.contains_cons, List.isEmpty_nil, List.isEmpty_cons, List.filterMap_cons, List.filterMap_nil, Option.map_some, Option.map_none, Option.bind_some, Option.bind_none, List.any_cons, List.any_nil, RX.Arg.isOwn, Bool.not_true, Bool.not_false, Bool.true_and, Bool.false_and, Bool.and_true, Bool.and_false, Bool.or_true, Bool.or_false, Bool.true_or, Bool.false_or, if_true, if_false, Bool.false_eq_true, ↓reduceIte, ite_true, ite_false, decide_true, decide_false, Nat.reduceSub, Nat.reduceAdd, beq_self_eq_true, a0]
  have h1 : (sSet 2 (dCall 24 [.v 1])) (callN T p) [.val (.scr ns), .own f0.l, .none, .none, .none, .none, .none, .none, .none, .none, .none] = .next [.val (.scr ns), .own f1.l, .val (enc ra), .none, .none, .none, .none, .none, .none, .none, .none] := by simp -dsimp -implicitDefEqProofs (disch := first | assumption | omega | decide) only [RX.x_C, RX.varK_v, RX.varK_o, RX.x_Var, RX.toR_some, RX.toB_some, RX.toT_some, RX.toS_some, RX.lk_some, RX.x_Op, RX.x_Un, RX.x_tE, RX.x_tNot, RX.x_tAnd, RX.x_tOr, RX.asB_bl, RX.x_And, RX.x_Or, RX.x_Not, RX.x_If, RX.x_nil, RX.x_cons, RX.x_Tup, RX.x_Lst, RX.x_IxV, RX.x_B, RX.x_B1, RX.x_Cmp, RX.x_anil, RX.x_av, RX.x_ae, RX.x_Call, RX.x_CallK, RX.x_CallV, RX.vK_fn, RX.x_do, RX.goK_some, RX.backE_some, RX.back_ok, RX.back_exc, RX.x_Seq, RX.x_Pass, RX.x_Brk, RX.x_Cont, RX.x_Set, RX.x_Unp, RX.x_Par, RX.x_Expr, RX.x_Ret, RX.retK_v, RX.retK_o, RX.x_RetV, RX.x_RetN, RX.x_SIf, RX.x_For, RX.x_Raise, RX.itK_some, RX.rgK_some, RX.x_iE, RX.x_iR1, RX.x_forN, RX.x_forC, RX.x_Try, RX.try_ret, RX.try_next, RX.try_exc, RX.h1K_some, RX.suite_ret, RX.suite_next, RX.x_Fld, RX.fldK_some, RX.stK_some, RX.turn_next, RX.turn_cont, RX.turn_brk, RX.turn_ret, RX.end_ret, RX.end_next, RX.end_exc, RX.pk_t, RX.pk_f, RX.bnd_ok, RX.bnd_exc, RX.outK_ok, RX.outK_exc, RX.obnd_next, RX.obnd_ret, RX.obnd_brk, RX.obnd_cont, RX.obnd_exc, RX.tr_bl, RX.tr_int, RX.f_add, RX.f_sub, RX.f_mul, RX.f_div, RX.f_mod, RX.f_neg, RX.f_lt, RX.f_le, RX.f_gt, RX.f_ge, RX.f_eqI, RX.f_neI, RX.f_eqB, RX.f_isN, RX.f_isNotN, RX.look, RX.isOwn, RX.owns, RX.argOf, RX.argsOf, RX.backTo, RX.nodupN, RX.stSl, RX.stAll, RX.Tg.st, RX.Ex.frz, RX.Ex.sl, RX.finish, RX.outsOf, RX.Arg.sl, RX.D.items?, RX.D.asInt?, RX.permL, RX.D.isNon, List.getElem?_cons_zero, List.getElem?_cons_succ, List.getElem?_nil, List.set_cons_zero, List.set_cons_succ, List.map_cons, List.map_nil, List.nil_append, List.cons_append, List.replicate_succ, List.replicate_zero, List.length_cons, List.length_nil, List.contains_nil, List.contains_cons, List.isEmpty_nil, List.isEmpty_cons, List.filterMap_cons, List.filterMap_nil, Option.map_some, Option.map_none, Option.bind_some, Option.bind_none, List.any_cons, List.any_nil, RX.Arg.isOwn, Bool.not_true, Bool.not_false, Bool.true_and, Bool.false_and, Bool.and_true, Bool.and_false, Bool.or_true, Bool.or_false, Bool.true_or, Bool.false_or, if_true, if_false, Bool.false_eq_true, ↓reduceIte, ite_true, ite_false, decide_true, decide_false, Nat.reduceSub, Nat.reduceAdd, beq_self_eq_true, a1]
  have h2 : (sSet 3 (dCall 24 [.v 1])) (callN T p) [.val (.scr ns), .own f1.l, .val (enc ra), .none, .none, .none, .none, .none, .none, .none, .none] = .next [.val (.scr ns), .own f2.l, .val (enc ra), .val (enc rb), .none, .none, .none, .none, .none, .none, .none] := by simp -dsimp -implicitDefEqProofs (disch := first | assumption | omega | decide) only [RX.x_C, RX.varK_v, RX.varK_o, RX.x_Var, RX.toR_some, RX.toB_some, RX.toT_some, RX.toS_some, RX.lk_some, RX.x_Op, RX.x_Un, RX.x_tE, RX.x_tNot, RX.x_tAnd, RX.x_tOr, RX.asB_bl, RX.x_And, RX.x_Or, RX.x_Not, RX.x_If, RX.x_nil, RX.x_cons, RX.x_Tup, RX.x_Lst, RX.x_IxV, RX.x_B, RX.x_B1, RX.x_Cmp, RX.x_anil, RX.x_av, RX.x_ae, RX.x_Call, RX.x_CallK, RX.x_CallV, RX.vK_fn, RX.x_do, RX.goK_some, RX.backE_some, RX.back_ok, RX.back_exc, RX.x_Seq, RX.x_Pass, RX.x_Brk, RX.x_Cont, RX.x_Set, RX.x_Unp, RX.x_Par, RX.x_Expr, RX.x_Ret, RX.retK_v, RX.retK_o, RX.x_RetV, RX.x_RetN, RX.x_SIf, RX.x_For, RX.x_Raise, RX.itK_some, RX.rgK_some, RX.x_iE, RX.x_iR1, RX.x_forN, RX.x_forC, RX.x_Try, RX.try_ret, RX.try_next, RX.try_exc, RX.h1K_some, RX.suite_ret, RX.suite_next, RX.x_Fld, RX.fldK_some, RX.stK_some, RX.turn_next, RX.turn_cont, RX.turn_brk, RX.turn_ret, RX.end_ret, RX.end_next, RX.end_exc, RX.pk_t, RX.pk_f, RX.bnd_ok, RX.bnd_exc, RX.outK_ok, RX.outK_exc, RX.obnd_next, RX.obnd_ret, RX.obnd_brk, RX.obnd_cont, RX.obnd_exc, RX.tr_bl, RX.tr_int, RX.f_add, RX.f_sub, RX.f_mul, RX.f_div, RX.f_mod, RX.f_neg, RX.f_lt, RX.f_le, RX.f_gt, RX.f_ge, RX.f_eqI, RX.f_neI, RX.f_eqB, RX.f_isN, RX.f_isNotN, RX.look, RX.isOwn, RX.owns, RX.argOf, RX.argsOf, RX.backTo, RX.nodupN, RX.stSl, RX.stAll, RX.Tg.st, RX.Ex.frz, RX.Ex.sl, RX.finish, RX.outsOf, RX.Arg.sl, RX.D.items?, RX.D.asInt?, RX.permL, RX.D.isNon, List.getElem?_cons_zero, List.getElem?_cons_succ, List.getElem?_nil, List.set_cons_zero, List.set_cons_succ, List.map_cons, List.map_nil, List.nil_append, List.cons_append, List.replicate_succ, List.replicate_zero, List.length_cons, List.length_nil, List.contains_nil, List.contains_cons, List.isEmpty_nil, List.isEmpty_cons, List.filterMap_cons, List.filterMap_nil, Option.map_some, Option.map_none, Option.bind_some, Option.bind_none, List.any_cons, List.any_nil, RX.Arg.isOwn, Bool.not_true, Bool.not_false, Bool.true_and, Bool.false_and, Bool.and_true, Bool.and_false, Bool.or_true, Bool.or_false, Bool.true_or, Bool.false_or, if_true, if_false, Bool.false_eq_true, ↓reduceIte, ite_true, ite_false, decide_true, decide_false, Nat.reduceSub, Nat.reduceAdd, beq_self_eq_true, a2]
  have h3 : (sSet 4 (dCall 24 [.v 1])) (callN T p) [.val (.scr ns), .own f2.l, .val (enc ra), .val (enc rb), .none, .none, .none, .none, .none, .none, .none] = .next [.val (.scr ns), .own f3.l, .val (enc ra), .val (enc rb), .val (enc rc), .none, .none, .none, .none, .none, .none] := by simp -dsimp -implicitDefEqProofs (disch := first | assumption | omega | decide) only [RX.x_C, RX.varK_v, RX.varK_o, RX.x_Var, RX.toR_some, RX.toB_some, RX.toT_some, RX.toS_some, RX.lk_some, RX.x_Op, RX.x_Un, RX.x_tE, RX.x_tNot, RX.x_tAnd, RX.x_tOr, RX.asB_bl, RX.x_And, RX.x_Or, RX.x_Not, RX.x_If, RX.x_nil, RX.x_cons, RX.x_Tup, RX.x_Lst, RX.x_IxV, RX.x_B, RX.x_B1, RX.x_Cmp, RX.x_anil, RX.x_av, RX.x_ae, RX.x_Call, RX.x_CallK, RX.x_CallV, RX.vK_fn, RX.x_do, RX.goK_some, RX.backE_some, RX.back_ok, RX.back_exc, RX.x_Seq, RX.x_Pass, RX.x_Brk, RX.x_Cont, RX.x_Set, RX.x_Unp, RX.x_Par, RX.x_Expr, RX.x_Ret, RX.retK_v, RX.retK_o, RX.x_RetV, RX.x_RetN, RX.x_SIf, RX.x_For, RX.x_Raise, RX.itK_some, RX.rgK_some, RX.x_iE, RX.x_iR1, RX.x_forN, RX.x_forC, RX.x_Try, RX.try_ret, RX.try_next, RX.try_exc, RX.h1K_some, RX.suite_ret, RX.suite_next, RX.x_Fld, RX.fldK_some, RX.stK_some, RX.turn_next, RX.turn_cont, RX.turn_brk, RX.turn_ret, RX.end_ret, RX.end_next, RX.end_exc, RX.pk_t, RX.pk_f, RX.bnd_ok, RX.bnd_exc, RX.outK_ok, RX.outK_exc, RX.obnd_next, RX.obnd_ret, RX.obnd_brk, RX.obnd_cont, RX.obnd_exc, RX.tr_bl, RX.tr_int, RX.f_add, RX.f_sub, RX.f_mul, RX.f_div, RX.f_mod, RX.f_neg, RX.f_lt, RX.f_le, RX.f_gt, RX.f_ge, RX.f_eqI, RX.f_neI, RX.f_eqB, RX.f_isN, RX.f_isNotN, RX.look, RX.isOwn, RX.owns, RX.argOf, RX.argsOf, RX.backTo, RX.nodupN, RX.stSl, RX.stAll, RX.Tg.st, RX.Ex.frz, RX.Ex.sl, RX.finish, RX.outsOf, RX.Arg.sl, RX.D.items?, RX.D.asInt?, RX.permL, RX.D.isNon, List.getElem?_cons_zero, List.getElem?_cons_succ, List.getElem?_nil, List.set_cons_zero, List.set_cons_succ, List.map_cons, List.map_nil, List.nil_append, List.cons_append, List.replicate_succ, List.replicate_zero, List.length_cons, List.length_nil, List.contains_nil, List.contains_cons, List.isEmpty_nil, List.isEmpty_cons, List.filterMap_cons, List.filterMap_nil, Option.map_some, Option.map_none, Option.bind_some, Option.bind_none, List.any_cons, List.any_nil, RX.Arg.isOwn, Bool.not_true, Bool.not_false, Bool.true_and, Bool.false_and, Bool.and_true, Bool.and_false, Bool.or_true, Bool.or_false, Bool.true_or, Bool.false_or, if_true, if_false, Bool.false_eq_true, ↓reduceIte, ite_true, ite_false, decide_true, decide_false, Nat.reduceSub, Nat.reduceAdd, beq_self_eq_true, a3]
  have q11 := s28 (n := p) (by omega) ha ha (by omega)
  have q12 := s28 (n := p) (by omega) ha hb (by omega)
  have q13 := s28 (n := p) (by omega) ha hc (by omega)
  have q21 := s28 (n := p) (by omega) hb ha (by omega)
  have q22 := s28 (n := p) (by omega) hb hb (by omega)
  have q23 := s28 (n := p) (by omega) hb hc (by omega)
  have q31 := s28 (n := p) (by omega) hc ha (by omega)
  have q32 := s28 (n := p) (by omega) hc hb (by omega)
  have q33 := s28 (n := p) (by omega) hc hc (by omega)
  have h4 : (sFor (.v 5) (iE (dTup [(dVar 2), (dVar 3), (dVar 4)])) (sFor (.v 6) (iE (dTup [(dVar 2), (dVar 3), (dVar 4)])) (sIf (tNot (tE (dCall 28 [.v 5, .v 6]))) (sRet (dC (.bl false))) sPass))) (callN T p) [.val (.scr ns), .own f3.l, .val (enc ra), .val (enc rb), .val (enc rc), .none, .none, .none, .none, .none, .none] = .next [.val (.scr ns), .own f3.l, .val (enc ra), .val (enc rb), .val (enc rc), .val (enc rc), .val (enc rc), .none, .none, .none, .none] := by simp -dsimp -implicitDefEqProofs (disch := first | assumption | omega | decide) only [RX.x_C, RX.varK_v, RX.varK_o, RX.x_Var, RX.toR_some, RX.toB_some, RX.toT_some, RX.toS_some, RX.lk_some, RX.x_Op, RX.x_Un, RX.x_tE, RX.x_tNot, RX.x_tAnd, RX.x_tOr, RX.asB_bl, RX.x_And, RX.x_Or, RX.x_Not, RX.x_If, RX.x_nil, RX.x_cons, RX.x_Tup, RX.x_Lst, RX.x_IxV, RX.x_B, RX.x_B1, RX.x_Cmp, RX.x_anil, RX.x_av, RX.x_ae, RX.x_Call, RX.x_CallK, RX.x_CallV, RX.vK_fn, RX.x_do, RX.goK_some, RX.backE_some, RX.back_ok, RX.back_exc, RX.x_Seq, RX.x_Pass, RX.x_Brk, RX.x_Cont, RX.x_Set, RX.x_Unp, RX.x_Par, RX.x_Expr, RX.x_Ret, RX.retK_v, RX.retK_o, RX.x_RetV, RX.x_RetN, RX.x_SIf, RX.x_For, RX.x_Raise, RX.itK_some, RX.rgK_some, RX.x_iE, RX.x_iR1, RX.x_forN, RX.x_forC, RX.x_Try, RX.try_ret, RX.try_next, RX.try_exc, RX.h1K_some, RX.suite_ret, RX.suite_next, RX.x_Fld, RX.fldK_some, RX.stK_some, RX.turn_next, RX.turn_cont, RX.turn_brk, RX.turn_ret, RX.end_ret, RX.end_next, RX.end_exc, RX.pk_t, RX.pk_f, RX.bnd_ok, RX.bnd_exc, RX.outK_ok, RX.outK_exc, RX.obnd_next, RX.obnd_ret, RX.obnd_brk, RX.obnd_cont, RX.obnd_exc, RX.tr_bl, RX.tr_int, RX.f_add, RX.f_sub, RX.f_mul, RX.f_div, RX.f_mod, RX.f_neg, RX.f_lt, RX.f_le, RX.f_gt, RX.f_ge, RX.f_eqI, RX.f_neI, RX.f_eqB, RX.f_isN, RX.f_isNotN, RX.look, RX.isOwn, RX.owns, RX.argOf, RX.argsOf, RX.backTo, RX.nodupN, RX.stSl, RX.stAll, RX.Tg.st, RX.Ex.frz, RX.Ex.sl, RX.finish, RX.outsOf, RX.Arg.sl, RX.D.items?, RX.D.asInt?, RX.permL, RX.D.isNon, List.getElem?_cons_zero, List.getElem?_cons_succ, List.getElem?_nil, List.set_cons_zero, List.set_cons_succ, List.map_cons, List.map_nil, List.nil_append, List.cons_append, List.replicate_succ, List.replicate_zero, List.length_cons, List.length_nil, List.contains_nil, List.contains_cons, List.isEmpty_nil, List.isEmpty_cons, List.filterMap_cons, List.filterMap_nil, Option.map_some, Option.map_none, Option.bind_some, Option.bind_none, List.any_cons, List.any_nil, RX.Arg.isOwn, Bool.not_true, Bool.not_false, Bool.true_and, Bool.false_and, Bool.and_true, Bool.and_false, Bool.or_true, Bool.or_false, Bool.true_or, Bool.false_or, if_true, if_false, Bool.false_eq_true, ↓reduceIte, ite_true, ite_false, decide_true, decide_false, Nat.reduceSub, Nat.reduceAdd, beq_self_eq_true, itT, q11, q12, q13, q21, q22, q23, q31, q32, q33]
  have sab := smq_add ha hb
  have p1 := s8 (n := p) (by omega) ha hb (by omega)
  have p2 := s8 (n := p) (by omega) sab hc (by omega)
  have ssum := smq_add sab hc
  have h5 : (sSet 7 (dCall 8 [.e (dCall 8 [.v 2, .v 3]), .v 4])) (callN T p) [.val (.scr ns), .own f3.l, .val (enc ra), .val (enc rb), .val (enc rc), .val (enc rc), .val (enc rc), .none, .none, .none, .none] = .next [.val (.scr ns), .own f3.l, .val (enc ra), .val (enc rb), .val (enc rc), .val (enc rc), .val (enc rc), .val (enc (ra + rb + rc)), .none, .none, .none] := by simp -dsimp -implicitDefEqProofs (disch := first | assumption | omega | decide) only [RX.x_C, RX.varK_v, RX.varK_o, RX.x_Var, RX.toR_some, RX.toB_some, RX.toT_some, RX.toS_some, RX.lk_some, RX.x_Op, RX.x_Un, RX.x_tE, RX.x_tNot, RX.x_tAnd, RX.x_tOr, RX.asB_bl, RX.x_And, RX.x_Or, RX.x_Not, RX.x_If, RX.x_nil, RX.x_cons, RX.x_Tup, RX.x_Lst, RX.x_IxV, RX.x_B, RX.x_B1, RX.x_Cmp, RX.x_anil, RX.x_av, RX.x_ae, RX.x_Call, RX.x_CallK, RX.x_CallV, RX.vK_fn, RX.x_do, RX.goK_some, RX.backE_some, RX.back_ok, RX.back_exc, RX.x_Seq, RX.x_Pass, RX.x_Brk, RX.x_Cont, RX.x_Set, RX.x_Unp, RX.x_Par, RX.x_Expr, RX.x_Ret, RX.retK_v, RX.retK_o, RX.x_RetV, RX.x_RetN, RX.x_SIf, RX.x_For, RX.x_Raise, RX.itK_some, RX.rgK_some, RX.x_iE, RX.x_iR1, RX.x_forN, RX.x_forC, RX.x_Try, RX.try_ret, RX.try_next, RX.try_exc, RX.h1K_some, RX.suite_ret, RX.suite_next, RX.x_Fld, RX.fldK_some, RX.stK_some, RX.turn_next, RX.turn_cont, RX.turn_brk, RX.turn_ret, RX.end_ret, RX.end_next, RX.end_exc, RX.pk_t, RX.pk_f, RX.bnd_ok, RX.bnd_exc, RX.outK_ok, RX.outK_exc, RX.obnd_next, RX.obnd_ret, RX.obnd_brk, RX.obnd_cont, RX.obnd_exc, RX.tr_bl, RX.tr_int, RX.f_add, RX.f_sub, RX.f_mul, RX.f_div, RX.f_mod, RX.f_neg, RX.f_lt, RX.f_le, RX.f_gt, RX.f_ge, RX.f_eqI, RX.f_neI, RX.f_eqB, RX.f_isN, RX.f_isNotN, RX.look, RX.isOwn, RX.owns, RX.argOf, RX.argsOf, RX.backTo, RX.nodupN, RX.stSl, RX.stAll, RX.Tg.st, RX.Ex.frz, RX.Ex.sl, RX.finish, RX.outsOf, RX.Arg.sl, RX.D.items?, RX.D.asInt?, RX.permL, RX.D.isNon, List.getElem?_cons_zero, List.getElem?_cons_succ, List.getElem?_nil, List.set_cons_zero, List.set_cons_succ, List.map_cons, List.map_nil, List.nil_append, List.cons_append, List.replicate_succ, List.replicate_zero, List.length_cons, List.length_nil, List.contains_nil, List.contains_cons, List.isEmpty_nil, List.isEmpty_cons, List.filterMap_cons, List.filterMap_nil, Option.map_some, Option.map_none, Option.bind_some, Option.bind_none, List.any_cons, List.any_nil, RX.Arg.isOwn, Bool.not_true, Bool.not_false, Bool.true_and, Bool.false_and, Bool.and_true, Bool.and_false, Bool.or_true, Bool.or_false, Bool.true_or, Bool.false_or, if_true, if_false, Bool.false_eq_true, ↓reduceIte, ite_true, ite_false, decide_true, decide_false, Nat.reduceSub, Nat.reduceAdd, beq_self_eq_true, p1, p2]
  have g20 := s20 (n := p) (by omega) (ra + rb + rc)
  have h6 : (sIf (tNot (tE (dCall 20 [.v 7]))) (sRet (dC (.bl false))) sPass) (callN T p) [.val (.scr ns), .own f3.l, .val (enc ra), .val (enc rb), .val (enc rc), .val (enc rc), .val (enc rc), .val (enc (ra + rb + rc)), .none, .none, .none] = .next [.val (.scr ns), .own f3.l, .val (enc ra), .val (enc rb), .val (enc rc), .val (enc rc), .val (enc rc), .val (enc (ra + rb + rc)), .none, .none, .none] := by simp -dsimp -implicitDefEqProofs (disch := first | assumption | omega | decide) only [RX.x_C, RX.varK_v, RX.varK_o, RX.x_Var, RX.toR_some, RX.toB_some, RX.toT_some, RX.toS_some, RX.lk_some, RX.x_Op, RX.x_Un, RX.x_tE, RX.x_tNot, RX.x_tAnd, RX.x_tOr, RX.asB_bl, RX.x_And, RX.x_Or, RX.x_Not, RX.x_If, RX.x_nil, RX.x_cons, RX.x_Tup, RX.x_Lst, RX.x_IxV, RX.x_B, RX.x_B1, RX.x_Cmp, RX.x_anil, RX.x_av, RX.x_ae, RX.x_Call, RX.x_CallK, RX.x_CallV, RX.vK_fn, RX.x_do, RX.goK_some, RX.backE_some, RX.back_ok, RX.back_exc, RX.x_Seq, RX.x_Pass, RX.x_Brk, RX.x_Cont, RX.x_Set, RX.x_Unp, RX.x_Par, RX.x_Expr, RX.x_Ret, RX.retK_v, RX.retK_o, RX.x_RetV, RX.x_RetN, RX.x_SIf, RX.x_For, RX.x_Raise, RX.itK_some, RX.rgK_some, RX.x_iE, RX.x_iR1, RX.x_forN, RX.x_forC, RX.x_Try, RX.try_ret, RX.try_next, RX.try_exc, RX.h1K_some, RX.suite_ret, RX.suite_next, RX.x_Fld, RX.fldK_some, RX.stK_some, RX.turn_next, RX.turn_cont, RX.turn_brk, RX.turn_ret, RX.end_ret, RX.end_next, RX.end_exc, RX.pk_t, RX.pk_f, RX.bnd_ok, RX.bnd_exc, RX.outK_ok, RX.outK_exc, RX.obnd_next, RX.obnd_ret, RX.obnd_brk, RX.obnd_cont, RX.obnd_exc, RX.tr_bl, RX.tr_int, RX.f_add, RX.f_sub, RX.f_mul, RX.f_div, RX.f_mod, RX.f_neg, RX.f_lt, RX.f_le, RX.f_gt, RX.f_ge, RX.f_eqI, RX.f_neI, RX.f_eqB, RX.f_isN, RX.f_isNotN, RX.look, RX.isOwn, RX.owns, RX.argOf, RX.argsOf, RX.backTo, RX.nodupN, RX.stSl, RX.stAll, RX.Tg.st, RX.Ex.frz, RX.Ex.sl, RX.finish, RX.outsOf, RX.Arg.sl, RX.D.items?, RX.D.asInt?, RX.permL, RX.D.isNon, List.getElem?_cons_zero, List.getElem?_cons_succ, List.getElem?_nil, List.set_cons_zero, List.set_cons_succ, List.map_cons, List.map_nil, List.nil_append, List.cons_append, List.replicate_succ, List.replicate_zero, List.length_cons, List.length_nil, List.contains_nil, List.contains_cons, List.isEmpty_nil, List.isEmpty_cons, List.filterMap_cons, List.filterMap_nil, Option.map_some, Option.map_none, Option.bind_some, Option.bind_none, List.any_cons, List.any_nil, RX.Arg.isOwn, Bool.not_true, Bool.not_false, Bool.true_and, Bool.false_and, Bool.and_true, Bool.and_false, Bool.or_true, Bool.or_false, Bool.true_or, Bool.false_or, if_true, if_false, Bool.false_eq_true, ↓reduceIte, ite_true, ite_false, decide_true, decide_false, Nat.reduceSub, Nat.reduceAdd, beq_self_eq_true, g20]
  have t1 := s14 (n := p) (by omega) (l := [ra, rb, rc]) (k := 51) (by show 3 ≤ 100; omega) (all_cons ha (all_cons hb (all_cons hc all_nil))) (by omega)
  have t2 := s14 (n := p) (by omega) (l := [rc, ra, rb]) (k := 51) (by show 3 ≤ 100; omega) (all_cons hc (all_cons ha (all_cons hb all_nil))) (by omega)
  have et1 : qs [ra, rb, rc] = ra + rb + rc := by show 0 + ra + rb + rc = _; rw [Rat.zero_add]
  have et2 : qs [rc, ra, rb] = ra + rb + rc := by show 0 + rc + ra + rb = _; rw [Rat.zero_add, Rat.add_assoc rc ra rb, Rat.add_comm rc]
  rw [et1] at t1
  rw [et2] at t2
  have t1' : callN T p 14 [.d (.tup [enc ra, enc rb, enc rc])] = .ok (.d (enc (ra + rb + rc))) [] := t1
  have t2' : callN T p 14 [.d (.tup [enc rc, enc ra, enc rb])] = .ok (.d (enc (ra + rb + rc))) [] := t2
  have w := sameQ (n := p) (by omega) (ra + rb + rc)
  have h7 : (sIf (tOr (tNot (tE (dCall 18 [.e (dCall 14 [.e (dTup [(dVar 2), (dVar 3), (dVar 4)])]), .v 7]))) (tNot (tE (dCall 18 [.e (dCall 14 [.e (dTup [(dVar 4), (dVar 2), (dVar 3)])]), .v 7])))) (sRet (dC (.bl false))) sPass) (callN T p) [.val (.scr ns), .own f3.l, .val (enc ra), .val (enc rb), .val (enc rc), .val (enc rc), .val (enc rc), .val (enc (ra + rb + rc)), .none, .none, .none] = .next [.val (.scr ns), .own f3.l, .val (enc ra), .val (enc rb), .val (enc rc), .val (enc rc), .val (enc rc), .val (enc (ra + rb + rc)), .none, .none, .none] := by simp -dsimp -implicitDefEqProofs (disch := first | assumption | omega | decide) only [RX.x_C, RX.varK_v, RX.varK_o, RX.x_Var, RX.toR_some, RX.toB_some, RX.toT_some, RX.toS_some, RX.lk_some, RX.x_Op, RX.x_Un, RX.x_tE, RX.x_tNot, RX.x_tAnd, RX.x_tOr, RX.asB_bl, RX.x_And, RX.x_Or, RX.x_Not, RX.x_If, RX.x_nil, RX.x_cons, RX.x_Tup, RX.x_Lst, RX.x_IxV, RX.x_B, RX.x_B1, RX.x_Cmp, RX.x_anil, RX.x_av, RX.x_ae, RX.x_Call, RX.x_CallK, RX.x_CallV, RX.vK_fn, RX.x_do, RX.goK_some, RX.backE_some, RX.back_ok, RX.back_exc, RX.x_Seq, RX.x_Pass, RX.x_Brk, RX.x_Cont, RX.x_Set, RX.x_Unp, RX.x_Par, RX.x_Expr, RX.x_Ret, RX.retK_v, RX.retK_o, RX.x_RetV, RX.x_RetN, RX.x_SIf, RX.x_For, RX.x_Raise, RX.itK_some, RX.rgK_some, RX.x_iE, RX.x_iR1, RX.x_forN, RX.x_forC, RX.x_Try, RX.try_ret, RX.try_next, RX.try_exc, RX.h1K_some, RX.suite_ret, RX.suite_next, RX.x_Fld, RX.fldK_some, RX.stK_some, RX.turn_next, RX.turn_cont, RX.turn_brk, RX.turn_ret, RX.end_ret, RX.end_next, RX.end_exc, RX.pk_t, RX.pk_f, RX.bnd_ok, RX.bnd_exc, RX.outK_ok, RX.outK_exc, RX.obnd_next, RX.obnd_ret, RX.obnd_brk, RX.obnd_cont, RX.obnd_exc, RX.tr_bl, RX.tr_int, RX.f_add, RX.f_sub, RX.f_mul, RX.f_div, RX.f_mod, RX.f_neg, RX.f_lt, RX.f_le, RX.f_gt, RX.f_ge, RX.f_eqI, RX.f_neI, RX.f_eqB, RX.f_isN, RX.f_isNotN, RX.look, RX.isOwn, RX.owns, RX.argOf, RX.argsOf, RX.backTo, RX.nodupN, RX.stSl, RX.stAll, RX.Tg.st, RX.Ex.frz, RX.Ex.sl, RX.finish, RX.outsOf, RX.Arg.sl, RX.D.items?, RX.D.asInt?, RX.permL, RX.D.isNon, List.getElem?_cons_zero, List.getElem?_cons_succ, List.getElem?_nil, List.set_cons_zero, List.set_cons_succ, List.map_cons, List.map_nil, List.nil_append, List.cons_append, List.replicate_succ, List.replicate_zero, List.length_cons, List.length_nil, List.contains_nil, List.contains_cons, List.isEmpty_nil, List.isEmpty_cons, List.filterMap_cons, List.filterMap_nil, Option.map_some, Option.map_none, Option.bind_some, Option.bind_none, List.any_cons, List.any_nil, RX.Arg.isOwn, Bool.not_true, Bool.not_false, Bool.true_and, Bool.false_and, Bool.and_true, Bool.and_false, Bool.or_true, Bool.or_false, Bool.true_or, Bool.false_or, if_true, if_false, Bool.false_eq_true, ↓reduceIte, ite_true, ite_false, decide_true, decide_false, Nat.reduceSub, Nat.reduceAdd, beq_self_eq_true, t1', t2', w]
  have m1 := s10 (n := p) (by omega) ha hb (by omega)
  have v1 := s28 (n := p) (by omega) (smq_mul ha hb) ssum (by omega)
  have v2 := s28 (n := p) (by omega) ssum sm_half (by omega)
  rw [enc_half] at v2
  have h8 : (sIf (tOr (tNot (tE (dCall 28 [.e (dCall 10 [.v 2, .v 3]), .v 7]))) (tNot (tE (dCall 28 [.v 7, .e (dTup [(dC (.int 1)), (dC (.int 2))])])))) (sRet (dC (.bl false))) sPass) (callN T p) [.val (.scr ns), .own f3.l, .val (enc ra), .val (enc rb), .val (enc rc), .val (enc rc), .val (enc rc), .val (enc (ra + rb + rc)), .none, .none, .none] = .next [.val (.scr ns), .own f3.l, .val (enc ra), .val (enc rb), .val (enc rc), .val (enc rc), .val (enc rc), .val (enc (ra + rb + rc)), .none, .none, .none] := by simp -dsimp -implicitDefEqProofs (disch := first | assumption | omega | decide) only [RX.x_C, RX.varK_v, RX.varK_o, RX.x_Var, RX.toR_some, RX.toB_some, RX.toT_some, RX.toS_some, RX.lk_some, RX.x_Op, RX.x_Un, RX.x_tE, RX.x_tNot, RX.x_tAnd, RX.x_tOr, RX.asB_bl, RX.x_And, RX.x_Or, RX.x_Not, RX.x_If, RX.x_nil, RX.x_cons, RX.x_Tup, RX.x_Lst, RX.x_IxV, RX.x_B, RX.x_B1, RX.x_Cmp, RX.x_anil, RX.x_av, RX.x_ae, RX.x_Call, RX.x_CallK, RX.x_CallV, RX.vK_fn, RX.x_do, RX.goK_some, RX.backE_some, RX.back_ok, RX.back_exc, RX.x_Seq, RX.x_Pass, RX.x_Brk, RX.x_Cont, RX.x_Set, RX.x_Unp, RX.x_Par, RX.x_Expr, RX.x_Ret, RX.retK_v, RX.retK_o, RX.x_RetV, RX.x_RetN, RX.x_SIf, RX.x_For, RX.x_Raise, RX.itK_some, RX.rgK_some, RX.x_iE, RX.x_iR1, RX.x_forN, RX.x_forC, RX.x_Try, RX.try_ret, RX.try_next, RX.try_exc, RX.h1K_some, RX.suite_ret, RX.suite_next, RX.x_Fld, RX.fldK_some, RX.stK_some, RX.turn_next, RX.turn_cont, RX.turn_brk, RX.turn_ret, RX.end_ret, RX.end_next, RX.end_exc, RX.pk_t, RX.pk_f, RX.bnd_ok, RX.bnd_exc, RX.outK_ok, RX.outK_exc, RX.obnd_next, RX.obnd_ret, RX.obnd_brk, RX.obnd_cont, RX.obnd_exc, RX.tr_bl, RX.tr_int, RX.f_add, RX.f_sub, RX.f_mul, RX.f_div, RX.f_mod, RX.f_neg, RX.f_lt, RX.f_le, RX.f_gt, RX.f_ge, RX.f_eqI, RX.f_neI, RX.f_eqB, RX.f_isN, RX.f_isNotN, RX.look, RX.isOwn, RX.owns, RX.argOf, RX.argsOf, RX.backTo, RX.nodupN, RX.stSl, RX.stAll, RX.Tg.st, RX.Ex.frz, RX.Ex.sl, RX.finish, RX.outsOf, RX.Arg.sl, RX.D.items?, RX.D.asInt?, RX.permL, RX.D.isNon, List.getElem?_cons_zero, List.getElem?_cons_succ, List.getElem?_nil, List.set_cons_zero, List.set_cons_succ, List.map_cons, List.map_nil, List.nil_append, List.cons_append, List.replicate_succ, List.replicate_zero, List.length_cons, List.length_nil, List.contains_nil, List.contains_cons, List.isEmpty_nil, List.isEmpty_cons, List.filterMap_cons, List.filterMap_nil, Option.map_some, Option.map_none, Option.bind_some, Option.bind_none, List.any_cons, List.any_nil, RX.Arg.isOwn, Bool.not_true, Bool.not_false, Bool.true_and, Bool.false_and, Bool.and_true, Bool.and_false, Bool.or_true, Bool.or_false, Bool.true_or, Bool.false_or, if_true, if_false, Bool.false_eq_true, ↓reduceIte, ite_true, ite_false, decide_true, decide_false, Nat.reduceSub, Nat.reduceAdd, beq_self_eq_true, m1, v1, v2]
  have a16 := s16 (n := p) (by omega) f3 (w := 7) (by decide)
  obtain ⟨b0, c0⟩ := tk_bd f3 (w := 7) (by decide)
  obtain ⟨c0, hc0⟩ : ∃ c : Nat, tk f3 7 = (c : Int) := ⟨(tk f3 7).toNat, by omega⟩
  have h9 : (sSet 8 (dCall 16 [.v 1, .e (dC (.int 7))])) (callN T p) [.val (.scr ns), .own f3.l, .val (enc ra), .val (enc rb), .val (enc rc), .val (enc rc), .val (enc rc), .val (enc (ra + rb + rc)), .none, .none, .none] = .next [.val (.scr ns), .own (nx f3).l, .val (enc ra), .val (enc rb), .val (enc rc), .val (enc rc), .val (enc rc), .val (enc (ra + rb + rc)), .val (.int c0), .none, .none] := by simp -dsimp -implicitDefEqProofs (disch := first | assumption | omega | decide) only [RX.x_C, RX.varK_v, RX.varK_o, RX.x_Var, RX.toR_some, RX.toB_some, RX.toT_some, RX.toS_some, RX.lk_some, RX.x_Op, RX.x_Un, RX.x_tE, RX.x_tNot, RX.x_tAnd, RX.x_tOr, RX.asB_bl, RX.x_And, RX.x_Or, RX.x_Not, RX.x_If, RX.x_nil, RX.x_cons, RX.x_Tup, RX.x_Lst, RX.x_IxV, RX.x_B, RX.x_B1, RX.x_Cmp, RX.x_anil, RX.x_av, RX.x_ae, RX.x_Call, RX.x_CallK, RX.x_CallV, RX.vK_fn, RX.x_do, RX.goK_some, RX.backE_some, RX.back_ok, RX.back_exc, RX.x_Seq, RX.x_Pass, RX.x_Brk, RX.x_Cont, RX.x_Set, RX.x_Unp, RX.x_Par, RX.x_Expr, RX.x_Ret, RX.retK_v, RX.retK_o, RX.x_RetV, RX.x_RetN, RX.x_SIf, RX.x_For, RX.x_Raise, RX.itK_some, RX.rgK_some, RX.x_iE, RX.x_iR1, RX.x_forN, RX.x_forC, RX.x_Try, RX.try_ret, RX.try_next, RX.try_exc, RX.h1K_some, RX.suite_ret, RX.suite_next, RX.x_Fld, RX.fldK_some, RX.stK_some, RX.turn_next, RX.turn_cont, RX.turn_brk, RX.turn_ret, RX.end_ret, RX.end_next, RX.end_exc, RX.pk_t, RX.pk_f, RX.bnd_ok, RX.bnd_exc, RX.outK_ok, RX.outK_exc, RX.obnd_next, RX.obnd_ret, RX.obnd_brk, RX.obnd_cont, RX.obnd_exc, RX.tr_bl, RX.tr_int, RX.f_add, RX.f_sub, RX.f_mul, RX.f_div, RX.f_mod, RX.f_neg, RX.f_lt, RX.f_le, RX.f_gt, RX.f_ge, RX.f_eqI, RX.f_neI, RX.f_eqB, RX.f_isN, RX.f_isNotN, RX.look, RX.isOwn, RX.owns, RX.argOf, RX.argsOf, RX.backTo, RX.nodupN, RX.stSl, RX.stAll, RX.Tg.st, RX.Ex.frz, RX.Ex.sl, RX.finish, RX.outsOf, RX.Arg.sl, RX.D.items?, RX.D.asInt?, RX.permL, RX.D.isNon, List.getElem?_cons_zero, List.getElem?_cons_succ, List.getElem?_nil, List.set_cons_zero, List.set_cons_succ, List.map_cons, List.map_nil, List.nil_append, List.cons_append, List.replicate_succ, List.replicate_zero, List.length_cons, List.length_nil, List.contains_nil, List.contains_cons, List.isEmpty_nil, List.isEmpty_cons, List.filterMap_cons, List.filterMap_nil, Option.map_some, Option.map_none, Option.bind_some, Option.bind_none, List.any_cons, List.any_nil, RX.Arg.isOwn, Bool.not_true, Bool.not_false, Bool.true_and, Bool.false_and, Bool.and_true, Bool.and_false, Bool.or_true, Bool.or_false, Bool.true_or, Bool.false_or, if_true, if_false, Bool.false_eq_true, ↓reduceIte, ite_true, ite_false, decide_true, decide_false, Nat.reduceSub, Nat.reduceAdd, beq_self_eq_true, a16, hc0]
  obtain ⟨c, f4, h10, hc60⟩ := count_ok (p := p) (by omega) (ns := ns) (ra := ra) (rb := rb) (rc := rc) (rs := ra + rb + rc) (nx f3) (c := c0) (by omega)
  obtain ⟨ρ, ht⟩ := tail_ok (p := p) (by omega) (ns := ns) (ra := ra) (rb := rb) (rc := rc) (rs := ra + rb + rc) f4 hc60 ha hb
  rw [seq_next h0, seq_next h1, seq_next h2, seq_next h3, seq_next h4, seq_next h5, seq_next h6, seq_next h7, seq_next h8, seq_next h9, seq_next h10, ht]
  rfl
end K01
theorem PySem.Challenge.cw_oneistrue_k01_whole_quotients_holds : PySem.Challenge.rw_oneistrue_k01_whole_quotients.Holds :=
  K01.holds_of fun ns hl => K01.s36 (by decide) hl
