import PyProof.Rows.All
import Wide.All
import OpenK.AllK
import Wide.FinOn
import HandS.ForMost
import HandS.ForSpec
import HandS.Wide
import HandS.TupAny
import HandS.IsInst
import HandS.ListItems
import HandS.More
import HandS.Conv
import HandS.ReCall
import HandS.Iter
import HandS.Style
import HandS.Comp
import HandS.WordsExc
import HandS.Dict
import HandS.Defaults
import HandS.HeadHook1
import HandS.HeadHook2
import HandS.HeadHook3
import HandS.HeadHook4
import HandS.Exc
import HandS.ExcInit
import HandS.ExcField
import HandS.FStr
import KE.KExcSuper
import KE.KExcIs
import HandS.ExcOwn
import PySem.Challenge.RW_drawntrue_k04_plans_are_checked
import HandS.Head0
import HandS.Head1
import HandS.Head2
import HandS.HeadEnd
import HandS.Steps
set_option Elab.async false
set_option linter.all false
set_option maxRecDepth 100000
set_option maxHeartbeats 4000000
/-! Dt1: trees of Python data, and the meaning of Python's words on trees. -/
namespace Dt
open PySem L2

inductive T where
  | non | bl (b : Bool) | int (i : Int) | str (s : Str)
  | tup (l : List T) | lst (l : List T) | dct (l : List (T × T))
instance : Inhabited T := ⟨.non⟩

mutual
def T.pd : T → PyData
  | .non => .none
  | .bl b => .bool b
  | .int i => .int i
  | .str s => .str s
  | .tup l => .tuple (T.pds l)
  | .lst l => .list (T.pds l)
  | .dct _ => .dict []
def T.pds : List T → List PyData
  | [] => []
  | t :: r => t.pd :: T.pds r
end

/-- may be told apart by == in the model -/
def okE (t : T) : Bool := SeqAt.shaped t.pd
def eqT (a b : T) : Bool := PyData.eqv a.pd b.pd

def T.flat : T → Bool
  | .non | .bl _ | .int _ | .str _ => true
  | _ => false
/-- nothing that can change stands at its root -/
def T.scal : T → Bool
  | .lst _ | .dct _ => false
  | _ => true

/-! ### operands, slots -/
inductive Fl where
  | shr | own | chg | bor | len
  deriving DecidableEq
abbrev Sl := List (Option (T × Fl))
/-- what an expression came to: a value, a new list or dict, the object of a slot -/
inductive Od where
  | v (t : T) | f (t : T) | s (i : Nat)
def Sl.tr (τ : Sl) : Od → Option T
  | .v t => some t
  | .f t => some t
  | .s i => match τ[i]? with
    | some (some (t, _)) => some t
    | _ => none
def Od.sh : Od → Od
  | .f t => .v t
  | o => o
/-- it is kept somewhere -/
def Sl.esc (τ : Sl) : Od → Option (T × Sl)
  | .v t => some (t, τ)
  | .f t => some (t, τ)
  | .s i => match τ[i]? with
    | some (some (t, .shr)) => some (t, τ)
    | some (some (t, .own)) => some (t, τ.set i (some (t, .shr)))
    | _ => none
def Sl.escs : Sl → List Od → Option (List T × Sl)
  | τ, [] => some ([], τ)
  | τ, o :: r => match τ.esc o with
    | some (t, τ1) => (match Sl.escs τ1 r with
      | some (ts, τ2) => some (t :: ts, τ2)
      | none => none)
    | none => none
def Sl.trs (τ : Sl) : List Od → Option (List T)
  | [] => some []
  | o :: r => match τ.tr o with
    | some t => (match Sl.trs τ r with
      | some ts => some (t :: ts)
      | none => none)
    | none => none

abbrev Sem := Sl → Option (Od × Sl)
abbrev Sems := Sl → Option (List Od × Sl)
abbrev Tst := Sl → Option (Bool × Sl)

def fr (t : T) (b : Bool) : Od := if b then .f t else .v t

/-! ### operators on trees -/
def addT : T → T → Option (T × Bool)
  | .int i, .int j => some (.int (i + j), false)
  | .str x, .str y => if x.length + y.length ≤ sizeLine then some (.str (x ++ y), false) else none
  | .lst x, .lst y => if x.length + y.length ≤ sizeLine then some (.lst (x ++ y), true) else none
  | .tup x, .tup y => if x.length + y.length ≤ sizeLine then some (.tup (x ++ y), false) else none
  | _, _ => none
def CM (i j : Int) : Prop := CMul i j ∨ CMulW i j
instance (i j : Int) : Decidable (CM i j) := by unfold CM CMul CMulW; infer_instance
instance (i j : Int) : Decidable (CDivW i j) := by unfold CDivW; infer_instance
instance (i j : Int) : Decidable (CDiv i j) := by unfold CDiv; infer_instance
instance (i j : Int) : Decidable (CPow i j) := by unfold CPow; infer_instance
def binT : Operator → T → T → Option (T × Bool)
  | .Add, a, b => addT a b
  | .Sub, .int i, .int j => some (.int (i - j), false)
  | .Mult, .int i, .int j => if CM i j then some (.int (i * j), false) else none
  | .FloorDiv, .int i, .int j => if CDiv i j ∨ CDivW i j then some (.int (i / j), false) else none
  | .Mod, .int i, .int j => if 0 < j then some (.int (i % j), false) else none
  | .Pow, .int i, .int j => if CPow i j then some (.int (i ^ j.toNat), false) else none
  | _, _, _ => none

def look (kvs : List (T × T)) (k : Key) : Option T :=
  match kvs with
  | [] => none
  | (.int i, v) :: r => if k = .inl i then some v else look r k
  | (.str x, v) :: r => if k = .inr x then some v else look r k
  | _ :: r => look r k
def keyT : T → Option Key
  | .int i => some (.inl i)
  | .str x => some (.inr x)
  | _ => none
def T.isInt : T → Bool
  | .int _ => true
  | _ => false
/-- a key that may be asked for: an int only where all keys are ints -/
def askT (l : List (T × T)) : T → Option Key
  | .int i => if l.all (fun p => p.1.isInt) then some (.inl i) else none
  | .str x => some (.inr x)
  | _ => none
def inT (x y : T) : Option Bool := match x, y with
  | .str a, .str z => if a.cps.size = 1 then some (decide (a.cps.toList.headD 0 ∈ z.cps.toList)) else none
  | x, .lst l => if x.flat && l.all T.flat then some (l.any fun z => eqT z x) else none
  | x, .tup l => if x.flat && l.all T.flat then some (l.any fun z => eqT z x) else none
  | x, .dct l => match askT l x with
    | some k => some (look l k).isSome
    | none => none
  | _, _ => none
def cmpT : CmpOp → T → T → Option Bool
  | .Eq, a, b => if okE a && okE b then some (eqT a b) else none
  | .NotEq, a, b => if okE a && okE b then some (!eqT a b) else none
  | .Lt, .int i, .int j => some (decide (i < j))
  | .LtE, .int i, .int j => some (decide (i ≤ j))
  | .Gt, .int i, .int j => some (decide (j < i))
  | .GtE, .int i, .int j => some (decide (j ≤ i))
  | .In, a, b => inT a b
  | .NotIn, a, b => (inT a b).map not
  | _, _, _ => none
def isNone : T → Bool
  | .non => true
  | _ => false
def ixT : T → T → Option T
  | .lst l, .int i => atI l i
  | .tup l, .int i => atI l i
  | .str z, .int i => if z.length ≤ sizeLine then (atI z.cps.toList i).map fun c => .str ⟨#[c]⟩ else none
  | .dct l, k => (askT l k).bind (look l)
  | _, _ => none
def cutT (xs : List T) (lo hi : Option Int) : List T := (xs.drop (HT.sIx xs.length 0 lo)).take (HT.sIx xs.length xs.length hi - HT.sIx xs.length 0 lo)
def slT : T → Option Int → Option Int → Option (T × Bool)
  | .lst l, lo, hi => some (.lst (cutT l lo hi), true)
  | .tup l, lo, hi => some (.tup (cutT l lo hi), false)
  | .str z, lo, hi => if z.length ≤ sizeLine then some (.str (cutS z lo hi), false) else none
  | _, _, _ => none

/-! ### words for expressions -/
def sVar (i : Nat) : Sem := fun τ => match τ[i]? with
  | some (some (t, .shr)) => some (.v t, τ)
  | some (some (_, _)) => some (.s i, τ)
  | _ => none
def sCst (t : T) : Sem := fun τ => some (.v t, τ)
def s2 (g : T → T → Option Od) (a b : Sem) : Sem := fun τ => match a τ with
  | some (x, τ1) => (match b τ1 with
    | some (y, τ2) => (match τ2.tr x.sh, τ2.tr y.sh with
      | some t, some u => (match g t u with
        | some o => some (o, τ2)
        | none => none)
      | _, _ => none)
    | none => none)
  | none => none
def s1 (g : T → Option Od) (a : Sem) : Sem := fun τ => match a τ with
  | some (x, τ1) => (match τ1.tr x.sh with
    | some t => (match g t with
      | some o => some (o, τ1)
      | none => none)
    | none => none)
  | none => none
def sBin (op : Operator) (a b : Sem) : Sem := s2 (fun t u => (binT op t u).map fun r => fr r.1 r.2) a b
def sNeg (a : Sem) : Sem := s1 (fun t => match t with
  | .int i => some (.v (.int (-i)))
  | _ => none) a
def sCmp (op : CmpOp) (a b : Sem) : Sem := s2 (fun t u => (cmpT op t u).map fun r => .v (.bl r)) a b
def sIsN (neg : Bool) (a : Sem) : Sem := s1 (fun t => some (.v (.bl (if neg then !isNone t else isNone t)))) a
def sIx (a b : Sem) : Sem := s2 (fun t u => (ixT t u).map .v) a b
def tstOf (a : Sem) : Tst := fun τ => match a τ with
  | some (x, τ1) => (match τ1.tr x with
    | some (.bl b) => some (b, τ1)
    | _ => none)
  | none => none
def semOf (a : Tst) : Sem := fun τ => match a τ with
  | some (b, τ1) => some (.v (.bl b), τ1)
  | none => none
def tAndS (a b : Tst) : Tst := fun τ => match a τ with
  | some (true, τ1) => b τ1
  | some (false, τ1) => some (false, τ1)
  | none => none
def tOrS (a b : Tst) : Tst := fun τ => match a τ with
  | some (true, τ1) => some (true, τ1)
  | some (false, τ1) => b τ1
  | none => none
def tNotS (a : Tst) : Tst := fun τ => match a τ with
  | some (b, τ1) => some (!b, τ1)
  | none => none
def sIf (c : Tst) (a b : Sem) : Sem := fun τ => match c τ with
  | some (true, τ1) => a τ1
  | some (false, τ1) => b τ1
  | none => none
def aNil : Sems := fun τ => some ([], τ)
def aCons (a : Sem) (r : Sems) : Sems := fun τ => match a τ with
  | some (x, τ1) => (match r τ1 with
    | some (xs, τ2) => some (x.sh :: xs, τ2)
    | none => none)
  | none => none
def sTup (a : Sems) : Sem := fun τ => match a τ with
  | some (xs, τ1) => (match Sl.escs τ1 xs with
    | some (ts, τ2) => if ts.length ≤ sizeLine then some (.v (.tup ts), τ2) else none
    | none => none)
  | none => none
def sLst (a : Sems) : Sem := fun τ => match a τ with
  | some (xs, τ1) => (match Sl.escs τ1 xs with
    | some (ts, τ2) => if ts.length ≤ sizeLine then some (.f (.lst ts), τ2) else none
    | none => none)
  | none => none
/-- a built-in of values: borrowed arguments -/
def sBi (g : List T → Option (T × Bool)) (a : Sems) : Sem := fun τ => match a τ with
  | some (xs, τ1) => (match Sl.trs τ1 xs with
    | some ts => (match g ts with
      | some r => some (fr r.1 r.2, τ1)
      | none => none)
    | none => none)
  | none => none
def partT (a : Option Sem) : Sl → Option (Option Int × Sl) := fun τ => match a with
  | none => some (none, τ)
  | some f => (match f τ with
    | some (x, τ1) => (match τ1.tr x with
      | some (.int i) => some (some i, τ1)
      | _ => none)
    | none => none)
def sSl (a : Sem) (lo hi : Option Sem) : Sem := fun τ => match a τ with
  | some (x, τ1) => (match partT lo τ1 with
    | some (l, τ2) => (match partT hi τ2 with
      | some (h, τ3) => (match τ3.tr x.sh with
        | some t => (match slT t l h with
          | some r => some (fr r.1 r.2, τ3)
          | none => none)
        | none => none)
      | none => none)
    | none => none)
  | none => none

/-! ### built-ins on trees -/
def lenT : T → Option Int
  | .lst l => some l.length
  | .tup l => some l.length
  | .str z => if z.length ≤ sizeLine then some z.length else none
  | _ => none
def gLen : List T → Option (T × Bool)
  | [t] => (lenT t).map fun n => (.int n, false)
  | _ => none
def gAbs : List T → Option (T × Bool)
  | [.int i] => some (.int (if i < 0 then -i else i), false)
  | _ => none
def gInt : List T → Option (T × Bool)
  | [.int i] => some (.int i, false)
  | _ => none
def gStr : List T → Option (T × Bool)
  | [.int i] => if i.natAbs.log2 < 1920 then some (.str (toString i), false) else none
  | _ => none
def gTuple : List T → Option (T × Bool)
  | [.lst l] => some (.tup l, false)
  | [.tup l] => some (.tup l, false)
  | _ => none
def gList : List T → Option (T × Bool)
  | [.lst l] => some (.lst l, true)
  | [.tup l] => some (.lst l, true)
  | _ => none
/-- of which built-in kinds a value is -/
def T.ty : T → String
  | .non => "NoneType" | .bl _ => "bool" | .int _ => "int" | .str _ => "str" | .tup _ => "tuple" | .lst _ => "list" | .dct _ => "dict"
def isiT (n : String) (t : T) : Bool := t.ty == n || (t.ty == "bool" && n == "int")
def sIsi (n : String) (a : Sem) : Sem := s1 (fun t => some (.v (.bl (isiT n t)))) a

/-! ### dicts made -/
def pairsT : List T → Option (List (T × T))
  | [] => some []
  | .tup [k, v] :: r => match keyT k, pairsT r with
    | some _, some ps => some ((k, v) :: ps)
    | _, _ => none
  | _ :: _ => none
def flatP : List T → Option (List (T × T))
  | [] => some []
  | k :: v :: r => match keyT k, flatP r with
    | some _, some ps => some ((k, v) :: ps)
    | _, _ => none
  | _ => none
def diffK : List (T × T) → Bool
  | [] => true
  | p :: r => r.all (fun q => decide (keyT q.1 ≠ keyT p.1)) && diffK r
def gDict : List T → Option (T × Bool)
  | [.lst l] => match pairsT l with
    | some ps => if diffK ps then some (.dct ps, true) else none
    | none => none
  | _ => none
/-- {k: v, ..}; a: k, v, k, v, .. -/
def sDic (a : Sems) : Sem := fun τ => match a τ with
  | some (xs, τ1) => (match Sl.escs τ1 xs with
    | some (ts, τ2) => (match flatP ts with
      | some ps => if diffK ps ∧ ps.length ≤ 15 then some (.f (.dct ps), τ2) else none
      | none => none)
    | none => none)
  | none => none
/-- list(d.items()), d a slot's own -/
def sItems (i : Nat) : Sem := fun τ => match τ[i]? with
  | some (some (.dct l, .own)) => some (.f (.lst (l.map fun p => .tup [p.1, p.2])), τ)
  | _ => none

/-! ### calls -/
inductive Md where
  | S | B | M
  deriving DecidableEq
inductive Res where
  | ret (t : T) (fresh : Bool) (outs : List T)
  | exn (c : Str) (args : List T)
abbrev Fn := List T → Option Res
/-- the arguments by their modes: their trees, the slots that are changed -/
def argsT : Sl → List Md → List Od → Option (List T × List Nat × Sl)
  | τ, [], [] => some ([], [], τ)
  | τ, .S :: ms, o :: r => match τ.esc o with
    | some (t, τ1) => (match argsT τ1 ms r with
      | some (ts, js, τ2) => some (t :: ts, js, τ2)
      | none => none)
    | none => none
  | τ, .B :: ms, o :: r => match τ.tr o with
    | some t => (match argsT τ ms r with
      | some (ts, js, τ2) => some (t :: ts, js, τ2)
      | none => none)
    | none => none
  | τ, .M :: ms, .s i :: r => match τ[i]? with
    | some (some (t, _)) => (match argsT τ ms r with
      | some (ts, js, τ2) => some (t :: ts, i :: js, τ2)
      | none => none)
    | _ => none
  | _, _, _ => none
/-- the slots of arguments that are borrowed -/
def borT : List Md → List Od → List Nat
  | .B :: ms, .s i :: r => i :: borT ms r
  | _ :: ms, _ :: r => borT ms r
  | _, _ => []
def Sl.muts (τ : Sl) (js : List Nat) : Bool := js.all fun j => match τ[j]? with
  | some (some (_, .own)) => true
  | some (some (_, .chg)) => true
  | _ => false
def Sl.puts : Sl → List Nat → List T → Option Sl
  | τ, [], [] => some τ
  | τ, j :: js, t :: ts => match τ[j]? with
    | some (some (_, fl)) => Sl.puts (τ.set j (some (t, fl))) js ts
    | _ => none
  | _, _, _ => none
def nodupN : List Nat → Bool
  | [] => true
  | x :: r => !r.contains x && nodupN r
def sCall (ms : List Md) (F : Fn) (a : Sems) : Sem := fun τ => match a τ with
  | some (xs, τ1) => (match argsT τ1 ms xs with
    | some (ts, js, τ2) => if τ2.muts js && nodupN js && (borT ms xs).all (fun i => !js.contains i) then
        (match F ts with
        | some (.ret t b outs) => (match τ2.puts js outs with
          | some τ3 => some (fr t b, τ3)
          | none => none)
        | _ => none)
      else none
    | none => none)
  | none => none
/-- a change of a slot's own list or dict by values that are kept -/
def sMut (i : Nat) (kd : T → Bool) (g : T → List T → Option (T × T)) (a : Sems) : Sem := fun τ => match τ[i]? with
  | some (some (t0, fl0)) => if kd t0 ∧ (fl0 = .own ∨ fl0 = .chg) then (match a τ with
    | some (xs, τ1) => (match Sl.escs τ1 xs with
      | some (ts, τ2) => (match τ2[i]? with
        | some (some (t, fl)) => if fl = .own ∨ fl = .chg then (match g t ts with
            | some (t', r) => some (.v r, τ2.set i (some (t', fl)))
            | none => none) else none
        | _ => none)
      | none => none)
    | none => none) else none
  | _ => none
def T.isLst : T → Bool
  | .lst _ => true
  | _ => false
def T.isDct : T → Bool
  | .dct _ => true
  | _ => false
def gAppend : T → List T → Option (T × T)
  | .lst l, [x] => if l.length < sizeLine then some (.lst (l ++ [x]), .non) else none
  | _, _ => none
def gExtend : T → List T → Option (T × T)
  | .lst l, [.lst m] => if l.length + m.length ≤ sizeLine then some (.lst (l ++ m), .non) else none
  | _, _ => none
def gPop0 : T → List T → Option (T × T)
  | .lst l, [] => match l.getLast? with
    | some x => some (.lst l.dropLast, x)
    | none => none
  | _, _ => none
def gPop1 : T → List T → Option (T × T)
  | .lst l, [.int i] => match ixN l.length i with
    | some j => if l.length ≤ sizeLine then (match l[j]? with
      | some x => some (.lst (l.eraseIdx j), x)
      | none => none) else none
    | none => none
  | _, _ => none

def gGet2 : T → T → T → Option T
  | .dct l, k, d => match askT l k with
    | some q => some ((look l q).getD d)
    | none => none
  | _, _, _ => none
/-- d.get(k, x) -/
def sGet2 (a b c : Sem) : Sem := fun τ => match a τ with
  | some (x, τ1) => (match τ1.tr x.sh with
    | some (.dct _) => (match b τ1 with
      | some (y, τ2) => (match c τ2 with
        | some (z, τ3) => (match τ3.esc z.sh with
          | some (d, τ4) => (match τ4.tr x.sh, τ4.tr y.sh with
            | some t, some u => (match gGet2 t u d with
              | some r => some (.v r, τ4)
              | none => none)
            | _, _ => none)
          | none => none)
        | none => none)
      | none => none)
    | _ => none)
  | none => none

/-! ### what a for walks -/
def itemsT : T → Option (List T)
  | .lst l => some l
  | .tup l => some l
  | .str z => some (z.cps.toList.map fun c => .str ⟨#[c]⟩)
  | _ => none
def rangeT (lo hi : Int) : List T := (List.range (hi - lo).toNat).map fun i => .int (lo + (i : Nat))
def enumT : Nat → List T → List T
  | _, [] => []
  | n, x :: r => .tup [.int n, x] :: enumT (n + 1) r

/-! ### statements -/
inductive Fw where
  | nx (τ : Sl) | rt (o : Od) (τ : Sl) | br (τ : Sl) | ct (τ : Sl) | ex (c : Str) (args : List T) (τ : Sl)
abbrev Stm := Sl → Option Fw
def mNil : Stm := fun τ => some (.nx τ)
def mSeq (a b : Stm) : Stm := fun τ => match a τ with
  | some (.nx τ1) => b τ1
  | r => r
/-- what a name is given -/
def Sl.put (τ : Sl) (i : Nat) : Od → Option Sl
  | .f t => some (τ.set i (some (t, .own)))
  | o => match τ.esc o with
    | some (t, τ1) => some (τ1.set i (some (t, .shr)))
    | none => none
def mSet (i : Nat) (a : Sem) : Stm := fun τ => match a τ with
  | some (x, τ1) => (match τ1.put i x with
    | some τ2 => some (.nx τ2)
    | none => none)
  | none => none
def mExp (a : Sem) : Stm := fun τ => match a τ with
  | some (_, τ1) => some (.nx τ1)
  | none => none
def mRet (a : Sem) : Stm := fun τ => match a τ with
  | some (x, τ1) => some (.rt x τ1)
  | none => none
def mRetN : Stm := fun τ => some (.rt (.v .non) τ)
def mIf (c : Tst) (a b : Stm) : Stm := fun τ => match c τ with
  | some (true, τ1) => a τ1
  | some (false, τ1) => b τ1
  | none => none
def mBrk : Stm := fun τ => some (.br τ)
def mCnt : Stm := fun τ => some (.ct τ)
/-- targets of a for or an assignment: a name, several names -/
def putAll : Sl → List Nat → List T → Option Sl
  | τ, [], [] => some τ
  | τ, i :: r, t :: ts => putAll (τ.set i (some (t, .shr))) r ts
  | _, _, _ => none
def tgt1 (i : Nat) : T → Sl → Option Sl := fun t τ => some (τ.set i (some (t, .shr)))
def tgtN (is : List Nat) : T → Sl → Option Sl := fun t τ => match t with
  | .tup ts => putAll τ is ts
  | _ => none
def mUnp (is : List Nat) (a : Sem) : Stm := fun τ => match a τ with
  | some (x, τ1) => (match τ1.esc x with
    | some (.tup ts, τ2) => (match putAll τ2 is ts with
      | some τ3 => some (.nx τ3)
      | none => none)
    | _ => none)
  | none => none
/-- a, b = x, y -/
def mPar (is : List Nat) (a : Sems) : Stm := fun τ => match a τ with
  | some (xs, τ1) => (match Sl.escs τ1 xs with
    | some (ts, τ2) => (match putAll τ2 is ts with
      | some τ3 => some (.nx τ3)
      | none => none)
    | none => none)
  | none => none
def mAug (i : Nat) (op : Operator) (a : Sem) : Stm := fun τ => match τ[i]? with
  | some (some (.int x, .shr)) => (match a τ with
    | some (y, τ1) => (match τ1.tr y with
      | some (.int y) => (match τ1[i]? with
        | some (some (.int x', .shr)) => if x' = x then (match op with
          | .Add => some (.nx (τ1.set i (some (.int (x + y), .shr))))
          | .Sub => some (.nx (τ1.set i (some (.int (x - y), .shr))))
          | _ => none) else none
        | _ => none)
      | _ => none)
    | none => none)
  | _ => none
/-- x[j] = e, x a slot's own list -/
def mPutIx (i : Nat) (j : Sem) (e : Sem) : Stm := fun τ => match e τ with
  | some (x, τ1) => (match τ1[i]? with
    | some (some _) => (match j τ1 with
      | some (y, τ2) => (match τ2.esc x.sh with
        | some (t, τ3) => (match τ3.tr y.sh, τ3[i]? with
          | some (.int k), some (some (.lst l, fl)) => if fl = .own ∨ fl = .chg then (match ixN l.length k with
              | some m => some (.nx (τ3.set i (some (.lst (l.set m t), fl))))
              | none => none) else none
          | _, _ => none)
        | none => none)
      | none => none)
    | _ => none)
  | none => none
def walk (g : T → Sl → Option Sl) (b : Stm) : List T → Stm
  | [] => fun τ => some (.nx τ)
  | x :: r => fun τ => match g x τ with
    | some τ1 => (match b τ1 with
      | some (.nx τ2) => walk g b r τ2
      | some (.ct τ2) => walk g b r τ2
      | some (.br τ2) => some (.nx τ2)
      | o => o)
    | none => none
/-- lent to be read: an own list is kept from then on -/
def Sl.lnd (τ : Sl) : Od → Option (T × Sl)
  | .v t => some (t, τ)
  | .f t => some (t, τ)
  | .s i => match τ[i]? with
    | some (some (t, .shr)) => some (t, τ)
    | some (some (t, .own)) => some (t, τ.set i (some (t, .shr)))
    | some (some (t, .bor)) => some (t, τ)
    | _ => none
/-- a source of items -/
abbrev Src := Sl → Option (List T × Sl)
def srcOf (a : Sem) : Src := fun τ => match a τ with
  | some (o, τ1) => (match τ1.lnd o with
    | some (t, τ2) => (match itemsT t with
      | some l => some (l, τ2)
      | none => none)
    | none => none)
  | none => none
def srcEnum (a : Sem) : Src := fun τ => match a τ with
  | some (o, τ1) => (match τ1.lnd o.sh with
    | some (.lst l, τ2) => some (enumT 0 l, τ2)
    | _ => none)
  | none => none
def r62 (i : Int) : Bool := decide (-(2 ^ 62) ≤ i) && decide (i < 2 ^ 62)
def srcRange1 (a : Sem) : Src := fun τ => match a τ with
  | some (x, τ1) => (match τ1.tr x.sh with
    | some (.int n) => if r62 n then some (rangeT 0 n, τ1) else none
    | _ => none)
  | none => none
def srcRange2 (a b : Sem) : Src := fun τ => match a τ with
  | some (x, τ1) => (match b τ1 with
    | some (y, τ2) => (match τ2.tr x.sh, τ2.tr y.sh with
      | some (.int m), some (.int n) => if r62 m && r62 n then some (rangeT m n, τ2) else none
      | _, _ => none)
    | none => none)
  | none => none
def rangeC (lo c : Int) (n : Nat) : List T := (List.range n).map fun i => .int (lo + (i : Nat) * c)
def rgc (i j c : Int) : Bool := decide (c ≠ 0) && decide (c.natAbs < 1073741824) && Builtin.Range.small i j c && decide (0 ≤ Builtin.Range.rangeSize i j c)
def srcRange3 (a b c : Sem) : Src := fun τ => match a τ with
  | some (x, τ1) => (match b τ1 with
    | some (y, τ2) => (match c τ2 with
      | some (z, τ3) => (match τ3.tr x.sh, τ3.tr y.sh, τ3.tr z.sh with
        | some (.int i), some (.int j), some (.int k) => if rgc i j k then some (rangeC i k (Builtin.Range.rangeSize i j k).toNat, τ3) else none
        | _, _, _ => none)
      | none => none)
    | none => none)
  | none => none
def mFor (s : Src) (g : T → Sl → Option Sl) (b : Stm) : Stm := fun τ => match s τ with
  | some (l, τ1) => walk g b l τ1
  | none => none
def whl (c : Tst) (b : Stm) : Nat → Stm
  | 0 => fun _ => none
  | n + 1 => fun τ => match c τ with
    | some (false, τ1) => some (.nx τ1)
    | some (true, τ1) => (match b τ1 with
      | some (.nx τ2) => whl c b n τ2
      | some (.ct τ2) => whl c b n τ2
      | some (.br τ2) => some (.nx τ2)
      | o => o)
    | none => none
def mWhile (n : Nat) (c : Tst) (b : Stm) : Stm := whl c b n
def mRaise (c : Str) (a : Sems) : Stm := fun τ => match a τ with
  | some (xs, τ1) => (match Sl.escs τ1 xs with
    | some ([.int p, .str r], τ2) => if p.natAbs < 1000000 ∧ r.length ≤ 1000 then some (.ex c [.int p, .str r] τ2) else none
    | _ => none)
  | none => none

/-! ### comprehensions: the slots vs are the block's own -/
def wipeT (τ : Sl) : List Nat → Sl
  | [] => τ
  | v :: vs => (wipeT τ vs).set v none
/-- behind the block: the own names as ahead, the others as they are -/
def unwipe (τ₀ τ : Sl) : List Nat → Sl
  | [] => τ
  | v :: vs => match τ₀[v]? with
    | some x => (unwipe τ₀ τ vs).set v x
    | none => unwipe τ₀ τ vs
def collect (g : T → Sl → Option Sl) (vs : List Nat) (c : Tst) (e : Sem) : List T → List T → Sl → Option (List T × Sl)
  | [], acc, τ => some (acc, τ)
  | x :: r, acc, τ => match g x τ with
    | some τ1 => (match c τ1 with
      | some (false, τ2) => collect g vs c e r acc (wipeT τ2 vs)
      | some (true, τ2) => (match e τ2 with
        | some (o, τ3) => (match τ3.esc o with
          | some (t, τ4) => if acc.length < sizeLine then collect g vs c e r (acc ++ [t]) (wipeT τ4 vs) else none
          | none => none)
        | none => none)
      | none => none)
    | none => none
/-- the block's own names hold no list of their own ahead of it -/
def Sl.plain (τ : Sl) (vs : List Nat) : Bool := vs.all fun v => match τ[v]? with
  | some none => true
  | some (some (_, .shr)) => true
  | _ => false
def sLc (s : Src) (g : T → Sl → Option Sl) (vs : List Nat) (c : Tst) (e : Sem) : Sem := fun τ => match s τ with
  | some (l, τ1) => if τ1.plain vs then (match collect g vs c e l [] (wipeT τ1 vs) with
    | some (ts, τ2) => some (.f (.lst ts), unwipe τ1 τ2 vs)
    | none => none) else none
  | none => none
def tYesS : Tst := fun τ => some (true, τ)

/-! ### a def's body -/
def frmOf : List Md → List T → Sl
  | .S :: ms, t :: ts => some (t, .shr) :: frmOf ms ts
  | .B :: ms, t :: ts => some (t, if t.scal then .shr else .bor) :: frmOf ms ts
  | .M :: ms, t :: ts => some (t, .chg) :: frmOf ms ts
  | _, _ => []
def outsOf : List Md → Nat → Sl → Option (List T)
  | [], _, _ => some []
  | .M :: ms, i, τ => match τ[i]? with
    | some (some (t, .chg)) => (outsOf ms (i + 1) τ).map (t :: ·)
    | _ => none
  | _ :: ms, i, τ => outsOf ms (i + 1) τ
def resOf (ms : List Md) : Od → Sl → Option Res
  | .f t, τ => (outsOf ms 0 τ).map (.ret t true)
  | .v t, τ => (outsOf ms 0 τ).map (.ret t false)
  | .s i, τ => match τ[i]? with
    | some (some (t, .own)) => (outsOf ms 0 τ).map (.ret t true)
    | some (some (t, .shr)) => (outsOf ms 0 τ).map (.ret t false)
    | _ => none
/-- a def's body over n slots -/
def runF (ms : List Md) (n : Nat) (b : Stm) : Fn := fun ts => if ts.length = ms.length then
    match b (frmOf ms ts ++ List.replicate (n - ms.length) none) with
    | some (.nx τ) => resOf ms (.v .non) τ
    | some (.rt o τ) => resOf ms o τ
    | some (.ex c a τ) => if ms.contains .M then none else some (.exn c a)
    | _ => none
  else none
end Dt
set_option maxHeartbeats 4000000
/-! Dt2: how trees lie in memory; the state of a frame. -/
namespace Dt
open PySem PySem.Spec PyProof.Rows L2

abbrev Av := Addr → Prop
section
variable (K : PySem.W.Frag) (w : World)
/-- a written tuple, a written dict -/
def KT (a : Addr) (xs : List V) : Prop := ∃ (o : Obj) (its : Array Value) (n : Nat), K.lookup a = some o ∧ o.cls = .type "tuple" ∧ o.data = .seq its n ∧ its.size ≤ sizeLine ∧ Vals xs its.toList
def KD (a : Addr) (kvs : List (Key × V)) : Prop := ∃ es n, KDict K w a es n ∧ ∀ x : Str, ∃ r, PySem.W.nsIn K a x = some r ∧ RelO (valV kvs (.inr x)) r ∧ ∃ q ∈ kvs, ∀ i : Int, q.1 ≠ .inl i
def LAt (H : Hp) (N : Av) (a : Addr) (xs : List V) : Prop := ¬ N a ∧ H a = some (.lst xs)
def LVw (H : Hp) (N : Av) (a : Addr) (xs : List V) : Prop := ¬ N a ∧ Rd H a (.lst xs)
def TAt (H : Hp) (N : Av) (a : Addr) (xs : List V) : Prop := (¬ N a ∧ Rd H a (.tup xs)) ∨ KT K a xs
def DAt (H : Hp) (N : Av) (a : Addr) (kvs : List (Key × V)) : Prop := (¬ N a ∧ Rd H a (.dK kvs)) ∨ KD K w a kvs
mutual
def Rep (H : Hp) (A : Av) : T → V → Prop
  | .non, v => v = .non
  | .bl b, v => v = .bl b
  | .int i, v => v = .int i
  | .str s, v => v = .str s
  | .tup l, v => ∃ a vs, v = .ref a ∧ TAt K H A a vs ∧ Reps H A l vs
  | .lst l, v => ∃ a vs, v = .ref a ∧ LAt H A a vs ∧ Reps H A l vs
  | .dct l, v => ∃ a kvs, v = .ref a ∧ DAt K w H A a kvs ∧ Repd H A l kvs
def Reps (H : Hp) (A : Av) : List T → List V → Prop
  | [], vs => vs = []
  | t :: r, vs => ∃ v vr, vs = v :: vr ∧ Rep H A t v ∧ Reps H A r vr
def Repd (H : Hp) (A : Av) : List (T × T) → List (Key × V) → Prop
  | [], vs => vs = []
  | (k, t) :: r, vs => ∃ q v vr, vs = (q, v) :: vr ∧ keyT k = some q ∧ Rep H A t v ∧ Repd H A r vr
end
/-- seen from outside: the root may be of what changes (but not at N) -/
def Vw (H : Hp) (N A : Av) : T → V → Prop
  | .lst l, v => ∃ a vs, v = .ref a ∧ LVw H N a vs ∧ Reps K w H A l vs
  | .dct l, v => ∃ a kvs, v = .ref a ∧ DAt K w H N a kvs ∧ Repd K w H A l kvs
  | t, v => Rep K w H A t v
/-- an object of one's own -/
def Root (H : Hp) (A : Av) (a : Addr) : T → Prop
  | .lst l => ∃ vs, H a = some (.lst vs) ∧ Reps K w H A l vs
  | .dct l => ∃ kvs, H a = some (.dK kvs) ∧ Repd K w H A l kvs
  | _ => False
end

section
variable {K : PySem.W.Frag} {w : World} {H H' : Hp} {A A' N N' : Av} {a : Addr} {t : T} {v : V}
theorem LVw.sq {xs : List V} (h : LVw H N a xs) : SqL K H a xs := .inl h.2
theorem LAt.sq {xs : List V} (h : LAt H N a xs) : SqL K H a xs := .inl (.inl h.2)
theorem TAt.sq {xs : List V} (h : TAt K H N a xs) : SqT K H a xs := h.elim (fun x => .inl x.2) .inr
theorem rd_keep {u : HO} (k : ∀ b o, ¬ N b → H b = some o → H' b = some o) (e : ∀ b, N' b → N b ∨ H b = none) (h : ¬ N a ∧ Rd H a u) : ¬ N' a ∧ Rd H' a u := by
  obtain ⟨h1, h2⟩ := h
  have hs : H a ≠ none := by
    rcases h2 with q | ⟨o, q⟩ <;> rw [q] <;> exact fun z => nomatch z
  refine ⟨fun z => ?_, ?_⟩
  · rcases e a z with q | q
    · exact h1 q
    · exact hs q
  · rcases h2 with q | ⟨o, q⟩
    · exact .inl (k _ _ h1 q)
    · exact .inr ⟨o, k _ _ h1 q⟩
theorem LVw.keep {xs : List V} (k : ∀ b o, ¬ N b → H b = some o → H' b = some o) (e : ∀ b, N' b → N b ∨ H b = none) (h : LVw H N a xs) : LVw H' N' a xs := rd_keep k e h
theorem LAt.keep {xs : List V} (k : ∀ b o, ¬ N b → H b = some o → H' b = some o) (e : ∀ b, N' b → N b ∨ H b = none) (h : LAt H N a xs) : LAt H' N' a xs :=
  ⟨(rd_keep k e ⟨h.1, .inl h.2⟩).1, k _ _ h.1 h.2⟩
theorem TAt.keep {xs : List V} (k : ∀ b o, ¬ N b → H b = some o → H' b = some o) (e : ∀ b, N' b → N b ∨ H b = none) (h : TAt K H N a xs) : TAt K H' N' a xs := h.imp (rd_keep k e) id
theorem DAt.keep {xs : List (Key × V)} (k : ∀ b o, ¬ N b → H b = some o → H' b = some o) (e : ∀ b, N' b → N b ∨ H b = none) (h : DAt K w H N a xs) : DAt K w H' N' a xs := h.imp (rd_keep k e) id
mutual
theorem Rep.keep (k : ∀ b o, ¬ A b → H b = some o → H' b = some o) (e : ∀ b, A' b → A b ∨ H b = none) : ∀ (t : T) (v : V), Rep K w H A t v → Rep K w H' A' t v
  | .non, _, h => by simpa only [Rep] using h
  | .bl _, _, h => by simpa only [Rep] using h
  | .int _, _, h => by simpa only [Rep] using h
  | .str _, _, h => by simpa only [Rep] using h
  | .tup l, v, h => by
    simp only [Rep] at h ⊢
    obtain ⟨a, vs, e1, e2, e3⟩ := h
    exact ⟨a, vs, e1, e2.keep k e, Reps.keep k e l vs e3⟩
  | .lst l, v, h => by
    simp only [Rep] at h ⊢
    obtain ⟨a, vs, e1, e2, e3⟩ := h
    exact ⟨a, vs, e1, e2.keep k e, Reps.keep k e l vs e3⟩
  | .dct l, v, h => by
    simp only [Rep] at h ⊢
    obtain ⟨a, vs, e1, e2, e3⟩ := h
    exact ⟨a, vs, e1, e2.keep k e, Repd.keep k e l vs e3⟩
theorem Reps.keep (k : ∀ b o, ¬ A b → H b = some o → H' b = some o) (e : ∀ b, A' b → A b ∨ H b = none) : ∀ (l : List T) (vs : List V), Reps K w H A l vs → Reps K w H' A' l vs
  | [], _, h => by simpa only [Reps] using h
  | t :: r, vs, h => by
    simp only [Reps] at h ⊢
    obtain ⟨v, vr, e1, e2, e3⟩ := h
    exact ⟨v, vr, e1, Rep.keep k e t v e2, Reps.keep k e r vr e3⟩
theorem Repd.keep (k : ∀ b o, ¬ A b → H b = some o → H' b = some o) (e : ∀ b, A' b → A b ∨ H b = none) : ∀ (l : List (T × T)) (vs : List (Key × V)), Repd K w H A l vs → Repd K w H' A' l vs
  | [], _, h => by simpa only [Repd] using h
  | (q, t) :: r, vs, h => by
    simp only [Repd] at h ⊢
    obtain ⟨k', v, vr, e1, e2, e3, e4⟩ := h
    exact ⟨k', v, vr, e1, e2, Rep.keep k e t v e3, Repd.keep k e r vr e4⟩
end
theorem Vw.of (h : Rep K w H A t v) (n : ∀ b, N b → A b ∨ H b = none) : Vw K w H N A t v := by
  cases t with
  | lst l =>
    simp only [Rep] at h
    obtain ⟨a, vs, e1, e2, e3⟩ := h
    have e4 := e2.keep (H' := H) (fun _ _ _ q => q) n
    exact ⟨a, vs, e1, ⟨e4.1, .inl e4.2⟩, e3⟩
  | dct l =>
    simp only [Rep] at h
    obtain ⟨a, vs, e1, e2, e3⟩ := h
    exact ⟨a, vs, e1, e2.keep (H' := H) (fun _ _ _ q => q) n, e3⟩
  | _ => exact h
theorem Vw.keep (k : ∀ b o, ¬ A b → H b = some o → H' b = some o) (e : ∀ b, A' b → A b ∨ H b = none) (kn : ∀ b o, ¬ N b → H b = some o → H' b = some o) (en : ∀ b, N' b → N b ∨ H b = none)
    (h : Vw K w H N A t v) : Vw K w H' N' A' t v := by
  cases t with
  | lst l =>
    obtain ⟨a, vs, e1, e2, e3⟩ := h
    exact ⟨a, vs, e1, e2.keep kn en, Reps.keep k e _ _ e3⟩
  | dct l =>
    obtain ⟨a, vs, e1, e2, e3⟩ := h
    exact ⟨a, vs, e1, e2.keep kn en, Repd.keep k e _ _ e3⟩
  | _ => exact Rep.keep k e _ _ h
theorem Root.vw (h : Root K w H A a t) (n : ¬ N a) : Vw K w H N A t (.ref a) := by
  cases t with
  | lst l =>
    obtain ⟨vs, e1, e2⟩ := h
    exact ⟨a, vs, rfl, ⟨n, .inl e1⟩, e2⟩
  | dct l =>
    obtain ⟨vs, e1, e2⟩ := h
    exact ⟨a, vs, rfl, .inl ⟨n, .inl e1⟩, e2⟩
  | _ => exact h.elim
theorem Root.rep (h : Root K w H A a t) (n : ¬ A' a) (e : ∀ b, A' b → A b ∨ H b = none) : Rep K w H A' t (.ref a) := by
  cases t with
  | lst l =>
    obtain ⟨vs, e1, e2⟩ := h
    simp only [Rep]
    exact ⟨a, vs, rfl, ⟨n, e1⟩, Reps.keep (fun _ _ _ q => q) e _ _ e2⟩
  | dct l =>
    obtain ⟨vs, e1, e2⟩ := h
    simp only [Rep]
    exact ⟨a, vs, rfl, .inl ⟨n, .inl e1⟩, Repd.keep (fun _ _ _ q => q) e _ _ e2⟩
  | _ => exact h.elim
theorem Root.keep (k : ∀ b o, ¬ A b → H b = some o → H' b = some o) (e : ∀ b, A' b → A b ∨ H b = none) (ka : ∀ o, H a = some o → H' a = some o) (h : Root K w H A a t) : Root K w H' A' a t := by
  cases t with
  | lst l =>
    obtain ⟨vs, e1, e2⟩ := h
    exact ⟨vs, ka _ e1, Reps.keep k e _ _ e2⟩
  | dct l =>
    obtain ⟨vs, e1, e2⟩ := h
    exact ⟨vs, ka _ e1, Repd.keep k e _ _ e2⟩
  | _ => exact h.elim
theorem Root.there (h : Root K w H A a t) : ∃ o, H a = some o := by
  cases t with
  | lst l => obtain ⟨vs, e1, e2⟩ := h; exact ⟨_, e1⟩
  | dct l => obtain ⟨vs, e1, e2⟩ := h; exact ⟨_, e1⟩
  | _ => exact h.elim
theorem Reps.length : ∀ {l : List T} {vs : List V}, Reps K w H A l vs → vs.length = l.length
  | [], _, h => by simp only [Reps] at h; rw [h]; rfl
  | t :: r, vs, h => by
    simp only [Reps] at h
    obtain ⟨v, vr, rfl, _, e3⟩ := h
    simp [Reps.length e3]
theorem Reps.get : ∀ {l : List T} {vs : List V} {i : Nat} {t : T}, Reps K w H A l vs → l[i]? = some t → ∃ v, vs[i]? = some v ∧ Rep K w H A t v
  | [], _, _, _, _, h => by simp at h
  | t :: r, vs, 0, u, h, e => by
    simp only [Reps] at h
    obtain ⟨v, vr, rfl, e2, _⟩ := h
    simp at e
    subst e
    exact ⟨v, rfl, e2⟩
  | t :: r, vs, i + 1, u, h, e => by
    simp only [Reps] at h
    obtain ⟨v, vr, rfl, _, e3⟩ := h
    obtain ⟨x, h1, h2⟩ := Reps.get (i := i) e3 (by simpa using e)
    exact ⟨x, by simpa using h1, h2⟩
theorem Reps.nn {l : List T} {vs : List V} {i : Nat} (h : Reps K w H A l vs) (e : l[i]? = Option.none) : vs[i]? = Option.none := by
  rw [List.getElem?_eq_none_iff] at e ⊢
  rw [h.length]; exact e
theorem Reps.app : ∀ {l m : List T} {vs us : List V}, Reps K w H A l vs → Reps K w H A m us → Reps K w H A (l ++ m) (vs ++ us)
  | [], _, _, _, h, g => by simp only [Reps] at h; subst h; exact g
  | t :: r, m, vs, us, h, g => by
    simp only [Reps] at h
    obtain ⟨v, vr, rfl, e2, e3⟩ := h
    show Reps K w H A (t :: (r ++ m)) (v :: (vr ++ us))
    simp only [Reps]
    exact ⟨v, vr ++ us, rfl, e2, Reps.app e3 g⟩
theorem Reps.take : ∀ {l : List T} {vs : List V} (n : Nat), Reps K w H A l vs → Reps K w H A (l.take n) (vs.take n)
  | _, _, 0, _ => by simp [Reps]
  | [], vs, n + 1, h => by simp only [Reps] at h; subst h; simp [Reps]
  | t :: r, vs, n + 1, h => by
    simp only [Reps] at h
    obtain ⟨v, vr, rfl, e2, e3⟩ := h
    show Reps K w H A (t :: r.take n) (v :: vr.take n)
    simp only [Reps]
    exact ⟨v, _, rfl, e2, Reps.take n e3⟩
theorem Reps.drop : ∀ {l : List T} {vs : List V} (n : Nat), Reps K w H A l vs → Reps K w H A (l.drop n) (vs.drop n)
  | _, _, 0, h => h
  | [], vs, n + 1, h => by simp only [Reps] at h; subst h; simp [Reps]
  | t :: r, vs, n + 1, h => by
    simp only [Reps] at h
    obtain ⟨v, vr, rfl, _, e3⟩ := h
    exact Reps.drop n e3
theorem Reps.set : ∀ {l : List T} {vs : List V} (n : Nat) {t : T} {v : V}, Reps K w H A l vs → Rep K w H A t v → Reps K w H A (l.set n t) (vs.set n v)
  | [], vs, n, _, _, h, _ => by simp only [Reps] at h; subst h; simp [Reps]
  | t :: r, vs, 0, u, x, h, g => by
    simp only [Reps] at h
    obtain ⟨v, vr, rfl, e2, e3⟩ := h
    show Reps K w H A (u :: r) (x :: vr)
    simp only [Reps]
    exact ⟨_, _, rfl, g, e3⟩
  | t :: r, vs, n + 1, u, x, h, g => by
    simp only [Reps] at h
    obtain ⟨v, vr, rfl, e2, e3⟩ := h
    show Reps K w H A (t :: r.set n u) (v :: vr.set n x)
    simp only [Reps]
    exact ⟨_, _, rfl, e2, Reps.set n e3 g⟩
theorem Reps.one (h : Rep K w H A t v) : Reps K w H A [t] [v] := by simp only [Reps]; exact ⟨v, [], rfl, h, rfl⟩
end

/-! ### a frame's state -/
/-- what does not change while a frame runs: the heap at its entry, what the callers' changing objects are, the objects lent to be changed, the arguments -/
structure Frm where
  H : Hp
  A : Av
  M : Av
  vs : List V
def Ow (σ : L2.St) (τ : Sl) (a : Addr) : Prop := ∃ (i : Nat) (t : T) (fl : Fl), τ[i]? = some (some (t, fl)) ∧ (fl = .own ∨ fl = .chg) ∧ σ[i]? = some (some (.ref a))
def Pr (σ : L2.St) (τ : Sl) (a : Addr) : Prop := ∃ (i : Nat) (t : T) (fl : Fl), τ[i]? = some (some (t, fl)) ∧ (fl = .own ∨ fl = .chg ∨ fl = .len) ∧ σ[i]? = some (some (.ref a))
theorem Ow.pr {σ : L2.St} {τ : Sl} {a : Addr} (h : Ow σ τ a) : Pr σ τ a := let ⟨i, t, fl, e, q, z⟩ := h; ⟨i, t, fl, e, q.elim .inl fun q => .inr (.inl q), z⟩

section
variable (K : PySem.W.Frag) (w : World)
def SlotOk (F : Frm) (H : Hp) (A O : Av) (i : Nat) (t : T) : Fl → V → Prop
  | .shr, v => Rep K w H A t v
  | .own, v => ∃ a, v = .ref a ∧ A a ∧ F.H a = none ∧ Root K w H A a t
  | .len, v => ∃ a, v = .ref a ∧ A a ∧ F.H a = none ∧ Root K w H A a t
  | .chg, v => ∃ a, v = .ref a ∧ A a ∧ F.M a ∧ F.vs[i]? = some v ∧ Root K w H A a t
  | .bor, v => Vw K w F.H F.M F.A t v
structure R (F : Frm) (H : Hp) (A : Av) (σ : L2.St) (τ : Sl) : Prop where
  len : σ.length = τ.length
  ext : ∀ a o, ¬ F.M a → F.H a = some o → H a = some o
  dm : ∀ a o, F.H a = some o → ∃ o', H a = some o'
  sub : ∀ a, F.A a → A a
  msub : ∀ a, F.M a → F.A a
  dom : ∀ a, A a → ∃ o, H a = some o
  domF : ∀ a, F.A a → ∃ o, F.H a = some o
  nwf : ∀ a, A a → F.A a ∨ F.H a = none
  slot : ∀ (i : Nat) (t : T) (fl : Fl), τ[i]? = some (some (t, fl)) → ∃ v, σ[i]? = some (some v) ∧ SlotOk K w F H A (Ow σ τ) i t fl v
  uniq : ∀ (i j : Nat) (a : Addr), (∃ (t : T) (fl : Fl), τ[i]? = some (some (t, fl)) ∧ (fl = .own ∨ fl = .chg ∨ fl = .len)) → (∃ (t : T) (fl : Fl), τ[j]? = some (some (t, fl)) ∧ (fl = .own ∨ fl = .chg ∨ fl = .len)) →
    σ[i]? = some (some (V.ref a)) → σ[j]? = some (some (V.ref a)) → i = j
end
/-- a step: nothing but O changes -/
structure Stp (O : Av) (H : Hp) (A : Av) (H' : Hp) (A' : Av) : Prop where
  keep : ∀ a o, ¬ O a → H a = some o → H' a = some o
  dm : ∀ a o, H a = some o → ∃ o', H' a = some o'
  new : ∀ a, A' a → A a ∨ H a = none
  old : ∀ a, A a → ¬ O a → A' a
theorem Stp.refl (O : Av) (H : Hp) (A : Av) : Stp O H A H A := ⟨fun _ _ _ e => e, fun _ o e => ⟨o, e⟩, fun _ h => .inl h, fun _ h _ => h⟩
theorem Stp.trans {O O1 : Av} {H H1 H2 : Hp} {A A1 A2 : Av} (a : Stp O H A H1 A1) (b : Stp O1 H1 A1 H2 A2) (s : ∀ x, O1 x → O x) : Stp O H A H2 A2 where
  keep x o n e := b.keep x o (fun z => n (s x z)) (a.keep x o n e)
  dm x o e := let ⟨o1, e1⟩ := a.dm x o e; b.dm x o1 e1
  new x h := by
    rcases b.new x h with q | q
    · exact a.new x q
    · refine .inr ?_
      cases z : H x with
      | none => rfl
      | some o =>
        obtain ⟨o1, e1⟩ := a.dm x o z
        rw [e1] at q; cases q
  old x h n := b.old x (a.old x h n) fun z => n (s x z)
theorem Stp.mono {O O1 : Av} {H H1 : Hp} {A A1 : Av} (a : Stp O H A H1 A1) (s : ∀ x, O x → O1 x) : Stp O1 H A H1 A1 :=
  ⟨fun x o n e => a.keep x o (fun z => n (s x z)) e, a.dm, a.new, fun x h n => a.old x h fun z => n (s x z)⟩
/-- slots are given up, not won -/
structure Les (σ : L2.St) (τ τ' : Sl) : Prop where
  ow : ∀ a, Ow σ τ' a → Ow σ τ a
  pr : ∀ a, Pr σ τ' a → Pr σ τ a
  there : ∀ (i : Nat), (∃ x, τ[i]? = some (some x)) → ∃ x, τ'[i]? = some (some x)
theorem Les.refl (σ : L2.St) (τ : Sl) : Les σ τ τ := ⟨fun _ h => h, fun _ h => h, fun _ h => h⟩
theorem Les.trans {σ : L2.St} {τ τ1 τ2 : Sl} (a : Les σ τ τ1) (b : Les σ τ1 τ2) : Les σ τ τ2 := ⟨fun x h => a.ow x (b.ow x h), fun x h => a.pr x (b.pr x h), fun i h => b.there i (a.there i h)⟩

section
variable {K : PySem.W.Frag} {w : World} {F : Frm} {H H' : Hp} {A A' : Av} {σ : L2.St} {τ τ' : Sl} {i : Nat} {t : T} {v : V} {a : Addr}
theorem R.pr (h : R K w F H A σ τ) (p : Pr σ τ a) : A a := by
  obtain ⟨i, t, fl, e, q, z⟩ := p
  obtain ⟨v, e1, s⟩ := h.slot i t fl e
  rw [e1] at z; cases z
  rcases q with rfl | rfl | rfl
  · obtain ⟨b, e2, h1, _⟩ := s; cases e2; exact h1
  · obtain ⟨b, e2, h1, _⟩ := s; cases e2; exact h1
  · obtain ⟨b, e2, h1, _⟩ := s; cases e2; exact h1
theorem R.ow (h : R K w F H A σ τ) (p : Ow σ τ a) : A a := h.pr p.pr
/-- what is kept under a step that changes only what is avoided -/
theorem R.keepR (h : R K w F H A σ τ) (s : Stp (Ow σ τ) H A H' A') {t : T} {v : V} (r : Rep K w H A t v) : Rep K w H' A' t v :=
  Rep.keep (fun b o n e => s.keep b o (fun z => n (h.ow z)) e) s.new t v r
theorem R.keepRs (h : R K w F H A σ τ) (s : Stp (Ow σ τ) H A H' A') {l : List T} {vs : List V} (r : Reps K w H A l vs) : Reps K w H' A' l vs :=
  Reps.keep (fun b o n e => s.keep b o (fun z => n (h.ow z)) e) s.new l vs r
theorem R.keepRd (h : R K w F H A σ τ) (s : Stp (Ow σ τ) H A H' A') {l : List (T × T)} {vs : List (Key × V)} (r : Repd K w H A l vs) : Repd K w H' A' l vs :=
  Repd.keep (fun b o n e => s.keep b o (fun z => n (h.ow z)) e) s.new l vs r
theorem R.nn (h : R K w F H A σ τ) (e : H a = none) : F.H a = none := by
  cases q : F.H a with
  | none => rfl
  | some o => obtain ⟨o', z⟩ := h.dm a o q; rw [z] at e; cases e
theorem R.fresh (h : R K w F H A σ τ) (e : H a = none) : ¬ A a := fun z => by obtain ⟨o, q⟩ := h.dom a z; rw [q] at e; cases e
/-- what is borrowed, now -/
theorem R.borN (h : R K w F H A σ τ) {N : Av} {t : T} {v : V} (s : Vw K w F.H F.M F.A t v) (e : ∀ b, N b → F.M b ∨ F.H b = none) : Vw K w H N A t v :=
  Vw.keep (fun b o n q => h.ext b o (fun z => n (h.msub b z)) q) h.nwf (fun b o n q => h.ext b o n q) e s
theorem R.owF (h : R K w F H A σ τ) (p : Ow σ τ a) : F.M a ∨ F.H a = none := by
  obtain ⟨i, t, fl, e, q, z⟩ := p
  obtain ⟨v, e1, s⟩ := h.slot i t fl e
  rw [e1] at z; cases z
  rcases q with rfl | rfl
  · obtain ⟨b, e2, _, h1, _⟩ := s; cases e2; exact .inr h1
  · obtain ⟨b, e2, _, h1, _⟩ := s; cases e2; exact .inl h1
/-- the object of a slot, seen -/
theorem R.slotV (h : R K w F H A σ τ) {fl : Fl} (e : τ[i]? = some (some (t, fl))) : ∃ v, σ[i]? = some (some v) ∧ Vw K w H (fun _ => False) A t v := by
  obtain ⟨v, e1, s⟩ := h.slot i t fl e
  refine ⟨v, e1, ?_⟩
  cases fl with
  | shr => exact Vw.of s (fun _ z => z.elim)
  | own => obtain ⟨b, rfl, _, _, r⟩ := s; exact r.vw (fun z => z)
  | len => obtain ⟨b, rfl, _, _, r⟩ := s; exact r.vw (fun z => z)
  | chg => obtain ⟨b, rfl, _, _, _, r⟩ := s; exact r.vw (fun z => z)
  | bor => exact h.borN s (fun _ z => z.elim)
/-- a new object, not avoided: a tuple -/
theorem R.laid (h : R K w F H A σ τ) {o : HO} (e : H a = none) : R K w F (upd H a o) A σ τ ∧ Stp (Ow σ τ) H A (upd H a o) A := by
  have st : Stp (Ow σ τ) H A (upd H a o) A := ⟨fun b u _ q => by rw [upd_ne (ne_of_none q e)]; exact q, fun b u q => ⟨u, by rw [upd_ne (ne_of_none q e)]; exact q⟩, fun _ z => .inl z, fun _ z _ => z⟩
  refine ⟨⟨h.len, fun b u n q => st.keep b u ?_ (h.ext b u n q), fun b u q => ?_, h.sub, h.msub, fun b z => ?_, h.domF, h.nwf, fun i t fl q => ?_, h.uniq⟩, st⟩
  · intro z
    obtain ⟨j, t, fl, q1, q2, q3⟩ := z
    obtain ⟨v, e1, s⟩ := h.slot j t fl q1
    rw [e1] at q3; cases q3
    rcases q2 with rfl | rfl
    · obtain ⟨c, e2, _, hn, _⟩ := s; cases e2; rw [hn] at q; cases q
    · obtain ⟨c, e2, _, hm, _⟩ := s; cases e2; exact n hm
  · obtain ⟨u', z⟩ := h.dm b u q
    exact st.dm b u' z
  · obtain ⟨u, q⟩ := h.dom b z
    exact st.dm b u q
  · obtain ⟨v, e1, s⟩ := h.slot i t fl q
    refine ⟨v, e1, ?_⟩
    have kp : ∀ b u, H b = some u → upd H a o b = some u := fun b u q => by rw [upd_ne (ne_of_none q e)]; exact q
    cases fl with
    | shr => exact Rep.keep (fun b u _ q => kp b u q) (fun _ z => .inl z) _ _ s
    | own => obtain ⟨b, rfl, h1, h2, r⟩ := s; exact ⟨b, rfl, h1, h2, r.keep (fun b u _ q => kp b u q) (fun _ z => .inl z) (kp b)⟩
    | len => obtain ⟨b, rfl, h1, h2, r⟩ := s; exact ⟨b, rfl, h1, h2, r.keep (fun b u _ q => kp b u q) (fun _ z => .inl z) (kp b)⟩
    | chg => obtain ⟨b, rfl, h1, h2, h3, r⟩ := s; exact ⟨b, rfl, h1, h2, h3, r.keep (fun b u _ q => kp b u q) (fun _ z => .inl z) (kp b)⟩
    | bor => exact s
end
end Dt
set_option maxHeartbeats 4000000
/-! Dt3: what an expression's word promises of the machine. -/
namespace Dt
open PySem PySem.Spec PyProof.Rows L2

section
variable (K : PySem.W.Frag) (w : World)
/-- an operand in memory -/
def OdV (H : Hp) (A : Av) (σ : L2.St) (τ : Sl) : Od → V → Prop
  | .v t, v => Rep K w H A t v
  | .s i, v => σ[i]? = some (some v) ∧ ∃ x, τ[i]? = some (some x)
  | .f _, _ => False
def OdOk (H0 H : Hp) (A : Av) (σ : L2.St) (τ : Sl) : Od → V → Prop
  | .f t, v => ∃ p, v = .ref p ∧ H0 p = none ∧ A p ∧ Root K w H A p t
  | .v t, v => Rep K w H A t v
  | .s i, v => σ[i]? = some (some v) ∧ ∃ x, τ[i]? = some (some x)
def OdsV (H : Hp) (A : Av) (σ : L2.St) (τ : Sl) : List Od → List V → Prop
  | [], vs => vs = []
  | o :: r, vs => ∃ v vr, vs = v :: vr ∧ OdV K w H A σ τ o v ∧ OdsV H A σ τ r vr
structure Nx (F : Frm) (σ : L2.St) (τ : Sl) (H : Hp) (A : Av) (τ' : Sl) (H' : Hp) (A' : Av) : Prop where
  r : R K w F H' A' σ τ'
  s : Stp (Ow σ τ) H A H' A'
  l : Les σ τ τ'
def TX (f : Sem) : TE := fun σ H Q => ∃ (F : Frm) (A : Av) (τ : Sl) (o : Od) (τ' : Sl), R K w F H A σ τ ∧ f τ = some (o, τ') ∧
  ∀ v H' A', Nx K w F σ τ H A τ' H' A' → OdOk K w H H' A' σ τ' o v → Q v H'
def TXs (f : Sems) : TA := fun σ H Q => ∃ (F : Frm) (A : Av) (τ : Sl) (os : List Od) (τ' : Sl), R K w F H A σ τ ∧ f τ = some (os, τ') ∧
  ∀ vs H' A', Nx K w F σ τ H A τ' H' A' → OdsV K w H' A' σ τ' os vs → Q vs H'
def TXt (f : Tst) : TT := fun σ H Q => ∃ (F : Frm) (A : Av) (τ : Sl) (b : Bool) (τ' : Sl), R K w F H A σ τ ∧ f τ = some (b, τ') ∧
  ∀ H' A', Nx K w F σ τ H A τ' H' A' → Q b H'
end
section
variable {K : PySem.W.Frag} {w : World} {F : Frm} {H H' H0 : Hp} {A A' : Av} {σ : L2.St} {τ τ' τ1 : Sl} {i : Nat} {t : T} {v : V} {a p : Addr} {o : Od}
theorem Nx.refl (r : R K w F H A σ τ) : Nx K w F σ τ H A τ H A := ⟨r, Stp.refl _ _ _, Les.refl _ _⟩
theorem Nx.trans {H1 H2 : Hp} {A1 A2 : Av} {τ1 τ2 : Sl} (a : Nx K w F σ τ H A τ1 H1 A1) (b : Nx K w F σ τ1 H1 A1 τ2 H2 A2) : Nx K w F σ τ H A τ2 H2 A2 := ⟨b.r, a.s.trans b.s a.l.ow, a.l.trans b.l⟩

/-- one object is no longer avoided: no slot holds it as its own -/
theorem R.drop (h : R K w F H A σ τ) (n : ¬ Pr σ τ p) (nF : ¬ F.A p) : R K w F H (fun b => A b ∧ b ≠ p) σ τ where
  len := h.len
  ext := h.ext
  dm := h.dm
  sub b z := ⟨h.sub b z, fun e => nF (e ▸ z)⟩
  msub := h.msub
  dom b z := h.dom b z.1
  domF := h.domF
  nwf b z := h.nwf b z.1
  uniq := h.uniq
  slot i t fl q := by
    obtain ⟨v, e1, s⟩ := h.slot i t fl q
    refine ⟨v, e1, ?_⟩
    have k : ∀ b o, ¬ A b → H b = some o → H b = some o := fun _ _ _ q => q
    have e : ∀ b, (A b ∧ b ≠ p) → A b ∨ H b = none := fun b z => .inl z.1
    cases fl with
    | shr => exact Rep.keep k e _ _ s
    | own => obtain ⟨b, rfl, h1, h2, r⟩ := s; exact ⟨b, rfl, ⟨h1, fun z => n ⟨i, t, _, q, .inl rfl, z ▸ e1⟩⟩, h2, r.keep k e fun _ q => q⟩
    | len => obtain ⟨b, rfl, h1, h2, r⟩ := s; exact ⟨b, rfl, ⟨h1, fun z => n ⟨i, t, _, q, .inr (.inr rfl), z ▸ e1⟩⟩, h2, r.keep k e fun _ q => q⟩
    | chg => obtain ⟨b, rfl, h1, h2, h3, r⟩ := s; exact ⟨b, rfl, ⟨h1, fun z => n ⟨i, t, _, q, .inr (.inl rfl), z ▸ e1⟩⟩, h2, h3, r.keep k e fun _ q => q⟩
    | bor => exact s
theorem R.noF (h : R K w F H A σ τ) (e : H p = none) : ¬ F.A p := fun z => by
  obtain ⟨o, q⟩ := h.domF p z
  rw [h.nn e] at q; cases q
theorem R.noPr (h : R K w F H A σ τ) (e : H p = none) : ¬ Pr σ τ p := fun z => h.fresh e (h.pr z)
/-- a new object becomes a value -/
theorem share (h : R K w F H A σ τ) (n : Nx K w F σ τ H A τ' H' A') (o : Od) (q : OdOk K w H H' A' σ τ' o v) : ∃ A2, Nx K w F σ τ H A τ' H' A2 ∧ OdV K w H' A2 σ τ' o.sh v := by
  cases o with
  | v t => exact ⟨A', n, q⟩
  | s i => exact ⟨A', n, q⟩
  | f t =>
    obtain ⟨p, rfl, e, ap, r⟩ := q
    have nP : ¬ Pr σ τ' p := fun z => h.noPr e (n.l.pr p z)
    refine ⟨fun b => A' b ∧ b ≠ p, ⟨n.r.drop nP (h.noF e), ⟨n.s.keep, n.s.dm, fun b z => n.s.new b z.1, fun b z m => ⟨n.s.old b z m, fun x => ?_⟩⟩, n.l⟩, ?_⟩
    · rw [x] at z; exact h.fresh e z
    · exact r.rep (fun z => z.2 rfl) fun b z => .inl z.1
theorem OdV.keep (h : R K w F H A σ τ) (n : Nx K w F σ τ H A τ' H' A') {o : Od} (q : OdV K w H A σ τ o v) : OdV K w H' A' σ τ' o v := by
  cases o with
  | v t => exact h.keepR n.s q
  | s i => exact ⟨q.1, n.l.there i q.2⟩
  | f t => exact q.elim
theorem OdV.vw (h : R K w F H A σ τ) {o : Od} (q : OdV K w H A σ τ o v) (e : τ.tr o = some t) : Vw K w H (fun _ => False) A t v := by
  cases o with
  | v u =>
    have e' : u = t := Option.some.inj e
    subst e'
    exact Vw.of q fun _ z => z.elim
  | s i =>
    obtain ⟨q1, ⟨u, fl⟩, q2⟩ := q
    have e' : u = t := by
      have z : (match τ[i]? with | some (some (t, _)) => some t | _ => none) = some t := e
      rw [q2] at z
      exact Option.some.inj z
    subst e'
    obtain ⟨v', e1, s⟩ := h.slotV q2
    rw [q1] at e1; cases e1
    exact s
  | f t => exact q.elim
theorem OdsV.keep (h : R K w F H A σ τ) (n : Nx K w F σ τ H A τ' H' A') : ∀ {os : List Od} {vs : List V}, OdsV K w H A σ τ os vs → OdsV K w H' A' σ τ' os vs
  | [], _, q => q
  | o :: r, vs, q => by
    obtain ⟨v, vr, e, q1, q2⟩ := q
    exact ⟨v, vr, e, q1.keep h n, OdsV.keep h n q2⟩

/-! ### a slot's own object becomes a value -/
theorem get_set_ne {τ : Sl} {i j : Nat} {x : Option (T × Fl)} (h : j ≠ i) : (τ.set i x)[j]? = τ[j]? := List.getElem?_set_ne (fun z => h z.symm)
theorem get_set_eq {τ : Sl} {i : Nat} {x y : Option (T × Fl)} (h : τ[i]? = some y) : (τ.set i x)[i]? = some x := by
  have hl : i < τ.length := by
    rcases Nat.lt_or_ge i τ.length with q | q
    · exact q
    · rw [List.getElem?_eq_none q] at h; cases h
  exact List.getElem?_set_self hl
theorem set_cases {τ : Sl} {i j : Nat} {x y z : Option (T × Fl)} (h : τ[i]? = some y) (e : (τ.set i x)[j]? = some z) : (j = i ∧ z = x) ∨ (j ≠ i ∧ τ[j]? = some z) := by
  by_cases q : j = i
  · subst q
    rw [get_set_eq h] at e
    exact .inl ⟨rfl, (Option.some.inj e).symm⟩
  · rw [get_set_ne q] at e
    exact .inr ⟨q, e⟩
theorem freeze (h : R K w F H A σ τ) (e : τ[i]? = some (some (t, .own))) (ea : σ[i]? = some (some (.ref a))) :
    Nx K w F σ τ H A (τ.set i (some (t, .shr))) H (fun b => A b ∧ b ≠ a) ∧ Rep K w H (fun b => A b ∧ b ≠ a) t (.ref a) := by
  obtain ⟨v, e1, s⟩ := h.slot i t _ e
  rw [ea] at e1; cases e1
  obtain ⟨a', e2, ha, hn, r⟩ := s
  cases e2
  have k : ∀ b o, ¬ A b → H b = some o → H b = some o := fun _ _ _ q => q
  have en : ∀ b, (A b ∧ b ≠ a) → A b ∨ H b = none := fun b z => .inl z.1
  have rep : Rep K w H (fun b => A b ∧ b ≠ a) t (.ref a) := r.rep (fun z => z.2 rfl) en
  have ow : ∀ b, Ow σ (τ.set i (some (t, .shr))) b → Ow σ τ b := fun b ⟨j, u, fl, q1, q2, q3⟩ => by
    rcases set_cases e q1 with ⟨_, z⟩ | ⟨_, z⟩
    · cases z; rcases q2 with q2 | q2 <;> cases q2
    · exact ⟨j, u, fl, z, q2, q3⟩
  have pr : ∀ b, Pr σ (τ.set i (some (t, .shr))) b → Pr σ τ b := fun b ⟨j, u, fl, q1, q2, q3⟩ => by
    rcases set_cases e q1 with ⟨_, z⟩ | ⟨_, z⟩
    · cases z; rcases q2 with q2 | q2 | q2 <;> cases q2
    · exact ⟨j, u, fl, z, q2, q3⟩
  refine ⟨⟨⟨by rw [List.length_set]; exact h.len, h.ext, h.dm, fun b z => ⟨h.sub b z, fun x => ?_⟩, h.msub, fun b z => h.dom b z.1, h.domF, fun b z => h.nwf b z.1, fun j u fl q => ?_, fun j l b ⟨u, fl, q1, q2⟩ ⟨u', fl', q3, q4⟩ q5 q6 => ?_⟩,
    ⟨fun _ _ _ q => q, fun _ o q => ⟨o, q⟩, en, fun b z m => ⟨z, fun x => m ⟨i, t, _, e, .inl rfl, x ▸ ea⟩⟩⟩, ⟨ow, pr, fun j ⟨x, q⟩ => ?_⟩⟩, rep⟩
  · rw [x] at z
    obtain ⟨o, q⟩ := h.domF a z
    rw [hn] at q; cases q
  · rcases set_cases e q with ⟨rfl, z⟩ | ⟨hj, z⟩
    · cases z
      exact ⟨_, ea, rep⟩
    · obtain ⟨v, e1, s⟩ := h.slot j u fl z
      refine ⟨v, e1, ?_⟩
      cases fl with
      | shr => exact Rep.keep k en _ _ s
      | own => obtain ⟨b, rfl, h1, h2, r⟩ := s; exact ⟨b, rfl, ⟨h1, fun x => hj (h.uniq j i a ⟨u, _, z, .inl rfl⟩ ⟨t, _, e, .inl rfl⟩ (x ▸ e1) ea)⟩, h2, r.keep k en fun _ q => q⟩
      | len => obtain ⟨b, rfl, h1, h2, r⟩ := s; exact ⟨b, rfl, ⟨h1, fun x => hj (h.uniq j i a ⟨u, _, z, .inr (.inr rfl)⟩ ⟨t, _, e, .inl rfl⟩ (x ▸ e1) ea)⟩, h2, r.keep k en fun _ q => q⟩
      | chg => obtain ⟨b, rfl, h1, h2, h3, r⟩ := s; exact ⟨b, rfl, ⟨h1, fun x => hj (h.uniq j i a ⟨u, _, z, .inr (.inl rfl)⟩ ⟨t, _, e, .inl rfl⟩ (x ▸ e1) ea)⟩, h2, h3, r.keep k en fun _ q => q⟩
      | bor => exact s
  · rcases set_cases e q1 with ⟨_, z⟩ | ⟨_, z⟩
    · cases z; rcases q2 with q2 | q2 | q2 <;> cases q2
    · rcases set_cases e q3 with ⟨_, z'⟩ | ⟨_, z'⟩
      · cases z'; rcases q4 with q4 | q4 | q4 <;> cases q4
      · exact h.uniq j l b ⟨u, fl, z, q2⟩ ⟨u', fl', z', q4⟩ q5 q6
  · by_cases hj : j = i
    · subst hj; exact ⟨_, get_set_eq e⟩
    · exact ⟨x, by rw [get_set_ne hj]; exact q⟩
theorem esc_ok (h : R K w F H A σ τ) (o : Od) (q : OdV K w H A σ τ o v) (e : τ.esc o = some (t, τ')) : ∃ A', Nx K w F σ τ H A τ' H A' ∧ Rep K w H A' t v := by
  cases o with
  | v u => cases e; exact ⟨A, Nx.refl h, q⟩
  | f u => exact q.elim
  | s i =>
    obtain ⟨q1, ⟨u, fl⟩, q2⟩ := q
    have e' : (match τ[i]? with | some (some (t, .shr)) => some (t, τ) | some (some (t, .own)) => some (t, τ.set i (some (t, .shr))) | _ => none) = some (t, τ') := e
    rw [q2] at e'
    obtain ⟨v', e1, s⟩ := h.slot i u fl q2
    rw [q1] at e1; cases e1
    cases fl with
    | shr => cases e'; exact ⟨A, Nx.refl h, s⟩
    | own =>
      cases e'
      obtain ⟨b, rfl, _⟩ := s
      obtain ⟨z1, z2⟩ := freeze h q2 q1
      exact ⟨_, z1, z2⟩
    | _ => cases e'
theorem escs_ok : ∀ {os : List Od} {τ τ' : Sl} {A : Av} {ts : List T} {vs : List V}, R K w F H A σ τ → OdsV K w H A σ τ os vs → Sl.escs τ os = some (ts, τ') → ∃ A', Nx K w F σ τ H A τ' H A' ∧ Reps K w H A' ts vs
  | [], τ, τ', A, ts, vs, h, q, e => by
    cases e
    have e1 : vs = [] := q
    subst e1
    exact ⟨A, Nx.refl h, by simp only [Reps]⟩
  | o :: r, τ, τ', A, ts, vs, h, q, e => by
    obtain ⟨v, vr, rfl, q1, q2⟩ := q
    unfold Sl.escs at e
    split at e
    · rename_i t τ1 e1
      split at e
      · rename_i us τ2 e2
        cases e
        obtain ⟨A1, n1, r1⟩ := esc_ok h o q1 e1
        obtain ⟨A2, n2, r2⟩ := escs_ok n1.r (q2.keep h n1) e2
        refine ⟨A2, n1.trans n2, ?_⟩
        simp only [Reps]
        exact ⟨v, vr, rfl, n1.r.keepR n2.s r1, r2⟩
      · cases e
    · cases e
theorem trs_ok (h : R K w F H A σ τ) : ∀ {os : List Od} {ts : List T} {vs : List V}, OdsV K w H A σ τ os vs → Sl.trs τ os = some ts → Paired (Vw K w H (fun _ => False) A) ts vs
  | [], ts, vs, q, e => by
    cases e
    have e1 : vs = [] := q
    subst e1
    exact .nil
  | o :: r, ts, vs, q, e => by
    obtain ⟨v, vr, rfl, q1, q2⟩ := q
    unfold Sl.trs at e
    split at e
    · rename_i t e1
      split at e
      · rename_i us e2
        cases e
        exact .cons (q1.vw h e1) (trs_ok h q2 e2)
      · cases e
    · cases e
/-- a value that came new, seen from an earlier heap -/
theorem OdOk.back {H1 : Hp} (s : ∀ b o, H b = some o → ∃ o', H1 b = some o') (q : OdOk K w H1 H' A' σ τ' o v) : OdOk K w H H' A' σ τ' o v := by
  cases o with
  | v t => exact q
  | s i => exact q
  | f t =>
    obtain ⟨p, e, n, r⟩ := q
    refine ⟨p, e, ?_, r⟩
    cases z : H p with
    | none => rfl
    | some u => obtain ⟨u', z'⟩ := s p u z; rw [z'] at n; cases n
end

/-! ### from a rule's reading to a word's -/
theorem peW {X : Cx} {e : Expr} {t t' : TE} (h : PE X e t) (f : ∀ σ H Q, t' σ H Q → t σ H Q) : PE X e t' := ⟨fun pins s σ H Q I q => h.run pins s σ H Q I (f _ _ _ q)⟩
theorem ptW {X : Cx} {e : Expr} {t t' : TT} (h : PT X e t) (f : ∀ σ H Q, t' σ H Q → t σ H Q) : PT X e t' := ⟨fun pins s σ H Q I q => h.run pins s σ H Q I (f _ _ _ q)⟩
theorem paW {X : Cx} {es : List Expr} {t t' : TA} (h : PA X es t) (f : ∀ σ H Q, t' σ H Q → t σ H Q) : PA X es t' := ⟨fun pos pins s σ H Q I q => h.run pos pins s σ H Q I (f _ _ _ q)⟩

section
variable (K : PySem.W.Frag) (w : World)
/-- an operation on values does what the one on trees says -/
def Op2 (r : R2) (g : T → T → Option Od) : Prop := ∀ (F : Frm) (H : Hp) (A : Av) (σ : L2.St) (τ : Sl) (t u : T) (o : Od) (x y : V) (Q : VK), R K w F H A σ τ →
  Vw K w H (fun _ => False) A t x → Vw K w H (fun _ => False) A u y → g t u = some o → (∀ v H' A', Nx K w F σ τ H A τ H' A' → OdOk K w H H' A' σ τ o v → Q v H') → r x y H Q
def Op1 (r : V → Hp → VK → Prop) (g : T → Option Od) : Prop := ∀ (F : Frm) (H : Hp) (A : Av) (σ : L2.St) (τ : Sl) (t : T) (o : Od) (x : V) (Q : VK), R K w F H A σ τ →
  Vw K w H (fun _ => False) A t x → g t = some o → (∀ v H' A', Nx K w F σ τ H A τ H' A' → OdOk K w H H' A' σ τ o v → Q v H') → r x H Q
def OpL (r : List V → Hp → VK → Prop) (g : List T → Option (T × Bool)) : Prop := ∀ (F : Frm) (H : Hp) (A : Av) (σ : L2.St) (τ : Sl) (ts : List T) (o : T × Bool) (xs : List V) (Q : VK), R K w F H A σ τ →
  Paired (Vw K w H (fun _ => False) A) ts xs → g ts = some o → (∀ v H' A', Nx K w F σ τ H A τ H' A' → OdOk K w H H' A' σ τ (fr o.1 o.2) v → Q v H') → r xs H Q
end
section
variable {K : PySem.W.Frag} {w : World} {fa fb : Sem} {σ : L2.St} {H : Hp} {Q : VK}
theorem w2 {r : R2} {g : T → T → Option Od} (ho : Op2 K w r g) (h : TX K w (s2 g fa fb) σ H Q) : tOp r (TX K w fa) (TX K w fb) σ H Q := by
  obtain ⟨F, A, τ, o, τ', R0, e, q⟩ := h
  unfold s2 at e
  split at e
  · rename_i x τ1 e1
    split at e
    · rename_i y τ2 e2
      split at e
      · rename_i t u e3 e4
        split at e
        · rename_i o' e5
          cases e
          refine ⟨F, A, τ, x, τ1, R0, e1, fun v H1 A1 n1 r1 => ?_⟩
          obtain ⟨A1', n1', r1'⟩ := share R0 n1 x r1
          refine ⟨F, A1', τ1, y, _, n1'.r, e2, fun v2 H2 A2 n2 r2 => ?_⟩
          obtain ⟨A2', n2', r2'⟩ := share n1'.r n2 y r2
          have n := n1'.trans n2'
          have r1x := r1'.keep n1'.r n2'
          refine ho F H2 A2' σ _ t u _ v v2 Q n2'.r (r1x.vw n2'.r e3) (r2'.vw n2'.r e4) e5 fun v3 H3 A3 n3 r3 => ?_
          exact q v3 H3 A3 (n.trans n3) (r3.back n.s.dm)
        · cases e
      · cases e
    · cases e
  · cases e
theorem w1 {r : V → Hp → VK → Prop} {g : T → Option Od} (ho : Op1 K w r g) (h : TX K w (s1 g fa) σ H Q) : TX K w fa σ H fun x H1 => r x H1 Q := by
  obtain ⟨F, A, τ, o, τ', R0, e, q⟩ := h
  unfold s1 at e
  split at e
  · rename_i x τ1 e1
    split at e
    · rename_i t e3
      split at e
      · rename_i o' e5
        cases e
        refine ⟨F, A, τ, x, _, R0, e1, fun v H1 A1 n1 r1 => ?_⟩
        obtain ⟨A1', n1', r1'⟩ := share R0 n1 x r1
        refine ho F H1 A1' σ _ t _ v Q n1'.r (r1'.vw n1'.r e3) e5 fun v3 H3 A3 n3 r3 => ?_
        exact q v3 H3 A3 (n1'.trans n3) (r3.back n1'.s.dm)
      · cases e
    · cases e
  · cases e
theorem wL {f : Sems} {r : List V → Hp → VK → Prop} {g : List T → Option (T × Bool)} (ho : OpL K w r g) (h : TX K w (sBi g f) σ H Q) : TXs K w f σ H fun xs H1 => r xs H1 Q := by
  obtain ⟨F, A, τ, o, τ', R0, e, q⟩ := h
  unfold sBi at e
  split at e
  · rename_i xs τ1 e1
    split at e
    · rename_i ts e3
      split at e
      · rename_i o' e5
        cases e
        refine ⟨F, A, τ, xs, _, R0, e1, fun vs H1 A1 n1 r1 => ?_⟩
        refine ho F H1 A1 σ _ ts _ vs Q n1.r (trs_ok n1.r r1 e3) e5 fun v3 H3 A3 n3 r3 => ?_
        exact q v3 H3 A3 (n1.trans n3) (r3.back n1.s.dm)
      · cases e
    · cases e
  · cases e
theorem wCons {f : Sem} {fs : Sems} {Q : List V → Hp → Prop} (h : TXs K w (aCons f fs) σ H Q) : tCons (TX K w f) (TXs K w fs) σ H Q := by
  obtain ⟨F, A, τ, os, τ', R0, e, q⟩ := h
  unfold aCons at e
  split at e
  · rename_i x τ1 e1
    split at e
    · rename_i xs τ2 e2
      cases e
      refine ⟨F, A, τ, x, τ1, R0, e1, fun v H1 A1 n1 r1 => ?_⟩
      obtain ⟨A1', n1', r1'⟩ := share R0 n1 x r1
      refine ⟨F, A1', τ1, xs, _, n1'.r, e2, fun vs H2 A2 n2 r2 => ?_⟩
      exact q _ H2 A2 (n1'.trans n2) ⟨v, vs, rfl, r1'.keep n1'.r n2, r2⟩
    · cases e
  · cases e
theorem wNil {Q : List V → Hp → Prop} (h : TXs K w aNil σ H Q) : tNil σ H Q := by
  obtain ⟨F, A, τ, os, τ', R0, e, q⟩ := h
  cases e
  exact q [] H A (Nx.refl R0) rfl
theorem wVar {i : Nat} (h : TX K w (sVar i) σ H Q) : tVar i σ H Q := by
  obtain ⟨F, A, τ, o, τ', R0, e, q⟩ := h
  unfold sVar at e
  split at e
  · rename_i t e1
    cases e
    obtain ⟨v, e2, s⟩ := R0.slot i t _ e1
    exact ⟨v, e2, q v H A (Nx.refl R0) s⟩
  · rename_i t fl hn e1
    cases e
    obtain ⟨v, e2, s⟩ := R0.slot i t _ e1
    exact ⟨v, e2, q v H A (Nx.refl R0) ⟨e2, _, e1⟩⟩
  · cases e
theorem wCst {t : T} {v : V} (hr : ∀ H A, Rep K w H A t v) (h : TX K w (sCst t) σ H Q) : Q v H := by
  obtain ⟨F, A, τ, o, τ', R0, e, q⟩ := h
  cases e
  exact q v H A (Nx.refl R0) (hr H A)
end
end Dt
set_option maxHeartbeats 4000000
/-! Dt4: operators, comparisons, subscripts, slices, built-ins: from trees to the machine. -/
namespace Dt
open PySem PySem.Spec PyProof.Rows L2

section
variable (K : PySem.W.Frag) (w : World)
def rG (g : T → T → Option Od) : R2 := fun x y H Q => ∃ (F : Frm) (A : Av) (σ : L2.St) (τ : Sl) (t u : T) (o : Od), R K w F H A σ τ ∧ Vw K w H (fun _ => False) A t x ∧ Vw K w H (fun _ => False) A u y ∧ g t u = some o ∧
  ∀ v H' A', Nx K w F σ τ H A τ H' A' → OdOk K w H H' A' σ τ o v → Q v H'
def rG1 (g : T → Option Od) : V → Hp → VK → Prop := fun x H Q => ∃ (F : Frm) (A : Av) (σ : L2.St) (τ : Sl) (t : T) (o : Od), R K w F H A σ τ ∧ Vw K w H (fun _ => False) A t x ∧ g t = some o ∧
  ∀ v H' A', Nx K w F σ τ H A τ H' A' → OdOk K w H H' A' σ τ o v → Q v H'
def rGL (g : List T → Option (T × Bool)) : List V → Hp → VK → Prop := fun xs H Q => ∃ (F : Frm) (A : Av) (σ : L2.St) (τ : Sl) (ts : List T) (o : T × Bool), R K w F H A σ τ ∧ Paired (Vw K w H (fun _ => False) A) ts xs ∧ g ts = some o ∧
  ∀ v H' A', Nx K w F σ τ H A τ H' A' → OdOk K w H H' A' σ τ (fr o.1 o.2) v → Q v H'
theorem rG_ok {g : T → T → Option Od} : Op2 K w (rG K w g) g := fun F H A σ τ t u o x y Q R0 v1 v2 e q => ⟨F, A, σ, τ, t, u, o, R0, v1, v2, e, q⟩
theorem rG1_ok {g : T → Option Od} : Op1 K w (rG1 K w g) g := fun F H A σ τ t o x Q R0 v1 e q => ⟨F, A, σ, τ, t, o, R0, v1, e, q⟩
theorem rGL_ok {g : List T → Option (T × Bool)} : OpL K w (rGL K w g) g := fun F H A σ τ ts o xs Q R0 v1 e q => ⟨F, A, σ, τ, ts, o, R0, v1, e, q⟩
end

section
variable {K : PySem.W.Frag} {w : World} {F : Frm} {H H' H0 : Hp} {A A' N : Av} {σ : L2.St} {τ τ' τ1 : Sl} {i : Nat} {t : T} {v : V} {a p : Addr} {o : Od}
/-- a new object of one's own -/
theorem R.laidF (h : R K w F H A σ τ) {o : HO} (e : H p = none) : Nx K w F σ τ H A τ (upd H p o) (fun b => A b ∨ b = p) := by
  obtain ⟨r, s⟩ := h.laid (o := o) e
  have nw : ∀ b, (A b ∨ b = p) → A b ∨ H b = none := fun b z => z.imp id fun z => by rw [z]; exact e
  refine ⟨⟨r.len, r.ext, r.dm, fun b z => .inl (r.sub b z), r.msub, fun b z => ?_, r.domF, fun b z => z.elim (h.nwf b) fun q => .inr (by rw [q]; exact h.nn e), fun i t fl q => ?_, r.uniq⟩, ⟨s.keep, s.dm, nw, fun b z _ => .inl z⟩, Les.refl _ _⟩
  · rcases z with z | rfl
    · exact r.dom b z
    · exact ⟨o, upd_same⟩
  · obtain ⟨v, e1, s1⟩ := h.slot i t fl q
    refine ⟨v, e1, ?_⟩
    have kp : ∀ b u, H b = some u → upd H p o b = some u := fun b u q => by rw [upd_ne (ne_of_none q e)]; exact q
    cases fl with
    | shr => exact Rep.keep (fun b u _ q => kp b u q) nw _ _ s1
    | own => obtain ⟨b, rfl, h1, h2, r⟩ := s1; exact ⟨b, rfl, .inl h1, h2, r.keep (fun b u _ q => kp b u q) nw (kp b)⟩
    | len => obtain ⟨b, rfl, h1, h2, r⟩ := s1; exact ⟨b, rfl, .inl h1, h2, r.keep (fun b u _ q => kp b u q) nw (kp b)⟩
    | chg => obtain ⟨b, rfl, h1, h2, h3, r⟩ := s1; exact ⟨b, rfl, .inl h1, h2, h3, r.keep (fun b u _ q => kp b u q) nw (kp b)⟩
    | bor => exact s1
theorem R.laidN (h : R K w F H A σ τ) {o : HO} (e : H p = none) : Nx K w F σ τ H A τ (upd H p o) A := ⟨(h.laid e).1, (h.laid e).2, Les.refl _ _⟩
/-- a new list, a new tuple -/
theorem newL (h : R K w F H A σ τ) {l : List T} {vs : List V} (r : Reps K w H A l vs) (e : H p = none) :
    Nx K w F σ τ H A τ (upd H p (.lst vs)) (fun b => A b ∨ b = p) ∧ OdOk K w H (upd H p (.lst vs)) (fun b => A b ∨ b = p) σ τ (.f (.lst l)) (.ref p) := by
  have n := h.laidF (o := .lst vs) e
  exact ⟨n, p, rfl, e, .inr rfl, vs, upd_same, h.keepRs n.s r⟩
theorem newD (h : R K w F H A σ τ) {l : List (T × T)} {vs : List (Key × V)} (r : Repd K w H A l vs) (e : H p = none) :
    Nx K w F σ τ H A τ (upd H p (.dK vs)) (fun b => A b ∨ b = p) ∧ OdOk K w H (upd H p (.dK vs)) (fun b => A b ∨ b = p) σ τ (.f (.dct l)) (.ref p) := by
  have n := h.laidF (o := .dK vs) e
  exact ⟨n, p, rfl, e, .inr rfl, vs, upd_same, h.keepRd n.s r⟩
theorem newT (h : R K w F H A σ τ) {l : List T} {vs : List V} (r : Reps K w H A l vs) (e : H p = none) :
    Nx K w F σ τ H A τ (upd H p (.tup vs)) A ∧ OdOk K w H (upd H p (.tup vs)) A σ τ (.v (.tup l)) (.ref p) := by
  have n := h.laidN (o := .tup vs) e
  refine ⟨n, ?_⟩
  show Rep K w _ A (.tup l) (.ref p)
  simp only [Rep]
  exact ⟨p, vs, rfl, .inl ⟨h.fresh e, .inl upd_same⟩, h.keepRs n.s r⟩
/-! scalars seen -/
theorem vw_int {j : Int} (h : Vw K w H N A (.int j) v) : v = .int j := by simpa only [Vw, Rep] using h
theorem vw_str {j : Str} (h : Vw K w H N A (.str j) v) : v = .str j := by simpa only [Vw, Rep] using h
theorem vw_bl {j : Bool} (h : Vw K w H N A (.bl j) v) : v = .bl j := by simpa only [Vw, Rep] using h
theorem vw_non (h : Vw K w H N A .non v) : v = .non := by simpa only [Vw, Rep] using h
theorem vw_tup {l : List T} (h : Vw K w H N A (.tup l) v) : ∃ a vs, v = .ref a ∧ TAt K H A a vs ∧ Reps K w H A l vs := by simpa only [Vw, Rep] using h
theorem rp_int {j : Int} : Rep K w H A (.int j) (.int j) := by simp only [Rep]
theorem rp_str {j : Str} : Rep K w H A (.str j) (.str j) := by simp only [Rep]
theorem rp_bl {j : Bool} : Rep K w H A (.bl j) (.bl j) := by simp only [Rep]
theorem rp_non : Rep K w H A .non .non := by simp only [Rep]
theorem odv {t : T} (h : Rep K w H' A' t v) : OdOk K w H H' A' σ τ (.v t) v := h
theorem rp_tup {l : List T} {vs : List V} (t : TAt K H A a vs) (r : Reps K w H A l vs) : Rep K w H A (.tup l) (.ref a) := by simp only [Rep]; exact ⟨a, vs, rfl, t, r⟩
end

section
variable {X : Cx}
/-! ### operators -/
/-- list + list, whatever the lists are -/
theorem cat_any {pins : List (Addr × Obj)} {s : Shared} {σ : L2.St} {H : Hp} {l b : Addr} {xs zs : List V} {Q : VK} (I : Inv X pins σ H s) (h1 : SqL X.K H l xs) (h2 : SqL X.K H b zs) (hz : xs.length + zs.length ≤ sizeLine)
    (q : ∀ p, H p = none → Q (.ref p) (upd H p (.lst (xs ++ zs)))) : wpAny (model X.prog X.w) X.A (binaryOp .Add (.ref l) (.ref b)) (EP X pins σ Q) X.xe s := by
  obtain ⟨its, r, ⟨⟨oc, od, odt, osl⟩, n, ho, hc, hd, hdt⟩, hl⟩ := I.list h1
  obtain ⟨its2, r2, ⟨⟨oc2, od2, odt2, osl2⟩, n2, ho2, hc2, hd2, hdt2⟩, hl2⟩ := I.list h2
  simp only at hc hd hdt hc2 hd2 hdt2
  subst hc hd hdt hc2 hd2 hdt2
  have e1 := r.length
  have e2 := r2.length
  have ea : its.toArray ++ its2.toArray = (its ++ its2).toArray := by simp
  refine concat_meets ⟨_, ho, rfl⟩ ⟨_, ho2, rfl⟩ noFill_list_add seq_list_add PySem.F.slot_list_add PySem.F.entry_list_add (PySem.F.args_list_add_2 _ _) (list_addW l b its.toArray its2.toArray n n2 none none osl osl2 (by simp only [List.size_toArray]; omega)) ⟨ho, ho2, ?_⟩
  rw [ea]
  refine ⟨.ref s.heap.objs.size, _, I.laid (t' := s.toks) (o := .lst (xs ++ zs)) (fun b ob q => Heap.get?_push_of_some _ q) (Nat.le_refl _) ?_, rfl, q _ (I.hok.fresh (Nat.le_refl _))⟩
  exact ⟨by rw [List.length_append]; exact hz, _, 0, r.append r2, Heap.get?_push_size _ rfl⟩
def gBin (op : Operator) : T → T → Option Od := fun t u => (binT op t u).map fun r => fr r.1 r.2
theorem or_add : OpR X (binaryOp .Add) (rG X.K X.w (gBin .Add)) := by
  intro pins s σ H x y v u Q I rx ry ⟨F, A, σ', τ, t, t', o, R0, V1, V2, e, q⟩
  unfold gBin binT at e
  cases t with
  | int i =>
    cases t' with
    | int j =>
      cases e
      exact op_add pins s σ H x y v u Q I rx ry ⟨i, j, vw_int V1, vw_int V2, q _ H A (Nx.refl R0) (odv rp_int)⟩
    | _ => cases e
  | str i =>
    cases t' with
    | str j =>
      unfold addT at e
      dsimp only at e
      split at e
      · rename_i hz
        cases e
        exact op_add_str pins s σ H x y v u Q I rx ry ⟨i, j, vw_str V1, vw_str V2, hz, q _ H A (Nx.refl R0) (odv rp_str)⟩
      · cases e
    | _ => cases e
  | lst i =>
    cases t' with
    | lst j =>
      unfold addT at e
      dsimp only at e
      split at e
      · rename_i hz
        cases e
        obtain ⟨a, vs, rfl, la, r1⟩ := V1
        obtain ⟨b, us, rfl, lb, r2⟩ := V2
        cases rx
        cases ry
        refine cat_any I la.sq lb.sq (by rw [r1.length, r2.length]; exact hz) fun p np => ?_
        obtain ⟨n, k⟩ := newL R0 (r1.app r2) np
        exact q _ _ _ n k
      · cases e
    | _ => cases e
  | tup i =>
    cases t' with
    | tup j =>
      unfold addT at e
      dsimp only at e
      split at e
      · rename_i hz
        cases e
        obtain ⟨a, vs, rfl, la, r1⟩ := vw_tup V1
        obtain ⟨b, us, rfl, lb, r2⟩ := vw_tup V2
        refine op_catA pins s σ H _ _ v u Q I rx ry ⟨a, b, vs, us, rfl, rfl, la.sq, lb.sq, by rw [r1.length, r2.length]; exact hz, fun z => ?_, fun z z' => ?_, fun z z' p np => ?_⟩
        · subst z
          have hi : i = [] := List.eq_nil_of_length_eq_zero (by rw [← r1.length]; rfl)
          subst hi
          exact q _ H A (Nx.refl R0) (odv (rp_tup lb r2))
        · subst z'
          have hj : j = [] := List.eq_nil_of_length_eq_zero (by rw [← r2.length]; rfl)
          subst hj
          refine q _ H A (Nx.refl R0) ?_
          show Rep X.K X.w H A (.tup (i ++ [])) (.ref a)
          rw [List.append_nil]
          exact rp_tup la r1
        · obtain ⟨n, k⟩ := newT R0 (r1.app r2) np
          exact q _ _ _ n k
      · cases e
    | _ => cases e
  | _ => cases e
theorem or_sub : OpR X (binaryOp .Sub) (rG X.K X.w (gBin .Sub)) := by
  intro pins s σ H x y v u Q I rx ry ⟨F, A, σ', τ, t, t', o, R0, V1, V2, e, q⟩
  unfold gBin binT at e
  cases t with
  | int i =>
    cases t' with
    | int j =>
      cases e
      exact op_sub pins s σ H x y v u Q I rx ry ⟨i, j, vw_int V1, vw_int V2, q _ H A (Nx.refl R0) (odv rp_int)⟩
    | _ => cases e
  | _ => cases e
theorem or_mul : OpR X (binaryOp .Mult) (rG X.K X.w (gBin .Mult)) := by
  intro pins s σ H x y v u Q I rx ry ⟨F, A, σ', τ, t, t', o, R0, V1, V2, e, q⟩
  unfold gBin binT at e
  cases t with
  | int i =>
    cases t' with
    | int j =>
      dsimp only at e
      split at e
      · rename_i hz
        cases e
        rcases hz with hz | hz
        · exact op_mul pins s σ H x y v u Q I rx ry ⟨i, j, vw_int V1, vw_int V2, hz, q _ H A (Nx.refl R0) (odv rp_int)⟩
        · exact op_mulW pins s σ H x y v u Q I rx ry ⟨i, j, vw_int V1, vw_int V2, hz, q _ H A (Nx.refl R0) (odv rp_int)⟩
      · cases e
    | _ => cases e
  | _ => cases e
theorem or_fdiv : OpR X (binaryOp .FloorDiv) (rG X.K X.w (gBin .FloorDiv)) := by
  intro pins s σ H x y v u Q I rx ry ⟨F, A, σ', τ, t, t', o, R0, V1, V2, e, q⟩
  unfold gBin binT at e
  cases t with
  | int i =>
    cases t' with
    | int j =>
      dsimp only at e
      split at e
      · rename_i hz
        cases e
        rcases hz with hz | hz
        · exact op_fdiv pins s σ H x y v u Q I rx ry ⟨i, j, vw_int V1, vw_int V2, hz, q _ H A (Nx.refl R0) (odv rp_int)⟩
        · exact op_fdivW pins s σ H x y v u Q I rx ry ⟨i, j, vw_int V1, vw_int V2, hz, q _ H A (Nx.refl R0) (odv rp_int)⟩
      · cases e
    | _ => cases e
  | _ => cases e
theorem or_mod : OpR X (binaryOp .Mod) (rG X.K X.w (gBin .Mod)) := by
  intro pins s σ H x y v u Q I rx ry ⟨F, A, σ', τ, t, t', o, R0, V1, V2, e, q⟩
  unfold gBin binT at e
  cases t with
  | int i =>
    cases t' with
    | int j =>
      dsimp only at e
      split at e
      · rename_i hz
        cases e
        exact op_mod pins s σ H x y v u Q I rx ry ⟨i, j, vw_int V1, vw_int V2, hz, q _ H A (Nx.refl R0) (odv rp_int)⟩
      · cases e
    | _ => cases e
  | _ => cases e
theorem or_pow : OpR X (binaryOp .Pow) (rG X.K X.w (gBin .Pow)) := by
  intro pins s σ H x y v u Q I rx ry ⟨F, A, σ', τ, t, t', o, R0, V1, V2, e, q⟩
  unfold gBin binT at e
  cases t with
  | int i =>
    cases t' with
    | int j =>
      dsimp only at e
      split at e
      · rename_i hz
        cases e
        exact op_pow pins s σ H x y v u Q I rx ry ⟨i, j, vw_int V1, vw_int V2, hz, q _ H A (Nx.refl R0) (odv rp_int)⟩
      · cases e
    | _ => cases e
  | _ => cases e
theorem or_none {op : Operator} (h : ∀ t u, binT op t u = none) : OpR X (binaryOp op) (rG X.K X.w (gBin op)) := by
  intro pins s σ H x y v u Q I rx ry ⟨F, A, σ', τ, t, t', o, R0, V1, V2, e, q⟩
  unfold gBin at e
  rw [h] at e
  cases e
theorem or_bin (op : Operator) : OpR X (binaryOp op) (rG X.K X.w (gBin op)) := by
  cases op with
  | Add => exact or_add
  | Sub => exact or_sub
  | Mult => exact or_mul
  | FloorDiv => exact or_fdiv
  | Mod => exact or_mod
  | Pow => exact or_pow
  | _ => exact or_none fun t u => by cases t <;> cases u <;> rfl
def gNeg : T → Option Od := fun t => match t with
  | .int i => some (.v (.int (-i)))
  | _ => none
theorem or_neg : UnR X (unaryOp .USub) (rG1 X.K X.w gNeg) := by
  intro pins s σ H x v Q I rx ⟨F, A, σ', τ, t, o, R0, V1, e, q⟩
  cases t with
  | int i => cases e; exact un_neg pins s σ H x v Q I rx ⟨i, vw_int V1, q _ H A (Nx.refl R0) (odv rp_int)⟩
  | _ => cases e

/-! ### == -/
mutual
theorem dp_of {K : PySem.W.Frag} {w : World} {H : Hp} {A : Av} : ∀ (t : T) (v : V), Rep K w H A t v → t.pd.canLay0 = true → Dp K H v t.pd
  | .non, v, h, _ => by simp only [Rep] at h; subst h; exact .non
  | .bl b, v, h, _ => by simp only [Rep] at h; subst h; exact .bl b
  | .int i, v, h, _ => by simp only [Rep] at h; subst h; exact .int i
  | .str x, v, h, _ => by simp only [Rep] at h; subst h; exact .str x
  | .tup l, v, h, c => by
    simp only [Rep] at h
    obtain ⟨a, vs, rfl, ta, r⟩ := h
    exact .tup ta.sq (dps_of l vs r (by simpa only [T.pd, PyData.canLay0] using c))
  | .lst l, v, h, c => by
    simp only [Rep] at h
    obtain ⟨a, vs, rfl, ta, r⟩ := h
    exact .lst ta.sq (dps_of l vs r (by simpa only [T.pd, PyData.canLay0] using c))
  | .dct l, v, h, c => by simp [T.pd, PyData.canLay0] at c
theorem dps_of {K : PySem.W.Frag} {w : World} {H : Hp} {A : Av} : ∀ (l : List T) (vs : List V), Reps K w H A l vs → PyData.canLayAll0 (T.pds l) = true → DpAll K H vs (T.pds l)
  | [], vs, h, _ => by simp only [Reps] at h; subst h; exact .nil
  | t :: r, vs, h, c => by
    simp only [Reps] at h
    obtain ⟨v, vr, rfl, h1, h2⟩ := h
    simp only [T.pds, PyData.canLayAll0, Bool.and_eq_true] at c
    exact .cons (dp_of t v h1 c.1) (dps_of r vr h2 c.2)
end
theorem dp_vw {K : PySem.W.Frag} {w : World} {H : Hp} {A N : Av} {t : T} {v : V} (h : Vw K w H N A t v) (c : okE t = true) : Dp K H v t.pd := by
  have c' := SeqAt.canLay_of_shaped c
  cases t with
  | lst l =>
    obtain ⟨a, vs, rfl, ta, r⟩ := h
    exact .lst ta.sq (dps_of l vs r (by simpa only [T.pd, PyData.canLay0] using c'))
  | dct l => simp [T.pd, PyData.canLay0] at c'
  | _ => exact dp_of (w := w) (A := A) _ _ h c'
def gCmp (op : CmpOp) : T → T → Option Od := fun t u => (cmpT op t u).map fun r => .v (.bl r)
theorem or_eq (hu : X.A.units + 64 < cLine) : OpR X (compareOp .Eq) (rG X.K X.w (gCmp .Eq)) := by
  intro pins s σ H x y v u Q I rx ry ⟨F, A, σ', τ, t, t', o, R0, V1, V2, e, q⟩
  unfold gCmp cmpT at e
  dsimp only at e
  split at e
  · rename_i hz
    cases e
    rw [Bool.and_eq_true] at hz
    exact op_eqD hu pins s σ H x y v u Q I rx ry ⟨_, _, dp_vw V1 hz.1, dp_vw V2 hz.2, hz.1, hz.2, q _ H A (Nx.refl R0) (odv rp_bl)⟩
  · cases e
theorem or_ne (hu : X.A.units + 64 < cLine) : OpR X (compareOp .NotEq) (rG X.K X.w (gCmp .NotEq)) := by
  intro pins s σ H x y v u Q I rx ry ⟨F, A, σ', τ, t, t', o, R0, V1, V2, e, q⟩
  unfold gCmp cmpT at e
  dsimp only at e
  split at e
  · rename_i hz
    cases e
    rw [Bool.and_eq_true] at hz
    exact op_neD hu pins s σ H x y v u Q I rx ry ⟨_, _, dp_vw V1 hz.1, dp_vw V2 hz.2, hz.1, hz.2, q _ H A (Nx.refl R0) (odv rp_bl)⟩
  · cases e
theorem or_lt : OpR X (compareOp .Lt) (rG X.K X.w (gCmp .Lt)) := by
  intro pins s σ H x y v u Q I rx ry ⟨F, A, σ', τ, t, t', o, R0, V1, V2, e, q⟩
  unfold gCmp cmpT at e
  cases t with
  | int i =>
    cases t' with
    | int j => cases e; exact op_lt pins s σ H x y v u Q I rx ry ⟨i, j, vw_int V1, vw_int V2, q _ H A (Nx.refl R0) (odv rp_bl)⟩
    | _ => cases e
  | _ => cases e
theorem or_le : OpR X (compareOp .LtE) (rG X.K X.w (gCmp .LtE)) := by
  intro pins s σ H x y v u Q I rx ry ⟨F, A, σ', τ, t, t', o, R0, V1, V2, e, q⟩
  unfold gCmp cmpT at e
  cases t with
  | int i =>
    cases t' with
    | int j => cases e; exact op_le pins s σ H x y v u Q I rx ry ⟨i, j, vw_int V1, vw_int V2, q _ H A (Nx.refl R0) (odv rp_bl)⟩
    | _ => cases e
  | _ => cases e
theorem or_gt : OpR X (compareOp .Gt) (rG X.K X.w (gCmp .Gt)) := by
  intro pins s σ H x y v u Q I rx ry ⟨F, A, σ', τ, t, t', o, R0, V1, V2, e, q⟩
  unfold gCmp cmpT at e
  cases t with
  | int i =>
    cases t' with
    | int j => cases e; exact op_gt pins s σ H x y v u Q I rx ry ⟨i, j, vw_int V1, vw_int V2, q _ H A (Nx.refl R0) (odv rp_bl)⟩
    | _ => cases e
  | _ => cases e
theorem or_ge : OpR X (compareOp .GtE) (rG X.K X.w (gCmp .GtE)) := by
  intro pins s σ H x y v u Q I rx ry ⟨F, A, σ', τ, t, t', o, R0, V1, V2, e, q⟩
  unfold gCmp cmpT at e
  cases t with
  | int i =>
    cases t' with
    | int j => cases e; exact op_ge pins s σ H x y v u Q I rx ry ⟨i, j, vw_int V1, vw_int V2, q _ H A (Nx.refl R0) (odv rp_bl)⟩
    | _ => cases e
  | _ => cases e

/-! ### in -/
theorem flat_v {K : PySem.W.Frag} {w : World} {H : Hp} {A : Av} {t : T} {v : V} (h : Rep K w H A t v) (f : t.flat = true) : flatV v = true := by
  cases t with
  | non => simp only [Rep] at h; subst h; rfl
  | bl b => simp only [Rep] at h; subst h; rfl
  | int b => simp only [Rep] at h; subst h; rfl
  | str b => simp only [Rep] at h; subst h; rfl
  | _ => cases f
theorem flat_eq {K : PySem.W.Frag} {w : World} {H : Hp} {A : Av} {t u : T} {v x : V} (h : Rep K w H A t v) (g : Rep K w H A u x) (f : t.flat = true) (f' : u.flat = true) : eqV v x = eqT t u := by
  cases t with
  | non =>
    simp only [Rep] at h; subst h
    cases u with
    | non => simp only [Rep] at g; subst g; rfl
    | bl b => simp only [Rep] at g; subst g; rfl
    | int b => simp only [Rep] at g; subst g; rfl
    | str b => simp only [Rep] at g; subst g; rfl
    | _ => cases f'
  | bl b =>
    simp only [Rep] at h; subst h
    cases u with
    | non => simp only [Rep] at g; subst g; rfl
    | bl b => simp only [Rep] at g; subst g; rfl
    | int b => simp only [Rep] at g; subst g; rfl
    | str b => simp only [Rep] at g; subst g; rfl
    | _ => cases f'
  | int b =>
    simp only [Rep] at h; subst h
    cases u with
    | non => simp only [Rep] at g; subst g; rfl
    | bl b => simp only [Rep] at g; subst g; rfl
    | int b => simp only [Rep] at g; subst g; rfl
    | str b => simp only [Rep] at g; subst g; rfl
    | _ => cases f'
  | str b =>
    simp only [Rep] at h; subst h
    cases u with
    | non => simp only [Rep] at g; subst g; rfl
    | bl b => simp only [Rep] at g; subst g; rfl
    | int b => simp only [Rep] at g; subst g; rfl
    | str b => simp only [Rep] at g; subst g; rfl
    | _ => cases f'
  | _ => cases f
theorem flats_in {K : PySem.W.Frag} {w : World} {H : Hp} {A : Av} {u : T} {x : V} (g : Rep K w H A u x) (f' : u.flat = true) : ∀ {l : List T} {vs : List V}, Reps K w H A l vs → l.all T.flat = true →
    vs.all flatV = true ∧ (vs.any fun y => eqV y x) = l.any fun z => eqT z u
  | [], vs, h, _ => by simp only [Reps] at h; subst h; exact ⟨rfl, rfl⟩
  | t :: r, vs, h, f => by
    simp only [Reps] at h
    obtain ⟨v, vr, rfl, h1, h2⟩ := h
    rw [List.all_cons, Bool.and_eq_true] at f
    obtain ⟨q1, q2⟩ := flats_in g f' h2 f.2
    refine ⟨?_, ?_⟩
    · rw [List.all_cons, flat_v h1 f.1, q1]; rfl
    · rw [List.any_cons, List.any_cons, flat_eq h1 g f.1 f', q2]
theorem vw_flat {K : PySem.W.Frag} {w : World} {H : Hp} {A N : Av} {t : T} {v : V} (h : Vw K w H N A t v) (f : t.flat = true) : Rep K w H A t v := by
  cases t with
  | lst l => cases f
  | dct l => cases f
  | _ => exact h
theorem look_val {K : PySem.W.Frag} {w : World} {H : Hp} {A : Av} (k : Key) : ∀ {l : List (T × T)} {kvs : List (Key × V)}, Repd K w H A l kvs → (look l k = none ∧ valV kvs k = none) ∨ ∃ t v, look l k = some t ∧ valV kvs k = some v ∧ Rep K w H A t v
  | [], kvs, h => by simp only [Repd] at h; subst h; exact .inl ⟨rfl, rfl⟩
  | (q, t) :: r, kvs, h => by
    simp only [Repd] at h
    obtain ⟨k', v, vr, rfl, h1, h2, h3⟩ := h
    have step : valV ((k', v) :: vr) k = if k' = k then some v else valV vr k := by
      unfold valV
      rw [List.find?_cons]
      by_cases z : k' = k
      · simp [z]
      · simp [z]
    have step2 : look ((q, t) :: r) k = if k' = k then some t else look r k := by
      cases q with
      | int i =>
        cases h1
        show (if k = Sum.inl i then some t else look r k) = _
        by_cases z : k = Sum.inl i
        · rw [if_pos z, if_pos z.symm]
        · rw [if_neg z, if_neg fun x => z x.symm]
      | str i =>
        cases h1
        show (if k = Sum.inr i then some t else look r k) = _
        by_cases z : k = Sum.inr i
        · rw [if_pos z, if_pos z.symm]
        · rw [if_neg z, if_neg fun x => z x.symm]
      | _ => cases h1
    rw [step, step2]
    by_cases z : k' = k
    · rw [if_pos z, if_pos z]; exact .inr ⟨t, v, rfl, rfl, h2⟩
    · rw [if_neg z, if_neg z]; exact look_val k h3
theorem keyT_v {K : PySem.W.Frag} {w : World} {H : Hp} {A : Av} {t : T} {k : Key} {v : V} (h : Vw K w H (fun _ => False) A t v) (e : keyT t = some k) : v = kV k := by
  cases t with
  | int i => cases e; exact vw_int h
  | str i => cases e; exact vw_str h
  | _ => cases e
theorem relO_some {o : Option V} {r : Option Value} (h : RelO o r) : r.isSome = o.isSome := by
  cases o <;> cases r <;> first | rfl | exact h.elim
theorem askT_key {l : List (T × T)} {t : T} {k : Key} (e : askT l t = some k) : keyT t = some k ∧ ∀ i, k = .inl i → l.all (fun p => p.1.isInt) = true := by
  cases t with
  | int i =>
    have e' : (if l.all (fun p => p.1.isInt) then some (Sum.inl i) else none) = some k := e
    split at e'
    · rename_i h; cases e'; exact ⟨rfl, fun _ _ => h⟩
    · cases e'
  | str x => cases e; exact ⟨rfl, fun i z => nomatch z⟩
  | _ => cases e
theorem keys_int {K : PySem.W.Frag} {w : World} {H : Hp} {A : Av} : ∀ {l : List (T × T)} {kvs : List (Key × V)}, Repd K w H A l kvs → l.all (fun p => p.1.isInt) = true → ∀ q ∈ kvs, ∃ i, q.1 = .inl i
  | [], kvs, h, _ => by simp only [Repd] at h; subst h; intro q hq; cases hq
  | (k, t) :: r, kvs, h, f => by
    simp only [Repd] at h
    obtain ⟨k', v, vr, rfl, h1, h2, h3⟩ := h
    rw [List.all_cons, Bool.and_eq_true] at f
    intro q hq
    rcases List.mem_cons.mp hq with rfl | hq
    · cases k with
      | int i => cases h1; exact ⟨i, rfl⟩
      | _ => cases f.1
    · exact keys_int h3 f.2 q hq
/-- a written dict is asked for texts -/
theorem kd_str {K : PySem.W.Frag} {w : World} {H : Hp} {A : Av} {a : Addr} {kvs : List (Key × V)} {l : List (T × T)} {t : T} {k : Key} (d : KD K w a kvs) (rd : Repd K w H A l kvs) (e : askT l t = some k) : ∃ x, k = .inr x := by
  obtain ⟨h1, h2⟩ := askT_key e
  cases k with
  | inr x => exact ⟨x, rfl⟩
  | inl i =>
    obtain ⟨es, n, D, dv⟩ := d
    obtain ⟨r, _, _, q, hq, z⟩ := dv ""
    obtain ⟨j, hj⟩ := keys_int rd (h2 i rfl) q hq
    exact (z j hj).elim
/-- the key is in the dict -/
theorem dict_in (hu : X.A.units + 1 < cLine) {pins : List (Addr × Obj)} {s : Shared} {σ : L2.St} {H : Hp} {N A : Av} {a : Addr} {kvs : List (Key × V)} {l : List (T × T)} {t : T} {k : Key} {y : V} {u : Value} {Q : VK} (I : Inv X pins σ H s)
    (d : DAt X.K X.w H N a kvs) (rd : Repd X.K X.w H A l kvs) (ht : Vw X.K X.w H (fun _ => False) A t y) (hk : askT l t = some k) (ry : RelV y u) (q : Q (.bl (look l k).isSome) H) :
    wpAny (model X.prog X.w) X.A (compareOp .In u (.ref a)) (EP X pins σ Q) X.xe s := by
  have ey := keyT_v ht (askT_key hk).1
  have ev : (look l k).isSome = (valV kvs k).isSome := by
    rcases look_val k rd with ⟨h1, h2⟩ | ⟨t, v, h1, h2, _⟩ <;> rw [h1, h2] <;> rfl
  rw [ev] at q
  rcases d with ⟨_, d⟩ | d
  · exact d_in (Q := EP X pins σ Q) hu I (.inl ⟨kvs, k, d, ey, rfl⟩) ry fun s' I' => ⟨.bl _, H, I', rfl, q⟩
  · obtain ⟨x, rfl⟩ := kd_str d rd hk
    obtain ⟨es, n, D, dv⟩ := d
    obtain ⟨r, e1, e2, _⟩ := dv x
    refine op_in_kd D pins s σ H y (.ref a) u _ Q I ry rfl ⟨x, r, ey, rfl, e1, ?_⟩
    rw [relO_some e2]; exact q
theorem dict_notIn (hu : X.A.units + 1 < cLine) {pins : List (Addr × Obj)} {s : Shared} {σ : L2.St} {H : Hp} {N A : Av} {a : Addr} {kvs : List (Key × V)} {l : List (T × T)} {t : T} {k : Key} {y : V} {u : Value} {Q : VK} (I : Inv X pins σ H s)
    (d : DAt X.K X.w H N a kvs) (rd : Repd X.K X.w H A l kvs) (ht : Vw X.K X.w H (fun _ => False) A t y) (hk : askT l t = some k) (ry : RelV y u) (q : Q (.bl (!(look l k).isSome)) H) :
    wpAny (model X.prog X.w) X.A (compareOp .NotIn u (.ref a)) (EP X pins σ Q) X.xe s := by
  have ey := keyT_v ht (askT_key hk).1
  have ev : (look l k).isSome = (valV kvs k).isSome := by
    rcases look_val k rd with ⟨h1, h2⟩ | ⟨t, v, h1, h2, _⟩ <;> rw [h1, h2] <;> rfl
  rw [ev] at q
  rcases d with ⟨_, d⟩ | d
  · exact d_notIn (Q := EP X pins σ Q) hu I (.inl ⟨kvs, k, d, ey, rfl⟩) ry fun s' I' => ⟨.bl _, H, I', rfl, q⟩
  · obtain ⟨x, rfl⟩ := kd_str d rd hk
    obtain ⟨es, n, D, dv⟩ := d
    obtain ⟨r, e1, e2, _⟩ := dv x
    refine op_notIn_kd D pins s σ H y (.ref a) u _ Q I ry rfl ⟨x, r, ey, rfl, e1, ?_⟩
    rw [relO_some e2]; exact q
theorem one_sign {a : Str} (h : a.cps.size = 1) : a = ⟨#[a.cps.toList.headD 0]⟩ := by
  obtain ⟨⟨l⟩⟩ := a
  have hl : l.length = 1 := h
  match l, hl with
  | [c], _ => rfl
theorem or_in (hu : X.A.units + 1 < cLine) : OpR X (compareOp .In) (rG X.K X.w (gCmp .In)) := by
  intro pins s σ H x y v u Q I rx ry ⟨F, A, σ', τ, t, t', o, R0, V1, V2, e, q⟩
  unfold gCmp cmpT at e
  cases t' with
  | str z =>
    cases t with
    | str a =>
      unfold inT at e
      dsimp only at e
      split at e
      · rename_i hs
        cases e
        have ev := vw_str V1
        rw [one_sign hs] at ev
        exact op_in_sign pins s σ H x y v u Q I rx ry ⟨_, z, ev, vw_str V2, q _ H A (Nx.refl R0) (odv rp_bl)⟩
      · cases e
    | _ => cases e
  | lst l =>
    have e' : ((if t.flat && l.all T.flat then some (l.any fun z => eqT z t) else none).map fun r => Od.v (.bl r)) = some o := by cases t <;> exact e
    split at e'
    · rename_i hs
      rw [Bool.and_eq_true] at hs
      cases e'
      obtain ⟨a, vs, rfl, la, r⟩ := V2
      obtain ⟨q1, q2⟩ := flats_in (vw_flat V1 hs.1) hs.1 r hs.2
      refine op_in_seq pins s σ H x _ v u Q I rx ry ⟨a, vs, rfl, .inl la.sq, flat_v (vw_flat V1 hs.1) hs.1, q1, ?_⟩
      rw [show inV x vs = _ from q2]
      exact q _ H A (Nx.refl R0) (odv rp_bl)
    · cases e'
  | tup l =>
    have e' : ((if t.flat && l.all T.flat then some (l.any fun z => eqT z t) else none).map fun r => Od.v (.bl r)) = some o := by cases t <;> exact e
    split at e'
    · rename_i hs
      rw [Bool.and_eq_true] at hs
      cases e'
      obtain ⟨a, vs, rfl, la, r⟩ := vw_tup V2
      obtain ⟨q1, q2⟩ := flats_in (vw_flat V1 hs.1) hs.1 r hs.2
      refine op_in_seq pins s σ H x _ v u Q I rx ry ⟨a, vs, rfl, .inr la.sq, flat_v (vw_flat V1 hs.1) hs.1, q1, ?_⟩
      rw [show inV x vs = _ from q2]
      exact q _ H A (Nx.refl R0) (odv rp_bl)
    · cases e'
  | dct l =>
    have e' : ((match askT l t with | some k => some (look l k).isSome | none => none).map fun r => Od.v (.bl r)) = some o := by cases t <;> exact e
    split at e'
    · rename_i k hk
      cases e'
      obtain ⟨a, kvs, rfl, d, rd⟩ := V2
      cases ry
      exact dict_in hu I d rd V1 hk rx (q _ H A (Nx.refl R0) (odv rp_bl))
    · cases e'
  | _ => cases t <;> cases e
theorem or_notIn (hu : X.A.units + 1 < cLine) : OpR X (compareOp .NotIn) (rG X.K X.w (gCmp .NotIn)) := by
  intro pins s σ H x y v u Q I rx ry ⟨F, A, σ', τ, t, t', o, R0, V1, V2, e, q⟩
  unfold gCmp cmpT at e
  cases t' with
  | str z =>
    cases t with
    | str a =>
      unfold inT at e
      dsimp only at e
      split at e
      · rename_i hs
        cases e
        have ev := vw_str V1
        rw [one_sign hs] at ev
        exact op_notIn_sign pins s σ H x y v u Q I rx ry ⟨_, z, ev, vw_str V2, q _ H A (Nx.refl R0) (odv rp_bl)⟩
      · cases e
    | _ => cases e
  | lst l =>
    have e' : (((if t.flat && l.all T.flat then some (l.any fun z => eqT z t) else none).map not).map fun r => Od.v (.bl r)) = some o := by cases t <;> exact e
    split at e'
    · rename_i hs
      rw [Bool.and_eq_true] at hs
      cases e'
      obtain ⟨a, vs, rfl, la, r⟩ := V2
      obtain ⟨q1, q2⟩ := flats_in (vw_flat V1 hs.1) hs.1 r hs.2
      refine op_notIn_seq pins s σ H x _ v u Q I rx ry ⟨a, vs, rfl, .inl la.sq, flat_v (vw_flat V1 hs.1) hs.1, q1, ?_⟩
      rw [show inV x vs = _ from q2]
      exact q _ H A (Nx.refl R0) (odv rp_bl)
    · cases e'
  | tup l =>
    have e' : (((if t.flat && l.all T.flat then some (l.any fun z => eqT z t) else none).map not).map fun r => Od.v (.bl r)) = some o := by cases t <;> exact e
    split at e'
    · rename_i hs
      rw [Bool.and_eq_true] at hs
      cases e'
      obtain ⟨a, vs, rfl, la, r⟩ := vw_tup V2
      obtain ⟨q1, q2⟩ := flats_in (vw_flat V1 hs.1) hs.1 r hs.2
      refine op_notIn_seq pins s σ H x _ v u Q I rx ry ⟨a, vs, rfl, .inr la.sq, flat_v (vw_flat V1 hs.1) hs.1, q1, ?_⟩
      rw [show inV x vs = _ from q2]
      exact q _ H A (Nx.refl R0) (odv rp_bl)
    · cases e'
  | dct l =>
    have e' : (((match askT l t with | some k => some (look l k).isSome | none => none).map not).map fun r => Od.v (.bl r)) = some o := by cases t <;> exact e
    split at e'
    · rename_i k hk
      cases e'
      obtain ⟨a, kvs, rfl, d, rd⟩ := V2
      cases ry
      exact dict_notIn hu I d rd V1 hk rx (q _ H A (Nx.refl R0) (odv rp_bl))
    · cases e'
  | _ => cases t <;> cases e
theorem or_cmp0 {op : CmpOp} (h : ∀ t u, cmpT op t u = none) : OpR X (compareOp op) (rG X.K X.w (gCmp op)) := by
  intro pins s σ H x y v u Q I rx ry ⟨F, A, σ', τ, t, t', o, R0, V1, V2, e, q⟩
  unfold gCmp at e
  rw [h] at e
  cases e
theorem or_cmp (hu : X.A.units + 64 < cLine) (op : CmpOp) : OpR X (compareOp op) (rG X.K X.w (gCmp op)) := by
  cases op with
  | Eq => exact or_eq hu
  | NotEq => exact or_ne hu
  | Lt => exact or_lt
  | LtE => exact or_le
  | Gt => exact or_gt
  | GtE => exact or_ge
  | In => exact or_in (by omega)
  | NotIn => exact or_notIn (by omega)
  | _ => exact or_cmp0 fun t u => by cases t <;> cases u <;> rfl

/-! ### subscripts, slices -/
def gIx : T → T → Option Od := fun t u => (ixT t u).map .v
theorem ixN_lt {n : Nat} {i : Int} {j : Nat} (h : ixN n i = some j) : j < n := by
  unfold ixN at h
  split at h
  · split at h
    · cases h; omega
    · cases h
  · split at h
    · cases h; omega
    · cases h
theorem atI_rep {K : PySem.W.Frag} {w : World} {H : Hp} {A : Av} {l : List T} {vs : List V} {i : Int} {t : T} (r : Reps K w H A l vs) (e : atI l i = some t) : ∃ v, atI vs i = some v ∧ Rep K w H A t v := by
  unfold atI at e ⊢
  rw [r.length]
  cases h : ixN l.length i with
  | none => rw [h] at e; cases e
  | some j =>
    rw [h] at e
    exact r.get e
/-- d[k] of a dict -/
theorem ix_d {pins : List (Addr × Obj)} {s : Shared} {σ : L2.St} {H : Hp} {a : Addr} {kvs : List (Key × V)} {k : Key} {y r : V} {u : Value} {Q : VK} {value slice : Expr} (hu : X.A.units + 1 < cLine) (I : Inv X pins σ H s)
    (d : Rd H a (.dK kvs)) (ey : y = kV k) (ev : valV kvs k = some r) (ry : RelV y u) (q : Q r H) (hs : subscripted slice false (.ref a) u = operate [.ref a, u] (getItem (.ref a) u)) :
    wpAny (model X.prog X.w) X.A (subscriptTail value slice (.ref a) u) (EP X pins σ Q) X.xe s := by
  have g : DGet H a y (some r) := .inl ⟨kvs, k, d, ey, ev.symm⟩
  exact tail_any (dict_typeIs I g) slot_dict_getitem.lookup (d_getItem (Q := EP X pins σ Q) hu I g ry fun w' s' I' rw' => ⟨r, H, I', rw', q⟩) hs
theorem ixr (hu : X.A.units + 1 < cLine) : IxR X (rG X.K X.w gIx) := by
  intro value slice pins s σ H x y v u Q I rx ry ⟨F, A, σ', τ, t, t', o, R0, V1, V2, e, q⟩ hs
  unfold gIx ixT at e
  cases t with
  | lst l =>
    cases t' with
    | int i =>
      dsimp only at e
      cases h : atI l i with
      | none => rw [h] at e; cases e
      | some z =>
        rw [h] at e; cases e
        obtain ⟨a, vs, rfl, la, r⟩ := V1
        obtain ⟨z', h1, h2⟩ := atI_rep r h
        exact ix_list value slice pins s σ H _ y v u Q I rx ry ⟨a, vs, i, z', rfl, vw_int V2, la.sq, h1, q _ H A (Nx.refl R0) (odv h2)⟩ hs
    | _ => cases e
  | tup l =>
    cases t' with
    | int i =>
      dsimp only at e
      cases h : atI l i with
      | none => rw [h] at e; cases e
      | some z =>
        rw [h] at e; cases e
        obtain ⟨a, vs, rfl, la, r⟩ := vw_tup V1
        obtain ⟨z', h1, h2⟩ := atI_rep r h
        exact ix_tup value slice pins s σ H _ y v u Q I rx ry ⟨a, vs, i, z', rfl, vw_int V2, la.sq, h1, q _ H A (Nx.refl R0) (odv h2)⟩ hs
    | _ => cases e
  | str z =>
    cases t' with
    | int i =>
      dsimp only at e
      split at e
      · rename_i hz
        cases h : atI z.cps.toList i with
        | none => rw [h] at e; cases e
        | some c =>
          rw [h] at e; cases e
          exact ix_str value slice pins s σ H _ y v u Q I rx ry ⟨z, i, c, vw_str V1, vw_int V2, hz, h, q _ H A (Nx.refl R0) (odv rp_str)⟩ hs
      · cases e
    | _ => cases e
  | dct l =>
    have e' : (((askT l t').bind (look l)).map Od.v) = some o := by cases t' <;> exact e
    cases hk : askT l t' with
    | none => rw [hk] at e'; cases e'
    | some k =>
      rw [hk] at e'
      obtain ⟨a, kvs, rfl, d, rd⟩ := V1
      rcases look_val k rd with ⟨h1, h2⟩ | ⟨z, z', h1, h2, h3⟩
      · dsimp only [Option.bind] at e'; rw [h1] at e'; cases e'
      · dsimp only [Option.bind] at e'; rw [h1] at e'; cases e'
        have ey := keyT_v V2 (askT_key hk).1
        rcases d with ⟨_, d⟩ | d
        · cases rx
          exact ix_d hu I d ey h2 ry (q _ H A (Nx.refl R0) (odv h3)) hs
        · obtain ⟨x', rfl⟩ := kd_str d rd hk
          obtain ⟨es, n, D, dv⟩ := d
          obtain ⟨r, e1, e2, _⟩ := dv x'
          rw [h2] at e2
          cases r with
          | none => exact e2.elim
          | some r0 =>
            obtain ⟨hl, hkk, _⟩ := D
            exact ix_kdict value slice pins s σ H _ y v u Q I rx ry ⟨a, x', z', rfl, ey, ⟨es, n, r0, hl, hkk, e1, e2⟩, q _ H A (Nx.refl R0) (odv h3)⟩ hs
  | _ => cases t' <;> cases e
end
end Dt
set_option maxHeartbeats 4000000
/-! Dt5: slices, built-ins, methods. -/
namespace Dt
open PySem PySem.Spec PyProof.Rows L2

section
variable {K : PySem.W.Frag} {w : World} {F : Frm} {H H' H0 : Hp} {A A' N : Av} {σ : L2.St} {τ τ' τ1 : Sl} {i : Nat} {t : T} {v : V} {a p : Addr} {o : Od}
/-! ### slices -/
def rGS (K : PySem.W.Frag) (w : World) : V → Option Int → Option Int → Hp → VK → Prop := fun x lo hi H Q => ∃ (F : Frm) (A : Av) (σ : L2.St) (τ : Sl) (t : T) (o : T × Bool), R K w F H A σ τ ∧ Vw K w H (fun _ => False) A t x ∧ slT t lo hi = some o ∧
  ∀ v H' A', Nx K w F σ τ H A τ H' A' → OdOk K w H H' A' σ τ (fr o.1 o.2) v → Q v H'
theorem cut_rep {l : List T} {vs : List V} (lo hi : Option Int) (r : Reps K w H A l vs) : Reps K w H A (cutT l lo hi) (cutV vs lo hi) := by
  unfold cutT cutV
  rw [r.length]
  exact (r.drop _).take _
theorem sIx_all {l : List T} (lo hi : Option Int) (h : HT.sIx l.length 0 lo = 0 ∧ HT.sIx l.length l.length hi = l.length) : cutT l lo hi = l := by
  unfold cutT
  rw [h.1, h.2]
  simp
theorem slr {X : Cx} : SlR X (rGS X.K X.w) := by
  intro pins s σ H x v vl vu lo hi sl Q I rx hs pl pu ⟨F, A, σ', τ, t, o, R0, V1, e, q⟩
  unfold slT at e
  cases t with
  | lst l =>
    cases e
    obtain ⟨a, vs, rfl, la, r⟩ := V1
    refine sl_list pins s σ H _ v vl vu lo hi sl Q I rx hs pl pu ⟨a, vs, rfl, la.sq, fun p np => ?_⟩
    obtain ⟨n, k⟩ := newL R0 (cut_rep lo hi r) np
    exact q _ _ _ n k
  | tup l =>
    cases e
    obtain ⟨a, vs, rfl, la, r⟩ := vw_tup V1
    refine sl_tupA pins s σ H _ v vl vu lo hi sl Q I rx hs pl pu ⟨a, vs, rfl, la.sq, fun z => ?_, fun z p np => ?_⟩
    · rw [r.length] at z
      refine q _ H A (Nx.refl R0) (odv (t := .tup (cutT l lo hi)) ?_)
      rw [sIx_all lo hi z]
      exact rp_tup la r
    · obtain ⟨n, k⟩ := newT R0 (cut_rep lo hi r) np
      exact q _ _ _ n k
  | str z =>
    dsimp only at e
    split at e
    · rename_i hz
      cases e
      exact sl_str pins s σ H _ v vl vu lo hi sl Q I rx hs pl pu ⟨z, vw_str V1, hz, q _ H A (Nx.refl R0) (odv rp_str)⟩
    · cases e
  | _ => cases e
/-- a part of a slice -/
def TXp (K : PySem.W.Frag) (w : World) (f : Option Sem) : L2.St → Hp → (Option Int → Hp → Prop) → Prop := fun σ H Q => ∃ (F : Frm) (A : Av) (τ : Sl) (o : Option Int) (τ' : Sl), R K w F H A σ τ ∧ partT f τ = some (o, τ') ∧
  ∀ H' A', Nx K w F σ τ H A τ' H' A' → Q o H'
theorem po_weak {X : Cx} {e : Option Expr} {t t' : TO} (h : PO X e t) (f : ∀ σ H Q, t' σ H Q → t σ H Q) : PO X e t' := ⟨fun pins s σ H Q I q => h.run pins s σ H Q I (f _ _ _ q)⟩
theorem xp_none {X : Cx} : PO X none (TXp X.K X.w none) := po_weak po_none fun σ H Q ⟨F, A, τ, o, τ', R0, e, q⟩ => by
  cases e
  exact q H A (Nx.refl R0)
theorem xp_some {X : Cx} {e : Expr} {f : Sem} (h : PE X e (TX X.K X.w f)) : PO X (some e) (TXp X.K X.w (some f)) := po_weak (po_some h) fun σ H Q ⟨F, A, τ, o, τ', R0, e, q⟩ => by
  unfold partT at e
  dsimp only at e
  split at e
  · rename_i x τ1 e1
    split at e
    · rename_i i e2
      have e3 : τ1.tr x.sh = some (.int i) := by cases x <;> exact e2
      cases e
      refine ⟨F, A, τ, x, _, R0, e1, fun v H1 A1 n1 r1 => ?_⟩
      obtain ⟨A1', n1', r1'⟩ := share R0 n1 x r1
      exact ⟨i, vw_int (r1'.vw n1'.r e3), q H1 A1' n1'⟩
    · cases e
  · cases e
theorem x_slice {X : Cx} {a : Expr} {lo hi : Option Expr} {f : Sem} {fl fh : Option Sem} {pos p2 : Pos} (h : PE X a (TX X.K X.w f)) (hl : PO X lo (TXp X.K X.w fl)) (hh : PO X hi (TXp X.K X.w fh)) :
    PE X (.Subscript a (.Slice lo hi none p2) pos) (TX X.K X.w (sSl f fl fh)) := peW (pe_slice slr h hl hh) fun σ H Q ⟨F, A, τ, o, τ', R0, e, q⟩ => by
  unfold sSl at e
  split at e
  · rename_i x τ1 e1
    split at e
    · rename_i l τ2 e2
      split at e
      · rename_i hh τ3 e3
        split at e
        · rename_i t e4
          split at e
          · rename_i r e5
            cases e
            refine ⟨F, A, τ, x, τ1, R0, e1, fun v H1 A1 n1 r1 => ?_⟩
            obtain ⟨A1', n1', r1'⟩ := share R0 n1 x r1
            refine ⟨F, A1', τ1, l, τ2, n1'.r, e2, fun H2 A2 n2 => ?_⟩
            refine ⟨F, A2, τ2, hh, _, n2.r, e3, fun H3 A3 n3 => ?_⟩
            have n := (n1'.trans n2).trans n3
            exact ⟨F, A3, σ, _, t, r, n3.r, ((r1'.keep n1'.r n2).keep n2.r n3).vw n3.r e4, e5, fun v' H' A' n' k => q v' H' A' (n.trans n') (k.back n.s.dm)⟩
          · cases e
        · cases e
      · cases e
    · cases e
  · cases e

/-! ### built-ins -/
theorem paired1 {α β : Type} {G : α → β → Prop} {x : α} {ys : List β} (h : Paired G [x] ys) : ∃ y, ys = [y] ∧ G x y := by
  cases h with
  | cons a b => cases b; exact ⟨_, rfl, a⟩
theorem cr_len {X : Cx} : CallR X (.builtin "len") (rGL X.K X.w gLen) := by
  intro pins s σ H xs us Q I rs ⟨F, A, σ', τ, ts, o, R0, P, e, q⟩
  match ts, e with
  | [t], e =>
    obtain ⟨x, rfl, V1⟩ := paired1 P
    have e' : ((lenT t).map fun n => (T.int n, false)) = some o := e
    unfold lenT at e'
    cases t with
    | lst l =>
      cases e'
      obtain ⟨a, vs, rfl, la, r⟩ := V1
      exact call_len_seq pins s σ H _ us Q I rs ⟨a, vs, rfl, .inl la.sq, q _ H A (Nx.refl R0) (odv (by rw [r.length]; exact rp_int))⟩
    | tup l =>
      cases e'
      obtain ⟨a, vs, rfl, la, r⟩ := vw_tup V1
      exact call_len_seq pins s σ H _ us Q I rs ⟨a, vs, rfl, .inr la.sq, q _ H A (Nx.refl R0) (odv (by rw [r.length]; exact rp_int))⟩
    | str z =>
      dsimp only at e'
      split at e'
      · rename_i hz
        cases e'
        exact call_len_str pins s σ H _ us Q I rs ⟨z, by rw [vw_str V1], hz, q _ H A (Nx.refl R0) (odv rp_int)⟩
      · cases e'
    | _ => cases e'
theorem cr_abs {X : Cx} : CallR X (.builtin "abs") (rGL X.K X.w gAbs) := by
  intro pins s σ H xs us Q I rs ⟨F, A, σ', τ, ts, o, R0, P, e, q⟩
  match ts, e with
  | [.int i], e =>
    obtain ⟨x, rfl, V1⟩ := paired1 P
    cases e
    exact call_abs pins s σ H _ us Q I rs ⟨i, by rw [vw_int V1], q _ H A (Nx.refl R0) (odv rp_int)⟩
theorem cr_int {X : Cx} : CallR X (.type "int") (rGL X.K X.w gInt) := by
  intro pins s σ H xs us Q I rs ⟨F, A, σ', τ, ts, o, R0, P, e, q⟩
  match ts, e with
  | [.int i], e =>
    obtain ⟨x, rfl, V1⟩ := paired1 P
    cases e
    exact call_int1 pins s σ H _ us Q I rs (.inl ⟨i, by rw [vw_int V1], q _ H A (Nx.refl R0) (odv rp_int)⟩)
theorem cr_str {X : Cx} : CallR X (.type "str") (rGL X.K X.w gStr) := by
  intro pins s σ H xs us Q I rs ⟨F, A, σ', τ, ts, o, R0, P, e, q⟩
  match ts, e with
  | [.int i], e =>
    obtain ⟨x, rfl, V1⟩ := paired1 P
    have e' : (if i.natAbs.log2 < 1920 then some (T.str (toString i), false) else none) = some o := e
    split at e'
    · rename_i hz
      cases e'
      exact call_str_int pins s σ H _ us Q I rs ⟨i, by rw [vw_int V1], hz, q _ H A (Nx.refl R0) (odv rp_str)⟩
    · cases e'
theorem cr_tuple {X : Cx} : CallR X (.type "tuple") (rGL X.K X.w gTuple) := by
  intro pins s σ H xs us Q I rs ⟨F, A, σ', τ, ts, o, R0, P, e, q⟩
  match ts, e with
  | [.lst l], e =>
    obtain ⟨x, rfl, V1⟩ := paired1 P
    cases e
    obtain ⟨a, vs, rfl, la, r⟩ := V1
    refine call_tuple_of pins s σ H _ us Q I rs ⟨a, vs, rfl, .inl ⟨la.sq, fun p np => ?_⟩⟩
    obtain ⟨n, k⟩ := newT R0 r np
    exact q _ _ _ n k
  | [.tup l], e =>
    obtain ⟨x, rfl, V1⟩ := paired1 P
    cases e
    obtain ⟨a, vs, rfl, la, r⟩ := vw_tup V1
    exact call_tuple_of pins s σ H _ us Q I rs ⟨a, vs, rfl, .inr ⟨la.sq, q _ H A (Nx.refl R0) (odv (rp_tup la r))⟩⟩
theorem cr_list {X : Cx} : CallR X (.type "list") (rGL X.K X.w gList) := by
  intro pins s σ H xs us Q I rs ⟨F, A, σ', τ, ts, o, R0, P, e, q⟩
  match ts, e with
  | [.lst l], e =>
    obtain ⟨x, rfl, V1⟩ := paired1 P
    cases e
    obtain ⟨a, vs, rfl, la, r⟩ := V1
    refine call_list_of pins s σ H _ us Q I rs ⟨a, vs, rfl, .inl la.sq, fun p np => ?_⟩
    obtain ⟨n, k⟩ := newL R0 r np
    exact q _ _ _ n k
  | [.tup l], e =>
    obtain ⟨x, rfl, V1⟩ := paired1 P
    cases e
    obtain ⟨a, vs, rfl, la, r⟩ := vw_tup V1
    refine call_list_of pins s σ H _ us Q I rs ⟨a, vs, rfl, .inr la.sq, fun p np => ?_⟩
    obtain ⟨n, k⟩ := newL R0 r np
    exact q _ _ _ n k
/-- which kind a value is, for isinstance -/
theorem ty_of (h : Vw K w H N A t v) : TyX K H v (.type t.ty) := by
  cases t with
  | non => rw [vw_non h]; exact .base .non
  | bl b => rw [vw_bl h]; exact .base (.bl b)
  | int i => rw [vw_int h]; exact .base (.int i)
  | str x => rw [vw_str h]; exact .base (.str x)
  | tup l =>
    obtain ⟨a, vs, rfl, la, r⟩ := vw_tup h
    rcases la with ⟨_, q | ⟨o, q⟩⟩ | ⟨o, its, n, q, c, _⟩
    · exact .base (.tup q)
    · exact .fTuple q
    · exact .kTuple q c
  | lst l =>
    obtain ⟨a, vs, rfl, ⟨_, q | ⟨o, q⟩⟩, r⟩ := h
    · exact .base (.lst q)
    · exact .base (.frz q)
  | dct l =>
    obtain ⟨a, vs, rfl, d, r⟩ := h
    rcases d with ⟨_, q | ⟨o, q⟩⟩ | ⟨es, n, D, _⟩
    · exact .base (.dK q)
    · exact .fDict q
    · exact .kDict D.at_ rfl

/-! ### a slot's own object changes -/
theorem change {t' : T} {fl : Fl} {o' : HO} (h : R K w F H A σ τ) (e : τ[i]? = some (some (t, fl))) (hf : fl = .own ∨ fl = .chg) (ea : σ[i]? = some (some (.ref a))) (hr : Root K w (upd H a o') A a t') :
    Nx K w F σ τ H A (τ.set i (some (t', fl))) (upd H a o') A := by
  have hO : Ow σ τ a := ⟨i, t, fl, e, hf, ea⟩
  have hA : A a := h.ow hO
  have ow : ∀ b, Ow σ (τ.set i (some (t', fl))) b ↔ Ow σ τ b := fun b => by
    constructor
    · rintro ⟨j, u, fl', q1, q2, q3⟩
      rcases set_cases e q1 with ⟨rfl, z⟩ | ⟨_, z⟩
      · cases z; exact ⟨_, t, fl, e, hf, q3⟩
      · exact ⟨j, u, fl', z, q2, q3⟩
    · rintro ⟨j, u, fl', q1, q2, q3⟩
      by_cases hj : j = i
      · subst hj; rw [e] at q1; cases q1; exact ⟨j, t', fl, get_set_eq e, hf, q3⟩
      · exact ⟨j, u, fl', by rw [get_set_ne hj]; exact q1, q2, q3⟩
  have pr : ∀ b, Pr σ (τ.set i (some (t', fl))) b → Pr σ τ b := fun b ⟨j, u, fl', q1, q2, q3⟩ => by
    rcases set_cases e q1 with ⟨rfl, z⟩ | ⟨_, z⟩
    · cases z; exact ⟨_, t, fl, e, q2, q3⟩
    · exact ⟨j, u, fl', z, q2, q3⟩
  have k : ∀ b o, b ≠ a → H b = some o → upd H a o' b = some o := fun b o n q => by rw [upd_ne n]; exact q
  have kA : ∀ b o, ¬ A b → H b = some o → upd H a o' b = some o := fun b o n q => k b o (fun z => n (z ▸ hA)) q
  have nwA : ∀ b, A b → A b ∨ H b = none := fun _ z => .inl z
  have dm : ∀ b o, H b = some o → ∃ o1, upd H a o' b = some o1 := fun b o q => by
    by_cases hb : b = a
    · subst hb; exact ⟨o', upd_same⟩
    · exact ⟨o, k b o hb q⟩
  have st : Stp (Ow σ τ) H A (upd H a o') A := ⟨fun b o n q => k b o (fun z => n (z ▸ hO)) q, dm, nwA, fun _ z _ => z⟩
  refine ⟨⟨by rw [List.length_set]; exact h.len, fun b o n q => k b o (fun z => ?_) (h.ext b o n q), fun b o q => ?_, h.sub, h.msub, fun b z => ?_, h.domF, h.nwf, fun j u fl' q => ?_, fun j l b ⟨u, fl1, q1, q2⟩ ⟨u', fl2, q3, q4⟩ q5 q6 => ?_⟩, st, ⟨fun b z => (ow b).mp z, pr, fun j ⟨x, q⟩ => ?_⟩⟩
  · subst z
    obtain ⟨v, e1, s⟩ := h.slot i t fl e
    rw [ea] at e1; cases e1
    rcases hf with rfl | rfl
    · obtain ⟨_, e2, _, hn, _⟩ := s; cases e2; rw [hn] at q; cases q
    · obtain ⟨_, e2, _, hm, _⟩ := s; cases e2; exact n hm
  · obtain ⟨o1, q1⟩ := h.dm b o q
    exact dm b o1 q1
  · obtain ⟨o1, q1⟩ := h.dom b z
    exact dm b o1 q1
  · rcases set_cases e q with ⟨rfl, z⟩ | ⟨hj, z⟩
    · cases z
      obtain ⟨v, e1, s⟩ := h.slot j t fl e
      refine ⟨v, e1, ?_⟩
      rw [ea] at e1; cases e1
      rcases hf with rfl | rfl
      · obtain ⟨_, e2, h1, h2, _⟩ := s; cases e2; exact ⟨a, rfl, h1, h2, hr⟩
      · obtain ⟨_, e2, h1, h2, h3, _⟩ := s; cases e2; exact ⟨a, rfl, h1, h2, h3, hr⟩
    · obtain ⟨v, e1, s⟩ := h.slot j u fl' z
      refine ⟨v, e1, ?_⟩
      have hb : ∀ b, (fl' = .own ∨ fl' = .chg ∨ fl' = .len) → v = .ref b → b ≠ a := fun b hfl hv hz => by
        subst hz; subst hv
        exact hj (h.uniq j i b ⟨u, fl', z, hfl⟩ ⟨t, fl, e, hf.elim .inl fun q => .inr (.inl q)⟩ e1 ea)
      cases fl' with
      | shr => exact Rep.keep kA nwA _ _ s
      | own => obtain ⟨b, rfl, h1, h2, r⟩ := s; exact ⟨b, rfl, h1, h2, r.keep kA nwA fun o q => k b o (hb b (.inl rfl) rfl) q⟩
      | len => obtain ⟨b, rfl, h1, h2, r⟩ := s; exact ⟨b, rfl, h1, h2, r.keep kA nwA fun o q => k b o (hb b (.inr (.inr rfl)) rfl) q⟩
      | chg => obtain ⟨b, rfl, h1, h2, h3, r⟩ := s; exact ⟨b, rfl, h1, h2, h3, r.keep kA nwA fun o q => k b o (hb b (.inr (.inl rfl)) rfl) q⟩
      | bor => exact s
  · have f : ∀ {m : Nat} {u : T} {fl1 : Fl}, (τ.set i (some (t', fl)))[m]? = some (some (u, fl1)) → (fl1 = .own ∨ fl1 = .chg ∨ fl1 = .len) → ∃ (u : T) (fl : Fl), τ[m]? = some (some (u, fl)) ∧ (fl = .own ∨ fl = .chg ∨ fl = .len) := fun q1 q2 => by
      rcases set_cases e q1 with ⟨rfl, z⟩ | ⟨_, z⟩
      · cases z; exact ⟨t, fl, e, q2⟩
      · exact ⟨_, _, z, q2⟩
    exact h.uniq j l b (f q1 q2) (f q3 q4) q5 q6
  · by_cases hj : j = i
    · subst hj; exact ⟨_, get_set_eq e⟩
    · exact ⟨x, by rw [get_set_ne hj]; exact q⟩
/-- what a method that changes its list or dict does, on trees -/
def OpM (K : PySem.W.Frag) (w : World) (r : V → List V → Hp → VK → Prop) (g : T → List T → Option (T × T)) : Prop := ∀ (H : Hp) (A : Av) (a : Addr) (t t' u : T) (ts : List T) (vs : List V) (Q : VK),
  Root K w H A a t → A a → Reps K w H A ts vs → g t ts = some (t', u) → (∀ v o', Root K w (upd H a o') A a t' → Rep K w (upd H a o') A u v → Q v (upd H a o')) → r (.ref a) vs H Q
theorem kp_upd (ha : A a) {o' : HO} : ∀ b o, ¬ A b → H b = some o → upd H a o' b = some o := fun b o n q => by rw [upd_ne (fun z => n (by rw [z]; exact ha))]; exact q
theorem om_append : OpM K w rAppend gAppend := by
  intro H A a t t' u ts vs Q hr ha rs e q
  cases t with
  | lst l =>
    match ts, e with
    | [x], e =>
      have e' : (if l.length < sizeLine then some (T.lst (l ++ [x]), T.non) else none) = some (t', u) := e
      split at e'
      · rename_i hz
        cases e'
        obtain ⟨xs, h1, r⟩ := hr
        simp only [Reps] at rs
        obtain ⟨y, vr, rfl, ry, rfl⟩ := rs
        refine ⟨a, xs, y, rfl, rfl, h1, by rw [r.length]; exact hz, q _ _ ⟨_, upd_same, ?_⟩ rp_non⟩
        exact (Reps.keep (kp_upd ha) (fun _ z => .inl z) _ _ r).app (Reps.one (Rep.keep (kp_upd ha) (fun _ z => .inl z) _ _ ry))
      · cases e'
  | _ => cases e
theorem om_extend : OpM K w rExtend gExtend := by
  intro H A a t t' u ts vs Q hr ha rs e q
  cases t with
  | lst l =>
    match ts, e with
    | [.lst m], e =>
      have e' : (if l.length + m.length ≤ sizeLine then some (T.lst (l ++ m), T.non) else none) = some (t', u) := e
      split at e'
      · rename_i hz
        cases e'
        obtain ⟨xs, h1, r⟩ := hr
        simp only [Reps, Rep] at rs
        obtain ⟨y, vr, rfl, ⟨b, zs, rfl, lb, rb⟩, rfl⟩ := rs
        refine ⟨a, b, xs, zs, rfl, rfl, h1, lb.2, by rw [r.length, rb.length]; exact hz, q _ _ ⟨_, upd_same, ?_⟩ rp_non⟩
        exact (Reps.keep (kp_upd ha) (fun _ z => .inl z) _ _ r).app (Reps.keep (kp_upd ha) (fun _ z => .inl z) _ _ rb)
      · cases e'
  | _ => cases e
theorem last_ix {α : Type} : ∀ {l : List α} {x : α}, l.getLast? = some x → l[l.length - 1]? = some x
  | [], _, h => by cases h
  | a :: r, x, h => by rw [List.getLast?_eq_getElem?] at h; exact h
theorem om_pop0 : OpM K w rPop gPop0 := by
  intro H A a t t' u ts vs Q hr ha rs e q
  cases t with
  | lst l =>
    match ts, e with
    | [], e =>
      have e' : (match l.getLast? with | some x => some (T.lst l.dropLast, x) | none => none) = some (t', u) := e
      split at e'
      · rename_i x hx
        cases e'
        obtain ⟨xs, h1, r⟩ := hr
        simp only [Reps] at rs
        subst rs
        obtain ⟨y, h2, ry⟩ := r.get (last_ix hx)
        have hl : xs[xs.length - 1]? = some y := by rw [r.length]; exact h2
        refine ⟨a, xs, y, rfl, rfl, h1, hl, q _ _ ⟨_, upd_same, ?_⟩ (Rep.keep (kp_upd ha) (fun _ z => .inl z) _ _ ry)⟩
        rw [List.dropLast_eq_take, List.dropLast_eq_take, r.length]
        exact Reps.keep (kp_upd ha) (fun _ z => .inl z) _ _ (r.take _)
      · cases e'
  | _ => cases e
theorem Reps.erase : ∀ {l : List T} {vs : List V} (n : Nat), Reps K w H A l vs → Reps K w H A (l.eraseIdx n) (vs.eraseIdx n)
  | [], vs, n, h => by simp only [Reps] at h; subst h; simp [Reps]
  | t :: r, vs, 0, h => by
    simp only [Reps] at h
    obtain ⟨v, vr, rfl, _, e3⟩ := h
    exact e3
  | t :: r, vs, n + 1, h => by
    simp only [Reps] at h
    obtain ⟨v, vr, rfl, e2, e3⟩ := h
    show Reps K w H A (t :: r.eraseIdx n) (v :: vr.eraseIdx n)
    simp only [Reps]
    exact ⟨_, _, rfl, e2, Reps.erase n e3⟩
theorem om_pop1 : OpM K w rPopAt gPop1 := by
  intro H A a t t' u ts vs Q hr ha rs e q
  cases t with
  | lst l =>
    match ts, e with
    | [.int i], e =>
      have e' : (match ixN l.length i with | some j => if l.length ≤ sizeLine then (match l[j]? with | some x => some (T.lst (l.eraseIdx j), x) | none => none) else none | none => none) = some (t', u) := e
      split at e'
      · rename_i j hj
        split at e'
        · rename_i hz
          split at e'
          · rename_i x hx
            cases e'
            obtain ⟨xs, h1, r⟩ := hr
            simp only [Reps, Rep] at rs
            obtain ⟨y, vr, rfl, rfl, rfl⟩ := rs
            obtain ⟨s1, s2, s3, s4⟩ := ixN_seq hj
            obtain ⟨y, h2, ry⟩ := r.get hx
            have hs : (sizeLine : Int) = 16777216 := by rw [sizeLine_eq]; rfl
            have hz' : (l.length : Int) ≤ 16777216 := by omega
            refine ⟨a, xs, i, j, y, rfl, rfl, h1, by omega, by omega, by rw [r.length]; exact s1, h2, q _ _ ⟨_, upd_same, ?_⟩ (Rep.keep (kp_upd ha) (fun _ z => .inl z) _ _ ry)⟩
            exact Reps.keep (kp_upd ha) (fun _ z => .inl z) _ _ (r.erase j)
          · cases e'
        · cases e'
      · cases e'
  | _ => cases e
theorem tyV_lst {t : T} (h : Root K w H A a t) (k : t.isLst = true) : tyV K "list" (.ref a) H := by
  cases t with
  | lst l => obtain ⟨vs, h1, _⟩ := h; exact .inl ⟨rfl, vs, .inl (.inl h1)⟩
  | _ => cases k
/-- a slot's own list changed by a method -/
theorem wMut {r : V → List V → Hp → VK → Prop} {kd : T → Bool} {g : T → List T → Option (T × T)} {f : Sems} {Q : VK} {T0 : String} (hm : OpM K w r g) (hT : ∀ H A a t, Root K w H A a t → kd t = true → tyV K T0 (.ref a) H) (h : TX K w (sMut i kd g f) σ H Q) :
    tBM K T0 r (tVar i) (TXs K w f) σ H Q := by
  obtain ⟨F, A, τ, o, τ', R0, e, q⟩ := h
  unfold sMut at e
  split at e
  · rename_i t0 fl0 e0
    split at e
    · rename_i hk
      split at e
      · rename_i xs τ1 e1
        split at e
        · rename_i ts τ2 e2
          split at e
          · rename_i t fl e3
            split at e
            · rename_i hf
              split at e
              · rename_i t' u e4
                cases e
                have own : ∀ {τ : Sl} {H : Hp} {A : Av} {t : T} {fl : Fl}, R K w F H A σ τ → τ[i]? = some (some (t, fl)) → (fl = .own ∨ fl = .chg) → ∃ a, σ[i]? = some (some (.ref a)) ∧ A a ∧ Root K w H A a t := fun R1 e1 hf => by
                  obtain ⟨v, e2, s⟩ := R1.slot i _ _ e1
                  rcases hf with rfl | rfl
                  · obtain ⟨a, rfl, h1, _, r⟩ := s; exact ⟨a, e2, h1, r⟩
                  · obtain ⟨a, rfl, h1, _, _, r⟩ := s; exact ⟨a, e2, h1, r⟩
                obtain ⟨a, ea, ha, ra⟩ := own R0 e0 hk.2
                refine ⟨.ref a, ea, hT H A a t0 ra hk.1, F, A, τ, xs, τ1, R0, e1, fun vs H1 A1 n1 r1 => ?_⟩
                obtain ⟨A2, n2, r2⟩ := escs_ok n1.r r1 e2
                obtain ⟨a', ea', ha', ra'⟩ := own n2.r e3 hf
                rw [ea] at ea'; cases ea'
                refine hm H1 A2 a t t' u ts vs Q ra' ha' r2 e4 fun v o' rt ru => ?_
                have n3 := change n2.r e3 hf ea rt
                exact q v _ A2 ((n1.trans n2).trans n3) ru
              · cases e
            · cases e
          · cases e
        · cases e
      · cases e
    · cases e
  · cases e

/-! ### d.get(k, x) -/
def rGet2 (K : PySem.W.Frag) (w : World) : V → List V → Hp → VK → Prop := fun x xs H Q => ∃ (F : Frm) (A : Av) (σ : L2.St) (τ : Sl) (t u d r : T) (y z : V), xs = [y, z] ∧ R K w F H A σ τ ∧ Vw K w H (fun _ => False) A t x ∧ Vw K w H (fun _ => False) A u y ∧ Rep K w H A d z ∧ gGet2 t u d = some r ∧
  ∀ v H' A', Nx K w F σ τ H A τ H' A' → Rep K w H' A' r v → Q v H'
def tyD (K : PySem.W.Frag) (w : World) (x : V) (H : Hp) : Prop := ∃ (A : Av) (l : List (T × T)), Vw K w H (fun _ => False) A (.dct l) x
theorem ty_dct {X : Cx} : TyOk X "dict" (tyD X.K X.w) := by
  intro pins σ H s x v I r ⟨A, l, a, kvs, ex, d, _⟩
  subst ex
  cases r
  rcases d with ⟨_, d⟩ | ⟨es, n, D, _⟩
  · obtain ⟨t1, t2, _⟩ := isD_at I (.inl ⟨kvs, d⟩)
    exact ⟨t1, t2⟩
  · refine ⟨kd_type D I, fun b e => ?_⟩
    cases e
    exact ⟨_, I.kIn _ _ D.at_, rfl⟩
theorem look_rep {l : List (T × T)} {kvs : List (Key × V)} {k : Key} {d : T} {z : V} (rd : Repd K w H A l kvs) (rz : Rep K w H A d z) : Rep K w H A ((look l k).getD d) ((valV kvs k).getD z) := by
  rcases look_val k rd with ⟨h1, h2⟩ | ⟨t, v, h1, h2, h3⟩
  · rw [h1, h2]; exact rz
  · rw [h1, h2]; exact h3
theorem mt_get2 {X : Cx} (hu : X.A.units + 1 < cLine) : MtR X "dict.get" (rGet2 X.K X.w) := by
  intro pins s σ H x xs v us Q I rx rs ⟨F, A, σ', τ, t, u, d, r, y, z, ex, R0, V1, V2, V3, e, q⟩
  subst ex
  cases t with
  | dct l =>
    have e' : (match askT l u with | some k => some ((look l k).getD d) | none => none) = some r := by cases u <;> exact e
    split at e'
    · rename_i k hk
      cases e'
      obtain ⟨a, kvs, rfl, dd, rd⟩ := V1
      cases rx
      cases rs with
      | cons ry rt =>
        cases rt with
        | cons rz rn =>
          cases rn
          have ey := keyT_v V2 (askT_key hk).1
          rcases dd with ⟨_, dd⟩ | dd
          · refine d_get2 (Q := EP X pins σ Q) hu I (.inl ⟨kvs, k, dd, ey, rfl⟩) ry rz fun w' s' I' rw' => ⟨_, H, I', rw', ?_⟩
            exact q _ H A (Nx.refl R0) (look_rep rd V3)
          · obtain ⟨x', rfl⟩ := kd_str dd rd hk
            obtain ⟨es, n, D, dv⟩ := dd
            obtain ⟨r0, e1, e2, _⟩ := dv x'
            subst ey
            obtain ⟨t, rfl⟩ := ry
            have hm := PySem.W.mapOf_K (prog := X.prog) (w := X.w) I.kIn D.at_ D.lit
            refine call_meetsIn PySem.F.slot_dict_get hm.typeIs PySem.F.entry_dict_get (PySem.F.args_dict_get_3 _ _ _) (meets_dict_get_default (strKind X.prog X.w) a (PySem.strKind_is X.prog X.w x' t) D.low _) ⟨_, hm, ?_⟩
            refine ⟨(valV kvs (.inr x')).getD z, H, I.tok _, ?_, q _ H A (Nx.refl R0) (look_rep rd V3)⟩
            rw [PySem.W.find_K D.at_ e1]
            cases hv : valV kvs (.inr x') with
            | none => rw [hv] at e2; cases r0 with
              | none => exact rz
              | some _ => exact e2.elim
            | some b => rw [hv] at e2; cases r0 with
              | none => exact e2.elim
              | some _ => exact e2
    · cases e'
  | _ => cases e
theorem wGet2 {fa fb fc : Sem} {Q : VK} (h : TX K w (sGet2 fa fb fc) σ H Q) : tMG (tyD K w) (rGet2 K w) (TX K w fa) (tCons (TX K w fb) (tCons (TX K w fc) tNil)) σ H Q := by
  obtain ⟨F, A, τ, o, τ', R0, e, q⟩ := h
  unfold sGet2 at e
  split at e
  · rename_i x τ1 e1
    split at e
    · rename_i l0 e0
      split at e
      · rename_i y τ2 e2
        split at e
        · rename_i z τ3 e3
          split at e
          · rename_i d τ4 e4
            split at e
            · rename_i t u e5 e6
              split at e
              · rename_i r e7
                cases e
                refine ⟨F, A, τ, x, τ1, R0, e1, fun v H1 A1 n1 r1 => ?_⟩
                obtain ⟨A1', n1', r1'⟩ := share R0 n1 x r1
                refine ⟨⟨A1', l0, r1'.vw n1'.r e0⟩, F, A1', τ1, y, τ2, n1'.r, e2, fun v2 H2 A2 n2 r2 => ?_⟩
                obtain ⟨A2', n2', r2'⟩ := share n1'.r n2 y r2
                refine ⟨F, A2', τ2, z, τ3, n2'.r, e3, fun v3 H3 A3 n3 r3 => ?_⟩
                obtain ⟨A3', n3', r3'⟩ := share n2'.r n3 z r3
                obtain ⟨A4, n4, r4⟩ := esc_ok n3'.r z.sh r3' e4
                have x4 := ((r1'.keep n1'.r n2').keep n2'.r n3').keep n3'.r n4
                have y4 := (r2'.keep n2'.r n3').keep n3'.r n4
                have n := ((n1'.trans n2').trans n3').trans n4
                exact ⟨F, A4, σ, _, t, u, d, r, v2, v3, rfl, n4.r, x4.vw n4.r e5, y4.vw n4.r e6, r4, e7, fun v' H' A' n' k => q v' H' A' (n.trans n') k⟩
              · cases e
            · cases e
          · cases e
        · cases e
      · cases e
    · cases e
  · cases e
end
end Dt
set_option maxHeartbeats 4000000
/-! Dt6: what a def promises, over trees; calls. -/
namespace Dt
open PySem PySem.Spec PyProof.Rows L2

section
variable {K : PySem.W.Frag} {w : World} {F : Frm} {H H' H0 : Hp} {A A' N : Av} {σ : L2.St} {τ τ' τ1 : Sl} {i : Nat} {t : T} {v : V} {a p : Addr} {o : Od}
/-- several own objects change at once -/
theorem multi (h : R K w F H A σ τ) (Ch : Nat → Prop) (hl : τ'.length = τ.length) (h1 : ∀ j : Nat, ¬ Ch j → τ'[j]? = τ[j]?)
    (h2 : ∀ j : Nat, Ch j → ∃ (t : T) (fl : Fl) (t' : T) (a : Addr), τ[j]? = some (some (t, fl)) ∧ τ'[j]? = some (some (t', fl)) ∧ (fl = .own ∨ fl = .chg) ∧ σ[j]? = some (some (V.ref a)) ∧ Root K w H' A' a t')
    (hk : ∀ b o, (∀ j : Nat, Ch j → σ[j]? ≠ some (some (V.ref b))) → H b = some o → H' b = some o) (dm : ∀ b o, H b = some o → ∃ o', H' b = some o')
    (nw : ∀ b, A' b → A b ∨ H b = none) (ol : ∀ b, A b → A' b) (dA : ∀ b, A' b → ∃ o, H' b = some o) : Nx K w F σ τ H A τ' H' A' := by
  have back : ∀ {j : Nat} {u : T} {fl : Fl}, τ'[j]? = some (some (u, fl)) → (Ch j ∧ ∃ t a, τ[j]? = some (some (t, fl)) ∧ (fl = .own ∨ fl = .chg) ∧ σ[j]? = some (some (V.ref a)) ∧ Root K w H' A' a u) ∨ (¬ Ch j ∧ τ[j]? = some (some (u, fl))) := fun {j u fl} q => by
    by_cases hc : Ch j
    · obtain ⟨t, fl', t', a, q1, q2, q3, q4, q5⟩ := h2 j hc
      rw [q] at q2; cases q2
      exact .inl ⟨hc, t, a, q1, q3, q4, q5⟩
    · rw [h1 j hc] at q; exact .inr ⟨hc, q⟩
  have ow : ∀ b, Ow σ τ' b ↔ Ow σ τ b := fun b => by
    constructor
    · rintro ⟨j, u, fl, q1, q2, q3⟩
      rcases back q1 with ⟨_, t, a, z, _⟩ | ⟨_, z⟩
      · exact ⟨j, t, fl, z, q2, q3⟩
      · exact ⟨j, u, fl, z, q2, q3⟩
    · rintro ⟨j, u, fl, q1, q2, q3⟩
      by_cases hc : Ch j
      · obtain ⟨t, fl', t', a, z1, z2, z3, z4, z5⟩ := h2 j hc
        rw [q1] at z1; cases z1
        exact ⟨j, t', fl, z2, q2, q3⟩
      · exact ⟨j, u, fl, by rw [h1 j hc]; exact q1, q2, q3⟩
  have pr : ∀ b, Pr σ τ' b → Pr σ τ b := fun b ⟨j, u, fl, q1, q2, q3⟩ => by
    rcases back q1 with ⟨_, t, a, z, _⟩ | ⟨_, z⟩
    · exact ⟨j, t, fl, z, q2, q3⟩
    · exact ⟨j, u, fl, z, q2, q3⟩
  have cO : ∀ b j, Ch j → σ[j]? = some (some (V.ref b)) → Ow σ τ b := fun b j hc q => by
    obtain ⟨t, fl, t', a, z1, z2, z3, z4, z5⟩ := h2 j hc
    exact ⟨j, t, fl, z1, z3, q⟩
  have kO : ∀ b o, ¬ Ow σ τ b → H b = some o → H' b = some o := fun b o n q => hk b o (fun j hc z => n (cO b j hc z)) q
  have kA : ∀ b o, ¬ A b → H b = some o → H' b = some o := fun b o n q => kO b o (fun z => n (h.ow z)) q
  refine ⟨⟨by rw [hl]; exact h.len, fun b o n q => ?_, fun b o q => ?_, fun b z => ol b (h.sub b z), h.msub, dA, h.domF, fun b z => (nw b z).elim (h.nwf b) fun q => .inr (h.nn q), fun j u fl q => ?_, fun j l b ⟨u, fl1, q1, q2⟩ ⟨u', fl2, q3, q4⟩ q5 q6 => ?_⟩, ⟨kO, dm, nw, fun b z _ => ol b z⟩, ⟨fun b z => (ow b).mp z, pr, fun j ⟨x, q⟩ => ?_⟩⟩
  · refine hk b o (fun j hc z => ?_) (h.ext b o n q)
    obtain ⟨t, fl, t', a, z1, z2, z3, z4, z5⟩ := h2 j hc
    obtain ⟨v, e1, s⟩ := h.slot j t fl z1
    rw [z] at e1; cases e1
    rcases z3 with rfl | rfl
    · obtain ⟨_, e2, _, hn, _⟩ := s; cases e2; rw [hn] at q; cases q
    · obtain ⟨_, e2, _, hm, _⟩ := s; cases e2; exact n hm
  · obtain ⟨o1, q1⟩ := h.dm b o q
    exact dm b o1 q1
  · rcases back q with ⟨hc, t, a, z1, z2, z3, z4⟩ | ⟨hc, z⟩
    · obtain ⟨v, e1, s⟩ := h.slot j t fl z1
      refine ⟨v, e1, ?_⟩
      rw [z3] at e1; cases e1
      rcases z2 with rfl | rfl
      · obtain ⟨_, e2, g1, g2, _⟩ := s; cases e2; exact ⟨a, rfl, ol a g1, g2, z4⟩
      · obtain ⟨_, e2, g1, g2, g3, _⟩ := s; cases e2; exact ⟨a, rfl, ol a g1, g2, g3, z4⟩
    · obtain ⟨v, e1, s⟩ := h.slot j u fl z
      refine ⟨v, e1, ?_⟩
      have hb : ∀ b, (fl = .own ∨ fl = .chg ∨ fl = .len) → v = .ref b → ∀ o, H b = some o → H' b = some o := fun b hfl hv o q => by
        subst hv
        refine hk b o (fun m hc' z' => hc ?_) q
        obtain ⟨t, fl', t', a, y1, y2, y3, y4, y5⟩ := h2 m hc'
        have e := h.uniq j m b ⟨u, fl, z, hfl⟩ ⟨t, fl', y1, y3.elim .inl fun q => .inr (.inl q)⟩ e1 z'
        rw [e]; exact hc'
      cases fl with
      | shr => exact Rep.keep kA nw _ _ s
      | own => obtain ⟨b, rfl, g1, g2, r⟩ := s; exact ⟨b, rfl, ol b g1, g2, r.keep kA nw (hb b (.inl rfl) rfl)⟩
      | len => obtain ⟨b, rfl, g1, g2, r⟩ := s; exact ⟨b, rfl, ol b g1, g2, r.keep kA nw (hb b (.inr (.inr rfl)) rfl)⟩
      | chg => obtain ⟨b, rfl, g1, g2, g3, r⟩ := s; exact ⟨b, rfl, ol b g1, g2, g3, r.keep kA nw (hb b (.inr (.inl rfl)) rfl)⟩
      | bor => exact s
  · have f : ∀ {m : Nat} {u : T} {fl1 : Fl}, τ'[m]? = some (some (u, fl1)) → (fl1 = .own ∨ fl1 = .chg ∨ fl1 = .len) → ∃ (u : T) (fl : Fl), τ[m]? = some (some (u, fl)) ∧ (fl = .own ∨ fl = .chg ∨ fl = .len) := fun q1 q2 => by
      rcases back q1 with ⟨_, t, a, z, _⟩ | ⟨_, z⟩
      · exact ⟨t, _, z, q2⟩
      · exact ⟨_, _, z, q2⟩
    exact h.uniq j l b (f q1 q2) (f q3 q4) q5 q6
  · by_cases hc : Ch j
    · obtain ⟨t, fl', t', a, y1, y2, y3, y4, y5⟩ := h2 j hc
      exact ⟨_, y2⟩
    · exact ⟨x, by rw [h1 j hc]; exact q⟩
end

/-! ### a def's promise -/
section
variable (K : PySem.W.Frag) (w : World)
def Mset (ms : List Md) (vs : List V) : Av := fun a => ∃ i : Nat, ms[i]? = some .M ∧ vs[i]? = some (.ref a)
structure Args (H : Hp) (A : Av) (ms : List Md) (ts : List T) (vs : List V) : Prop where
  l1 : ts.length = ms.length
  l2 : vs.length = ms.length
  s : ∀ (i : Nat) t v, ms[i]? = some .S → ts[i]? = some t → vs[i]? = some v → Rep K w H A t v
  b : ∀ (i : Nat) t v, ms[i]? = some .B → ts[i]? = some t → vs[i]? = some v → Vw K w H (Mset ms vs) A t v
  m : ∀ (i : Nat) t v, ms[i]? = some .M → ts[i]? = some t → vs[i]? = some v → ∃ a, v = .ref a ∧ A a ∧ Root K w H A a t
  u : ∀ (i j : Nat) a, ms[i]? = some .M → ms[j]? = some .M → vs[i]? = some (.ref a) → vs[j]? = some (.ref a) → i = j
  dom : ∀ a, A a → ∃ o, H a = some o
def OutsOk (H : Hp) (A : Av) : List Md → List V → List T → Prop
  | [], _, outs => outs = []
  | .M :: ms, v :: vs, outs => ∃ t r a, outs = t :: r ∧ v = .ref a ∧ Root K w H A a t ∧ OutsOk H A ms vs r
  | _ :: ms, _ :: vs, outs => OutsOk H A ms vs outs
  | _ :: _, [], _ => False
/-- what is told of an exception that leaves a def -/
abbrev Exw := Str → List V → Value → Option Addr → Hp → Hp → Prop
def spF (ew : Exw) (ms : List Md) (F : Fn) : Sp := fun vs H Q E => ∃ (A : Av) (ts : List T) (r : Res), Args K w H A ms ts vs ∧ F ts = some r ∧ (match r with
  | .ret t false outs => ∀ v H', (∀ a o, ¬ Mset ms vs a → H a = some o → H' a = some o) → (∀ a o, H a = some o → ∃ o', H' a = some o') → OutsOk K w H' A ms vs outs → Rep K w H' A t v → Q v H'
  | .ret t true outs => ∀ p H', (∀ a o, ¬ Mset ms vs a → H a = some o → H' a = some o) → (∀ a o, H a = some o → ∃ o', H' a = some o') → H p = none → OutsOk K w H' (fun b => A b ∨ b = p) ms vs outs → Root K w H' (fun b => A b ∨ b = p) p t → Q (.ref p) H'
  | .exn c args => ∀ C d H' ws, (∀ a o, H a = some o → H' a = some o) → Reps K w H' A args ws → ew c ws C d H H' → E C d H')
end
section
variable {K : PySem.W.Frag} {w : World} {F : Frm} {H H' H0 : Hp} {A A' N : Av} {σ : L2.St} {τ τ' τ1 : Sl} {i : Nat} {t : T} {v : V} {a p : Addr} {o : Od}

theorem tr_s {τ : Sl} {i : Nat} {t : T} : τ.tr (.s i) = some t ↔ ∃ fl, τ[i]? = some (some (t, fl)) := by
  show (match τ[i]? with | some (some (t, _)) => some t | _ => none) = some t ↔ _
  constructor
  · intro h
    split at h
    · rename_i u fl e
      cases h
      exact ⟨fl, e⟩
    · cases h
  · rintro ⟨fl, e⟩
    rw [e]
theorem esc_tr {τ τ' : Sl} {o : Od} {t : T} (e : τ.esc o = some (t, τ')) (o2 : Od) (u : T) (h : τ.tr o2 = some u) : τ'.tr o2 = some u := by
  cases o with
  | v x => cases e; exact h
  | f x => cases e; exact h
  | s i =>
    have e' : (match τ[i]? with | some (some (t, .shr)) => some (t, τ) | some (some (t, .own)) => some (t, τ.set i (some (t, .shr))) | _ => none) = some (t, τ') := e
    split at e'
    · cases e'; exact h
    · rename_i x e1
      cases e'
      cases o2 with
      | v y => exact h
      | f y => exact h
      | s j =>
        rw [tr_s] at h ⊢
        obtain ⟨fl, h⟩ := h
        by_cases hj : j = i
        · subst hj
          rw [e1] at h; cases h
          exact ⟨_, get_set_eq e1⟩
        · exact ⟨fl, by rw [get_set_ne hj]; exact h⟩
    · cases e'
theorem argsT_tr : ∀ {ms : List Md} {os : List Od} {τ τ' : Sl} {ts : List T} {js : List Nat}, argsT τ ms os = some (ts, js, τ') → ∀ (o2 : Od) (u : T), τ.tr o2 = some u → τ'.tr o2 = some u
  | [], [], τ, τ', ts, js, e, o2, u, h => by
    unfold argsT at e; cases e; exact h
  | .S :: ms, o :: r, τ, τ', ts, js, e, o2, u, h => by
    unfold argsT at e
    split at e
    · rename_i t τ1 e1
      split at e
      · rename_i us js' τ2 e2
        cases e
        exact argsT_tr e2 o2 u (esc_tr e1 o2 u h)
      · cases e
    · cases e
  | .B :: ms, o :: r, τ, τ', ts, js, e, o2, u, h => by
    unfold argsT at e
    split at e
    · split at e
      · rename_i us js' τ2 e2
        cases e
        exact argsT_tr e2 o2 u h
      · cases e
    · cases e
  | .M :: ms, .s i :: r, τ, τ', ts, js, e, o2, u, h => by
    unfold argsT at e
    split at e
    · split at e
      · rename_i us js' τ2 e2
        cases e
        exact argsT_tr e2 o2 u h
      · cases e
    · cases e
  | .M :: ms, .v _ :: r, τ, τ', ts, js, e, o2, u, h => by unfold argsT at e; cases e
  | .M :: ms, .f _ :: r, τ, τ', ts, js, e, o2, u, h => by unfold argsT at e; cases e
  | [], _ :: _, τ, τ', ts, js, e, o2, u, h => by unfold argsT at e; cases e
  | .S :: _, [], τ, τ', ts, js, e, o2, u, h => by unfold argsT at e; cases e
  | .B :: _, [], τ, τ', ts, js, e, o2, u, h => by unfold argsT at e; cases e
  | .M :: _, [], τ, τ', ts, js, e, o2, u, h => by unfold argsT at e; cases e
/-- how the arguments lie -/
inductive Lay (K : PySem.W.Frag) (w : World) (H : Hp) (A : Av) (σ : L2.St) (τ : Sl) (bs : List Nat) : List Md → List T → List V → List Nat → Prop
  | nil : Lay K w H A σ τ bs [] [] [] []
  | s {ms ts vs js t v} : Rep K w H A t v → Lay K w H A σ τ bs ms ts vs js → Lay K w H A σ τ bs (.S :: ms) (t :: ts) (v :: vs) js
  | b {ms ts vs js t v} (o : Od) : OdV K w H A σ τ o v → τ.tr o = some t → (∀ i, o = .s i → i ∈ bs) → Lay K w H A σ τ bs ms ts vs js → Lay K w H A σ τ bs (.B :: ms) (t :: ts) (v :: vs) js
  | m {ms ts vs js t v j} : σ[j]? = some (some v) → τ.tr (.s j) = some t → Lay K w H A σ τ bs ms ts vs js → Lay K w H A σ τ bs (.M :: ms) (t :: ts) (v :: vs) (j :: js)
/-- the arguments laid ready -/
theorem args_ok (bs : List Nat) : ∀ {ms : List Md} {os : List Od} {τ τ' : Sl} {A : Av} {ts : List T} {js : List Nat} {vs : List V}, R K w F H A σ τ → OdsV K w H A σ τ os vs → argsT τ ms os = some (ts, js, τ') →
    (∀ i ∈ borT ms os, i ∈ bs) → ∃ A', Nx K w F σ τ H A τ' H A' ∧ Lay K w H A' σ τ' bs ms ts vs js
  | [], [], τ, τ', A, ts, js, vs, h, q, e, hb => by
    unfold argsT at e
    cases e
    have e1 : vs = [] := q
    subst e1
    exact ⟨A, Nx.refl h, .nil⟩
  | .S :: ms, o :: r, τ, τ', A, ts, js, vs, h, q, e, hb => by
    obtain ⟨v, vr, rfl, q1, q2⟩ := q
    unfold argsT at e
    split at e
    · rename_i t τ1 e1
      split at e
      · rename_i us js' τ2 e2
        cases e
        obtain ⟨A1, n1, r1⟩ := esc_ok h o q1 e1
        obtain ⟨A2, n2, l2⟩ := args_ok bs n1.r (q2.keep h n1) e2 fun i hi => hb i (by cases o <;> exact hi)
        exact ⟨A2, n1.trans n2, .s (n1.r.keepR n2.s r1) l2⟩
      · cases e
    · cases e
  | .B :: ms, o :: r, τ, τ', A, ts, js, vs, h, q, e, hb => by
    obtain ⟨v, vr, rfl, q1, q2⟩ := q
    unfold argsT at e
    split at e
    · rename_i t e1
      split at e
      · rename_i us js' τ2 e2
        cases e
        obtain ⟨A2, n2, l2⟩ := args_ok bs h q2 e2 fun i hi => hb i (by
          cases o with
          | s k => exact List.mem_cons_of_mem _ hi
          | _ => exact hi)
        exact ⟨A2, n2, .b o (q1.keep h n2) (argsT_tr e2 o t e1) (fun i hi => hb i (by subst hi; exact List.mem_cons_self ..)) l2⟩
      · cases e
    · cases e
  | .M :: ms, .s i :: r, τ, τ', A, ts, js, vs, h, q, e, hb => by
    obtain ⟨v, vr, rfl, q1, q2⟩ := q
    unfold argsT at e
    split at e
    · rename_i t fl e1
      split at e
      · rename_i us js' τ2 e2
        cases e
        obtain ⟨A2, n2, l2⟩ := args_ok bs h q2 e2 fun i hi => hb i hi
        exact ⟨A2, n2, .m q1.1 (argsT_tr e2 _ _ (tr_s.mpr ⟨fl, e1⟩)) l2⟩
      · cases e
    · cases e
  | .M :: ms, .v _ :: r, τ, τ', A, ts, js, vs, h, q, e, hb => by unfold argsT at e; cases e
  | .M :: ms, .f _ :: r, τ, τ', A, ts, js, vs, h, q, e, hb => by unfold argsT at e; cases e
  | [], _ :: _, τ, τ', A, ts, js, vs, h, q, e, hb => by unfold argsT at e; cases e
  | .S :: _, [], τ, τ', A, ts, js, vs, h, q, e, hb => by unfold argsT at e; cases e
  | .B :: _, [], τ, τ', A, ts, js, vs, h, q, e, hb => by unfold argsT at e; cases e
  | .M :: _, [], τ, τ', A, ts, js, vs, h, q, e, hb => by unfold argsT at e; cases e

theorem Lay.mem {bs : List Nat} {ms : List Md} {ts : List T} {vs : List V} {js : List Nat} (h : Lay K w H A σ τ bs ms ts vs js) : ∀ (k : Nat) (v : V), ms[k]? = some .M → vs[k]? = some v → ∃ j ∈ js, σ[j]? = some (some v) := by
  induction h with
  | nil => intro k v e _; simp at e
  | s r l ih => intro k v e1 e2; cases k with
    | zero => simp at e1
    | succ k => exact ih k v (by simpa using e1) (by simpa using e2)
  | b o r1 r2 r3 l ih => intro k v e1 e2; cases k with
    | zero => simp at e1
    | succ k => exact ih k v (by simpa using e1) (by simpa using e2)
  | m r1 r2 l ih => intro k v e1 e2; cases k with
    | zero => simp at e2; subst e2; exact ⟨_, List.mem_cons_self .., r1⟩
    | succ k =>
      obtain ⟨j, h1, h2⟩ := ih k v (by simpa using e1) (by simpa using e2)
      exact ⟨j, List.mem_cons_of_mem _ h1, h2⟩
theorem Lay.mem' {bs : List Nat} {ms : List Md} {ts : List T} {vs : List V} {js : List Nat} (h : Lay K w H A σ τ bs ms ts vs js) : ∀ j ∈ js, ∃ (k : Nat) (v : V), ms[k]? = some .M ∧ vs[k]? = some v ∧ σ[j]? = some (some v) := by
  induction h with
  | nil => intro j e; simp at e
  | s r l ih => intro j e; obtain ⟨k, v, h1, h2, h3⟩ := ih j e; exact ⟨k + 1, v, by simpa using h1, by simpa using h2, h3⟩
  | b o r1 r2 r3 l ih => intro j e; obtain ⟨k, v, h1, h2, h3⟩ := ih j e; exact ⟨k + 1, v, by simpa using h1, by simpa using h2, h3⟩
  | m r1 r2 l ih =>
    intro j e
    rcases List.mem_cons.mp e with rfl | e
    · exact ⟨0, _, rfl, rfl, r1⟩
    · obtain ⟨k, v, h1, h2, h3⟩ := ih j e; exact ⟨k + 1, v, by simpa using h1, by simpa using h2, h3⟩
theorem Lay.inj {bs : List Nat} {ms : List Md} {ts : List T} {vs : List V} {js : List Nat} (h : Lay K w H A σ τ bs ms ts vs js) (nd : nodupN js = true) (u : ∀ i ∈ js, ∀ j ∈ js, ∀ a, σ[i]? = some (some (V.ref a)) → σ[j]? = some (some (V.ref a)) → i = j) :
    ∀ (i j : Nat) a, ms[i]? = some .M → ms[j]? = some .M → vs[i]? = some (V.ref a) → vs[j]? = some (V.ref a) → i = j := by
  induction h with
  | nil => intro i j a e; simp at e
  | s r l ih => intro i j a e1 e2 e3 e4; cases i with
    | zero => simp at e1
    | succ i => cases j with
      | zero => simp at e2
      | succ j => rw [ih nd u i j a (by simpa using e1) (by simpa using e2) (by simpa using e3) (by simpa using e4)]
  | b o r1 r2 r3 l ih => intro i j a e1 e2 e3 e4; cases i with
    | zero => simp at e1
    | succ i => cases j with
      | zero => simp at e2
      | succ j => rw [ih nd u i j a (by simpa using e1) (by simpa using e2) (by simpa using e3) (by simpa using e4)]
  | m r1 r2 l ih =>
    rename_i j0
    unfold nodupN at nd
    simp only [Bool.and_eq_true, Bool.not_eq_true', List.contains_eq_mem, decide_eq_false_iff_not] at nd
    have no : ∀ (k : Nat) a, σ[j0]? = some (some (V.ref a)) → _ → _ → False := fun k a e1 e2 e3 => by
      obtain ⟨j', h1, h2⟩ := l.mem k (V.ref a) e2 e3
      exact nd.1 (by rw [u j0 (List.mem_cons_self ..) j' (List.mem_cons_of_mem _ h1) a e1 h2]; exact h1)
    intro i j a e1 e2 e3 e4
    cases i with
    | zero => cases j with
      | zero => rfl
      | succ j => simp at e3; subst e3; exact (no j a r1 (by simpa using e2) (by simpa using e4)).elim
    | succ i => cases j with
      | zero => simp at e4; subst e4; exact (no i a r1 (by simpa using e1) (by simpa using e3)).elim
      | succ j => rw [ih nd.2 (fun i hi j hj => u i (List.mem_cons_of_mem _ hi) j (List.mem_cons_of_mem _ hj)) i j a (by simpa using e1) (by simpa using e2) (by simpa using e3) (by simpa using e4)]
/-- what a slot of muts holds -/
theorem muts_at {js : List Nat} (h : τ.muts js = true) {j : Nat} (hj : j ∈ js) : ∃ (t : T) (fl : Fl), τ[j]? = some (some (t, fl)) ∧ (fl = .own ∨ fl = .chg) := by
  unfold Sl.muts at h
  rw [List.all_eq_true] at h
  have := h j hj
  split at this
  · rename_i t e; exact ⟨t, _, e, .inl rfl⟩
  · rename_i t e; exact ⟨t, _, e, .inr rfl⟩
  · cases this
theorem own_at (h : R K w F H A σ τ) {fl : Fl} (e1 : τ[i]? = some (some (t, fl))) (hf : fl = .own ∨ fl = .chg) : ∃ a, σ[i]? = some (some (V.ref a)) ∧ A a ∧ Root K w H A a t := by
  obtain ⟨v, e2, s⟩ := h.slot i _ _ e1
  rcases hf with rfl | rfl
  · obtain ⟨a, rfl, h1, _, r⟩ := s; exact ⟨a, e2, h1, r⟩
  · obtain ⟨a, rfl, h1, _, _, r⟩ := s; exact ⟨a, e2, h1, r⟩
theorem Lay.args {bs : List Nat} {ms : List Md} {ts : List T} {vs : List V} {js : List Nat} (R0 : R K w F H A σ τ) (h : Lay K w H A σ τ bs ms ts vs js) (hm : τ.muts js = true) (nd : nodupN js = true) (hb : ∀ i ∈ bs, i ∉ js) : Args K w H A ms ts vs := by
  have hM : ∀ a, Mset ms vs a → ∃ j ∈ js, σ[j]? = some (some (V.ref a)) := fun a ⟨i, e1, e2⟩ => h.mem i _ e1 e2
  have hA : ∀ a, Mset ms vs a → Ow σ τ a := fun a z => by
    obtain ⟨j, hj, e⟩ := hM a z
    obtain ⟨t, fl, e1, hf⟩ := muts_at hm hj
    exact ⟨j, t, fl, e1, hf, e⟩
  have hu : ∀ i ∈ js, ∀ j ∈ js, ∀ a, σ[i]? = some (some (V.ref a)) → σ[j]? = some (some (V.ref a)) → i = j := fun i hi j hj a e1 e2 => by
    obtain ⟨t, fl, e3, hf⟩ := muts_at hm hi
    obtain ⟨t', fl', e4, hf'⟩ := muts_at hm hj
    exact R0.uniq i j a ⟨t, fl, e3, hf.elim .inl fun z => .inr (.inl z)⟩ ⟨t', fl', e4, hf'.elim .inl fun z => .inr (.inl z)⟩ e1 e2
  have inj := h.inj nd hu
  have l : ts.length = ms.length ∧ vs.length = ms.length := by
    clear hM hA inj hb nd hm hu
    induction h with
    | nil => exact ⟨rfl, rfl⟩
    | s r l ih => exact ⟨by simp [ih.1], by simp [ih.2]⟩
    | b o r1 r2 r3 l ih => exact ⟨by simp [ih.1], by simp [ih.2]⟩
    | m r1 r2 l ih => exact ⟨by simp [ih.1], by simp [ih.2]⟩
  -- element by element
  have el : ∀ (N : Av), (∀ a, N a → Ow σ τ a) → (∀ a, N a → ∃ j ∈ js, σ[j]? = some (some (V.ref a))) → ∀ {ms' : List Md} {ts' : List T} {vs' : List V} {js' : List Nat}, Lay K w H A σ τ bs ms' ts' vs' js' → (∀ j ∈ js', j ∈ js) →
      (∀ (i : Nat) t v, ms'[i]? = some .S → ts'[i]? = some t → vs'[i]? = some v → Rep K w H A t v) ∧
      (∀ (i : Nat) t v, ms'[i]? = some .B → ts'[i]? = some t → vs'[i]? = some v → Vw K w H N A t v) ∧
      (∀ (i : Nat) t v, ms'[i]? = some .M → ts'[i]? = some t → vs'[i]? = some v → ∃ a, v = .ref a ∧ A a ∧ Root K w H A a t) := by
    intro N hN hN' ms' ts' vs' js' h'
    induction h' with
    | nil => intro _; exact ⟨fun i t v e => by simp at e, fun i t v e => by simp at e, fun i t v e => by simp at e⟩
    | s r l ih =>
      intro hj
      obtain ⟨a1, a2, a3⟩ := ih hj
      refine ⟨fun i t v e1 e2 e3 => ?_, fun i t v e1 e2 e3 => ?_, fun i t v e1 e2 e3 => ?_⟩
      · cases i with
        | zero => simp at e2 e3; subst e2; subst e3; exact r
        | succ i => exact a1 i t v (by simpa using e1) (by simpa using e2) (by simpa using e3)
      · cases i with
        | zero => simp at e1
        | succ i => exact a2 i t v (by simpa using e1) (by simpa using e2) (by simpa using e3)
      · cases i with
        | zero => simp at e1
        | succ i => exact a3 i t v (by simpa using e1) (by simpa using e2) (by simpa using e3)
    | b o r1 r2 r3 l ih =>
      intro hj
      obtain ⟨a1, a2, a3⟩ := ih hj
      refine ⟨fun i t v e1 e2 e3 => ?_, fun i t v e1 e2 e3 => ?_, fun i t v e1 e2 e3 => ?_⟩
      · cases i with
        | zero => simp at e1
        | succ i => exact a1 i t v (by simpa using e1) (by simpa using e2) (by simpa using e3)
      · cases i with
        | zero =>
          simp at e2 e3; subst e2; subst e3
          cases o with
          | v u =>
            have e' : u = _ := Option.some.inj r2
            subst e'
            exact Vw.of r1 fun b z => .inl (R0.ow (hN b z))
          | f u => exact r1.elim
          | s k =>
            obtain ⟨q1, _⟩ := r1
            obtain ⟨fl, e4⟩ := tr_s.mp r2
            obtain ⟨v', e5, s⟩ := R0.slot k _ fl e4
            rw [q1] at e5; cases e5
            have hk : k ∉ js := hb k (r3 k rfl)
            have nN : ∀ a, σ[k]? = some (some (V.ref a)) → (fl = .own ∨ fl = .chg ∨ fl = .len) → ¬ N a := fun a ha hf z => by
              obtain ⟨j, hj, e⟩ := hN' a z
              obtain ⟨t', fl', e6, hf'⟩ := muts_at hm hj
              exact hk (by rw [R0.uniq k j a ⟨_, _, e4, hf⟩ ⟨_, _, e6, hf'.elim .inl fun z => .inr (.inl z)⟩ ha e]; exact hj)
            cases fl with
            | shr => exact Vw.of s fun b z => .inl (R0.ow (hN b z))
            | own => obtain ⟨a, rfl, _, _, r⟩ := s; exact r.vw (nN a q1 (.inl rfl))
            | len => obtain ⟨a, rfl, _, _, r⟩ := s; exact r.vw (nN a q1 (.inr (.inr rfl)))
            | chg => obtain ⟨a, rfl, _, _, _, r⟩ := s; exact r.vw (nN a q1 (.inr (.inl rfl)))
            | bor => exact R0.borN s fun b z => R0.owF (hN b z)
        | succ i => exact a2 i t v (by simpa using e1) (by simpa using e2) (by simpa using e3)
      · cases i with
        | zero => simp at e1
        | succ i => exact a3 i t v (by simpa using e1) (by simpa using e2) (by simpa using e3)
    | m r1 r2 l ih =>
      intro hj
      obtain ⟨a1, a2, a3⟩ := ih fun j h => hj j (List.mem_cons_of_mem _ h)
      refine ⟨fun i t v e1 e2 e3 => ?_, fun i t v e1 e2 e3 => ?_, fun i t v e1 e2 e3 => ?_⟩
      · cases i with
        | zero => simp at e1
        | succ i => exact a1 i t v (by simpa using e1) (by simpa using e2) (by simpa using e3)
      · cases i with
        | zero => simp at e1
        | succ i => exact a2 i t v (by simpa using e1) (by simpa using e2) (by simpa using e3)
      · cases i with
        | zero =>
          simp at e2 e3; subst e2; subst e3
          obtain ⟨t', fl, e4, hf⟩ := muts_at hm (hj _ (List.mem_cons_self ..))
          obtain ⟨fl', e5⟩ := tr_s.mp r2
          rw [e4] at e5; cases e5
          obtain ⟨a, e6, e7, e8⟩ := own_at R0 e4 hf
          rw [r1] at e6; cases e6
          exact ⟨a, rfl, e7, e8⟩
        | succ i => exact a3 i t v (by simpa using e1) (by simpa using e2) (by simpa using e3)
  obtain ⟨c1, c2, c3⟩ := el (Mset ms vs) hA hM h fun j h => h
  exact ⟨l.1, l.2, c1, c2, c3, inj, R0.dom⟩
end
end Dt
set_option maxHeartbeats 4000000
/-! Dt7: behind a call. -/
namespace Dt
open PySem PySem.Spec PyProof.Rows L2

section
variable {K : PySem.W.Frag} {w : World} {F : Frm} {H H' H0 : Hp} {A A' N : Av} {σ : L2.St} {τ τ' τ1 : Sl} {i : Nat} {t : T} {v : V} {a p : Addr} {o : Od}
theorem puts_get : ∀ {js : List Nat} {outs : List T} {τ τ3 : Sl}, τ.puts js outs = some τ3 → nodupN js = true → τ3.length = τ.length ∧ (∀ j : Nat, j ∉ js → τ3[j]? = τ[j]?) ∧ js.length = outs.length ∧
    (∀ (k j : Nat) (t : T), js[k]? = some j → outs[k]? = some t → ∃ t0 fl, τ[j]? = some (some (t0, fl)) ∧ τ3[j]? = some (some (t, fl)))
  | [], [], τ, τ3, e, _ => by
    unfold Sl.puts at e; cases e
    exact ⟨rfl, fun _ _ => rfl, rfl, fun k j t h => by simp at h⟩
  | [], _ :: _, τ, τ3, e, _ => by unfold Sl.puts at e; cases e
  | _ :: _, [], τ, τ3, e, _ => by unfold Sl.puts at e; cases e
  | j :: js, t :: ts, τ, τ3, e, nd => by
    unfold Sl.puts at e
    unfold nodupN at nd
    simp only [Bool.and_eq_true, Bool.not_eq_true', List.contains_eq_mem, decide_eq_false_iff_not] at nd
    split at e
    · rename_i t0 fl e0
      obtain ⟨h1, h2, h3, h4⟩ := puts_get e nd.2
      refine ⟨by rw [h1, List.length_set], fun k hk => ?_, by simp [h3], fun k l u q1 q2 => ?_⟩
      · rw [h2 k fun z => hk (List.mem_cons_of_mem _ z), get_set_ne fun z => hk (by rw [z]; exact List.mem_cons_self ..)]
      · cases k with
        | zero =>
          simp at q1 q2; subst q1; subst q2
          exact ⟨t0, fl, e0, by rw [h2 j nd.1, get_set_eq e0]⟩
        | succ k =>
          simp at q1 q2
          obtain ⟨t1, fl1, g1, g2⟩ := h4 k l u q1 q2
          have hl : l ≠ j := fun z => nd.1 (z ▸ List.mem_of_getElem? q1)
          rw [get_set_ne hl] at g1
          exact ⟨t1, fl1, g1, g2⟩
    · cases e
theorem Lay.outs {bs : List Nat} {ms : List Md} {ts : List T} {vs : List V} {js : List Nat} (h : Lay K w H A σ τ bs ms ts vs js) : ∀ {outs : List T}, OutsOk K w H' A' ms vs outs → ∀ (k j : Nat), js[k]? = some j → ∃ t a, outs[k]? = some t ∧ σ[j]? = some (some (V.ref a)) ∧ Root K w H' A' a t := by
  induction h with
  | nil => intro outs _ k j e; simp at e
  | s r l ih => intro outs g k j e; exact ih g k j e
  | b o r1 r2 r3 l ih => intro outs g k j e; exact ih g k j e
  | m r1 r2 l ih =>
    intro outs g k j e
    obtain ⟨t, r, a, e1, e2, e3, e4⟩ := g
    subst e1; subst e2
    cases k with
    | zero => simp at e; subst e; exact ⟨t, a, rfl, r1, e3⟩
    | succ k =>
      obtain ⟨t', a', q1, q2, q3⟩ := ih e4 k j (by simpa using e)
      exact ⟨t', a', by simpa using q1, q2, q3⟩
theorem puts_ok {bs : List Nat} {ms : List Md} {ts : List T} {vs : List V} {js : List Nat} {outs : List T} {τ3 : Sl} (h : R K w F H A σ τ) (l : Lay K w H A σ τ bs ms ts vs js) (hm : τ.muts js = true) (nd : nodupN js = true) (hp : τ.puts js outs = some τ3)
    (kp : ∀ a o, ¬ Mset ms vs a → H a = some o → H' a = some o) (dm : ∀ a o, H a = some o → ∃ o', H' a = some o') (g : OutsOk K w H' A' ms vs outs) (nw : ∀ b, A' b → A b ∨ H b = none) (ol : ∀ b, A b → A' b) (dA : ∀ b, A' b → ∃ o, H' b = some o) :
    Nx K w F σ τ H A τ3 H' A' := by
  obtain ⟨h1, h2, h3, h4⟩ := puts_get hp nd
  refine multi h (fun j => j ∈ js) h1 h2 (fun j hj => ?_) (fun b o n q => kp b o (fun ⟨k, z1, z2⟩ => ?_) q) dm nw ol dA
  · obtain ⟨k, hk⟩ := List.getElem?_of_mem hj
    obtain ⟨t, a, e1, e2, e3⟩ := l.outs g k j hk
    obtain ⟨t0, fl, e4, e5⟩ := h4 k j t hk e1
    obtain ⟨t1, fl1, e6, hf⟩ := muts_at hm hj
    rw [e4] at e6; cases e6
    exact ⟨t0, fl, t, a, e4, e5, hf, e2, e3⟩
  · obtain ⟨j, hj, e⟩ := l.mem k _ z1 z2
    exact n j hj e
theorem wCall {ew : Exw} {ms : List Md} {G : Fn} {f : Sems} {E : XK} {Q : VK} (h : TX K w (sCall ms G f) σ H Q) : tCall (spF K w ew ms G) [] E (TXs K w f) σ H Q := by
  obtain ⟨F, A, τ, o, τ', R0, e, q⟩ := h
  unfold sCall at e
  split at e
  · rename_i xs τ1 e1
    split at e
    · rename_i ts js τ2 e2
      split at e
      · rename_i hc
        split at e
        · rename_i t b outs e3
          split at e
          · rename_i τ3 e4
            cases e
            refine ⟨F, A, τ, xs, τ1, R0, e1, fun vs H1 A1 n1 r1 => ?_⟩
            simp only [Bool.and_eq_true] at hc
            obtain ⟨A2, n2, l⟩ := args_ok (borT ms xs) n1.r r1 e2 fun i hi => hi
            have ar := l.args n2.r hc.1.1 hc.1.2 fun i hi z => by
              have := List.all_eq_true.mp hc.2 i hi
              simp [z] at this
            rw [List.append_nil]
            refine ⟨A2, ts, _, ar, e3, ?_⟩
            cases b with
            | false =>
              intro v H2 kp dm og r
              have n3 := puts_ok (A' := A2) n2.r l hc.1.1 hc.1.2 e4 kp dm og (fun _ z => .inl z) (fun _ z => z) fun b z => by
                obtain ⟨o, e⟩ := n2.r.dom b z
                exact dm b o e
              exact q v H2 A2 ((n1.trans n2).trans n3) r
            | true =>
              intro p H2 kp dm e0 og r
              have n3 := puts_ok (A' := fun b => A2 b ∨ b = p) n2.r l hc.1.1 hc.1.2 e4 kp dm og (fun _ z => z.imp id fun z => by rw [z]; exact e0) (fun _ z => .inl z) fun b z => by
                rcases z with z | rfl
                · obtain ⟨o, e⟩ := n2.r.dom b z
                  exact dm b o e
                · exact r.there
              refine q (.ref p) H2 _ ((n1.trans n2).trans n3) ⟨p, rfl, ?_, .inr rfl, r⟩
              cases z : H p with
              | none => rfl
              | some u => obtain ⟨u', z'⟩ := n1.s.dm p u z; rw [z'] at e0; cases e0
          · cases e
        · cases e
      · cases e
    · cases e
  · cases e
/-! ### tests, and, or, not, if -/
theorem wTst {fa : Sem} {Q : Bool → Hp → Prop} (h : TXt K w (tstOf fa) σ H Q) : TX K w fa σ H fun v H1 => ∃ b, v = .bl b ∧ Q b H1 := by
  obtain ⟨F, A, τ, o, τ', R0, e, q⟩ := h
  unfold tstOf at e
  split at e
  · rename_i x τ1 e1
    split at e
    · rename_i b e2
      cases e
      refine ⟨F, A, τ, x, _, R0, e1, fun v H1 A1 n1 r1 => ?_⟩
      have hv : v = .bl o := by
        obtain ⟨A2, n2, r2⟩ := share R0 n1 x r1
        have e2' : τ'.tr x.sh = some (.bl o) := by cases x <;> exact e2
        exact vw_bl (r2.vw n2.r e2')
      exact ⟨o, hv, q H1 A1 n1⟩
    · cases e
  · cases e
end
end Dt
set_option maxHeartbeats 4000000
/-! Dt8: tests, and, or, not, if, displays. -/
namespace Dt
open PySem PySem.Spec PyProof.Rows L2

section
variable {K : PySem.W.Frag} {w : World} {F : Frm} {H H' H0 : Hp} {A A' N : Av} {σ : L2.St} {τ τ' τ1 : Sl} {i : Nat} {t : T} {v : V} {a p : Addr} {o : Od}
theorem od_tr (h : R K w F H A σ τ) (n : Nx K w F σ τ H A τ' H' A') (q : OdOk K w H H' A' σ τ' o v) (e : τ'.tr o = some t) : ∃ A2, Nx K w F σ τ H A τ' H' A2 ∧ Vw K w H' (fun _ => False) A2 t v := by
  obtain ⟨A2, n2, r2⟩ := share h n o q
  have e2 : τ'.tr o.sh = some t := by cases o <;> exact e
  exact ⟨A2, n2, r2.vw n2.r e2⟩
theorem od_bl (h : R K w F H A σ τ) (n : Nx K w F σ τ H A τ' H' A') (q : OdOk K w H H' A' σ τ' o v) {b : Bool} (e : τ'.tr o = some (.bl b)) : v = .bl b := by
  obtain ⟨A2, n2, r2⟩ := od_tr h n q e
  exact vw_bl r2
theorem od_int (h : R K w F H A σ τ) (n : Nx K w F σ τ H A τ' H' A') (q : OdOk K w H H' A' σ τ' o v) {b : Int} (e : τ'.tr o = some (.int b)) : v = .int b := by
  obtain ⟨A2, n2, r2⟩ := od_tr h n q e
  exact vw_int r2
theorem tstOf_some {f : Sem} {b : Bool} (e : tstOf f τ = some (b, τ')) : ∃ x, f τ = some (x, τ') ∧ τ'.tr x = some (.bl b) := by
  unfold tstOf at e
  split at e
  · rename_i x τ1 e1
    split at e
    · rename_i b e2
      cases e
      exact ⟨x, e1, e2⟩
    · cases e
  · cases e
theorem semOf_some {f : Tst} {o : Od} (e : semOf f τ = some (o, τ')) : ∃ b, f τ = some (b, τ') ∧ o = .v (.bl b) := by
  unfold semOf at e
  split at e
  · rename_i b τ1 e1
    cases e
    exact ⟨b, e1, rfl⟩
  · cases e
theorem tAnd_some {a b : Tst} {c : Bool} (e : tAndS a b τ = some (c, τ')) : (∃ τ1, a τ = some (true, τ1) ∧ b τ1 = some (c, τ')) ∨ (a τ = some (false, τ') ∧ c = false) := by
  unfold tAndS at e
  split at e
  · rename_i τ1 e1; exact .inl ⟨τ1, e1, e⟩
  · rename_i τ1 e1; cases e; exact .inr ⟨e1, rfl⟩
  · cases e
theorem tOr_some {a b : Tst} {c : Bool} (e : tOrS a b τ = some (c, τ')) : (∃ τ1, a τ = some (false, τ1) ∧ b τ1 = some (c, τ')) ∨ (a τ = some (true, τ') ∧ c = true) := by
  unfold tOrS at e
  split at e
  · rename_i τ1 e1; cases e; exact .inr ⟨e1, rfl⟩
  · rename_i τ1 e1; exact .inl ⟨τ1, e1, e⟩
  · cases e
theorem tNot_some {a : Tst} {c : Bool} (e : tNotS a τ = some (c, τ')) : a τ = some (!c, τ') := by
  unfold tNotS at e
  split at e
  · rename_i b τ1 e1; cases e; rw [Bool.not_not]; exact e1
  · cases e
end
section
variable {K : PySem.W.Frag} {w : World} {fa fb fc : Sem} {ga gb gc : Tst} {σ : L2.St} {H : Hp}
/-! ### as values -/
theorem wAndV {Q : VK} (h : TX K w (semOf (tAndS (tstOf fa) (tstOf fb))) σ H Q) : tAndV (TX K w fa) (TX K w fb) σ H Q := by
  obtain ⟨F, A, τ, o, τ', R0, e, q⟩ := h
  obtain ⟨c, e9, rfl⟩ := semOf_some e
  rcases tAnd_some e9 with ⟨τ1, e1, e2⟩ | ⟨e1, rfl⟩
  · obtain ⟨x, e1, e3⟩ := tstOf_some e1
    obtain ⟨y, e2, e4⟩ := tstOf_some e2
    refine ⟨F, A, τ, x, τ1, R0, e1, fun v H1 A1 n1 r1 => ⟨true, od_bl R0 n1 r1 e3, ?_⟩⟩
    rw [if_pos rfl]
    refine ⟨F, A1, τ1, y, τ', n1.r, e2, fun v2 H2 A2 n2 r2 => ?_⟩
    have := od_bl n1.r n2 r2 e4
    subst this
    exact q _ H2 A2 (n1.trans n2) (rp_bl (K := K) (w := w) (H := H2) (A := A2))
  · obtain ⟨x, e1, e3⟩ := tstOf_some e1
    refine ⟨F, A, τ, x, τ', R0, e1, fun v H1 A1 n1 r1 => ⟨false, od_bl R0 n1 r1 e3, ?_⟩⟩
    rw [if_neg Bool.false_ne_true]
    exact q _ H1 A1 n1 (rp_bl (K := K) (w := w) (H := H1) (A := A1))
theorem wOrV {Q : VK} (h : TX K w (semOf (tOrS (tstOf fa) (tstOf fb))) σ H Q) : tOrV (TX K w fa) (TX K w fb) σ H Q := by
  obtain ⟨F, A, τ, o, τ', R0, e, q⟩ := h
  obtain ⟨c, e9, rfl⟩ := semOf_some e
  rcases tOr_some e9 with ⟨τ1, e1, e2⟩ | ⟨e1, rfl⟩
  · obtain ⟨x, e1, e3⟩ := tstOf_some e1
    obtain ⟨y, e2, e4⟩ := tstOf_some e2
    refine ⟨F, A, τ, x, τ1, R0, e1, fun v H1 A1 n1 r1 => ⟨false, od_bl R0 n1 r1 e3, ?_⟩⟩
    rw [if_neg Bool.false_ne_true]
    refine ⟨F, A1, τ1, y, τ', n1.r, e2, fun v2 H2 A2 n2 r2 => ?_⟩
    have := od_bl n1.r n2 r2 e4
    subst this
    exact q _ H2 A2 (n1.trans n2) (rp_bl (K := K) (w := w) (H := H2) (A := A2))
  · obtain ⟨x, e1, e3⟩ := tstOf_some e1
    refine ⟨F, A, τ, x, τ', R0, e1, fun v H1 A1 n1 r1 => ⟨true, od_bl R0 n1 r1 e3, ?_⟩⟩
    rw [if_pos rfl]
    exact q _ H1 A1 n1 (rp_bl (K := K) (w := w) (H := H1) (A := A1))
theorem wNotV {Q : VK} (h : TX K w (semOf (tNotS (tstOf fa))) σ H Q) : tNotV (TX K w fa) σ H Q := by
  obtain ⟨F, A, τ, o, τ', R0, e, q⟩ := h
  obtain ⟨c, e9, rfl⟩ := semOf_some e
  obtain ⟨x, e1, e3⟩ := tstOf_some (tNot_some e9)
  refine ⟨F, A, τ, x, τ', R0, e1, fun v H1 A1 n1 r1 => ⟨!c, od_bl R0 n1 r1 e3, ?_⟩⟩
  show Q (.bl (!!c)) H1
  rw [Bool.not_not]
  exact q _ H1 A1 n1 (rp_bl (K := K) (w := w) (H := H1) (A := A1))
theorem iteTT {A B : Prop} (h : A) : (fun c : Bool => if c = true then A else B) true := h
theorem iteFF {A B : Prop} (h : B) : (fun c : Bool => if c = true then A else B) false := iteF h
/-! ### as tests -/
theorem wB {Q : Bool → Hp → Prop} (h : TXt K w (tstOf fa) σ H Q) : tB (TX K w fa) σ H Q := wTst h
theorem wAndT {Q : Bool → Hp → Prop} (h : TXt K w (tAndS ga gb) σ H Q) : tAnd (TXt K w ga) (TXt K w gb) σ H Q := by
  obtain ⟨F, A, τ, c, τ', R0, e, q⟩ := h
  rcases tAnd_some e with ⟨τ1, e1, e2⟩ | ⟨e1, rfl⟩
  · refine ⟨F, A, τ, true, τ1, R0, e1, fun H1 A1 n1 => ?_⟩
    show if true = true then _ else _
    rw [if_pos rfl]
    exact ⟨F, A1, τ1, c, τ', n1.r, e2, fun H2 A2 n2 => q H2 A2 (n1.trans n2)⟩
  · refine ⟨F, A, τ, false, τ', R0, e1, fun H1 A1 n1 => ?_⟩
    show if false = true then _ else _
    rw [if_neg Bool.false_ne_true]
    exact q H1 A1 n1
theorem wOrT {Q : Bool → Hp → Prop} (h : TXt K w (tOrS ga gb) σ H Q) : tOr (TXt K w ga) (TXt K w gb) σ H Q := by
  obtain ⟨F, A, τ, c, τ', R0, e, q⟩ := h
  rcases tOr_some e with ⟨τ1, e1, e2⟩ | ⟨e1, rfl⟩
  · refine ⟨F, A, τ, false, τ1, R0, e1, fun H1 A1 n1 => ?_⟩
    show if false = true then _ else _
    rw [if_neg Bool.false_ne_true]
    exact ⟨F, A1, τ1, c, τ', n1.r, e2, fun H2 A2 n2 => q H2 A2 (n1.trans n2)⟩
  · refine ⟨F, A, τ, true, τ', R0, e1, fun H1 A1 n1 => ?_⟩
    show if true = true then _ else _
    rw [if_pos rfl]
    exact q H1 A1 n1
theorem wNotT {Q : Bool → Hp → Prop} (h : TXt K w (tNotS ga) σ H Q) : tNot (TXt K w ga) σ H Q := by
  obtain ⟨F, A, τ, c, τ', R0, e, q⟩ := h
  refine ⟨F, A, τ, !c, τ', R0, tNot_some e, fun H1 A1 n1 => ?_⟩
  show Q (!!c) H1
  rw [Bool.not_not]
  exact q H1 A1 n1
theorem wIf {Q : VK} (h : TX K w (sIf gc fa fb) σ H Q) : tIf (TXt K w gc) (TX K w fa) (TX K w fb) σ H Q := by
  obtain ⟨F, A, τ, o, τ', R0, e, q⟩ := h
  unfold sIf at e
  split at e
  · rename_i τ1 e1
    refine ⟨F, A, τ, true, τ1, R0, e1, fun H1 A1 n1 => ?_⟩
    show if true = true then _ else _
    rw [if_pos rfl]
    exact ⟨F, A1, τ1, o, τ', n1.r, e, fun v H2 A2 n2 r2 => q v H2 A2 (n1.trans n2) (r2.back n1.s.dm)⟩
  · rename_i τ1 e1
    refine ⟨F, A, τ, false, τ1, R0, e1, fun H1 A1 n1 => ?_⟩
    show if false = true then _ else _
    rw [if_neg Bool.false_ne_true]
    exact ⟨F, A1, τ1, o, τ', n1.r, e, fun v H2 A2 n2 r2 => q v H2 A2 (n1.trans n2) (r2.back n1.s.dm)⟩
  · cases e
/-! ### displays -/
theorem wTup {f : Sems} {Q : VK} (h : TX K w (sTup f) σ H Q) : tTup (TXs K w f) σ H Q := by
  obtain ⟨F, A, τ, o, τ', R0, e, q⟩ := h
  unfold sTup at e
  split at e
  · rename_i xs τ1 e1
    split at e
    · rename_i ts τ2 e2
      split at e
      · rename_i hz
        cases e
        refine ⟨F, A, τ, xs, τ1, R0, e1, fun vs H1 A1 n1 r1 => ?_⟩
        obtain ⟨A2, n2, r2⟩ := escs_ok n1.r r1 e2
        refine ⟨by rw [r2.length]; exact hz, fun p hp => ?_⟩
        obtain ⟨n3, r3⟩ := newT n2.r r2 hp
        exact q _ _ _ ((n1.trans n2).trans n3) (r3.back n1.s.dm)
      · cases e
    · cases e
  · cases e
theorem wLst {f : Sems} {Q : VK} (h : TX K w (sLst f) σ H Q) : tLst (TXs K w f) σ H Q := by
  obtain ⟨F, A, τ, o, τ', R0, e, q⟩ := h
  unfold sLst at e
  split at e
  · rename_i xs τ1 e1
    split at e
    · rename_i ts τ2 e2
      split at e
      · rename_i hz
        cases e
        refine ⟨F, A, τ, xs, τ1, R0, e1, fun vs H1 A1 n1 r1 => ?_⟩
        obtain ⟨A2, n2, r2⟩ := escs_ok n1.r r1 e2
        refine ⟨by rw [r2.length]; exact hz, fun p hp => ?_⟩
        obtain ⟨n3, r3⟩ := newL n2.r r2 hp
        exact q _ _ _ ((n1.trans n2).trans n3) (r3.back n1.s.dm)
      · cases e
    · cases e
  · cases e
/-- is None -/
theorem wIsN {Q : VK} (h : TX K w (sIsN false fa) σ H Q) : tIsN (TX K w fa) σ H Q := by
  refine w1 (r := fun x H Q => Q (.bl (decide (x = .non))) H) (fun F H A σ τ t o x Q R0 vw e q => ?_) h
  cases e
  have : decide (x = V.non) = isNone t := by
    cases t with
    | non => rw [vw_non vw]; rfl
    | bl b => rw [vw_bl vw]; rfl
    | int b => rw [vw_int vw]; rfl
    | str b => rw [vw_str vw]; rfl
    | tup l => obtain ⟨a, vs, rfl, _⟩ := vw_tup vw; rfl
    | lst l => obtain ⟨a, vs, rfl, _⟩ := vw; rfl
    | dct l => obtain ⟨a, vs, rfl, _⟩ := vw; rfl
  rw [this]
  exact q _ H A (Nx.refl R0) (rp_bl (K := K) (w := w) (H := H) (A := A))
theorem wNotN {Q : VK} (h : TX K w (sIsN true fa) σ H Q) : tNotN (TX K w fa) σ H Q := by
  refine w1 (r := fun x H Q => Q (.bl (!decide (x = .non))) H) (fun F H A σ τ t o x Q R0 vw e q => ?_) h
  cases e
  have : decide (x = V.non) = isNone t := by
    cases t with
    | non => rw [vw_non vw]; rfl
    | bl b => rw [vw_bl vw]; rfl
    | int b => rw [vw_int vw]; rfl
    | str b => rw [vw_str vw]; rfl
    | tup l => obtain ⟨a, vs, rfl, _⟩ := vw_tup vw; rfl
    | lst l => obtain ⟨a, vs, rfl, _⟩ := vw; rfl
    | dct l => obtain ⟨a, vs, rfl, _⟩ := vw; rfl
  rw [this]
  exact q _ H A (Nx.refl R0) (rp_bl (K := K) (w := w) (H := H) (A := A))
end
end Dt
set_option maxHeartbeats 4000000
/-! Dt9: what a loop walks. -/
namespace Dt
open PySem PySem.Spec PyProof.Rows L2

section
variable (K : PySem.W.Frag) (w : World)
/-- an iterator's items, by what it must find in memory -/
structure Wk (J : It) (l : List T) (Hd : Hp → Av → Av → Prop) : Prop where
  keep : ∀ {H A O H' A' O'}, Hd H A O → (∀ b o, ¬ O b → H b = some o → H' b = some o) → (∀ b, O' b → O b ∨ H b = none) → (∀ b o, ¬ A b → H b = some o → H' b = some o) → (∀ b, A' b → A b ∨ H b = none) → Hd H' A' O'
  go : ∀ {i : Nat} {H A O}, Hd H A O → i < l.length → J.go i H
  stop : ∀ {i : Nat} {H A O}, Hd H A O → l.length ≤ i → J.stop i H
  yld : ∀ {i : Nat} {H A O x H'}, Hd H A O → J.yld i H x H' → ∀ {t}, l[i]? = some t → (H' = H ∧ Rep K w H A t x) ∨ ∃ p xs ts, H p = none ∧ H' = upd H p (.tup xs) ∧ x = .ref p ∧ t = .tup ts ∧ Reps K w H A ts xs
/-- a source in memory -/
def TI' (s : Src) : TI := fun σ H R' => ∃ (F : Frm) (A : Av) (τ : Sl) (l : List T) (τ' : Sl), R K w F H A σ τ ∧ s τ = some (l, τ') ∧
  ∀ J Hd H' A', Nx K w F σ τ H A τ' H' A' → Wk K w J l Hd → Hd H' A' (Ow σ τ') → R' J H'
end
section
variable {K : PySem.W.Frag} {w : World} {F : Frm} {H H' H0 : Hp} {A A' N : Av} {σ : L2.St} {τ τ' τ1 : Sl} {i : Nat} {t : T} {v : V} {a p : Addr} {o : Od}
theorem wk_list {a : Addr} {l : List T} : Wk K w (Itl K a) l (fun H A O => ∃ vs, LVw H O a vs ∧ Reps K w H A l vs) where
  keep := fun ⟨vs, h1, h2⟩ k e kA eA => ⟨vs, h1.keep k e, Reps.keep kA eA _ _ h2⟩
  go := fun {i} _ _ _ ⟨vs, h1, h2⟩ hi => by
    have hi' : i < vs.length := by rw [h2.length]; exact hi
    exact ⟨vs, vs[i], h1.sq, by simp [hi']⟩
  stop := fun {i} _ _ _ ⟨vs, h1, h2⟩ hi => ⟨vs, h1.sq, by rw [h2.length]; exact hi⟩
  yld := fun {i H A O x H'} ⟨vs, h1, h2⟩ y {t} e => by
    obtain ⟨e1, e2⟩ := y
    obtain ⟨v, g1, g2⟩ := h2.get e
    rw [e2 vs h1.sq] at g1; cases g1
    exact .inl ⟨e1, g2⟩
theorem wk_tup {a : Addr} {l : List T} : Wk K w (Itt K a) l (fun H A O => ∃ vs, TAt K H A a vs ∧ Reps K w H A l vs) where
  keep := fun ⟨vs, h1, h2⟩ k e kA eA => ⟨vs, h1.keep kA eA, Reps.keep kA eA _ _ h2⟩
  go := fun {i} _ _ _ ⟨vs, h1, h2⟩ hi => by
    have hi' : i < vs.length := by rw [h2.length]; exact hi
    exact ⟨vs, vs[i], h1.sq, by simp [hi']⟩
  stop := fun {i} _ _ _ ⟨vs, h1, h2⟩ hi => ⟨vs, h1.sq, by rw [h2.length]; exact hi⟩
  yld := fun {i H A O x H'} ⟨vs, h1, h2⟩ y {t} e => by
    obtain ⟨e1, e2⟩ := y
    obtain ⟨v, g1, g2⟩ := h2.get e
    rw [e2 vs h1.sq] at g1; cases g1
    exact .inl ⟨e1, g2⟩
theorem enum_get : ∀ {l : List T} {n i : Nat} {t : T}, (enumT n l)[i]? = some t → ∃ x, l[i]? = some x ∧ t = .tup [.int ((n + i : Nat) : Int), x]
  | [], n, i, t, h => by simp [enumT] at h
  | x :: r, n, 0, t, h => by simp [enumT] at h; exact ⟨x, rfl, by rw [← h]; rfl⟩
  | x :: r, n, i + 1, t, h => by
    have h' : (enumT (n + 1) r)[i]? = some t := h
    obtain ⟨y, h1, h2⟩ := enum_get h'
    exact ⟨y, h1, by rw [h2, Nat.add_assoc, Nat.add_comm 1 i]⟩
theorem enum_len : ∀ {l : List T} {n : Nat}, (enumT n l).length = l.length
  | [], _ => rfl
  | x :: r, n => by simp [enumT, enum_len]
theorem wk_enum {a : Addr} {l : List T} : Wk K w (Ite K a) (enumT 0 l) (fun H A O => ∃ vs, LVw H O a vs ∧ Reps K w H A l vs) where
  keep := fun ⟨vs, h1, h2⟩ k e kA eA => ⟨vs, h1.keep k e, Reps.keep kA eA _ _ h2⟩
  go := fun {i} _ _ _ ⟨vs, h1, h2⟩ hi => by
    have hi' : i < vs.length := by rw [h2.length]; rw [enum_len] at hi; exact hi
    exact ⟨vs, vs[i], h1.sq, by simp [hi']⟩
  stop := fun {i} _ _ _ ⟨vs, h1, h2⟩ hi => ⟨vs, h1.sq, by rw [h2.length]; rw [enum_len] at hi; exact hi⟩
  yld := fun {i H A O x H'} ⟨vs, h1, h2⟩ y {t} e => by
    obtain ⟨p, z, e1, e2, e3, e4⟩ := y
    obtain ⟨u, g1, g2⟩ := enum_get e
    obtain ⟨v, g3, g4⟩ := h2.get g1
    rw [e4 vs h1.sq] at g3; cases g3
    refine .inr ⟨p, _, _, e2, e3, e1, g2, ?_⟩
    simp only [Reps]
    exact ⟨_, _, rfl, by simp [Rep], z, [], rfl, g4, rfl⟩
theorem wk_str {x : Str} : Wk K w (Its x) (x.cps.toList.map fun c => T.str ⟨#[c]⟩) (fun _ _ _ => True) where
  keep := fun _ _ _ _ _ => True.intro
  go := fun {i} _ _ _ _ hi => by
    have : i < x.cps.size := by simpa using hi
    exact this
  stop := fun {i} _ _ _ _ hi => by
    have : x.cps.size ≤ i := by simpa using hi
    exact this
  yld := fun {i H A O v H'} _ y {t} e => by
    obtain ⟨e1, c, e2, e3⟩ := y
    have : some (T.str ⟨#[c]⟩) = some t := by
      rw [← e, List.getElem?_map, Array.getElem?_toList, e2]; rfl
    cases this
    exact .inl ⟨e1, by rw [e3]; exact rp_str⟩
theorem wk_range {lo hi : Int} : Wk K w (Itr lo (hi - lo).toNat) (rangeT lo hi) (fun _ _ _ => True) where
  keep := fun _ _ _ _ _ => True.intro
  go := fun {i} _ _ _ _ h => by
    have : i < (hi - lo).toNat := by simpa [rangeT] using h
    exact this
  stop := fun {i} _ _ _ _ h => by
    have : (hi - lo).toNat ≤ i := by simpa [rangeT] using h
    exact this
  yld := fun {i H A O v H'} _ y {t} e => by
    obtain ⟨e1, e2⟩ := y
    have : t = .int (lo + (i : Nat)) := by
      simp only [rangeT, List.getElem?_map, Option.map_eq_some_iff] at e
      obtain ⟨k, hk, e⟩ := e
      rw [List.getElem?_eq_some_iff] at hk
      obtain ⟨_, hk⟩ := hk
      simp at hk
      rw [← e, ← hk]
    subst this
    exact .inl ⟨e1, by rw [e2]; exact rp_int⟩
theorem wk_rangeC {lo c : Int} {n : Nat} : Wk K w (Itc lo c n) (rangeC lo c n) (fun _ _ _ => True) where
  keep := fun _ _ _ _ _ => True.intro
  go := fun {i} _ _ _ _ h => by
    have : i < n := by simpa [rangeC] using h
    exact this
  stop := fun {i} _ _ _ _ h => by
    have : n ≤ i := by simpa [rangeC] using h
    exact this
  yld := fun {i H A O v H'} _ y {t} e => by
    obtain ⟨e1, e2⟩ := y
    have : t = .int (lo + (i : Nat) * c) := by
      simp only [rangeC, List.getElem?_map, Option.map_eq_some_iff] at e
      obtain ⟨k, hk, e⟩ := e
      rw [List.getElem?_eq_some_iff] at hk
      obtain ⟨_, hk⟩ := hk
      simp at hk
      rw [← e, ← hk]
    subst this
    exact .inl ⟨e1, by rw [e2]; exact rp_int⟩
/-- an operand lent to be read -/
theorem lnd_ok (h : R K w F H0 A σ τ) (n : Nx K w F σ τ H0 A τ1 H A') (o : Od) (q : OdOk K w H0 H A' σ τ1 o v) (e : τ1.lnd o = some (t, τ')) : ∃ A2, Nx K w F σ τ H0 A τ' H A2 ∧ Vw K w H (Ow σ τ') A2 t v := by
  cases o with
  | v u => cases e; exact ⟨A', n, Vw.of q fun b z => .inl (n.r.ow z)⟩
  | f u =>
    cases e
    obtain ⟨p, rfl, e0, ap, r⟩ := q
    exact ⟨A', n, r.vw fun z => h.noPr e0 (n.l.pr p z.pr)⟩
  | s i =>
    obtain ⟨q1, ⟨u, fl⟩, q2⟩ := q
    have e' : (match τ1[i]? with
      | some (some (t, .shr)) => some (t, τ1)
      | some (some (t, .own)) => some (t, τ1.set i (some (t, .shr)))
      | some (some (t, .bor)) => some (t, τ1)
      | _ => none) = some (t, τ') := e
    rw [q2] at e'
    obtain ⟨v', e1, s⟩ := n.r.slot i u fl q2
    rw [q1] at e1; cases e1
    cases fl with
    | shr => cases e'; exact ⟨A', n, Vw.of s fun b z => .inl (n.r.ow z)⟩
    | own =>
      cases e'
      obtain ⟨b, rfl, _⟩ := s
      obtain ⟨z1, z2⟩ := freeze n.r q2 q1
      exact ⟨_, n.trans z1, Vw.of z2 fun b z => .inl (z1.r.ow z)⟩
    | bor => cases e'; exact ⟨A', n, n.r.borN s fun b z => n.r.owF z⟩
    | _ => cases e'
end

/-! ### the sources of the text -/
section
variable {X : Cx} {tg : Expr}
/-- a list, a tuple, a text: whatever comes -/
def iAny (K : PySem.W.Frag) (t : TE) : TI := fun σ H R => t σ H fun x H1 => (∃ a xs, x = .ref a ∧ SqL K H1 a xs ∧ R (Itl K a) H1) ∨ (∃ a xs, x = .ref a ∧ SqT K H1 a xs ∧ R (Itt K a) H1) ∨ (∃ z, x = .str z ∧ R (Its z) H1)
theorem pi_any {e : Expr} {t : TE} (he : PE X e t) : PI X tg e (iAny X.K t) := by
  refine ⟨fun pins s σ H R I h => ?_⟩
  refine thn (he.run pins s σ H _ I h) fun u s1 ⟨x, H1, I1, r1, c⟩ => ?_
  rcases c with ⟨a, xs, rfl, hq, q⟩ | ⟨a, xs, rfl, hq, q⟩ | ⟨z, rfl, q⟩
  · cases r1
    obtain ⟨its, rv, hl, _⟩ := I1.list hq
    exact wpAny_pyIter_list hl.isList (pi_one (tk := s1.toks) I1 _ (turn_list a _) ⟨_, Heap.get?_push_size _ rfl, rfl, rfl⟩ q)
  · cases r1
    obtain ⟨its, rv, hl, _⟩ := I1.tuple hq
    have hl' : s1.heap.IsTuple a its.toArray := hl
    exact wpAny_pyIter_tuple hl' (pi_one (tk := s1.toks) I1 _ (turn_tuple a _) ⟨_, Heap.get?_push_size _ rfl, rfl, rfl⟩ q)
  · obtain ⟨k, rfl⟩ := r1
    by_cases hz : z.cps.all (· < 128) = true
    · exact wpAny_pyIter_ascii hz (pi_one (tk := s1.toks) I1 _ (turn_str _ z k "str_ascii_iterator" (Or.inl rfl)) ⟨_, Heap.get?_push_size _ rfl, rfl, rfl⟩ q)
    · have hz' : z.cps.all (· < 128) = false := by simpa using hz
      exact wpAny_pyIter_wide hz' (pi_one (tk := s1.toks) I1 _ (turn_str _ z k "str_iterator" (Or.inr rfl)) ⟨_, Heap.get?_push_size _ rfl, rfl, rfl⟩ q)
end
section
variable {K : PySem.W.Frag} {w : World} {σ : L2.St} {H : Hp} {fa fb fc : Sem} {R' : It → Hp → Prop}
theorem wAny (h : TI' K w (srcOf fa) σ H R') : iAny K (TX K w fa) σ H R' := by
  obtain ⟨F, A, τ, l, τ', R0, e, q⟩ := h
  unfold srcOf at e
  split at e
  · rename_i o τ1 e1
    split at e
    · rename_i t τ2 e2
      split at e
      · rename_i l' e3
        cases e
        refine ⟨F, A, τ, o, τ1, R0, e1, fun v H1 A1 n1 r1 => ?_⟩
        obtain ⟨A2, n2, vw⟩ := lnd_ok R0 n1 o r1 e2
        cases t with
        | lst l =>
          cases e3
          obtain ⟨a, vs, rfl, h1, h2⟩ := vw
          exact .inl ⟨a, vs, rfl, h1.sq, q _ _ H1 A2 n2 wk_list ⟨vs, h1, h2⟩⟩
        | tup l =>
          cases e3
          obtain ⟨a, vs, rfl, h1, h2⟩ := vw_tup vw
          exact .inr (.inl ⟨a, vs, rfl, h1.sq, q _ _ H1 A2 n2 wk_tup ⟨vs, h1, h2⟩⟩)
        | str z =>
          cases e3
          exact .inr (.inr ⟨z, vw_str vw, q _ _ H1 A2 n2 wk_str True.intro⟩)
        | _ => cases e3
      · cases e
    · cases e
  · cases e
theorem wEnum (h : TI' K w (srcEnum fa) σ H R') : iEnum K (tCons (TX K w fa) tNil) σ H R' := by
  obtain ⟨F, A, τ, l, τ', R0, e, q⟩ := h
  unfold srcEnum at e
  split at e
  · rename_i o τ1 e1
    split at e
    · rename_i l' τ2 e2
      cases e
      refine ⟨F, A, τ, o, τ1, R0, e1, fun v H1 A1 n1 r1 => ?_⟩
      obtain ⟨A1', n1', r1'⟩ := share R0 n1 o r1
      have r1'' : OdOk K w H H1 A1' σ τ1 o.sh v := by cases o <;> exact r1'
      obtain ⟨A2, n2, vw⟩ := lnd_ok R0 n1' o.sh r1'' e2
      obtain ⟨a, vs, rfl, h1, h2⟩ := vw
      exact ⟨a, vs, rfl, h1.sq, q _ _ H1 A2 n2 wk_enum ⟨vs, h1, h2⟩⟩
    · cases e
  · cases e
theorem r62_ok {i : Int} (h : r62 i = true) : -(2 ^ 62) ≤ i ∧ i < 2 ^ 62 := by
  unfold r62 at h
  simpa using h
theorem wRng1 (h : TI' K w (srcRange1 fa) σ H R') : iRng1 (tCons (TX K w fa) tNil) σ H R' := by
  obtain ⟨F, A, τ, l, τ', R0, e, q⟩ := h
  unfold srcRange1 at e
  split at e
  · rename_i x τ1 e1
    split at e
    · rename_i n e2
      split at e
      · rename_i hn
        cases e
        refine ⟨F, A, τ, x, _, R0, e1, fun v H1 A1 n1 r1 => ?_⟩
        obtain ⟨A1', n1', r1'⟩ := share R0 n1 x r1
        have hv := vw_int (r1'.vw n1'.r e2)
        have hr := r62_ok hn
        refine ⟨n, by rw [hv], hr.1, hr.2, ?_⟩
        have wk := wk_range (K := K) (w := w) (lo := 0) (hi := n)
        rw [Int.sub_zero] at wk
        exact q _ _ H1 A1' n1' wk True.intro
      · cases e
    · cases e
  · cases e
theorem wRng2 (h : TI' K w (srcRange2 fa fb) σ H R') : iRng2 (tCons (TX K w fa) (tCons (TX K w fb) tNil)) σ H R' := by
  obtain ⟨F, A, τ, l, τ', R0, e, q⟩ := h
  unfold srcRange2 at e
  split at e
  · rename_i x τ1 e1
    split at e
    · rename_i y τ2 e2
      split at e
      · rename_i m n e3 e4
        split at e
        · rename_i hn
          cases e
          refine ⟨F, A, τ, x, _, R0, e1, fun v H1 A1 n1 r1 => ?_⟩
          obtain ⟨A1', n1', r1'⟩ := share R0 n1 x r1
          refine ⟨F, A1', τ1, y, _, n1'.r, e2, fun u H2 A2 n2 r2 => ?_⟩
          obtain ⟨A2', n2', r2'⟩ := share n1'.r n2 y r2
          have hv := vw_int ((r1'.keep n1'.r n2').vw n2'.r e3)
          have hu := vw_int (r2'.vw n2'.r e4)
          rw [Bool.and_eq_true] at hn
          have ha := r62_ok hn.1
          have hb := r62_ok hn.2
          refine ⟨m, n, by rw [hv, hu], ⟨ha.1, ha.2, hb.1, hb.2⟩, ?_⟩
          exact q _ _ H2 A2' (n1'.trans n2') wk_range True.intro
        · cases e
      · cases e
    · cases e
  · cases e
theorem wRng3 (h : TI' K w (srcRange3 fa fb fc) σ H R') : iRng3 (tCons (TX K w fa) (tCons (TX K w fb) (tCons (TX K w fc) tNil))) σ H R' := by
  obtain ⟨F, A, τ, l, τ', R0, e, q⟩ := h
  unfold srcRange3 at e
  split at e
  · rename_i x τ1 e1
    split at e
    · rename_i y τ2 e2
      split at e
      · rename_i z τ3 e3
        split at e
        · rename_i i j k e4 e5 e6
          split at e
          · rename_i hn
            cases e
            refine ⟨F, A, τ, x, _, R0, e1, fun v H1 A1 n1 r1 => ?_⟩
            obtain ⟨A1', n1', r1'⟩ := share R0 n1 x r1
            refine ⟨F, A1', τ1, y, _, n1'.r, e2, fun u H2 A2 n2 r2 => ?_⟩
            obtain ⟨A2', n2', r2'⟩ := share n1'.r n2 y r2
            refine ⟨F, A2', τ2, z, _, n2'.r, e3, fun u3 H3 A3 n3 r3 => ?_⟩
            obtain ⟨A3', n3', r3'⟩ := share n2'.r n3 z r3
            have hv := vw_int (((r1'.keep n1'.r n2').keep n2'.r n3').vw n3'.r e4)
            have hu := vw_int ((r2'.keep n2'.r n3').vw n3'.r e5)
            have hz := vw_int (r3'.vw n3'.r e6)
            unfold rgc at hn
            simp only [Bool.and_eq_true, decide_eq_true_eq] at hn
            refine ⟨i, j, k, _, by rw [hv, hu, hz], ⟨hn.1.1.1, hn.1.1.2, hn.1.2, (Int.toNat_of_nonneg hn.2).symm⟩, ?_⟩
            exact q _ _ H3 A3' ((n1'.trans n2').trans n3') wk_rangeC True.intro
          · cases e
        · cases e
      · cases e
    · cases e
  · cases e
end
end Dt
set_option maxHeartbeats 4000000
/-! Dt10: statements. -/
namespace Dt
open PySem PySem.Spec PyProof.Rows L2

section
variable (K : PySem.W.Frag) (w : World)
/-- from state to state -/
structure Nm (F : Frm) (σ : L2.St) (τ : Sl) (H : Hp) (A : Av) (σ' : L2.St) (τ' : Sl) (H' : Hp) (A' : Av) : Prop where
  r : R K w F H' A' σ' τ'
  s : Stp (Ow σ τ) H A H' A'
  ow : ∀ a, Ow σ' τ' a → Ow σ τ a ∨ H a = none
  pr : ∀ a, Pr σ' τ' a → Pr σ τ a ∨ H a = none
/-- what is told of an exception: its class's name, its values, its class, its dict -/
abbrev Exv := Str → List V → Value → Option Addr → Hp → Prop
def Enz (F : Frm) (ev : Exv) (E : XK) (D : Ends) (σ : L2.St) (τ : Sl) (H : Hp) (A : Av) : Fw → Prop
  | .nx τ' => ∀ σ' H' A', Nm K w F σ τ H A σ' τ' H' A' → D.nx σ' H'
  | .br τ' => ∀ σ' H' A', Nm K w F σ τ H A σ' τ' H' A' → D.bk σ' H'
  | .ct τ' => ∀ σ' H' A', Nm K w F σ τ H A σ' τ' H' A' → D.ct σ' H'
  | .rt o τ' => ∀ v σ' H' A', Nm K w F σ τ H A σ' τ' H' A' → OdOk K w H H' A' σ' τ' o v → D.rt v H'
  | .ex c args τ' => ∀ C d σ' H' A' ws, Nm K w F σ τ H A σ' τ' H' A' → Reps K w H' A' args ws → ev c ws C d H' → E C d H'
def TXm (ev : Exv) (E : XK) (m : Stm) : TS := fun D σ H => ∃ (F : Frm) (A : Av) (τ : Sl) (r : Fw), R K w F H A σ τ ∧ m τ = some r ∧ Enz K w F ev E D σ τ H A r
end
section
variable {K : PySem.W.Frag} {w : World} {F : Frm} {H H' H0 H1 H2 : Hp} {A A' A0 A1 A2 N : Av} {σ σ' σ1 σ2 : L2.St} {τ τ' τ0 τ1 τ2 : Sl} {i : Nat} {t : T} {v : V} {a p : Addr} {o : Od} {ev : Exv} {E : XK} {D : Ends}
theorem Nm.refl (h : R K w F H A σ τ) : Nm K w F σ τ H A σ τ H A := ⟨h, Stp.refl _ _ _, fun _ z => .inl z, fun _ z => .inl z⟩
theorem Nx.nm (n : Nx K w F σ τ H A τ' H' A') : Nm K w F σ τ H A σ τ' H' A' := ⟨n.r, n.s, fun a z => .inl (n.l.ow a z), fun a z => .inl (n.l.pr a z)⟩
theorem Nm.trans (h : R K w F H A σ τ) (x : Nm K w F σ τ H A σ1 τ1 H1 A1) (y : Nm K w F σ1 τ1 H1 A1 σ2 τ2 H2 A2) : Nm K w F σ τ H A σ2 τ2 H2 A2 := by
  have nf : ∀ b, H1 b = none → H b = none := fun b z => by
    cases q : H b with
    | none => rfl
    | some o =>
      obtain ⟨o', e⟩ := x.s.dm b o q
      rw [e] at z; cases z
  refine ⟨y.r, ⟨fun b o n q => y.s.keep b o (fun z => ?_) (x.s.keep b o n q), fun b o q => ?_, fun b z => ?_, fun b z n => y.s.old b (x.s.old b z n) fun z' => ?_⟩, fun b z => ?_, fun b z => ?_⟩
  · rcases x.ow b z with z | z
    · exact n z
    · rw [z] at q; cases q
  · obtain ⟨o', q'⟩ := x.s.dm b o q
    exact y.s.dm b o' q'
  · rcases y.s.new b z with z | z
    · exact x.s.new b z
    · exact .inr (nf b z)
  · rcases x.ow b z' with z' | z'
    · exact n z'
    · obtain ⟨o, e⟩ := h.dom b z
      rw [z'] at e; cases e
  · rcases y.ow b z with z | z
    · exact x.ow b z
    · exact .inr (nf b z)
  · rcases y.pr b z with z | z
    · exact x.pr b z
    · exact .inr (nf b z)
theorem OdOk.after (s : ∀ b o, H b = some o → ∃ o', H1 b = some o') (q : OdOk K w H1 H' A' σ τ' o v) : OdOk K w H H' A' σ τ' o v := q.back s
theorem Enz.after (h : R K w F H A σ τ) (n : Nm K w F σ τ H A σ1 τ1 H1 A1) {r : Fw} (e : Enz K w F ev E D σ τ H A r) : Enz K w F ev E D σ1 τ1 H1 A1 r := by
  cases r with
  | nx τ2 => exact fun σ' H' A' n' => e σ' H' A' (n.trans h n')
  | br τ2 => exact fun σ' H' A' n' => e σ' H' A' (n.trans h n')
  | ct τ2 => exact fun σ' H' A' n' => e σ' H' A' (n.trans h n')
  | rt o τ2 => exact fun v σ' H' A' n' q => e v σ' H' A' (n.trans h n') (q.back n.s.dm)
  | ex c args τ2 => exact fun C d σ' H' A' ws n' => e C d σ' H' A' ws (n.trans h n')
/-- what a name is given, as a value -/
theorem putV (h : R K w F H A σ τ) (i : Nat) (r : Rep K w H A t v) : Nm K w F σ τ H A (σ.set i (some v)) (τ.set i (some (t, .shr))) H A := by
  by_cases hi : i < τ.length
  · have e0 : ∃ y, τ[i]? = some y := ⟨τ[i], by simp [hi]⟩
    obtain ⟨y, e0⟩ := e0
    have hiσ : i < σ.length := by rw [h.len]; exact hi
    have back : ∀ {j : Nat} {u : T} {fl : Fl}, (τ.set i (some (t, .shr)))[j]? = some (some (u, fl)) → (fl = .own ∨ fl = .chg ∨ fl = .len) → j ≠ i ∧ τ[j]? = some (some (u, fl)) ∧ (σ.set i (some v))[j]? = σ[j]? := fun {j u fl} q hf => by
      rcases set_cases e0 q with ⟨_, z⟩ | ⟨hj, z⟩
      · cases z; rcases hf with hf | hf | hf <;> cases hf
      · exact ⟨hj, z, List.getElem?_set_ne (Ne.symm hj)⟩
    have ow : ∀ b, Ow (σ.set i (some v)) (τ.set i (some (t, .shr))) b → Ow σ τ b := fun b ⟨j, u, fl, q1, q2, q3⟩ => by
      obtain ⟨_, z1, z2⟩ := back q1 (q2.elim .inl fun z => .inr (.inl z))
      rw [z2] at q3
      exact ⟨j, u, fl, z1, q2, q3⟩
    refine ⟨⟨by rw [List.length_set, List.length_set]; exact h.len, h.ext, h.dm, h.sub, h.msub, h.dom, h.domF, h.nwf, fun j u fl q => ?_, fun j l b ⟨u, fl, q1, q2⟩ ⟨u', fl', q3, q4⟩ q5 q6 => ?_⟩, Stp.refl _ _ _, fun b z => .inl (ow b z), fun b ⟨j, u, fl, q1, q2, q3⟩ => by
      obtain ⟨_, z1, z2⟩ := back q1 q2
      rw [z2] at q3
      exact .inl ⟨j, u, fl, z1, q2, q3⟩⟩
    · rcases set_cases e0 q with ⟨rfl, z⟩ | ⟨hj, z⟩
      · cases z
        exact ⟨v, List.getElem?_set_self hiσ, r⟩
      · obtain ⟨v', e1, s⟩ := h.slot j u fl z
        exact ⟨v', by rw [List.getElem?_set_ne (Ne.symm hj)]; exact e1, s⟩
    · obtain ⟨_, z1, z2⟩ := back q1 q2
      obtain ⟨_, z3, z4⟩ := back q3 q4
      rw [z2] at q5; rw [z4] at q6
      exact h.uniq j l b ⟨u, fl, z1, q2⟩ ⟨u', fl', z3, q4⟩ q5 q6
  · have hl := h.len
    rw [List.set_eq_of_length_le (by omega), List.set_eq_of_length_le (by omega)]
    exact Nm.refl h
/-- .. as its own new object -/
theorem putO (h : R K w F H A σ τ) (i : Nat) (ap : A p) (r : Root K w H A p t) (nf : F.H p = none) (np : ¬ Pr σ τ p) : R K w F H A (σ.set i (some (.ref p))) (τ.set i (some (t, .own))) ∧ (∀ b, Ow (σ.set i (some (.ref p))) (τ.set i (some (t, .own))) b → Ow σ τ b ∨ b = p) ∧ ∀ b, Pr (σ.set i (some (.ref p))) (τ.set i (some (t, .own))) b → Pr σ τ b ∨ b = p := by
  by_cases hi : i < τ.length
  · have e0 : ∃ y, τ[i]? = some y := ⟨τ[i], by simp [hi]⟩
    obtain ⟨y, e0⟩ := e0
    have hiσ : i < σ.length := by rw [h.len]; exact hi
    have back : ∀ {j : Nat} {u : T} {fl : Fl} {b : Addr}, (τ.set i (some (t, .own)))[j]? = some (some (u, fl)) → (σ.set i (some (.ref p)))[j]? = some (some (V.ref b)) → (j = i ∧ b = p ∧ fl = .own) ∨ (j ≠ i ∧ τ[j]? = some (some (u, fl)) ∧ σ[j]? = some (some (V.ref b))) := fun {j u fl b} q q' => by
      rcases set_cases e0 q with ⟨rfl, z⟩ | ⟨hj, z⟩
      · cases z
        rw [List.getElem?_set_self hiσ] at q'
        cases q'
        exact .inl ⟨rfl, rfl, rfl⟩
      · rw [List.getElem?_set_ne (Ne.symm hj)] at q'
        exact .inr ⟨hj, z, q'⟩
    refine ⟨⟨by rw [List.length_set, List.length_set]; exact h.len, h.ext, h.dm, h.sub, h.msub, h.dom, h.domF, h.nwf, fun j u fl q => ?_, fun j l b ⟨u, fl, q1, q2⟩ ⟨u', fl', q3, q4⟩ q5 q6 => ?_⟩, fun b ⟨j, u, fl, q1, q2, q3⟩ => ?_, fun b ⟨j, u, fl, q1, q2, q3⟩ => ?_⟩
    · rcases set_cases e0 q with ⟨rfl, z⟩ | ⟨hj, z⟩
      · cases z
        exact ⟨_, List.getElem?_set_self hiσ, p, rfl, ap, nf, r⟩
      · obtain ⟨v', e1, s⟩ := h.slot j u fl z
        exact ⟨v', by rw [List.getElem?_set_ne (Ne.symm hj)]; exact e1, s⟩
    · rcases back q1 q5 with ⟨rfl, e1, _⟩ | ⟨hj, z1, z2⟩
      · rcases back q3 q6 with ⟨rfl, _, _⟩ | ⟨hl, z3, z4⟩
        · rfl
        · exact (np ⟨l, u', fl', z3, q4, e1 ▸ z4⟩).elim
      · rcases back q3 q6 with ⟨rfl, e1, _⟩ | ⟨hl, z3, z4⟩
        · exact (np ⟨j, u, fl, z1, q2, e1 ▸ z2⟩).elim
        · exact h.uniq j l b ⟨u, fl, z1, q2⟩ ⟨u', fl', z3, q4⟩ z2 z4
    · rcases back q1 q3 with ⟨rfl, e1, _⟩ | ⟨hj, z1, z2⟩
      · exact .inr e1
      · exact .inl ⟨j, u, fl, z1, q2, z2⟩
    · rcases back q1 q3 with ⟨rfl, e1, _⟩ | ⟨hj, z1, z2⟩
      · exact .inr e1
      · exact .inl ⟨j, u, fl, z1, q2, z2⟩
  · have hl := h.len
    rw [List.set_eq_of_length_le (by omega), List.set_eq_of_length_le (by omega)]
    exact ⟨h, fun b z => .inl z, fun b z => .inl z⟩
/-- name = what an expression came to -/
theorem put_ok (h : R K w F H A σ τ) (n : Nx K w F σ τ H A τ1 H1 A1) (q : OdOk K w H H1 A1 σ τ1 o v) (e : τ1.put i o = some τ2) : ∃ A2, Nm K w F σ τ H A (σ.set i (some v)) τ2 H1 A2 := by
  have val : ∀ o' : Od, (match τ1.esc o' with | some (t, τ1) => some (τ1.set i (some (t, .shr))) | none => none) = some τ2 → OdV K w H1 A1 σ τ1 o' v → ∃ A2, Nm K w F σ τ H A (σ.set i (some v)) τ2 H1 A2 := fun o' e' q' => by
    split at e'
    · rename_i u τ3 e3
      cases e'
      obtain ⟨A3, n3, r3⟩ := esc_ok n.r o' q' e3
      exact ⟨A3, (n.trans n3).nm.trans h (putV n3.r i r3)⟩
    · cases e'
  cases o with
  | v u => exact val (.v u) e q
  | s j => exact val (.s j) e q
  | f u =>
    cases e
    obtain ⟨p, rfl, e0, ap, r⟩ := q
    obtain ⟨h1, h2, h3⟩ := putO n.r i ap r (h.nn e0) fun z => h.noPr e0 (n.l.pr p z)
    refine ⟨A1, h1, n.s, fun b z => ?_, fun b z => ?_⟩
    · rcases h2 b z with z | rfl
      · exact .inl (n.l.ow b z)
      · exact .inr e0
    · rcases h3 b z with z | rfl
      · exact .inl (n.l.pr b z)
      · exact .inr e0
/-! ### words for statements -/
theorem wSeq {m1 m2 : Stm} (h : TXm K w ev E (mSeq m1 m2) D σ H) : tSeq (TXm K w ev E m1) (TXm K w ev E m2) D σ H := by
  obtain ⟨F, A, τ, r, R0, e, q⟩ := h
  unfold mSeq at e
  split at e
  · rename_i τ1 e1
    exact ⟨F, A, τ, _, R0, e1, fun σ' H' A' n => ⟨F, A', τ1, r, n.r, e, q.after R0 n⟩⟩
  · rename_i hr
    refine ⟨F, A, τ, r, R0, e, ?_⟩
    cases r with
    | nx τ1 => exact absurd e (hr τ1)
    | br τ2 => exact q
    | ct τ2 => exact q
    | rt o τ2 => exact q
    | ex c args τ2 => exact q
theorem wNext (h : TXm K w ev E mNil D σ H) : tNext D σ H := by
  obtain ⟨F, A, τ, r, R0, e, q⟩ := h
  cases e
  exact q σ H A (Nm.refl R0)
theorem wSet {f : Sem} (h : TXm K w ev E (mSet i f) D σ H) : tAsg (TX K w f) (gName i) D σ H := by
  obtain ⟨F, A, τ, r, R0, e, q⟩ := h
  unfold mSet at e
  split at e
  · rename_i x τ1 e1
    split at e
    · rename_i τ2 e2
      cases e
      refine ⟨F, A, τ, x, τ1, R0, e1, fun v H1 A1 n1 r1 => ?_⟩
      obtain ⟨A2, n2⟩ := put_ok R0 n1 r1 e2
      exact q _ _ _ n2
    · cases e
  · cases e
theorem wExp {f : Sem} (h : TXm K w ev E (mExp f) D σ H) : tDrop (TX K w f) D σ H := by
  obtain ⟨F, A, τ, r, R0, e, q⟩ := h
  unfold mExp at e
  split at e
  · rename_i x τ1 e1
    cases e
    exact ⟨F, A, τ, _, τ1, R0, e1, fun v H1 A1 n1 r1 => q _ _ _ n1.nm⟩
  · cases e
theorem wRet {f : Sem} (h : TXm K w ev E (mRet f) D σ H) : tRet (TX K w f) D σ H := by
  obtain ⟨F, A, τ, r, R0, e, q⟩ := h
  unfold mRet at e
  split at e
  · rename_i x τ1 e1
    cases e
    exact ⟨F, A, τ, x, τ1, R0, e1, fun v H1 A1 n1 r1 => q v _ _ _ n1.nm r1⟩
  · cases e
theorem wRetN (h : TXm K w ev E mRetN D σ H) : tRetN D σ H := by
  obtain ⟨F, A, τ, r, R0, e, q⟩ := h
  cases e
  exact q .non σ H A (Nm.refl R0) (rp_non (K := K) (w := w) (H := H) (A := A))
theorem wBrk (h : TXm K w ev E mBrk D σ H) : tBreak D σ H := by
  obtain ⟨F, A, τ, r, R0, e, q⟩ := h
  cases e
  exact q σ H A (Nm.refl R0)
theorem wCnt (h : TXm K w ev E mCnt D σ H) : tCont D σ H := by
  obtain ⟨F, A, τ, r, R0, e, q⟩ := h
  cases e
  exact q σ H A (Nm.refl R0)
theorem wIfS {c : Tst} {m1 m2 : Stm} (h : TXm K w ev E (mIf c m1 m2) D σ H) : tIfS (TXt K w c) (TXm K w ev E m1) (TXm K w ev E m2) D σ H := by
  obtain ⟨F, A, τ, r, R0, e, q⟩ := h
  unfold mIf at e
  split at e
  · rename_i τ1 e1
    refine ⟨F, A, τ, true, τ1, R0, e1, fun H1 A1 n1 => ?_⟩
    show if true = true then _ else _
    rw [if_pos rfl]
    exact ⟨F, A1, τ1, r, n1.r, e, q.after R0 n1.nm⟩
  · rename_i τ1 e1
    refine ⟨F, A, τ, false, τ1, R0, e1, fun H1 A1 n1 => ?_⟩
    show if false = true then _ else _
    rw [if_neg Bool.false_ne_true]
    exact ⟨F, A1, τ1, r, n1.r, e, q.after R0 n1.nm⟩
  · cases e
/-! ### targets -/
/-- a target of a loop: it changes the names is alone -/
def GOk (K : PySem.W.Frag) (w : World) (is : List Nat) (g : T → Sl → Option Sl) (tg : TG) : Prop := ∀ (F : Frm) (H : Hp) (A : Av) (σ : L2.St) (τ : Sl) (t : T) (x : V) (τ' : Sl) (Q : L2.St → Hp → Prop), R K w F H A σ τ → Rep K w H A t x → g t τ = some τ' →
  (∀ σ', Nm K w F σ τ H A σ' τ' H A → σ'.length = σ.length → (∀ j : Nat, j ∉ is → σ'[j]? = σ[j]?) → Q σ' H) → tg x σ H Q
theorem g_one (i : Nat) : GOk K w [i] (tgt1 i) (gName i) := fun F H A σ τ t x τ' Q R0 r e q => by
  cases e
  exact q _ (putV R0 i r) (by rw [List.length_set]) fun j hj => List.getElem?_set_ne fun z => hj (by rw [z]; exact List.mem_cons_self ..)
def gNames : List Nat → TGs
  | [] => gNil
  | i :: r => gCons (gName i) (gNames r)
theorem g_names : ∀ {is : List Nat} {F : Frm} {H : Hp} {A : Av} {σ : L2.St} {τ : Sl} {ts : List T} {xs : List V} {τ' : Sl} {Q : L2.St → Hp → Prop}, R K w F H A σ τ → Reps K w H A ts xs → putAll τ is ts = some τ' →
    (∀ σ', Nm K w F σ τ H A σ' τ' H A → σ'.length = σ.length → (∀ j : Nat, j ∉ is → σ'[j]? = σ[j]?) → Q σ' H) → gNames is xs σ H Q
  | [], F, H, A, σ, τ, ts, xs, τ', Q, R0, r, e, q => by
    cases ts with
    | nil =>
      unfold putAll at e
      cases e
      simp only [Reps] at r
      exact ⟨r, q σ (Nm.refl R0) rfl fun _ _ => rfl⟩
    | cons => unfold putAll at e; cases e
  | i :: is, F, H, A, σ, τ, ts, xs, τ', Q, R0, r, e, q => by
    cases ts with
    | nil => unfold putAll at e; cases e
    | cons t ts =>
      unfold putAll at e
      simp only [Reps] at r
      obtain ⟨v, vr, rfl, r1, r2⟩ := r
      have n := putV R0 i r1
      refine ⟨v, vr, rfl, ?_⟩
      refine g_names n.r r2 e fun σ' n' hl hs => q σ' (n.trans R0 n') (by rw [hl, List.length_set]) fun j hj => ?_
      rw [hs j fun z => hj (List.mem_cons_of_mem _ z)]
      exact List.getElem?_set_ne fun z => hj (by rw [z]; exact List.mem_cons_self ..)
theorem putAll_len : ∀ {is : List Nat} {ts : List T} {τ τ' : Sl}, putAll τ is ts = some τ' → ts.length = is.length
  | [], [], _, _, _ => rfl
  | [], _ :: _, _, _, e => by unfold putAll at e; cases e
  | _ :: _, [], _, _, e => by unfold putAll at e; cases e
  | i :: is, t :: ts, τ, τ', e => by
    unfold putAll at e
    simp [putAll_len e]
theorem g_many (is : List Nat) : GOk K w is (tgtN is) (gTup K is.length (gNames is)) := fun F H A σ τ t x τ' Q R0 r e q => by
  cases t with
  | tup ts =>
    have e' : putAll τ is ts = some τ' := e
    simp only [Rep] at r
    obtain ⟨a, xs, rfl, h1, h2⟩ := r
    exact ⟨a, xs, rfl, h1.sq, by rw [h2.length]; exact putAll_len e', g_names R0 h2 e' q⟩
  | _ => cases e
theorem wUnp {is : List Nat} {f : Sem} (h : TXm K w ev E (mUnp is f) D σ H) : tAsg (TX K w f) (gTup K is.length (gNames is)) D σ H := by
  obtain ⟨F, A, τ, r, R0, e, q⟩ := h
  unfold mUnp at e
  split at e
  · rename_i x τ1 e1
    split at e
    · rename_i ts τ2 e2
      split at e
      · rename_i τ3 e3
        cases e
        refine ⟨F, A, τ, x, τ1, R0, e1, fun v H1 A1 n1 r1 => ?_⟩
        obtain ⟨A1', n1', r1'⟩ := share R0 n1 x r1
        have e2' : τ1.esc x.sh = some (.tup ts, τ2) := by cases x <;> exact e2
        obtain ⟨A2, n2, r2⟩ := esc_ok n1'.r x.sh r1' e2'
        have n := (n1'.trans n2).nm
        refine g_many is F H1 A2 σ τ2 (.tup ts) v τ3 D.nx n2.r r2 e3 fun σ' n' _ _ => q σ' H1 A2 (n.trans R0 n')
      · cases e
    · cases e
  · cases e
theorem wPar {i j : Nat} {f : Sems} (h : TXm K w ev E (mPar [i, j] f) D σ H) : tPar i j (TXs K w f) D σ H := by
  obtain ⟨F, A, τ, r, R0, e, q⟩ := h
  unfold mPar at e
  split at e
  · rename_i xs τ1 e1
    split at e
    · rename_i ts τ2 e2
      split at e
      · rename_i τ3 e3
        cases e
        refine ⟨F, A, τ, xs, τ1, R0, e1, fun vs H1 A1 n1 r1 => ?_⟩
        obtain ⟨A2, n2, r2⟩ := escs_ok n1.r r1 e2
        have g := g_names (Q := fun σ' H' => ∃ v w', vs = [v, w'] ∧ σ' = (σ.set i (some v)).set j (some w') ∧ D.nx σ' H') n2.r r2 e3
        have hl := putAll_len e3
        match ts, vs, hl, r2.length with
        | [t1, t2], [v1, v2], _, _ =>
          simp only [Reps] at r2
          obtain ⟨x1, xr, ex, r3, x2, xr2, ex2, r4, ex3⟩ := r2
          subst ex3; subst ex2; cases ex
          unfold putAll putAll putAll at e3
          cases e3
          have m1 := putV n2.r i r3
          have m2 := putV m1.r j r4
          exact ⟨v1, v2, rfl, q _ _ _ ((n1.trans n2).nm.trans R0 (m1.trans n2.r m2))⟩
      · cases e
    · cases e
  · cases e
theorem wPar3 {i j l : Nat} {f : Sems} (h : TXm K w ev E (mPar [i, j, l] f) D σ H) : tPar3 i j l (TXs K w f) D σ H := by
  obtain ⟨F, A, τ, r, R0, e, q⟩ := h
  unfold mPar at e
  split at e
  · rename_i xs τ1 e1
    split at e
    · rename_i ts τ2 e2
      split at e
      · rename_i τ3 e3
        cases e
        refine ⟨F, A, τ, xs, τ1, R0, e1, fun vs H1 A1 n1 r1 => ?_⟩
        obtain ⟨A2, n2, r2⟩ := escs_ok n1.r r1 e2
        have hl := putAll_len e3
        match ts, vs, hl, r2.length with
        | [t1, t2, t3], [v1, v2, v3], _, _ =>
          simp only [Reps] at r2
          obtain ⟨x1, xr, ex, r3, x2, xr2, ex2, r4, x3, xr3, ex4, r5, ex3⟩ := r2
          subst ex3; subst ex4; subst ex2; cases ex
          unfold putAll putAll putAll putAll at e3
          cases e3
          have m1 := putV n2.r i r3
          have m2 := putV m1.r j r4
          have m3 := putV m2.r l r5
          exact ⟨v1, v2, v3, rfl, q _ _ _ ((n1.trans n2).nm.trans R0 (m1.trans n2.r (m2.trans m1.r m3)))⟩
      · cases e
    · cases e
  · cases e
end
end Dt
set_option maxHeartbeats 4000000
/-! Dt11: loops, comprehensions. -/
namespace Dt
open PySem PySem.Spec PyProof.Rows L2

section
variable {K : PySem.W.Frag} {w : World} {F : Frm} {H H' H0 H1 H2 : Hp} {A A' A0 A1 A2 N : Av} {σ σ' σ1 σ2 : L2.St} {τ τ' τ0 τ1 τ2 : Sl} {i : Nat} {t : T} {v : V} {a p : Addr} {o : Od} {ev : Exv} {E : XK} {D : Ends}
def augI (op : Operator) (x y : Int) : Option Int := match op with
  | .Add => some (x + y)
  | .Sub => some (x - y)
  | _ => none
theorem wAug {f : Sem} {op : Operator} {g : Int → Int → Int} (hg : ∀ x y, (match op with
    | .Add => some (x + y)
    | .Sub => some (x - y)
    | _ => none) = some (g x y)) (h : TXm K w ev E (mAug i op f) D σ H) : tAug i (TX K w f) (ipI g) D σ H := by
  obtain ⟨F, A, τ, r, R0, e, q⟩ := h
  unfold mAug at e
  split at e
  · rename_i x e0
    split at e
    · rename_i y τ1 e1
      split at e
      · rename_i k e2
        split at e
        · rename_i x' e3
          split at e
          · rename_i hx
            subst hx
            have e' : r = .nx (τ1.set i (some (.int (g x' k), .shr))) := by
              have hg' := hg x' k
              cases op <;> first | (cases e; simp only [Option.some.injEq] at hg'; rw [hg']; done) | cases e
            subst e'
            obtain ⟨v, ev, s⟩ := R0.slot i _ _ e0
            have hv : v = .int x' := by simpa only [SlotOk, Rep] using s
            refine ⟨v, ev, F, A, τ, y, τ1, R0, e1, fun u H1 A1 n1 r1 => ?_⟩
            refine ⟨x', k, hv, od_int R0 n1 r1 e2, ?_⟩
            exact q _ _ _ (n1.nm.trans R0 (putV n1.r i (rp_int (K := K) (w := w))))
          · cases e
        · cases e
      · cases e
    · cases e
  · cases e
theorem Reps.atN {l : List T} {vs : List V} (h : Reps K w H A l vs) : vs.length = l.length := h.length
theorem wPutIx {fj fe : Sem} (h : TXm K w ev E (mPutIx i fj fe) D σ H) : tAsg (TX K w fe) (gSub (tVar i) (TX K w fj) rSetL) D σ H := by
  obtain ⟨F, A, τ, r, R0, e, q⟩ := h
  unfold mPutIx at e
  split at e
  · rename_i x τ1 e1
    split at e
    · rename_i z0 e0
      obtain ⟨t0, fl0⟩ := z0
      split at e
      · rename_i y τ2 e2
        split at e
        · rename_i t τ3 e3
          split at e
          · rename_i k l fl e4 e5
            split at e
            · rename_i hf
              split at e
              · rename_i m e6
                cases e
                refine ⟨F, A, τ, x, τ1, R0, e1, fun v H1 A1 n1 r1 => ?_⟩
                obtain ⟨A1', n1', r1'⟩ := share R0 n1 x r1
                obtain ⟨v0, ea, _⟩ := n1'.r.slot i t0 fl0 e0
                refine ⟨v0, ea, F, A1', τ1, y, τ2, n1'.r, e2, fun u H2 A2 n2 r2 => ?_⟩
                obtain ⟨A2', n2', r2'⟩ := share n1'.r n2 y r2
                obtain ⟨A3, n3, r3⟩ := esc_ok n2'.r x.sh (r1'.keep n1'.r n2') e3
                have hu : u = .int k := vw_int ((r2'.keep n2'.r n3).vw n3.r e4)
                obtain ⟨a, ea', ha', ra'⟩ := own_at n3.r e5 hf
                rw [ea] at ea'; cases ea'
                obtain ⟨vs, h1, h2⟩ := ra'
                refine ⟨a, vs, k, m, rfl, hu, h1, by rw [h2.length]; exact e6, ?_⟩
                have rt : Root K w (upd H2 a (.lst (vs.set m v))) A3 a (.lst (l.set m t)) := ⟨_, upd_same, Reps.keep (kp_upd ha') (fun _ z => .inl z) _ _ (h2.set m r3)⟩
                have nn := change n3.r e5 hf ea rt
                exact q _ _ _ (((n1'.trans n2').trans n3).trans nn).nm
              · cases e
            · cases e
          · cases e
        · cases e
      · cases e
    · cases e
  · cases e
/-! ### a loop's turns -/
def Fin (K : PySem.W.Frag) (w : World) (F : Frm) (ev : Exv) (E : XK) (D : Ends) (g : T → Sl → Option Sl) (b : Stm) (l : List T) (Hd : Hp → Av → Av → Prop) (i m : Nat) (σ : L2.St) (H : Hp) : Prop :=
  m = l.length - i ∧ i ≤ l.length ∧ ∃ (A : Av) (τ : Sl) (r : Fw), R K w F H A σ τ ∧ Hd H A (Ow σ τ) ∧ walk g b (l.drop i) τ = some r ∧ Enz K w F ev E D σ τ H A r
theorem drop_at {l : List T} {i : Nat} (h : i < l.length) : l.drop i = l[i] :: l.drop (i + 1) := by simp
theorem Wk.move {J : It} {l : List T} {Hd : Hp → Av → Av → Prop} (wk : Wk K w J l Hd) (h : R K w F H A σ τ) (n : Nm K w F σ τ H A σ' τ' H' A') (hd : Hd H A (Ow σ τ)) : Hd H' A' (Ow σ' τ') :=
  wk.keep hd n.s.keep n.ow (fun b o z e => n.s.keep b o (fun q => z (h.ow q)) e) n.s.new
theorem wFor {s : Src} {g : T → Sl → Option Sl} {tg : TG} {is : List Nat} {b : Stm} (hg : GOk K w is g tg) (h : TXm K w ev E (mFor s g b) D σ H) : tFor (TI' K w s) tg (TXm K w ev E b) D σ H := by
  obtain ⟨F, A, τ, r, R0, e, q⟩ := h
  unfold mFor at e
  split at e
  · rename_i l τ1 e1
    refine ⟨F, A, τ, l, τ1, R0, e1, fun J Hd H1 A1 n1 wk hd => ?_⟩
    refine ⟨Fin K w F ev E D g b l Hd, ⟨l.length, by omega, Nat.zero_le _, A1, τ1, r, n1.r, hd, e, q.after R0 n1.nm⟩, ?_⟩
    rintro i m σ2 H2 ⟨rfl, hi, A2, τ2, r2, R2, hd2, e2, q2⟩
    by_cases hlt : i < l.length
    · refine .inr ⟨wk.go hd2 hlt, Fin K w F ev E D g b l Hd (i + 1) (l.length - (i + 1)), fun σ' H' f => ⟨_, by omega, f⟩, fun x H3 y => ?_⟩
      rw [drop_at hlt] at e2
      unfold walk at e2
      split at e2
      · rename_i τ3 e3
        -- the item
        have item : ∃ A3, Nm K w F σ2 τ2 H2 A2 σ2 τ2 H3 A3 ∧ Rep K w H3 A3 l[i] x := by
          rcases wk.yld hd2 y (t := l[i]) (by simp [hlt]) with ⟨rfl, rp⟩ | ⟨p, xs, ts, e4, rfl, rfl, e5, rp⟩
          · exact ⟨A2, Nm.refl R2, rp⟩
          · obtain ⟨n, rr⟩ := newT R2 rp e4
            rw [e5]
            exact ⟨A2, n.nm, rr⟩
        obtain ⟨A3, n3, rp⟩ := item
        refine hg F H3 A3 σ2 τ2 l[i] x τ3 _ n3.r rp e3 fun σ4 n4 _ _ => ?_
        have n5 := n3.trans R2 n4
        have hd5 := wk.move R2 n5 hd2
        -- the body
        have next : ∀ {τ6 : Sl}, walk g b (l.drop (i + 1)) τ6 = some r2 → ∀ σ' H' A', Nm K w F σ4 τ3 H3 A3 σ' τ6 H' A' → Fin K w F ev E D g b l Hd (i + 1) (l.length - (i + 1)) σ' H' := fun {τ6} e6 σ' H' A' n6 =>
          ⟨rfl, hlt, A', τ6, r2, n6.r, wk.move n5.r n6 hd5, e6, (q2.after R2 n5).after n5.r n6⟩
        split at e2
        · rename_i τ6 e6
          exact ⟨F, A3, τ3, _, n5.r, e6, next e2⟩
        · rename_i τ6 e6
          exact ⟨F, A3, τ3, _, n5.r, e6, next e2⟩
        · rename_i τ6 e6
          cases e2
          exact ⟨F, A3, τ3, _, n5.r, e6, q2.after R2 n5⟩
        · rename_i o h1 h2 h3
          refine ⟨F, A3, τ3, r2, n5.r, e2, ?_⟩
          cases r2 with
          | nx τ7 => exact absurd e2 (h1 τ7)
          | ct τ7 => exact absurd e2 (h2 τ7)
          | br τ7 => exact absurd e2 (h3 τ7)
          | rt o τ7 => exact q2.after R2 n5
          | ex c a τ7 => exact q2.after R2 n5
      · cases e2
    · have e9 : i = l.length := by omega
      subst e9
      refine .inl ⟨wk.stop hd2 (Nat.le_refl _), ?_⟩
      rw [List.drop_length] at e2
      unfold walk at e2
      cases e2
      exact q2 σ2 H2 A2 (Nm.refl R2)
  · cases e
/-! ### while -/
def FinW (K : PySem.W.Frag) (w : World) (F : Frm) (ev : Exv) (E : XK) (D : Ends) (c : Tst) (b : Stm) (m : Nat) (σ : L2.St) (H : Hp) : Prop :=
  ∃ (A : Av) (τ : Sl) (r : Fw), R K w F H A σ τ ∧ whl c b m τ = some r ∧ Enz K w F ev E D σ τ H A r
theorem wWhile {n : Nat} {c : Tst} {b : Stm} (h : TXm K w ev E (mWhile n c b) D σ H) : tWhile (TXt K w c) (TXm K w ev E b) D σ H := by
  obtain ⟨F, A, τ, r, R0, e, q⟩ := h
  refine ⟨FinW K w F ev E D c b, ⟨n, A, τ, r, R0, e, q⟩, ?_⟩
  rintro m σ2 H2 ⟨A2, τ2, r2, R2, e2, q2⟩
  cases m with
  | zero => unfold whl at e2; cases e2
  | succ m =>
    unfold whl at e2
    split at e2
    · rename_i τ3 e3
      cases e2
      refine ⟨F, A2, τ2, false, τ3, R2, e3, fun H3 A3 n3 => ?_⟩
      show if false = true then _ else _
      rw [if_neg Bool.false_ne_true]
      exact q2 σ2 H3 A3 n3.nm
    · rename_i τ3 e3
      refine ⟨F, A2, τ2, true, τ3, R2, e3, fun H3 A3 n3 => ?_⟩
      show if true = true then _ else _
      rw [if_pos rfl]
      refine ⟨FinW K w F ev E D c b m, fun σ' H' f => ⟨m, Nat.lt_succ_self _, f⟩, ?_⟩
      have next : ∀ {τ6 : Sl}, whl c b m τ6 = some r2 → ∀ σ' H' A', Nm K w F σ2 τ3 H3 A3 σ' τ6 H' A' → FinW K w F ev E D c b m σ' H' := fun {τ6} e6 σ' H' A' n6 =>
        ⟨A', τ6, r2, n6.r, e6, (q2.after R2 n3.nm).after n3.r n6⟩
      split at e2
      · rename_i τ6 e6
        exact ⟨F, A3, τ3, _, n3.r, e6, next e2⟩
      · rename_i τ6 e6
        exact ⟨F, A3, τ3, _, n3.r, e6, next e2⟩
      · rename_i τ6 e6
        cases e2
        exact ⟨F, A3, τ3, _, n3.r, e6, q2.after R2 n3.nm⟩
      · rename_i o h1 h2 h3
        refine ⟨F, A3, τ3, r2, n3.r, e2, ?_⟩
        cases r2 with
        | nx τ7 => exact absurd e2 (h1 τ7)
        | ct τ7 => exact absurd e2 (h2 τ7)
        | br τ7 => exact absurd e2 (h3 τ7)
        | rt o τ7 => exact q2.after R2 n3.nm
        | ex c a τ7 => exact q2.after R2 n3.nm
    · cases e2
end
end Dt
set_option maxHeartbeats 4000000
/-! Dt12: list comprehensions. -/
namespace Dt
open PySem PySem.Spec PyProof.Rows L2

def GIs (is : List Nat) (g : T → Sl → Option Sl) : Prop := ∀ t τ τ', g t τ = some τ' → ∀ j : Nat, j ∉ is → τ'[j]? = τ[j]?
theorem gis_one (i : Nat) : GIs [i] (tgt1 i) := fun t τ τ' e j hj => by
  cases e
  exact List.getElem?_set_ne fun z => hj (by rw [z]; exact List.mem_cons_self ..)
theorem gis_all : ∀ {is : List Nat} {ts : List T} {τ τ' : Sl}, putAll τ is ts = some τ' → ∀ j : Nat, j ∉ is → τ'[j]? = τ[j]?
  | [], [], _, _, e, j, _ => by unfold putAll at e; cases e; rfl
  | [], _ :: _, _, _, e, _, _ => by unfold putAll at e; cases e
  | _ :: _, [], _, _, e, _, _ => by unfold putAll at e; cases e
  | i :: is, t :: ts, τ, τ', e, j, hj => by
    unfold putAll at e
    rw [gis_all e j fun z => hj (List.mem_cons_of_mem _ z)]
    exact List.getElem?_set_ne fun z => hj (by rw [z]; exact List.mem_cons_self ..)
theorem gis_many (is : List Nat) : GIs is (tgtN is) := fun t τ τ' e j hj => by
  cases t with
  | tup ts => exact gis_all (show putAll τ is ts = some τ' from e) j hj
  | _ => cases e
/-! ### wiped slots -/
theorem wipeT_len (τ : Sl) : ∀ vs : List Nat, (wipeT τ vs).length = τ.length
  | [] => rfl
  | v :: vs => by unfold wipeT; rw [List.length_set, wipeT_len τ vs]
theorem wipeT_out {τ : Sl} {i : Nat} : ∀ {vs : List Nat}, i ∉ vs → (wipeT τ vs)[i]? = τ[i]?
  | [], _ => rfl
  | v :: vs, h => by
    unfold wipeT
    rw [List.getElem?_set_ne fun z => h (by rw [z]; exact List.mem_cons_self ..)]
    exact wipeT_out fun z => h (List.mem_cons_of_mem _ z)
theorem wipeT_in {τ : Sl} {i : Nat} {x : T × Fl} : ∀ {vs : List Nat}, i ∈ vs → (wipeT τ vs)[i]? ≠ some (some x)
  | [], h => by cases h
  | v :: vs, h => by
    unfold wipeT
    by_cases hv : i = v
    · subst hv
      rw [List.getElem?_set]
      simp only [if_true]
      split <;> exact fun z => by cases z
    · rw [List.getElem?_set_ne fun z => hv z.symm]
      exact wipeT_in (by
        rcases List.mem_cons.mp h with z | z
        · exact absurd z hv
        · exact z)
theorem wipe_in {σ : L2.St} {i : Nat} : ∀ {vs : List Nat}, i ∈ vs → i < σ.length → (wipe σ vs)[i]? = some none
  | [], h, _ => by cases h
  | v :: vs, h, hl => by
    unfold wipe
    by_cases hv : i = v
    · subst hv
      rw [List.getElem?_set_self (by rw [wipe_length]; exact hl)]
    · rw [List.getElem?_set_ne fun z => hv z.symm]
      exact wipe_in (by
        rcases List.mem_cons.mp h with z | z
        · exact absurd z hv
        · exact z) hl
theorem wipe_same {σ σ' : L2.St} {vs : List Nat} (hl : σ'.length = σ.length) (h : ∀ j : Nat, j ∉ vs → σ'[j]? = σ[j]?) : wipe σ' vs = wipe σ vs := by
  apply List.ext_getElem?
  intro j
  by_cases hj : j ∈ vs
  · by_cases hlt : j < σ.length
    · rw [wipe_in hj hlt, wipe_in hj (by rw [hl]; exact hlt)]
    · rw [List.getElem?_eq_none (by rw [wipe_length]; omega), List.getElem?_eq_none (by rw [wipe_length]; omega)]
  · rw [wipe_out hj, wipe_out hj, h j hj]
theorem wipe_wipe {σ : L2.St} {vs : List Nat} : wipe (wipe σ vs) vs = wipe σ vs := wipe_same (wipe_length _ _) fun j hj => wipe_out hj
section
variable {K : PySem.W.Frag} {w : World} {F : Frm} {H H' H0 H1 H2 : Hp} {A A' A0 A1 A2 N : Av} {σ σ' σ1 σ2 : L2.St} {τ τ' τ0 τ1 τ2 : Sl} {i : Nat} {t : T} {v : V} {a p : Addr} {o : Od}
theorem slot_O {O O' : Av} {fl : Fl} (h : SlotOk K w F H A O i t fl v) : SlotOk K w F H A O' i t fl v := by
  cases fl <;> exact h
/-- fewer slots -/
theorem R.part (h : R K w F H A σ τ) (hl : σ'.length = τ'.length) (hs : ∀ (i : Nat) x, τ'[i]? = some (some x) → τ[i]? = some (some x) ∧ σ'[i]? = σ[i]?) : R K w F H A σ' τ' :=
  ⟨hl, h.ext, h.dm, h.sub, h.msub, h.dom, h.domF, h.nwf, fun i t fl e => by
    obtain ⟨e1, e2⟩ := hs i _ e
    obtain ⟨v, e3, s⟩ := h.slot i t fl e1
    exact ⟨v, e2.trans e3, slot_O s⟩, fun i j a ⟨t, fl, q1, q2⟩ ⟨t', fl', q3, q4⟩ q5 q6 => by
    obtain ⟨e1, e2⟩ := hs i _ q1
    obtain ⟨e3, e4⟩ := hs j _ q3
    exact h.uniq i j a ⟨t, fl, e1, q2⟩ ⟨t', fl', e3, q4⟩ (e2 ▸ q5) (e4 ▸ q6)⟩
theorem ow_part (hs : ∀ (i : Nat) x, τ'[i]? = some (some x) → τ[i]? = some (some x) ∧ σ'[i]? = σ[i]?) : ∀ b, Ow σ' τ' b → Ow σ τ b := fun b ⟨i, t, fl, e, q, z⟩ => by
  obtain ⟨e1, e2⟩ := hs i _ e
  exact ⟨i, t, fl, e1, q, e2 ▸ z⟩
theorem pr_part (hs : ∀ (i : Nat) x, τ'[i]? = some (some x) → τ[i]? = some (some x) ∧ σ'[i]? = σ[i]?) : ∀ b, Pr σ' τ' b → Pr σ τ b := fun b ⟨i, t, fl, e, q, z⟩ => by
  obtain ⟨e1, e2⟩ := hs i _ e
  exact ⟨i, t, fl, e1, q, e2 ▸ z⟩
theorem wipe_part (vs : List Nat) : ∀ (i : Nat) x, (wipeT τ vs)[i]? = some (some x) → τ[i]? = some (some x) ∧ (wipe σ vs)[i]? = σ[i]? := fun i x e => by
  by_cases hi : i ∈ vs
  · exact absurd e (wipeT_in hi)
  · rw [wipeT_out hi] at e
    exact ⟨e, wipe_out hi⟩
theorem R.wiped (h : R K w F H A σ τ) (vs : List Nat) : R K w F H A (wipe σ vs) (wipeT τ vs) := h.part (by rw [wipe_length, wipeT_len]; exact h.len) (wipe_part vs)
/-- an object that no slot holds is changed -/
theorem R.box (h : R K w F H A σ τ) {o' : HO} (ha : A p) (hF : F.H p = none) (hp : ¬ Pr σ τ p) : R K w F (upd H p o') A σ τ := by
  have ka : ∀ b o, ¬ A b → H b = some o → upd H p o' b = some o := kp_upd ha
  have en : ∀ b, A b → A b ∨ H b = none := fun _ z => .inl z
  have kb : ∀ b o, b ≠ p → H b = some o → upd H p o' b = some o := fun b o n q => by rw [upd_ne n]; exact q
  have dm : ∀ b o, H b = some o → ∃ o1, upd H p o' b = some o1 := fun b o q => by
    by_cases hb : b = p
    · subst hb; exact ⟨o', upd_same⟩
    · exact ⟨o, kb b o hb q⟩
  refine ⟨h.len, fun b o n q => kb b o (fun z => ?_) (h.ext b o n q), fun b o q => ?_, h.sub, h.msub, fun b z => ?_, h.domF, h.nwf, fun i t fl e => ?_, h.uniq⟩
  · subst z; rw [hF] at q; cases q
  · obtain ⟨o1, q1⟩ := h.dm b o q
    exact dm b o1 q1
  · obtain ⟨o, q⟩ := h.dom b z
    exact dm b o q
  · obtain ⟨v, e1, s⟩ := h.slot i t fl e
    refine ⟨v, e1, ?_⟩
    cases fl with
    | shr => exact Rep.keep ka en _ _ s
    | own => obtain ⟨b, rfl, g1, g2, r⟩ := s; exact ⟨b, rfl, g1, g2, r.keep ka en fun o q => kb b o (fun z => hp ⟨i, t, _, e, .inl rfl, z ▸ e1⟩) q⟩
    | len => obtain ⟨b, rfl, g1, g2, r⟩ := s; exact ⟨b, rfl, g1, g2, r.keep ka en fun o q => kb b o (fun z => hp ⟨i, t, _, e, .inr (.inr rfl), z ▸ e1⟩) q⟩
    | chg => obtain ⟨b, rfl, g1, g2, g3, r⟩ := s; exact ⟨b, rfl, g1, g2, g3, r.keep ka en fun o q => kb b o (fun z => hp ⟨i, t, _, e, .inr (.inl rfl), z ▸ e1⟩) q⟩
    | bor => exact s
theorem unwipe_len (τ₀ τ : Sl) : ∀ vs : List Nat, (unwipe τ₀ τ vs).length = τ.length
  | [] => rfl
  | v :: vs => by
    unfold unwipe
    split
    · rw [List.length_set, unwipe_len τ₀ τ vs]
    · exact unwipe_len τ₀ τ vs
theorem unwipe_out {τ₀ τ : Sl} {i : Nat} : ∀ {vs : List Nat}, i ∉ vs → (unwipe τ₀ τ vs)[i]? = τ[i]?
  | [], _ => rfl
  | v :: vs, h => by
    unfold unwipe
    split
    · rw [List.getElem?_set_ne fun z => h (by rw [z]; exact List.mem_cons_self ..)]
      exact unwipe_out fun z => h (List.mem_cons_of_mem _ z)
    · exact unwipe_out fun z => h (List.mem_cons_of_mem _ z)
theorem unwipe_in {τ₀ τ : Sl} {i : Nat} (hl : τ.length = τ₀.length) : ∀ {vs : List Nat}, i ∈ vs → (unwipe τ₀ τ vs)[i]? = τ₀[i]?
  | [], h => by cases h
  | v :: vs, h => by
    unfold unwipe
    by_cases hv : i = v
    · subst hv
      split
      · rename_i x e
        rw [List.getElem?_set]
        simp only [if_true]
        have : i < τ₀.length := by
          rcases Nat.lt_or_ge i τ₀.length with q | q
          · exact q
          · rw [List.getElem?_eq_none q] at e; cases e
        rw [if_pos (by rw [unwipe_len, hl]; exact this), e]
      · rename_i e
        rw [e]
        rw [List.getElem?_eq_none_iff] at e ⊢
        rw [unwipe_len, hl]; exact e
    · have hm : i ∈ vs := by
        rcases List.mem_cons.mp h with z | z
        · exact absurd z hv
        · exact z
      split
      · rw [List.getElem?_set_ne fun z => hv z.symm]
        exact unwipe_in hl hm
      · exact unwipe_in hl hm

/-- where a comprehension stands: D the list it fills -/
structure Cp (K : PySem.W.Frag) (w : World) (F : Frm) (vs : List Nat) (σ : L2.St) (τ1 : Sl) (H1 : Hp) (A1 : Av) (D : Addr) (acc : List T) (τ : Sl) (H : Hp) (A : Av) : Prop where
  r : R K w F H A (wipe σ vs) τ
  wp : ∀ (i : Nat) x, i ∈ vs → τ[i]? ≠ some (some x)
  s : Stp (Ow σ τ1) H1 A1 H A
  ow : ∀ a, Ow (wipe σ vs) τ a → Ow σ τ1 a
  pr : ∀ a, Pr (wipe σ vs) τ a → Pr σ τ1 a
  th : ∀ j : Nat, j ∉ vs → (∃ x, τ1[j]? = some (some x)) → ∃ x, τ[j]? = some (some x)
  ad : A D
  fd : F.H D = none
  nd : ¬ Pr (wipe σ vs) τ D
  box : ∃ us, H D = some (.lst us) ∧ Reps K w H A acc us ∧ us.length = acc.length
theorem Cp.done {vs : List Nat} {D : Addr} {acc : List T} (h1 : R K w F H1 A1 σ τ1) (hp : τ1.plain vs = true) (c : Cp K w F vs σ τ1 H1 A1 D acc τ H A) : Nx K w F σ τ1 H1 A1 (unwipe τ1 τ vs) H A := by
  have hl : τ.length = τ1.length := by rw [← c.r.len, wipe_length, h1.len]
  have pl : ∀ (i : Nat) t fl, i ∈ vs → τ1[i]? = some (some (t, fl)) → fl = .shr := fun i t fl hi e => by
    unfold Sl.plain at hp
    rw [List.all_eq_true] at hp
    have := hp i hi
    rw [e] at this
    cases fl with
    | shr => rfl
    | _ => simp at this
  have own : ∀ {i : Nat} {t : T} {fl : Fl}, (unwipe τ1 τ vs)[i]? = some (some (t, fl)) → (fl = .own ∨ fl = .chg ∨ fl = .len) → τ[i]? = some (some (t, fl)) ∧ (wipe σ vs)[i]? = σ[i]? := fun {i t fl} e hf => by
    by_cases hi : i ∈ vs
    · rw [unwipe_in hl hi] at e
      have := pl i t fl hi e
      subst this
      rcases hf with hf | hf | hf <;> cases hf
    · rw [unwipe_out hi] at e
      exact ⟨e, wipe_out hi⟩
  have ow : ∀ a, Ow σ (unwipe τ1 τ vs) a → Ow (wipe σ vs) τ a := fun a ⟨i, t, fl, e, q, z⟩ => by
    obtain ⟨e1, e2⟩ := own e (q.elim .inl fun z => .inr (.inl z))
    exact ⟨i, t, fl, e1, q, e2 ▸ z⟩
  have pr : ∀ a, Pr σ (unwipe τ1 τ vs) a → Pr (wipe σ vs) τ a := fun a ⟨i, t, fl, e, q, z⟩ => by
    obtain ⟨e1, e2⟩ := own e q
    exact ⟨i, t, fl, e1, q, e2 ▸ z⟩
  refine ⟨⟨by rw [unwipe_len, hl]; exact h1.len, c.r.ext, c.r.dm, c.r.sub, c.r.msub, c.r.dom, c.r.domF, c.r.nwf, fun i t fl e => ?_, fun i j a ⟨t, fl, q1, q2⟩ ⟨t', fl', q3, q4⟩ q5 q6 => ?_⟩, c.s, ⟨fun a z => c.ow a (ow a z), fun a z => c.pr a (pr a z), fun j z => ?_⟩⟩
  · by_cases hi : i ∈ vs
    · rw [unwipe_in hl hi] at e
      have := pl i t fl hi e
      subst this
      obtain ⟨v, e1, s⟩ := h1.slot i t _ e
      exact ⟨v, e1, h1.keepR c.s s⟩
    · rw [unwipe_out hi] at e
      obtain ⟨v, e1, s⟩ := c.r.slot i t fl e
      rw [wipe_out hi] at e1
      exact ⟨v, e1, slot_O s⟩
  · obtain ⟨e1, e2⟩ := own q1 q2
    obtain ⟨e3, e4⟩ := own q3 q4
    exact c.r.uniq i j a ⟨t, fl, e1, q2⟩ ⟨t', fl', e3, q4⟩ (e2 ▸ q5) (e4 ▸ q6)
  · by_cases hj : j ∈ vs
    · rw [unwipe_in hl hj]; exact z
    · rw [unwipe_out hj]; exact c.th j hj z
/-- a turn's end -/
theorem Cp.turn {vs : List Nat} {D : Addr} {acc : List T} {σ4 : L2.St} {τ5 : Sl} {H5 : Hp} {A5 : Av} (c : Cp K w F vs σ τ1 H1 A1 D acc τ H A) (n : Nm K w F (wipe σ vs) τ H A σ4 τ5 H5 A5) (hw : wipe σ4 vs = wipe σ vs)
    (th : ∀ j : Nat, j ∉ vs → (∃ x, τ[j]? = some (some x)) → ∃ x, τ5[j]? = some (some x)) (h1 : R K w F H1 A1 σ τ1) (ho : ∀ a, Ow (wipe σ vs) (wipeT τ5 vs) a → Ow (wipe σ vs) τ a) (hpr : ∀ a, Pr (wipe σ vs) (wipeT τ5 vs) a → Pr (wipe σ vs) τ a) :
    Cp K w F vs σ τ1 H1 A1 D acc (wipeT τ5 vs) H5 A5 := by
  obtain ⟨us, b1, b2, b3⟩ := c.box
  have nO : ¬ Ow (wipe σ vs) τ D := fun z => c.nd z.pr
  refine ⟨by rw [← hw]; exact n.r.wiped vs, fun i x hi => wipeT_in hi, c.s.trans n.s c.ow, fun a z => c.ow a (ho a z), fun a z => c.pr a (hpr a z), fun j hj z => ?_, n.s.old D c.ad nO, c.fd, fun z => c.nd (hpr D z), us, n.s.keep D _ nO b1, c.r.keepRs n.s b2, b3⟩
  rw [wipeT_out hj]
  exact th j hj (c.th j hj z)
theorem Cp.push {vs : List Nat} {D : Addr} {acc : List T} {us : List V} {y : V} (hD : H1 D = none) (c : Cp K w F vs σ τ1 H1 A1 D acc τ H A) (hu : H D = some (.lst us)) (ry : Rep K w H A t y) :
    Cp K w F vs σ τ1 H1 A1 D (acc ++ [t]) τ (upd H D (.lst (us ++ [y]))) A := by
  obtain ⟨us', b1, b2, b3⟩ := c.box
  rw [hu] at b1; cases b1
  have ka : ∀ b o, ¬ A b → H b = some o → upd H D (.lst (us ++ [y])) b = some o := kp_upd c.ad
  have en : ∀ b, A b → A b ∨ H b = none := fun _ z => .inl z
  refine ⟨c.r.box c.ad c.fd c.nd, c.wp, ⟨fun b o n q => ?_, fun b o q => ?_, c.s.new, c.s.old⟩, c.ow, c.pr, c.th, c.ad, c.fd, c.nd, us ++ [y], upd_same, ?_, by simp [b3]⟩
  · rw [upd_ne (fun z => by rw [z, hD] at q; cases q)]
    exact c.s.keep b o n q
  · obtain ⟨o1, q1⟩ := c.s.dm b o q
    by_cases hb : b = D
    · exact ⟨_, by rw [hb]; exact upd_same⟩
    · exact ⟨o1, by rw [upd_ne hb]; exact q1⟩
  · exact Reps.keep ka en _ _ (b2.app (Reps.one ry))
theorem exact_ow (h : R K w F H A σ' τ') (x : Ow σ τ a ∨ H a = none) (y : Ow σ' τ' a) : Ow σ τ a := by
  rcases x with x | x
  · exact x
  · obtain ⟨o, e⟩ := h.dom a (h.ow y)
    rw [x] at e; cases e
theorem exact_pr (h : R K w F H A σ' τ') (x : Pr σ τ a ∨ H a = none) (y : Pr σ' τ' a) : Pr σ τ a := by
  rcases x with x | x
  · exact x
  · obtain ⟨o, e⟩ := h.dom a (h.pr y)
    rw [x] at e; cases e
theorem wLc {s : Src} {g : T → Sl → Option Sl} {tg : TG} {is vs : List Nat} {c : Tst} {e : Sem} {tt : TT} {Q : VK} (hg : GOk K w is g tg) (gi : GIs is g) (hs : ∀ i ∈ is, i ∈ vs)
    (ht : ∀ σ H Q, TXt K w c σ H Q → tt σ H Q) (h : TX K w (sLc s g vs c e) σ H Q) : tLc (TI' K w s) tg tt (TX K w e) vs σ H Q := by
  obtain ⟨F, A, τ, o, τ', R0, e0, q⟩ := h
  unfold sLc at e0
  split at e0
  · rename_i l τ1 e1
    split at e0
    · rename_i hp
      split at e0
      · rename_i ts τ2 e2
        cases e0
        refine ⟨F, A, τ, l, τ1, R0, e1, fun J Hd H1 A1 n1 wk hd D hD => ?_⟩
        refine ⟨fun i m H => m = l.length - i ∧ i ≤ l.length ∧ ∃ (A : Av) (τc : Sl) (acc : List T), Cp K w F vs σ τ1 H1 A1 D acc τc H A ∧ Hd H A (fun b => Ow (wipe σ vs) τc b ∨ b = D) ∧ collect g vs c e (l.drop i) acc τc = some (ts, τ2), ?_, ?_⟩
        · have n2 := n1.r.laidF (o := .lst []) hD
          have nA : ¬ A1 D := n1.r.fresh hD
          refine ⟨l.length, by omega, Nat.zero_le _, _, _, [], ⟨n2.r.wiped vs, fun i x hi => wipeT_in hi, n2.s, ow_part (wipe_part vs), pr_part (wipe_part vs), fun j hj z => by rw [wipeT_out hj]; exact z, .inr rfl, n1.r.nn hD, fun z => nA (n1.r.pr (pr_part (wipe_part vs) D z)), [], upd_same, by simp only [Reps], rfl⟩, ?_, e2⟩
          refine wk.keep hd n2.s.keep (fun b z => ?_) (fun b o z e => n2.s.keep b o (fun q => z (n1.r.ow q)) e) n2.s.new
          rcases z with z | z
          · exact .inl (ow_part (wipe_part vs) b z)
          · exact .inr (by rw [z]; exact hD)
        · rintro i m H3 ⟨rfl, hi, A3, τc, acc, cp, hd3, e3⟩
          by_cases hlt : i < l.length
          · refine .inr ⟨wk.go hd3 hlt, fun H' => ∃ (A : Av) (τc : Sl) (acc : List T), Cp K w F vs σ τ1 H1 A1 D acc τc H' A ∧ Hd H' A (fun b => Ow (wipe σ vs) τc b ∨ b = D) ∧ collect g vs c e (l.drop (i + 1)) acc τc = some (ts, τ2), fun H' f => ⟨_, by omega, rfl, hlt, f⟩, fun x H4 y => ?_⟩
            rw [drop_at hlt] at e3
            unfold collect at e3
            split at e3
            · rename_i τ4 e4
              have item : ∃ A4, Nx K w F (wipe σ vs) τc H3 A3 τc H4 A4 ∧ Rep K w H4 A4 l[i] x := by
                rcases wk.yld hd3 y (t := l[i]) (by simp [hlt]) with ⟨rfl, rp⟩ | ⟨p, xs, us, e5, rfl, rfl, e6, rp⟩
                · exact ⟨A3, Nx.refl cp.r, rp⟩
                · obtain ⟨n, rr⟩ := newT cp.r rp e5
                  rw [e6]
                  exact ⟨A3, n, rr⟩
              obtain ⟨A4, n4, rp⟩ := item
              refine hg F H4 A4 (wipe σ vs) τc l[i] x τ4 _ n4.r rp e4 fun σ4 n5 hl hj => ?_
              have hw : wipe σ4 vs = wipe σ vs := by
                rw [← wipe_wipe (σ := σ)]
                exact wipe_same hl fun j hj' => hj j fun z => hj' (hs j z)
              have lo : ∀ a, Ow σ4 τ4 a → Ow (wipe σ vs) τc a := fun a z => exact_ow n5.r (n5.ow a z) z
              have lp : ∀ a, Pr σ4 τ4 a → Pr (wipe σ vs) τc a := fun a z => exact_pr n5.r (n5.pr a z) z
              have lt : ∀ j : Nat, j ∉ vs → (∃ x, τc[j]? = some (some x)) → ∃ x, τ4[j]? = some (some x) := fun j hj' z => by
                rw [gi _ _ _ e4 j fun z => hj' (hs j z)]; exact z
              have n45 := n4.nm.trans cp.r n5
              -- what a turn leaves
              have fin : ∀ {τ7 : Sl} {H7 : Hp} {A7 : Av}, Nx K w F σ4 τ4 H4 A4 τ7 H7 A7 → Cp K w F vs σ τ1 H1 A1 D acc (wipeT τ7 vs) H7 A7 ∧ Hd H7 A7 (fun b => Ow (wipe σ vs) (wipeT τ7 vs) b ∨ b = D) := fun {τ7 H7 A7} n7 => by
                have n := n45.trans cp.r n7.nm
                have o7 : ∀ a, Ow (wipe σ vs) (wipeT τ7 vs) a → Ow (wipe σ vs) τc a := fun a z => by
                  rw [← hw] at z
                  exact lo a (n7.l.ow a (ow_part (wipe_part vs) a z))
                have p7 : ∀ a, Pr (wipe σ vs) (wipeT τ7 vs) a → Pr (wipe σ vs) τc a := fun a z => by
                  rw [← hw] at z
                  exact lp a (n7.l.pr a (pr_part (wipe_part vs) a z))
                refine ⟨cp.turn n hw (fun j hj' z => n7.l.there j (lt j hj' z)) n1.r o7 p7, ?_⟩
                refine wk.keep hd3 (fun b o z e => n.s.keep b o (fun q => z (.inl q)) e) (fun b z => .inl (z.imp (o7 b) id)) (fun b o z e => n.s.keep b o (fun q => z (cp.r.ow q)) e) n.s.new
              refine ⟨hw, ht _ _ _ ?_⟩
              split at e3
              · rename_i τ5 e5
                refine ⟨F, A4, τ4, false, τ5, n5.r, e5, fun H5 A5 n6 => ?_⟩
                show if false = true then _ else _
                rw [if_neg Bool.false_ne_true]
                obtain ⟨f1, f2⟩ := fin n6
                exact ⟨A5, _, acc, f1, f2, e3⟩
              · rename_i τ5 e5
                refine ⟨F, A4, τ4, true, τ5, n5.r, e5, fun H5 A5 n6 => ?_⟩
                show if true = true then _ else _
                rw [if_pos rfl]
                split at e3
                · rename_i x6 τ6 e6
                  split at e3
                  · rename_i t7 τ7 e7
                    split at e3
                    · rename_i hz
                      refine ⟨F, A5, τ5, x6, τ6, n6.r, e6, fun y7 H7 A7 n7 r7 => ?_⟩
                      obtain ⟨A7', n7', r7'⟩ := share n6.r n7 x6 r7
                      have e7' : τ6.esc x6.sh = some (t7, τ7) := by cases x6 <;> exact e7
                      obtain ⟨A8, n8, r8⟩ := esc_ok n7'.r x6.sh r7' e7'
                      obtain ⟨f1, f2⟩ := fin ((n6.trans n7').trans n8)
                      obtain ⟨us, b1, b2, b3⟩ := f1.box
                      refine ⟨us, b1, by rw [b3]; exact hz, A8, _, acc ++ [t7], f1.push hD b1 r8, ?_, e3⟩
                      refine wk.keep f2 (fun b o z e => ?_) (fun b z => .inl z) (fun b o z e => kp_upd f1.ad b o z e) (fun b z => .inl z)
                      rw [upd_ne fun q => z (.inr q)]; exact e
                    · cases e3
                  · cases e3
                · cases e3
              · cases e3
            · cases e3
          · have e9 : i = l.length := by omega
            subst e9
            rw [List.drop_length] at e3
            unfold collect at e3
            cases e3
            refine .inl ⟨wk.stop hd3 (Nat.le_refl _), ?_⟩
            obtain ⟨us, b1, b2, b3⟩ := cp.box
            refine q (.ref D) H3 A3 (n1.trans (cp.done n1.r hp)) ⟨D, rfl, ?_, cp.ad, us, b1, b2⟩
            cases z : H D with
            | none => rfl
            | some u =>
              obtain ⟨u', z'⟩ := n1.s.dm D u z
              rw [hD] at z'; cases z'
      · cases e0
    · cases e0
  · cases e0
end
end Dt
set_option maxHeartbeats 4000000
/-! Dt13: a def's body and its promise. -/
namespace Dt
open PySem PySem.Spec PyProof.Rows L2

section
variable {K : PySem.W.Frag} {w : World} {F : Frm} {H H' : Hp} {A A' N : Av} {σ σ' : L2.St} {τ τ' : Sl} {i : Nat} {t : T} {v : V} {a p : Addr} {o : Od}
theorem frm_get : ∀ {ms : List Md} {ts : List T} {i : Nat} {t : T} {fl : Fl}, (frmOf ms ts)[i]? = some (some (t, fl)) → ts[i]? = some t ∧ ((ms[i]? = some .S ∧ fl = .shr) ∨ (ms[i]? = some .B ∧ fl = if t.scal then .shr else .bor) ∨ (ms[i]? = some .M ∧ fl = .chg))
  | [], ts, i, t, fl, h => by unfold frmOf at h; simp at h
  | .S :: ms, [], i, t, fl, h => by unfold frmOf at h; simp at h
  | .B :: ms, [], i, t, fl, h => by unfold frmOf at h; simp at h
  | .M :: ms, [], i, t, fl, h => by unfold frmOf at h; simp at h
  | .S :: ms, u :: ts, 0, t, fl, h => by unfold frmOf at h; simp at h; obtain ⟨rfl, rfl⟩ := h; exact ⟨rfl, .inl ⟨rfl, rfl⟩⟩
  | .B :: ms, u :: ts, 0, t, fl, h => by unfold frmOf at h; simp only [List.getElem?_cons_zero, Option.some.injEq, Prod.mk.injEq] at h; obtain ⟨rfl, rfl⟩ := h; exact ⟨rfl, .inr (.inl ⟨rfl, rfl⟩)⟩
  | .M :: ms, u :: ts, 0, t, fl, h => by unfold frmOf at h; simp at h; obtain ⟨rfl, rfl⟩ := h; exact ⟨rfl, .inr (.inr ⟨rfl, rfl⟩)⟩
  | .S :: ms, u :: ts, i + 1, t, fl, h => by unfold frmOf at h; exact frm_get (i := i) (by simpa using h)
  | .B :: ms, u :: ts, i + 1, t, fl, h => by unfold frmOf at h; exact frm_get (i := i) (by simpa using h)
  | .M :: ms, u :: ts, i + 1, t, fl, h => by unfold frmOf at h; exact frm_get (i := i) (by simpa using h)
theorem frm_len : ∀ {ms : List Md} {ts : List T}, ts.length = ms.length → (frmOf ms ts).length = ms.length
  | [], ts, _ => by unfold frmOf; rfl
  | .S :: ms, [], h => by simp at h
  | .B :: ms, [], h => by simp at h
  | .M :: ms, [], h => by simp at h
  | .S :: ms, u :: ts, h => by unfold frmOf; simp [frm_len (ms := ms) (ts := ts) (by simpa using h)]
  | .B :: ms, u :: ts, h => by unfold frmOf; simp [frm_len (ms := ms) (ts := ts) (by simpa using h)]
  | .M :: ms, u :: ts, h => by unfold frmOf; simp [frm_len (ms := ms) (ts := ts) (by simpa using h)]
theorem vw_scal (h : Vw K w H N A t v) (s : t.scal = true) : Rep K w H A t v := by
  cases t with
  | lst l => cases s
  | dct l => cases s
  | _ => exact h
/-- the state at the entry -/
theorem entry {ms : List Md} {ts : List T} {vs : List V} {n : Nat} (h : Args K w H A ms ts vs) (hn : ms.length ≤ n) :
    R K w ⟨H, A, Mset ms vs, vs⟩ H A (vs.map some ++ List.replicate (n - vs.length) none) (frmOf ms ts ++ List.replicate (n - ms.length) none) := by
  have hf := frm_len h.l1
  have at_ : ∀ {i : Nat} {t : T} {fl : Fl}, (frmOf ms ts ++ List.replicate (n - ms.length) none)[i]? = some (some (t, fl)) → (frmOf ms ts)[i]? = some (some (t, fl)) := fun {i t fl} e => by
    by_cases hi : i < (frmOf ms ts).length
    · rw [List.getElem?_append_left hi] at e; exact e
    · rw [List.getElem?_append_right (by omega)] at e
      rw [List.getElem?_replicate] at e
      split at e <;> cases e
  have vat : ∀ {i : Nat} {v : V}, vs[i]? = some v → (vs.map some ++ List.replicate (n - vs.length) none)[i]? = some (some v) := fun {i v} e => by
    have hi : i < vs.length := (List.getElem?_eq_some_iff.mp e).1
    rw [List.getElem?_append_left (by simpa using hi), List.getElem?_map, e]; rfl
  have vat' : ∀ {i : Nat} {v : V}, (vs.map some ++ List.replicate (n - vs.length) none)[i]? = some (some v) → vs[i]? = some v := fun {i v} e => by
    by_cases hi : i < vs.length
    · rw [List.getElem?_append_left (by simpa using hi), List.getElem?_map] at e
      cases z : vs[i]? with
      | none => rw [z] at e; cases e
      | some u => rw [z] at e; cases e; rfl
    · rw [List.getElem?_append_right (by simpa using hi), List.getElem?_replicate] at e
      split at e <;> cases e
  have mA : ∀ a, Mset ms vs a → A a := fun a ⟨i, e1, e2⟩ => by
    have hi : i < ts.length := by rw [h.l1]; exact (List.getElem?_eq_some_iff.mp e1).1
    obtain ⟨b, e3, hb, _⟩ := h.m i ts[i] _ e1 (by simp [hi]) e2
    cases e3; exact hb
  refine ⟨?_, fun _ _ _ e => e, fun _ o e => ⟨o, e⟩, fun _ z => z, mA, h.dom, h.dom, fun _ z => .inl z, fun i t fl e => ?_, fun i j a ⟨t, fl, q1, q2⟩ ⟨t', fl', q3, q4⟩ q5 q6 => ?_⟩
  · simp only [List.length_append, List.length_map, List.length_replicate, hf, h.l2]
  · obtain ⟨e1, e2⟩ := frm_get (at_ e)
    have hi : i < vs.length := by
      rw [h.l2, ← h.l1]; exact (List.getElem?_eq_some_iff.mp e1).1
    have e3 : vs[i]? = some vs[i] := by simp [hi]
    refine ⟨vs[i], vat e3, ?_⟩
    rcases e2 with ⟨e2, rfl⟩ | ⟨e2, rfl⟩ | ⟨e2, rfl⟩
    · exact h.s i t _ e2 e1 e3
    · have hv := h.b i t _ e2 e1 e3
      by_cases hs : t.scal = true
      · rw [if_pos hs]; exact vw_scal hv hs
      · rw [if_neg hs]; exact hv
    · obtain ⟨a, ea, ha, r⟩ := h.m i t _ e2 e1 e3
      exact ⟨a, ea, ha, ⟨i, e2, by rw [e3, ea]⟩, e3, r⟩
  · have isM : ∀ {i : Nat} {t : T} {fl : Fl}, (frmOf ms ts ++ List.replicate (n - ms.length) none)[i]? = some (some (t, fl)) → (fl = .own ∨ fl = .chg ∨ fl = .len) → ms[i]? = some .M := fun {i t fl} e hf => by
      obtain ⟨e1, e2⟩ := frm_get (at_ e)
      rcases e2 with ⟨e2, rfl⟩ | ⟨e2, rfl⟩ | ⟨e2, rfl⟩
      · rcases hf with hf | hf | hf <;> cases hf
      · by_cases hs : t.scal = true
        · rw [if_pos hs] at hf; rcases hf with hf | hf | hf <;> cases hf
        · rw [if_neg hs] at hf; rcases hf with hf | hf | hf <;> cases hf
      · exact e2
    exact h.u i j a (isM q1 q2) (isM q3 q4) (vat' q5) (vat' q6)
/-- what changed, at the end -/
theorem outs_ok (h : R K w F H' A' σ τ) (hA : ∀ b, N b → A' b ∨ H' b = none) : ∀ {ms : List Md} {vs : List V} {i : Nat} {outs : List T}, vs.length = ms.length → (∀ k : Nat, F.vs[i + k]? = vs[k]?) → outsOf ms i τ = some outs → OutsOk K w H' N ms vs outs
  | [], vs, i, outs, hl, hv, e => by
    unfold outsOf at e; cases e
    exact rfl
  | .S :: ms, [], i, outs, hl, hv, e => by simp at hl
  | .B :: ms, [], i, outs, hl, hv, e => by simp at hl
  | .M :: ms, [], i, outs, hl, hv, e => by simp at hl
  | .S :: ms, v :: vs, i, outs, hl, hv, e => by
    unfold outsOf at e
    exact outs_ok h hA (ms := ms) (vs := vs) (i := i + 1) (by simpa using hl) (fun k => by have := hv (k + 1); rw [show i + (k + 1) = i + 1 + k by omega] at this; simpa using this) e
  | .B :: ms, v :: vs, i, outs, hl, hv, e => by
    unfold outsOf at e
    exact outs_ok h hA (ms := ms) (vs := vs) (i := i + 1) (by simpa using hl) (fun k => by have := hv (k + 1); rw [show i + (k + 1) = i + 1 + k by omega] at this; simpa using this) e
  | .M :: ms, v :: vs, i, outs, hl, hv, e => by
    unfold outsOf at e
    split at e
    · rename_i t e1
      cases e2 : outsOf ms (i + 1) τ with
      | none => rw [e2] at e; cases e
      | some r =>
        rw [e2] at e; cases e
        have ih := outs_ok h hA (ms := ms) (vs := vs) (i := i + 1) (by simpa using hl) (fun k => by have := hv (k + 1); rw [show i + (k + 1) = i + 1 + k by omega] at this; simpa using this) e2
        obtain ⟨u, e3, a, e4, ha, hM, e5, r5⟩ := h.slot i t _ e1
        have e6 := hv 0
        rw [Nat.add_zero, e5] at e6
        have e7 : u = v := Option.some.inj e6
        exact ⟨t, r, a, rfl, by rw [← e7, e4], r5.keep (fun _ _ _ q => q) hA fun _ q => q, ih⟩
    · cases e
def contM (ms : List Md) : Bool := ms.contains .M
theorem mset_none {ms : List Md} {vs : List V} (h : ¬ ms.contains .M = true) (a : Addr) : ¬ Mset ms vs a := fun ⟨i, e, _⟩ => h (by
  rw [List.contains_iff_exists_mem_beq]
  exact ⟨.M, List.mem_of_getElem? e, by decide⟩)
end

section
variable {P : Program} {w : World} {K : PySem.W.Frag} {mg : Str → Option Value} {base : Heap}
/-- a body's reading gives the promise -/
theorem body_ok {ev : Exv} {ms : List Md} {n : Nat} {m : Stm} {vs : List V} {H : Hp} {Q : VK} {E : XK} (hn : ms.length ≤ n) (h : spF K w (fun c ws C d _ H' => ev c ws C d H') ms (runF ms n m) vs H Q E) :
    TXm K w ev E m { nx := fun _ H' => Q .non H', rt := Q } (vs.map some ++ List.replicate (n - vs.length) none) H := by
  obtain ⟨A, ts, r, ar, e, q⟩ := h
  unfold runF at e
  split at e
  · have R0 := entry ar hn
    have en : ∀ {H' : Hp} {A' : Av} {σ' : L2.St} {τ' : Sl}, R K w ⟨H, A, Mset ms vs, vs⟩ H' A' σ' τ' → ∀ b, A b → A' b ∨ H' b = none := fun r b z => .inl (r.sub b z)
    have oo : ∀ {H' : Hp} {A' N : Av} {σ' : L2.St} {τ' : Sl} {outs : List T}, R K w ⟨H, A, Mset ms vs, vs⟩ H' A' σ' τ' → (∀ b, N b → A' b ∨ H' b = none) → outsOf ms 0 τ' = some outs → OutsOk K w H' N ms vs outs := fun r hA e =>
      outs_ok r hA ar.l2 (fun k => by rw [Nat.zero_add]) e
    -- a value returned
    have val : ∀ {o : Od} {τ' : Sl}, resOf ms o τ' = some r → ∀ v σ' H' A', Nm K w ⟨H, A, Mset ms vs, vs⟩ (vs.map some ++ List.replicate (n - vs.length) none) (frmOf ms ts ++ List.replicate (n - ms.length) none) H A σ' τ' H' A' → OdOk K w H H' A' σ' τ' o v → Q v H' := fun {o τ'} e v σ' H' A' nn ok => by
      have kp : ∀ a o, ¬ Mset ms vs a → H a = some o → H' a = some o := nn.r.ext
      have fresh : ∀ {p : Addr} {t : T} {outs : List T}, outsOf ms 0 τ' = some outs → r = .ret t true outs → H p = none → A' p → Root K w H' A' p t → Q (.ref p) H' := fun {p t outs} e1 e2 h0 hp rt => by
        subst e2
        have eN : ∀ b, (A b ∨ b = p) → A' b ∨ H' b = none := fun b z => z.elim (fun z => .inl (nn.r.sub b z)) fun z => .inl (by rw [z]; exact hp)
        exact q p H' kp nn.r.dm h0 (oo nn.r eN e1) (rt.keep (fun _ _ _ q => q) eN fun _ q => q)
      have value : ∀ {v : V} {t : T} {outs : List T}, outsOf ms 0 τ' = some outs → r = .ret t false outs → Rep K w H' A' t v → Q v H' := fun {v t outs} e1 e2 rp => by
        subst e2
        exact q v H' kp nn.r.dm (oo nn.r (en nn.r) e1) (Rep.keep (fun _ _ _ q => q) (en nn.r) _ _ rp)
      cases o with
      | f t =>
        obtain ⟨p, rfl, h0, hp, rt⟩ := ok
        have e' : (outsOf ms 0 τ').map (Res.ret t true) = some r := e
        cases e1 : outsOf ms 0 τ' with
        | none => rw [e1] at e'; cases e'
        | some outs => rw [e1] at e'; exact fresh e1 (Option.some.inj e').symm h0 hp rt
      | v t =>
        have e' : (outsOf ms 0 τ').map (Res.ret t false) = some r := e
        cases e1 : outsOf ms 0 τ' with
        | none => rw [e1] at e'; cases e'
        | some outs => rw [e1] at e'; exact value e1 (Option.some.inj e').symm ok
      | s i =>
        have e' : (match τ'[i]? with
          | some (some (t, .own)) => (outsOf ms 0 τ').map (Res.ret t true)
          | some (some (t, .shr)) => (outsOf ms 0 τ').map (Res.ret t false)
          | _ => none) = some r := e
        obtain ⟨q1, _⟩ := ok
        split at e'
        · rename_i t e0
          obtain ⟨u, e2, s⟩ := nn.r.slot i t _ e0
          rw [q1] at e2; cases e2
          obtain ⟨p, rfl, hp, h0, rt⟩ := s
          cases e1 : outsOf ms 0 τ' with
          | none => rw [e1] at e'; cases e'
          | some outs => rw [e1] at e'; exact fresh e1 (Option.some.inj e').symm h0 hp rt
        · rename_i t e0
          obtain ⟨u, e2, s⟩ := nn.r.slot i t _ e0
          rw [q1] at e2; cases e2
          cases e1 : outsOf ms 0 τ' with
          | none => rw [e1] at e'; cases e'
          | some outs => rw [e1] at e'; exact value e1 (Option.some.inj e').symm s
        · cases e'
    split at e
    · rename_i τ' e1
      exact ⟨_, A, _, _, R0, e1, fun σ' H' A' nn => val e .non σ' H' A' nn (rp_non (K := K) (w := w) (H := H') (A := A'))⟩
    · rename_i o τ' e1
      exact ⟨_, A, _, _, R0, e1, fun v σ' H' A' nn ok => val e v σ' H' A' nn ok⟩
    · rename_i c args τ' e1
      split at e
      · cases e
      · rename_i hM
        cases e
        exact ⟨_, A, _, _, R0, e1, fun C d σ' H' A' ws nn rs hev => q C d H' ws (fun a o z => nn.r.ext a o (mset_none hM a) z) (Reps.keep (fun _ _ _ q => q) (en nn.r) _ _ rs) hev⟩
    · cases e
  · cases e
theorem sp_len {ew : Exw} {ms : List Md} {G : Fn} {vs : List V} {H : Hp} {Q : VK} {E : XK} (h : spF K w ew ms G vs H Q E) : vs.length = ms.length := by
  obtain ⟨A, ts, r, ar, _⟩ := h
  exact ar.l2
/-- a def that raises nothing -/
theorem fun_ok {x qual : Str} {st : Stmt} {f : Addr} {fd : FuncData} {N ps : List Str} {k : Nat} {ev : Exv} {ms : List Md} {m : Stm} (Fu : Fun K x qual st f fd) (S : FnScope N ps (defScope st)) (hms : ms.length = ps.length) (hN : ps.length ≤ N.length)
    (hbody : ∀ (cdv : Value) (A : Around) (outer : List Env) (s : Shared) (H : Hp) (E : XK), Room k (A.deeper (envOfC qual (defScope st) s.heap.objs.size f cdv)) → PSs (cxOf CX0 P w K mg base N qual (defScope st) f cdv A outer s H E).nox (defBody st) (TXm K w ev E m)) :
    FnOk P w K mg base CX0 (k + 1) f fd ps (spF K w (fun c ws C d _ H' => ev c ws C d H') ms (runF ms N.length m)) :=
  Fu.ok S (fun vs H Q E h => by rw [sp_len h, hms]) fun cdv A outer s H vs Q E hr h => ⟨_, hbody cdv A outer s H E hr, body_ok (by omega) h⟩
/-- a def that may raise -/
theorem fun_okX {x qual : Str} {st : Stmt} {f : Addr} {fd : FuncData} {N ps : List Str} {k : Nat} {ev : Exv} {ms : List Md} {m : Stm} (Fu : Fun K x qual st f fd) (S : FnScope N ps (defScope st)) (hms : ms.length = ps.length) (hN : ps.length ≤ N.length)
    (hbody : ∀ (cdv : Value) (A : Around) (outer : List Env) (s : Shared) (H : Hp) (E : XK), Room k (A.deeper (envOfC qual (defScope st) s.heap.objs.size f cdv)) → PSs (cxOf (L2.CX P w) P w K mg base N qual (defScope st) f cdv A outer s H E) (defBody st) (TXm K w ev E m)) :
    FnOk P w K mg base (L2.CX P w) (k + 1) f fd ps (spF K w (fun c ws C d _ H' => ev c ws C d H') ms (runF ms N.length m)) :=
  Fu.okX S (fun vs H Q E h => by rw [sp_len h, hms]) fun cdv A outer s H vs Q E hr h => ⟨_, hbody cdv A outer s H E hr, body_ok (by omega) h⟩
end
end Dt
set_option maxHeartbeats 4000000
/-! Dt14: dicts made: dict(pairs), list(d.items()), {k: v}. -/
namespace Dt
open PySem PySem.Spec PyProof.Rows L2

theorem putK_new {kvs : List (Key × V)} {k : Key} {v : V} (h : ∀ p ∈ kvs, p.1 ≠ k) : putK kvs k v = kvs ++ [(k, v)] := by
  unfold putK
  rw [if_neg]
  intro z
  rw [List.any_eq_true] at z
  obtain ⟨p, hp, e⟩ := z
  exact h p hp (by simpa using e)
theorem merge_new : ∀ {kvs acc : List (Key × V)}, (∀ p ∈ kvs, ∀ q ∈ acc, q.1 ≠ p.1) → (kvs.map (·.1)).Nodup → mergeK acc kvs = acc ++ kvs
  | [], acc, _, _ => by show acc = acc ++ []; rw [List.append_nil]
  | (k, v) :: r, acc, h, nd => by
    show mergeK (putK acc k v) r = _
    rw [putK_new fun p hp => h (k, v) (List.mem_cons_self ..) p hp]
    rw [List.map_cons, List.nodup_cons] at nd
    rw [merge_new (fun p hp q hq => ?_) nd.2, List.append_assoc]; rfl
    rcases List.mem_append.mp hq with z | z
    · exact h p (List.mem_cons_of_mem _ hp) q z
    · have e : q = (k, v) := by simpa using z
      subst e
      exact fun z => nd.1 (List.mem_map.mpr ⟨p, hp, z.symm⟩)
section
variable {K : PySem.W.Frag} {w : World} {F : Frm} {H H' H0 : Hp} {A A' N : Av} {σ : L2.St} {τ τ' : Sl} {i : Nat} {t : T} {v : V} {a p : Addr} {o : Od}
theorem repd_keys : ∀ {ps : List (T × T)} {kvs : List (Key × V)}, Repd K w H A ps kvs → (ps.map fun p => keyT p.1) = kvs.map fun q => some q.1
  | [], kvs, h => by simp only [Repd] at h; subst h; rfl
  | (k, t) :: r, kvs, h => by
    simp only [Repd] at h
    obtain ⟨q, v, vr, rfl, e, _, h2⟩ := h
    simp [e, repd_keys h2]
theorem diffK_nodup : ∀ {ps : List (T × T)} {kvs : List (Key × V)}, Repd K w H A ps kvs → diffK ps = true → (kvs.map (·.1)).Nodup
  | [], kvs, h, _ => by simp only [Repd] at h; subst h; simp
  | (k, t) :: r, kvs, h, d => by
    simp only [Repd] at h
    obtain ⟨q, v, vr, rfl, e, _, h2⟩ := h
    unfold diffK at d
    rw [Bool.and_eq_true, List.all_eq_true] at d
    rw [List.map_cons, List.nodup_cons]
    refine ⟨fun z => ?_, diffK_nodup h2 d.2⟩
    obtain ⟨⟨q', v'⟩, hm, e'⟩ := List.mem_map.mp z
    have e'' : q' = q := e'
    subst e''
    have hk := repd_keys h2
    have : some q' ∈ vr.map fun q => some q.1 := List.mem_map.mpr ⟨(q', v'), hm, rfl⟩
    rw [← hk] at this
    obtain ⟨p, hp, ep⟩ := List.mem_map.mp this
    have := d.1 p hp
    simp only [ne_eq, decide_eq_true_eq] at this
    exact this (ep.trans e.symm)
theorem mergeK_same {ps : List (T × T)} {kvs : List (Key × V)} (h : Repd K w H A ps kvs) (d : diffK ps = true) : mergeK [] kvs = kvs := by
  rw [merge_new (fun _ _ _ z => by cases z) (diffK_nodup h d)]; rfl
theorem pairs_rep : ∀ {l : List T} {ps : List (T × T)} {vs : List V}, Reps K w H A l vs → pairsT l = some ps → ∃ (as : List Addr) (kvs : List (Key × V)), vs = as.map V.ref ∧ Paired (fun p kv => SqT K H p [kV kv.1, kv.2]) as kvs ∧ Repd K w H A ps kvs
  | [], ps, vs, h, e => by
    unfold pairsT at e; cases e
    simp only [Reps] at h; subst h
    exact ⟨[], [], rfl, .nil, by simp only [Repd]⟩
  | u :: r, ps, vs, h, e => by
    unfold pairsT at e
    split at e
    · rename_i z; cases z
    · rename_i k v r' z
      cases z
      split at e
      · rename_i q ps' e1 e2
        cases e
        simp only [Reps] at h
        obtain ⟨x, xr, rfl, h1, h2⟩ := h
        simp only [Rep] at h1
        obtain ⟨p, us, rfl, h3, h4⟩ := h1
        simp only [Reps] at h4
        obtain ⟨y1, yr, rfl, h5, y2, yr2, rfl, h6, rfl⟩ := h4
        obtain ⟨as, kvs, g1, g2, g3⟩ := pairs_rep h2 e2
        have hk := keyT_v (Vw.of h5 (fun _ z => z.elim)) e1
        refine ⟨p :: as, (q, y2) :: kvs, by rw [g1]; rfl, .cons (by rw [← hk]; exact h3.sq) g2, ?_⟩
        simp only [Repd]
        exact ⟨q, y2, kvs, rfl, e1, h6, g3⟩
      · cases e
    · cases e
theorem cr_dict {X : Cx} (hc : X.calm = true) : CallR X (.type "dict") (rGL X.K X.w gDict) := by
  intro pins s σ H xs us Q I rs ⟨F, A, σ', τ, ts, o, R0, P, e, q⟩
  match ts, e with
  | [.lst l], e =>
    obtain ⟨x, rfl, V1⟩ := paired1 P
    have e' : (match pairsT l with
      | some ps => if diffK ps = true then some (T.dct ps, true) else none
      | none => none) = some o := e
    split at e'
    · rename_i ps e1
      split at e'
      · rename_i hd
        cases e'
        obtain ⟨a, vs, rfl, la, r⟩ := V1
        obtain ⟨as, kvs, rfl, h2, h3⟩ := pairs_rep r e1
        refine call_dictP hc pins s σ H _ us Q I rs ⟨a, as, kvs, rfl, la.sq, h2, fun p np => ?_⟩
        rw [mergeK_same h3 hd]
        obtain ⟨n, k⟩ := newD R0 h3 np
        exact q _ _ _ n k
      · cases e'
    · cases e'
/-- several objects laid, one of them one's own -/
theorem R.growF (h : R K w F H A σ τ) (kp : ∀ b o, H b = some o → H' b = some o) (e : H p = none) (e' : ∃ o, H' p = some o) : Nx K w F σ τ H A τ H' (fun b => A b ∨ b = p) := by
  have nw : ∀ b, (A b ∨ b = p) → A b ∨ H b = none := fun b z => z.imp id fun z => by rw [z]; exact e
  refine ⟨⟨h.len, fun b o n q => kp b o (h.ext b o n q), fun b o q => ?_, fun b z => .inl (h.sub b z), h.msub, fun b z => ?_, h.domF, fun b z => z.elim (h.nwf b) fun q => .inr (by rw [q]; exact h.nn e), fun i t fl q => ?_, h.uniq⟩, ⟨fun b o _ q => kp b o q, fun b o q => ⟨o, kp b o q⟩, nw, fun b z _ => .inl z⟩, Les.refl _ _⟩
  · obtain ⟨o1, q1⟩ := h.dm b o q
    exact ⟨o1, kp b o1 q1⟩
  · rcases z with z | rfl
    · obtain ⟨o1, q1⟩ := h.dom b z
      exact ⟨o1, kp b o1 q1⟩
    · exact e'
  · obtain ⟨v, e1, s1⟩ := h.slot i t fl q
    refine ⟨v, e1, ?_⟩
    cases fl with
    | shr => exact Rep.keep (fun b u _ q => kp b u q) nw _ _ s1
    | own => obtain ⟨b, rfl, h1, h2, r⟩ := s1; exact ⟨b, rfl, .inl h1, h2, r.keep (fun b u _ q => kp b u q) nw (kp b)⟩
    | len => obtain ⟨b, rfl, h1, h2, r⟩ := s1; exact ⟨b, rfl, .inl h1, h2, r.keep (fun b u _ q => kp b u q) nw (kp b)⟩
    | chg => obtain ⟨b, rfl, h1, h2, h3, r⟩ := s1; exact ⟨b, rfl, .inl h1, h2, h3, r.keep (fun b u _ q => kp b u q) nw (kp b)⟩
    | bor => exact s1
theorem items_rep (hN : ∀ b, A' b → A b ∨ H b = none) (kp : ∀ b o, H b = some o → H' b = some o) : ∀ {l : List (T × T)} {kvs : List (Key × V)} {as : List Addr}, Repd K w H A l kvs → (∀ b ∈ as, ¬ A' b) → Paired (fun (t : Addr) (q : Key × V) => H' t = some (.tup [kV q.1, q.2])) as kvs →
    Reps K w H' A' (l.map fun p => .tup [p.1, p.2]) (as.map V.ref)
  | [], kvs, as, h, ha, hp => by
    simp only [Repd] at h; subst h
    cases hp
    simp only [List.map_nil, Reps]
  | (k, t) :: r, kvs, as, h, ha, hp => by
    simp only [Repd] at h
    obtain ⟨q, v, vr, rfl, e, h1, h2⟩ := h
    cases hp with
    | @cons b _ bs _ hb ht =>
      simp only [List.map_cons, Reps]
      refine ⟨.ref b, bs.map V.ref, rfl, ?_, items_rep hN kp h2 (fun b hb => ha b (List.mem_cons_of_mem _ hb)) ht⟩
      simp only [Rep]
      refine ⟨b, _, rfl, .inl ⟨ha b (List.mem_cons_self ..), .inl hb⟩, ?_⟩
      simp only [Reps]
      refine ⟨_, _, rfl, ?_, v, [], rfl, Rep.keep (fun b o _ q => kp b o q) hN _ _ h1, rfl⟩
      cases k with
      | int i => cases e; simp only [Rep]; rfl
      | str x => cases e; simp only [Rep]; rfl
      | _ => cases e
theorem wItems {Q : VK} (h : TX K w (sItems i) σ H Q) : LiI.tListItems (tVar i) σ H Q := by
  obtain ⟨F, A, τ, o, τ', R0, e, q⟩ := h
  unfold sItems at e
  split at e
  · rename_i l e1
    cases e
    obtain ⟨v, e2, a, rfl, ha, hF, kvs, h1, h2⟩ := R0.slot i _ _ e1
    refine ⟨.ref a, e2, a, kvs, rfl, h1, fun H' p ts kp hp ht hn e3 e4 => ?_⟩
    have n := R0.growF kp hp ⟨_, e3⟩
    refine q (.ref p) H' _ n ⟨p, rfl, hp, .inr rfl, ts.map V.ref, e3, ?_⟩
    refine items_rep (A := A) (H := H) n.s.new kp h2 (fun b hb z => ?_) e4
    rcases z with z | z
    · obtain ⟨o, e⟩ := R0.dom b z
      rw [ht b hb] at e; cases e
    · exact hn (z ▸ hb)
  · cases e
/-! {k: v, ..} -/
def tFlat : List (TE × TE) → TA
  | [] => tNil
  | (a, b) :: r => tCons a (tCons b (tFlat r))
def unflat : List V → List (V × V)
  | a :: b :: r => (a, b) :: unflat r
  | _ => []
theorem flat_pairs : ∀ {trs : List (TE × TE)} {σ : L2.St} {H : Hp} {Q : List (V × V) → Hp → Prop}, tFlat trs σ H (fun vs H1 => Q (unflat vs) H1) → (∀ (t : TE × TE), t ∈ trs → (∀ σ H Q Q', (∀ v H, Q v H → Q' v H) → t.1 σ H Q → t.1 σ H Q') ∧ (∀ σ H Q Q', (∀ v H, Q v H → Q' v H) → t.2 σ H Q → t.2 σ H Q')) → tPairs trs σ H Q
  | [], σ, H, Q, h, _ => h
  | (a, b) :: r, σ, H, Q, h, m => by
    obtain ⟨m1, m2⟩ := m (a, b) (List.mem_cons_self ..)
    refine m1 σ H _ _ (fun x H1 h1 => ?_) h
    refine m2 σ H1 _ _ (fun y H2 h2 => ?_) h1
    exact flat_pairs (Q := fun ps H3 => Q ((x, y) :: ps) H3) h2 fun t ht => m t (List.mem_cons_of_mem _ ht)
theorem tx_mono {f : Sem} : ∀ (σ : L2.St) (H : Hp) (Q Q' : VK), (∀ v H, Q v H → Q' v H) → TX K w f σ H Q → TX K w f σ H Q' := fun σ H Q Q' m ⟨F, A, τ, o, τ', R0, e, q⟩ => ⟨F, A, τ, o, τ', R0, e, fun v H' A' n r => m v H' (q v H' A' n r)⟩
def sFlat : List (Sem × Sem) → Sems
  | [] => aNil
  | (a, b) :: r => aCons a (aCons b (sFlat r))
theorem wFlat : ∀ {l : List (Sem × Sem)} {σ : L2.St} {H : Hp} {Q : List V → Hp → Prop}, TXs K w (sFlat l) σ H Q → tFlat (l.map fun p => (TX K w p.1, TX K w p.2)) σ H Q
  | [], σ, H, Q, h => wNil h
  | (a, b) :: r, σ, H, Q, h => by
    have h1 := wCons h
    refine tx_mono _ _ _ _ (fun v H1 h2 => ?_) h1
    have h3 := wCons h2
    refine tx_mono _ _ _ _ (fun v2 H2 h4 => ?_) h3
    exact wFlat h4
theorem flat_rep : ∀ {ts : List T} {ps : List (T × T)} {vs : List V}, Reps K w H A ts vs → flatP ts = some ps → ∃ kvs : List (Key × V), unflat vs = kvs.map (fun kv => (kV kv.1, kv.2)) ∧ Repd K w H A ps kvs
  | [], ps, vs, h, e => by
    unfold flatP at e; cases e
    simp only [Reps] at h; subst h
    exact ⟨[], rfl, by simp only [Repd]⟩
  | [_], ps, vs, h, e => by unfold flatP at e; cases e
  | k :: v :: r, ps, vs, h, e => by
    unfold flatP at e
    split at e
    · rename_i q ps' e1 e2
      cases e
      simp only [Reps] at h
      obtain ⟨x, xr, rfl, h1, y, yr, rfl, h2, h3⟩ := h
      obtain ⟨kvs, g1, g2⟩ := flat_rep h3 e2
      have hk := keyT_v (Vw.of h1 (fun _ z => z.elim)) e1
      refine ⟨(q, y) :: kvs, ?_, ?_⟩
      · show (x, y) :: unflat yr = _
        rw [g1, hk]; rfl
      · simp only [Repd]
        exact ⟨q, y, kvs, rfl, e1, h2, g2⟩
    · cases e
theorem wDic {l : List (Sem × Sem)} {Q : VK} (h : TX K w (sDic (sFlat l)) σ H Q) : tDisp (l.map fun p => (TX K w p.1, TX K w p.2)) σ H Q := by
  obtain ⟨F, A, τ, o, τ', R0, e, q⟩ := h
  unfold sDic at e
  split at e
  · rename_i xs τ1 e1
    split at e
    · rename_i ts τ2 e2
      split at e
      · rename_i ps e3
        split at e
        · rename_i hz
          cases e
          intro p hp
          have n0 := R0.laidF (o := .dK []) hp
          refine flat_pairs (wFlat ⟨F, _, τ, xs, τ1, n0.r, e1, fun vs H1 A1 n1 r1 => ?_⟩) fun t ht => ?_
          · obtain ⟨A2, n2, r2⟩ := escs_ok n1.r r1 e2
            have n := n1.trans n2
            have np : ¬ Pr σ τ p := fun z => R0.noPr hp z
            have ap : A2 p := n.s.old p (.inr rfl) fun z => np z.pr
            have ep : H1 p = some (.dK []) := n.s.keep p _ (fun z => np z.pr) upd_same
            obtain ⟨kvs, g1, g2⟩ := flat_rep r2 e3
            have hl : kvs.length = ps.length := by
              have := congrArg List.length (repd_keys g2)
              simpa using this.symm
            refine ⟨ep, kvs, g1, by rw [hl]; exact hz.2, ?_⟩
            rw [mergeK_same g2 hz.1]
            have np2 : ¬ Pr σ τ' p := fun z => np (n.l.pr p z)
            have Rn := n.r.box (o' := .dK kvs) ap (R0.nn hp) np2
            have ka : ∀ b o, ¬ A2 b → H1 b = some o → upd H1 p (.dK kvs) b = some o := kp_upd ap
            have nn := n0.trans n
            refine q (.ref p) _ A2 ⟨Rn, ⟨fun b o nO z => ?_, fun b o z => ?_, nn.s.new, nn.s.old⟩, nn.l⟩ ⟨p, rfl, hp, ap, kvs, upd_same, Repd.keep ka (fun _ z => .inl z) _ _ g2⟩
            · rw [upd_ne fun y => by rw [y, hp] at z; cases z]
              exact nn.s.keep b o nO z
            · obtain ⟨o1, z1⟩ := nn.s.dm b o z
              by_cases hb : b = p
              · exact ⟨_, by rw [hb]; exact upd_same⟩
              · exact ⟨o1, by rw [upd_ne hb]; exact z1⟩
          · obtain ⟨s, _, rfl⟩ := List.mem_map.mp ht
            exact ⟨tx_mono, tx_mono⟩
        · cases e
      · cases e
    · cases e
  · cases e
end
end Dt
set_option maxHeartbeats 4000000
/-! Dt15: from the text to words: expressions. -/
namespace Dt
open PySem PySem.Spec PyProof.Rows L2

/-! ### which texts -/
def plainE : Expr → Bool
  | .Starred .. => false
  | .Set .. => false
  | .Slice .. => false
  | _ => true
def quietE : Expr → Bool
  | .ListComp .. => false
  | .SetComp .. => false
  | .DictComp .. => false
  | _ => true
/-- its truth is its value's -/
def valE : Expr → Bool
  | .UnaryOp .. => false
  | .BoolOp .. => false
  | .IfExp .. => false
  | .Compare .. => false
  | _ => true
theorem star1 {e : Expr} {es : List Expr} {env : Env} (h : plainE e = true) : starEach (e :: es) env = (false, eval e env) :: starEach es env := by cases e <;> first | rfl | cases h
theorem star_all : ∀ {es : List Expr} {env : Env} {pos : Pos}, es.all plainE = true → (backTo pos (starEach es env)).any (·.1) = false
  | [], _, _, _ => rfl
  | e :: es, env, pos, h => by
    rw [List.all_cons, Bool.and_eq_true] at h
    rw [star1 h.1]
    have ih := star_all (env := env) (pos := pos) h.2
    show (false || (backTo pos (starEach es env)).any (·.1)) = false
    rw [ih]; rfl
theorem star_few : ∀ {es : List Expr} {env : Env} {pos : Pos}, es.all plainE = true → (backTo pos (starEach es env)).all (fun x => !x.1) = true
  | [], _, _, _ => rfl
  | e :: es, env, pos, h => by
    rw [List.all_cons, Bool.and_eq_true] at h
    rw [star1 h.1]
    have ih := star_few (env := env) (pos := pos) h.2
    show (true && (backTo pos (starEach es env)).all (fun x => !x.1)) = true
    rw [ih]; rfl
theorem pix {b : Expr} (h : plainE b = true) : PlainIx b := by cases b <;> first | (intro _ _; rfl) | cases h
theorem mark {b : Expr} {op : CmpOp} (h : plainE b = true) : behindInMarks op b = false := by cases b <;> first | rfl | cases h
theorem foldd {e : Expr} {env : Env} (h : plainE e = true) : ∀ x, foldedSetIterable e env x = pure x := by cases e <;> first | (intro _; rfl) | cases h
theorem swp {e : Expr} {tg : Option Expr} {l : Nat} {env : Env} (h : quietE e = true) : swapsWith e tg l env = pure false := by cases e <;> first | rfl | cases h
theorem istrue {e : Expr} {env : Env} (h : valE e = true) : ∀ whole, isTrue e env whole = (do let v ← whole; standAt e.pos; holding [v] (truthy v)) := by cases e <;> first | (intro _; rfl) | cases h

/-- what is known of the module -/
structure Gm where
  fns : Str → Option (List Md × Fn)
  kst : Str → Option T
  exs : Str → Bool
def bltNames : List Str := ["len", "abs", "int", "str", "tuple", "list", "dict", "isinstance", "range", "enumerate", "bool"]
structure CtxOk (G : Gm) (N : List Str) (X : Cx) : Prop where
  calm : X.calm = true
  nd : X.N.Nodup
  nn : X.N = N
  hu : X.A.units + 64 < cLine
  fn : ∀ x ms F, G.fns x = some (ms, F) → ∃ (ew : Exw) (k : Nat) (f : Addr) (fd : FuncData) (ps : List Str), FnOk X.prog X.w X.K X.mg X.base CX0 k f fd ps (spF X.K X.w ew ms F) ∧ Room k X.A ∧ X.mg x = some (.ref f) ∧ PySem.W.keepIn X.K (.ref f) = true ∧ Binds X.K fd ps [] ∧ (x == ("__debug__" : Str)) = false
  ks : ∀ x t, G.kst x = some t → ∃ (u : Value) (v : V), X.mg x = some u ∧ RelV v u ∧ (∀ H A, Rep X.K X.w H A t v) ∧ (x == ("__debug__" : Str)) = false
  bl : ∀ x ∈ bltNames, X.mg x = none
def globS (sc : Scope) (x : Str) : Bool := match sc.names.lookup x with
  | some .globalImplicit => true
  | _ => false
theorem glob_ok {X : Cx} {sc : Scope} {x : Str} (hs : X.env.scope = sc) (h : globS sc x = true) : Gl X x := by
  unfold globS at h
  split at h
  · rename_i e
    show X.env.scope.names.lookup x = some .globalImplicit
    rw [hs]; exact e
  · cases h
def visS (sc : Scope) (x : Str) : Bool := match sc.names.lookup x with
  | some .local => true
  | some .cell => true
  | some .free => true
  | _ => false
theorem vis_ok {X : Cx} {sc : Scope} {x : Str} (hs : X.env.scope = sc) (h : visS sc x = true) : Vis X.env.scope x := by
  unfold visS at h
  rw [hs]
  split at h
  · rename_i e; exact .inl e
  · rename_i e; exact .inr (.inl e)
  · rename_i e; exact .inr (.inr e)
  · cases h
/-- a name's slot -/
def slotOf (N : List Str) (x : Str) : Option Nat := match N.findIdx? (fun y => decide (y = x)) with
  | some i => if N[i]? = some x then some i else none
  | none => none
theorem slot_at {N : List Str} {x : Str} {i : Nat} (h : slotOf N x = some i) : N[i]? = some x := by
  unfold slotOf at h
  split at h
  · split at h
    · rename_i e; cases h; exact e
    · cases h
  · cases h
/-- a local name's slot -/
def varOf (N : List Str) (sc : Scope) (x : Str) : Option Nat := if visS sc x ∧ x ≠ "__debug__" ∧ x ≠ "__classdict__" then slotOf N x else none
theorem pe_varOf {G : Gm} {N : List Str} {X : Cx} {sc : Scope} {x : Str} {pos : Pos} {i : Nat} (C : CtxOk G N X) (hs : X.env.scope = sc) (h : varOf N sc x = some i) : PE X (.Name x pos) (tVar i) := by
  unfold varOf at h
  split at h
  · rename_i hc
    exact pe_var (by rw [C.nn]; exact slot_at h) (vis_ok hs hc.1) (by simpa using hc.2.1) (by simpa using hc.2.2)
  · cases h
def cNm (G : Gm) (N : List Str) (sc : Scope) (x : Str) : Option Sem := if globS sc x then (match G.kst x with
    | some t => some (sCst t)
    | none => none) else (match varOf N sc x with
    | some i => some (sVar i)
    | none => none)
def cCon : Const → Option Sem
  | .int i => some (sCst (.int i))
  | .str s => some (sCst (.str s))
  | .bool b => some (sCst (.bl b))
  | .none => some (sCst .non)
  | _ => none
section
variable {G : Gm} {N : List Str} {X : Cx} {sc : Scope}
theorem cNm_ok {x : Str} {pos : Pos} {f : Sem} (C : CtxOk G N X) (hs : X.env.scope = sc) (h : cNm G N sc x = some f) : PE X (.Name x pos) (TX X.K X.w f) := by
  unfold cNm at h
  split at h
  · rename_i hg
    split at h
    · rename_i t e
      cases h
      obtain ⟨u, v, h1, h2, h3, h4⟩ := C.ks x t e
      exact peW (pe_glob (glob_ok hs hg) h1 h2 h4) fun σ H Q q => wCst h3 q
    · cases h
  · split at h
    · rename_i i e
      cases h
      exact peW (pe_varOf C hs e) fun σ H Q q => wVar q
    · cases h
theorem cCon_ok {k : Const} {j : Nat} {pos : Pos} {f : Sem} (h : cCon k = some f) : PE X (.Constant k j pos) (TX X.K X.w f) := by
  cases k with
  | int i => cases h; exact peW pe_int fun σ H Q q => wCst (fun _ _ => rp_int) q
  | str i => cases h; exact peW pe_str fun σ H Q q => wCst (fun _ _ => rp_str) q
  | bool i => cases h; exact peW pe_bl fun σ H Q q => wCst (fun _ _ => rp_bl) q
  | none => cases h; exact peW pe_non fun σ H Q q => wCst (fun _ _ => rp_non) q
  | _ => cases h
/-! ### arguments -/
def cA (ce : Expr → Option Sem) : List Expr → Option Sems
  | [] => some aNil
  | e :: r => if plainE e then (match ce e, cA ce r with
    | some f, some g => some (aCons f g)
    | _, _ => none) else none
theorem cA_ok {ce : Expr → Option Sem} (hc : ∀ e f, ce e = some f → PE X e (TX X.K X.w f)) : ∀ {es : List Expr} {g : Sems}, cA ce es = some g → PA X es (TXs X.K X.w g) ∧ es.all plainE = true
  | [], g, h => by
    unfold cA at h; cases h
    exact ⟨paW pa_nil fun σ H Q q => wNil q, rfl⟩
  | e :: r, g, h => by
    unfold cA at h
    split at h
    · rename_i hp
      split at h
      · rename_i f g' e1 e2
        cases h
        obtain ⟨h1, h2⟩ := cA_ok hc e2
        exact ⟨paW (pa_cons (hc e f e1) h1 (star1 hp)) fun σ H Q q => wCons q, by rw [List.all_cons, hp, h2]; rfl⟩
      · cases h
    · cases h
/-! ### built-ins -/
def cBi (x : Str) : Option (List T → Option (T × Bool)) :=
  if x = "len" then some gLen else if x = "abs" then some gAbs else if x = "int" then some gInt else if x = "str" then some gStr else if x = "tuple" then some gTuple else if x = "list" then some gList else if x = "dict" then some gDict else none
theorem cBi_ok {x : Str} {g : List T → Option (T × Bool)} (C : CtxOk G N X) (hs : X.env.scope = sc) (hg : globS sc x = true) (h : cBi x = some g) {e : Expr} {es : List Expr} {p pos : Pos} {fs : Sems} (ha : PA X (e :: es) (TXs X.K X.w fs)) (hp : (e :: es).all plainE = true) :
    PE X (.Call (.Name x p) (e :: es) [] pos) (TX X.K X.w (sBi g fs)) := by
  have gl := glob_ok hs hg
  rw [List.all_cons, Bool.and_eq_true] at hp
  have w' : ∀ {g : List T → Option (T × Bool)} σ H Q, TX X.K X.w (sBi g fs) σ H Q → tCB (rGL X.K X.w g) (TXs X.K X.w fs) σ H Q := fun σ H Q q => wL (rGL_ok X.K X.w) q
  unfold cBi at h
  split at h
  · rename_i e1; cases h; subst e1
    exact peW (pe_callB cr_len gl (C.bl _ (by decide)) (by rfl) ha (he := star1 hp.1) (hpl := star_all hp.2)) w'
  · split at h
    · rename_i e1; cases h; subst e1
      exact peW (pe_callB cr_abs gl (C.bl _ (by decide)) (by rfl) ha (he := star1 hp.1) (hpl := star_all hp.2)) w'
    · split at h
      · rename_i e1; cases h; subst e1
        exact peW (pe_callTy cr_int gl (C.bl _ (by decide)) (by rfl) ha (he := star1 hp.1) (hpl := star_all hp.2)) w'
      · split at h
        · rename_i e1; cases h; subst e1
          exact peW (pe_callTy cr_str gl (C.bl _ (by decide)) (by rfl) ha (he := star1 hp.1) (hpl := star_all hp.2)) w'
        · split at h
          · rename_i e1; cases h; subst e1
            exact peW (pe_callTy cr_tuple gl (C.bl _ (by decide)) (by rfl) ha (he := star1 hp.1) (hpl := star_all hp.2)) w'
          · split at h
            · rename_i e1; cases h; subst e1
              exact peW (pe_callTy cr_list gl (C.bl _ (by decide)) (by rfl) ha (he := star1 hp.1) (hpl := star_all hp.2)) w'
            · split at h
              · rename_i e1; cases h; subst e1
                exact peW (pe_callTy (cr_dict C.calm) gl (C.bl _ (by decide)) (by rfl) ha (he := star1 hp.1) (hpl := star_all hp.2)) w'
              · cases h
/-- isinstance(e, T), T a built-in type -/
def cTy (x : Str) : Option String := if x = "str" then some "str" else if x = "int" then some "int" else if x = "tuple" then some "tuple" else if x = "list" then some "list" else if x = "bool" then some "bool" else if x = "dict" then some "dict" else none
theorem cTy_ok {x : Str} {n : String} (h : cTy x = some n) : bootBuiltins x = some (.type n) ∧ x ∈ bltNames ∧ x ≠ "__name__" ∧ (x == ("__debug__" : Str)) = false ∧ ∀ t : T, kitB t.ty n = some (isiT n t) := by
  unfold cTy at h
  have k : ∀ m ∈ ["str", "int", "tuple", "list", "bool", "dict"], ∀ t : T, kitB t.ty m = some (isiT m t) := fun m hm t => by
    simp only [List.mem_cons, List.not_mem_nil, or_false] at hm
    rcases hm with rfl | rfl | rfl | rfl | rfl | rfl <;> cases t <;> (simp only [isiT, T.ty]; decide +kernel)
  split at h
  · rename_i e; cases h; subst e; exact ⟨by rfl, by decide, by decide, by decide, k _ (by decide)⟩
  · split at h
    · rename_i e; cases h; subst e; exact ⟨by rfl, by decide, by decide, by decide, k _ (by decide)⟩
    · split at h
      · rename_i e; cases h; subst e; exact ⟨by rfl, by decide, by decide, by decide, k _ (by decide)⟩
      · split at h
        · rename_i e; cases h; subst e; exact ⟨by rfl, by decide, by decide, by decide, k _ (by decide)⟩
        · split at h
          · rename_i e; cases h; subst e; exact ⟨by rfl, by decide, by decide, by decide, k _ (by decide)⟩
          · split at h
            · rename_i e; cases h; subst e; exact ⟨by rfl, by decide, by decide, by decide, k _ (by decide)⟩
            · cases h
end
end Dt
set_option maxHeartbeats 4000000
/-! Dt16: from the text to words: calls, targets, sources, comprehensions. -/
namespace Dt
open PySem PySem.Spec PyProof.Rows L2

section
variable {G : Gm} {N : List Str} {X : Cx} {sc : Scope}
theorem isi_ok {n : String} {f : Sem} {σ : L2.St} {H : Hp} {Q : VK} (hk : ∀ t : T, kitB t.ty n = some (isiT n t)) (h : TX X.K X.w (sIsi n f) σ H Q) : tCB (rIsi X.K) (tCons (TX X.K X.w f) (tCons (tC (.ty n)) tNil)) σ H Q := by
  refine w1 (r := fun x H Q => rIsi X.K [x, .ty n] H Q) (fun F H A σ τ t o x Q R0 vw e q => ?_) h
  cases e
  exact ⟨x, .ty n, .type t.ty, .type n, isiT n t, rfl, .ty n, ty_of vw, kit_ty (hk t), q _ H A (Nx.refl R0) (rp_bl (K := X.K) (w := X.w) (H := H) (A := A))⟩
theorem pe_isiOf {e : Expr} {f : Sem} {x : Str} {n : String} {p p' pos : Pos} (C : CtxOk G N X) (hs : X.env.scope = sc) (hg : globS sc "isinstance" = true) (hg' : globS sc x = true) (he : PE X e (TX X.K X.w f)) (hp : plainE e = true) (hn : cTy x = some n) :
    PE X (.Call (.Name "isinstance" p) [e, .Name x p'] [] pos) (TX X.K X.w (sIsi n f)) := by
  obtain ⟨h1, h2, h3, h4, h5⟩ := cTy_ok hn
  have ht : PE X (.Name x p') (tC (.ty n)) := pe_bltn (glob_ok hs hg') (C.bl x h2) h1 rfl h3 h4
  exact peW (pe_callB call_isi (glob_ok hs hg) (C.bl _ (by decide)) (by rfl) (pa_cons he (pa_cons ht pa_nil rfl) (star1 hp)) (he := star1 hp) (hpl := rfl)) fun σ H Q q => isi_ok h5 q
/-- a def of the text is called -/
theorem pe_fnOf {x : Str} {ms : List Md} {F : Fn} {es : List Expr} {fs : Sems} {p pos : Pos} (C : CtxOk G N X) (hs : X.env.scope = sc) (hg : globS sc x = true) (hf : G.fns x = some (ms, F)) (ha : PA X es (TXs X.K X.w fs)) (hfs : es = [] → fs = aNil) (hp : es.all plainE = true) :
    PE X (.Call (.Name x p) es [] pos) (TX X.K X.w (sCall ms F fs)) := by
  obtain ⟨ew, k, f, fd, ps, h1, h2, h3, h4, h5, h6⟩ := C.fn x ms F hf
  cases es with
  | nil =>
    have := hfs rfl
    subst this
    refine peW (pe_call0 h1 h2 (glob_ok hs hg) h3 h4 h5 .nil (pass0 (X := X)) h6) fun σ H Q q => ?_
    have q' := wCall (ew := ew) (E := E0) q
    exact wNil q'
  | cons e es =>
    rw [List.all_cons, Bool.and_eq_true] at hp
    exact peW (pe_call h1 h2 (glob_ok hs hg) h3 h4 h5 .nil (pass0 (X := X)) ha h6 (star1 hp.1) (star_all hp.2)) fun σ H Q q => wCall q
/-! ### methods of an own list -/
def cMt (m : Str) (n : Nat) : Option (T → List T → Option (T × T)) := if m = "append" ∧ n = 1 then some gAppend else if m = "extend" ∧ n = 1 then some gExtend else if m = "pop" ∧ n = 0 then some gPop0 else if m = "pop" ∧ n = 1 then some gPop1 else none
theorem ty_own {K : PySem.W.Frag} {w : World} : ∀ H A a t, Root K w H A a t → t.isLst = true → tyV K "list" (.ref a) H := fun H A a t h k => tyV_lst h k
theorem few1 {e : Expr} {env : Env} {cpos : Pos} (hp : plainE e = true) : ((backTo cpos (starEach [e] env)).all (fun x => !x.1) && (backToKw cpos (keywordEach [] env)).all (fun x => x.1.isSome)
      && decide (([e] : List Expr).length + ([] : List Keyword).length + (if ([] : List Keyword).isEmpty then 0 else 1) < 30)) = true := by
  rw [star1 hp]; rfl
theorem few2 {e e' : Expr} {env : Env} {cpos : Pos} (hp : plainE e = true) (hp' : plainE e' = true) : ((backTo cpos (starEach [e, e'] env)).all (fun x => !x.1) && (backToKw cpos (keywordEach [] env)).all (fun x => x.1.isSome)
      && decide (([e, e'] : List Expr).length + ([] : List Keyword).length + (if ([] : List Keyword).isEmpty then 0 else 1) < 30)) = true := by
  rw [star1 hp, star1 hp']; rfl
theorem pe_mtOf {x m : Str} {i : Nat} {g : T → List T → Option (T × T)} {es : List Expr} {fs : Sems} {p apos cpos : Pos} (C : CtxOk G N X) (hs : X.env.scope = sc) (hi : varOf N sc x = some i) (hl : (apos.endLine == cpos.line) = true) (ha : PA X es (TXs X.K X.w fs)) (hfs : es = [] → fs = aNil)
    (hp : es.all plainE = true) (hm : cMt m es.length = some g) : PE X (.Call (.Attribute (.Name x p) m apos) es [] cpos) (TX X.K X.w (sMut i T.isLst g fs)) := by
  have hx : PE X (.Name x p) (tVar i) := pe_varOf C hs hi
  unfold cMt at hm
  split at hm
  · rename_i hc
    cases hm
    obtain ⟨rfl, hc⟩ := hc
    match es, hc with
    | [e], _ =>
      rw [List.all_cons, Bool.and_eq_true] at hp
      exact peW (pe_bm F.plainAttrs_list F.slot_list_append F.type_list_append (mt_append (X := X)) hx ha rfl (few1 hp.1) hl (star1 hp.1) rfl) fun σ H Q q => wMut om_append ty_own q
  · split at hm
    · rename_i hc
      cases hm
      obtain ⟨rfl, hc⟩ := hc
      match es, hc with
      | [e], _ =>
        rw [List.all_cons, Bool.and_eq_true] at hp
        exact peW (pe_bm F.plainAttrs_list F.slot_list_extend F.type_list_extend (mt_extend (X := X)) hx ha rfl (few1 hp.1) hl (star1 hp.1) rfl) fun σ H Q q => wMut om_extend ty_own q
    · split at hm
      · rename_i hc
        cases hm
        obtain ⟨rfl, hc⟩ := hc
        match es, hc with
        | [], _ =>
          have := hfs rfl
          subst this
          refine peW (pe_bm0 F.plainAttrs_list F.slot_list_pop F.type_list_pop (mt_pop (X := X)) hx rfl hl) fun σ H Q q => ?_
          obtain ⟨v, e1, e2, e3⟩ := wMut (T0 := "list") om_pop0 ty_own q
          exact ⟨v, e1, e2, wNil e3⟩
      · split at hm
        · rename_i hc
          cases hm
          obtain ⟨rfl, hc⟩ := hc
          match es, hc with
          | [e], _ =>
            rw [List.all_cons, Bool.and_eq_true] at hp
            exact peW (pe_bm F.plainAttrs_list F.slot_list_pop F.type_list_pop (mt_popAt (X := X)) hx ha rfl (few1 hp.1) hl (star1 hp.1) rfl) fun σ H Q q => wMut om_pop1 ty_own q
        · cases hm
theorem pe_getOf {x : Str} {a b : Expr} {fx fa fb : Sem} {p apos cpos : Pos} (C : CtxOk G N X) (hx : PE X (.Name x p) (TX X.K X.w fx)) (hl : (apos.endLine == cpos.line) = true) (ha : PE X a (TX X.K X.w fa)) (hb : PE X b (TX X.K X.w fb)) (pa : plainE a = true) (pb : plainE b = true) :
    PE X (.Call (.Attribute (.Name x p) "get" apos) [a, b] [] cpos) (TX X.K X.w (sGet2 fx fa fb)) :=
  peW (pe_mG ty_dct F.plainAttrs_dict F.slot_dict_get F.type_dict_get (mt_get2 (by have := C.hu; omega)) hx (pa_cons ha (pa_cons hb pa_nil (star1 pb)) (star1 pa)) rfl (few2 pa pb) hl (star1 pa) (by rw [star1 pb]; rfl)) fun σ H Q q => wGet2 q
theorem pe_itemsOf {x : Str} {i : Nat} {p p2 apos cpos pos : Pos} (C : CtxOk G N X) (hs : X.env.scope = sc) (hg : globS sc "list" = true) (hi : varOf N sc x = some i) (hl : (apos.endLine == cpos.line) = true) :
    PE X (.Call (.Name "list" p) [.Call (.Attribute (.Name x p2) "items" apos) [] [] cpos] [] pos) (TX X.K X.w (sItems i)) :=
  peW (LiI.pe_listItems C.calm (pe_varOf C hs hi) (glob_ok hs hg) (C.bl _ (by decide)) (by rfl) rfl hl rfl) fun σ H Q q => wItems q
/-! ### targets -/
def cName1 (N : List Str) (sc : Scope) : Expr → Option Nat
  | .Name x _ => (match sc.names.lookup x with
    | some .local => slotOf N x
    | some .cell => slotOf N x
    | _ => none)
  | _ => none
/-- the names that are set: sc tells of them what the frame does -/
structure Ts (X : Cx) (sc : Scope) : Prop where
  loc : ∀ x, sc.names.lookup x = some .local → X.env.scope.names.lookup x = some .local
  cell : ∀ x, sc.names.lookup x = some .cell → X.env.scope.names.lookup x = some .cell ∧ X.fn x = true
theorem cName1_ok {e : Expr} {i : Nat} (C : CtxOk G N X) (hs : Ts X sc) (h : cName1 N sc e = some i) : ∃ x pos, e = .Name x pos ∧ X.N[i]? = some x ∧ Loc X.env.scope x ∧ (X.fn x = true ∨ X.env.scope.names.lookup x = some .local) := by
  cases e with
  | Name x pos =>
    dsimp only [cName1] at h
    split at h
    · rename_i e
      exact ⟨x, pos, rfl, by rw [C.nn]; exact slot_at h, .inl (hs.loc x e), .inr (hs.loc x e)⟩
    · rename_i e
      exact ⟨x, pos, rfl, by rw [C.nn]; exact slot_at h, .inr (hs.cell x e).1, .inl (hs.cell x e).2⟩
    · cases h
  | _ => cases h
theorem pg_nameOf {e : Expr} {i : Nat} (C : CtxOk G N X) (hs : Ts X sc) (h : cName1 N sc e = some i) : PG X e (gName i) := by
  obtain ⟨x, pos, rfl, h1, h2, h3⟩ := cName1_ok C hs h
  exact pg_name C.nd h1 h2 h3
def cNames (N : List Str) (sc : Scope) : List Expr → Option (List Nat)
  | [] => some []
  | e :: r => (match cName1 N sc e, cNames N sc r with
    | some i, some is => some (i :: is)
    | _, _ => none)
theorem pgs_namesOf (C : CtxOk G N X) (hs : Ts X sc) : ∀ {es : List Expr} {is : List Nat}, cNames N sc es = some is → PGs X es (gNames is) ∧ (assignEach es X.env).length = is.length ∧ (assignEach es X.env).findIdx? (·.1) = none
  | [], is, h => by
    unfold cNames at h; cases h
    exact ⟨pgs_nil, rfl, rfl⟩
  | e :: r, is, h => by
    unfold cNames at h
    split at h
    · rename_i i is' e1 e2
      cases h
      obtain ⟨h1, h2, h3⟩ := pgs_namesOf C hs e2
      have g := pg_nameOf C hs e1
      obtain ⟨x, pos, rfl, _⟩ := cName1_ok C hs e1
      refine ⟨pgs_cons g h1 rfl, ?_, ?_⟩
      · show (assignEach r X.env).length + 1 = is'.length + 1
        rw [h2]
      · show List.findIdx? (·.1) ((false, assign (.Name x pos) X.env) :: assignEach r X.env) = none
        rw [List.findIdx?_cons]
        simp [h3]
    · cases h
/-- a loop's target -/
def cTg (N : List Str) (sc : Scope) : Expr → Option (List Nat × (T → Sl → Option Sl))
  | .Name x p => (match cName1 N sc (.Name x p) with
    | some i => some ([i], tgt1 i)
    | none => none)
  | .Tuple es _ _ => (match cNames N sc es with
    | some is => some (is, tgtN is)
    | none => none)
  | _ => none
theorem cTg_ok {e : Expr} {is : List Nat} {g : T → Sl → Option Sl} (C : CtxOk G N X) (hs : Ts X sc) (h : cTg N sc e = some (is, g)) : ∃ tw, PG X e tw ∧ GOk X.K X.w is g tw ∧ GIs is g := by
  cases e with
  | Name x p =>
    dsimp only [cTg] at h
    split at h
    · rename_i i e1
      cases h
      exact ⟨_, pg_nameOf C hs e1, g_one i, gis_one i⟩
    · cases h
  | Tuple es k p =>
    dsimp only [cTg] at h
    split at h
    · rename_i is' e1
      cases h
      obtain ⟨h1, h2, h3⟩ := pgs_namesOf C hs e1
      exact ⟨_, pg_tup C.calm h1 h2 h3, g_many _, gis_many _⟩
    · cases h
  | _ => cases h
/-! ### sources -/
theorem piW {tg e : Expr} {t t' : TI} (h : PI X tg e t) (f : ∀ σ H R, t' σ H R → t σ H R) : PI X tg e t' := ⟨fun pins s σ H R I q => h.run pins s σ H R I (f _ _ _ q)⟩
end
end Dt
set_option maxHeartbeats 4000000
/-! Dt17: the text's expressions, made words of. -/
namespace Dt
open PySem PySem.Spec PyProof.Rows L2

structure Cmp where
  e : Scope → Expr → Option Sem
  t : Scope → Expr → Option Tst
structure CmpOk (G : Gm) (N : List Str) (c : Cmp) : Prop where
  e : ∀ {X : Cx} {sc : Scope} {x : Expr} {f : Sem}, CtxOk G N X → X.env.scope = sc → c.e sc x = some f → PE X x (TX X.K X.w f)
  t : ∀ {X : Cx} {sc : Scope} {x : Expr} {f : Tst}, CtxOk G N X → X.env.scope = sc → c.t sc x = some f → PT X x (TXt X.K X.w f)

def cUn : UnaryOp → Option Sem → Option Sem
  | .USub, some f => some (sNeg f)
  | .Not, some f => some (semOf (tNotS (tstOf f)))
  | _, _ => none
def cBv (c : Cmp) (sc : Scope) (pos : Pos) : BoolOp → List Expr → Option Sem
  | _, [a] => c.e sc a
  | .And, a :: b :: r => (match c.e sc a, c.e sc (.BoolOp .And (b :: r) pos) with
    | some f, some g => some (semOf (tAndS (tstOf f) (tstOf g)))
    | _, _ => none)
  | .Or, a :: b :: r => (match c.e sc a, c.e sc (.BoolOp .Or (b :: r) pos) with
    | some f, some g => some (semOf (tOrS (tstOf f) (tstOf g)))
    | _, _ => none)
  | _, _ => none
def cNo : Expr → Bool
  | .Constant .none _ _ => true
  | _ => false
def cCp (c : Cmp) (sc : Scope) (a : Expr) : List CmpOp → List Expr → Option Sem
  | [op], [b] => if plainE b then
      (if op = .Is ∧ cNo b then (match c.e sc a with
        | some f => some (sIsN false f)
        | none => none)
      else if op = .IsNot ∧ cNo b then (match c.e sc a with
        | some f => some (sIsN true f)
        | none => none)
      else (match c.e sc a, c.e sc b with
        | some f, some g => some (sCmp op f g)
        | _, _ => none)) else none
  | _, _ => none
def cPs (ce : Expr → Option Sem) : List (Option Expr) → List Expr → Option (List (Sem × Sem))
  | [], [] => some []
  | some k :: ks, v :: vs => (match ce k, ce v, cPs ce ks vs with
    | some f, some g, some l => some ((f, g) :: l)
    | _, _, _ => none)
  | _, _ => none
def cDi (ce : Expr → Option Sem) (ks : List (Option Expr)) (vs : List Expr) : Option Sem :=
  if ks.all (·.isSome) = true ∧ ks.length = vs.length ∧ ks ≠ [] ∧ ks.length ≤ 15 then (match cPs ce ks vs with
    | some l => some (sDic (sFlat l))
    | none => none) else none
def cO (ce : Expr → Option Sem) : Option Expr → Option (Option Sem)
  | none => some none
  | some e => (match ce e with
    | some f => some (some f)
    | none => none)
def cSu (ce : Expr → Option Sem) (a : Expr) : Expr → Option Sem
  | .Slice lo hi none _ => (match ce a, cO ce lo, cO ce hi with
    | some f, some fl, some fh => some (sSl f fl fh)
    | _, _, _ => none)
  | i => if plainE i then (match ce a, ce i with
    | some f, some g => some (sIx f g)
    | _, _ => none) else none
def cLi (N : List Str) (sc : Scope) : List Expr → Option Sem
  | [.Call (.Attribute (.Name d _) m apos) [] [] cpos] => if m = "items" ∧ (apos.endLine == cpos.line) = true then (match varOf N sc d with
    | some i => some (sItems i)
    | none => none) else none
  | _ => none
def cIs (c : Cmp) (sc : Scope) : List Expr → Option Sem
  | [e, .Name y _] => if globS sc y ∧ plainE e then (match cTy y, c.e sc e with
    | some n, some f => some (sIsi n f)
    | _, _ => none) else none
  | _ => none
def cBn (c : Cmp) (sc : Scope) (x : Str) : List Expr → Option Sem
  | e :: es => (match cBi x, cA (c.e sc) (e :: es) with
    | some g, some fs => some (sBi g fs)
    | _, _ => none)
  | [] => none
def cCn (G : Gm) (N : List Str) (c : Cmp) (sc : Scope) (x : Str) (args : List Expr) : Option Sem := match G.fns x with
  | some (ms, F) => (match cA (c.e sc) args with
    | some fs => some (sCall ms F fs)
    | none => none)
  | none => if x = "isinstance" then cIs c sc args else if x = "list" ∧ (cLi N sc args).isSome then cLi N sc args else cBn c sc x args
def cGe (G : Gm) (N : List Str) (c : Cmp) (sc : Scope) (x : Str) : List Expr → Option Sem
  | [a, b] => if plainE a ∧ plainE b then (match cNm G N sc x, c.e sc a, c.e sc b with
    | some fx, some fa, some fb => some (sGet2 fx fa fb)
    | _, _, _ => none) else none
  | _ => none
def cCm (G : Gm) (N : List Str) (c : Cmp) (sc : Scope) (x m : Str) (args : List Expr) : Option Sem :=
  if m = "get" then cGe G N c sc x args else (match varOf N sc x, cMt m args.length, cA (c.e sc) args with
    | some i, some g, some fs => some (sMut i T.isLst g fs)
    | _, _, _ => none)
def cCl (G : Gm) (N : List Str) (c : Cmp) (sc : Scope) (args : List Expr) (pos : Pos) : Expr → Option Sem
  | .Name x _ => if globS sc x then cCn G N c sc x args else none
  | .Attribute (.Name x _) m apos => if (apos.endLine == pos.line) = true then cCm G N c sc x m args else none
  | _ => none
def isTup : Expr → Bool
  | .Tuple .. => true
  | _ => false
def cRg (c : Cmp) (sc : Scope) : List Expr → Option Src
  | [a] => if plainE a then (match c.e sc a with
    | some f => some (srcRange1 f)
    | none => none) else none
  | [a, b] => if plainE a ∧ plainE b then (match c.e sc a, c.e sc b with
    | some f, some g => some (srcRange2 f g)
    | _, _ => none) else none
  | [a, b, d] => if plainE a ∧ plainE b ∧ plainE d then (match c.e sc a, c.e sc b, c.e sc d with
    | some f, some g, some h => some (srcRange3 f g h)
    | _, _, _ => none) else none
  | _ => none
def cEn (c : Cmp) (sc : Scope) : List Expr → Option Src
  | [a] => if plainE a then (match c.e sc a with
    | some f => some (srcEnum f)
    | none => none) else none
  | _ => none
def cSg (c : Cmp) (sc : Scope) (e : Expr) : Option Src := match c.e sc e with
  | some f => some (srcOf f)
  | none => none
/-- what a loop walks -/
def cSr (c : Cmp) (sc : Scope) (tg : Expr) : Expr → Option Src
  | .Call (.Name x p) args [] pos => if x = "range" ∧ globS sc "range" then cRg c sc args else if x = "enumerate" ∧ globS sc "enumerate" ∧ isTup tg then cEn c sc args else cSg c sc (.Call (.Name x p) args [] pos)
  | e => cSg c sc e
def cIf (c : Cmp) (sc : Scope) : List Expr → Option Tst
  | [] => some tYesS
  | [q] => c.t sc q
  | _ => none
def ownOf (N : List Str) (sc : Scope) : List (Str × Nat) := sc.names.filterMap fun p => match p.2 with
  | .local => (slotOf N p.1).map fun i => (p.1, i)
  | .cell => (slotOf N p.1).map fun i => (p.1, i)
  | _ => none
def cLc (N : List Str) (c : Cmp) (sc : Scope) (elt : Expr) (scope : Scope) : List Comprehension → Option Sem
  | [⟨tg, iter, ifs, k⟩] => if k = 0 ∧ blkC N sc scope (ownOf N scope) = true ∧ plainE iter then (match cTg N scope tg, cSr c sc tg iter, cIf c (relS scope sc) ifs, c.e (relS scope sc) elt with
    | some (is, g), some s, some q, some f => if is.all (fun i => ((ownOf N scope).map (·.2)).contains i) then some (sLc s g ((ownOf N scope).map (·.2)) q f) else none
    | _, _, _, _ => none) else none
  | _ => none
/-! one step of the making -/
def stE (G : Gm) (N : List Str) (c : Cmp) (sc : Scope) : Expr → Option Sem
  | .Name x _ => cNm G N sc x
  | .Constant k _ _ => cCon k
  | .BinOp a op b _ => (match c.e sc a, c.e sc b with
    | some f, some g => some (sBin op f g)
    | _, _ => none)
  | .UnaryOp op a _ => cUn op (c.e sc a)
  | .BoolOp op vs pos => cBv c sc pos op vs
  | .Compare a ops bs _ => cCp c sc a ops bs
  | .IfExp q a b _ => (match c.t sc q, c.e sc a, c.e sc b with
    | some t, some f, some g => some (sIf t f g)
    | _, _, _ => none)
  | .Tuple es _ _ => (match cA (c.e sc) es with
    | some f => some (sTup f)
    | none => none)
  | .List es _ => (match cA (c.e sc) es with
    | some f => some (sLst f)
    | none => none)
  | .Dict ks vs _ => cDi (c.e sc) ks vs
  | .Subscript a i _ => cSu (c.e sc) a i
  | .Call f args kws pos => (match kws with
    | [] => cCl G N c sc args pos f
    | _ => none)
  | .ListComp elt gs scope _ => cLc N c sc elt scope gs
  | _ => none
def cW (c : Cmp) (sc : Scope) (op : BoolOp) : List Expr → Option Tst
  | [] => none
  | [a] => c.t sc a
  | a :: b :: r => (match op, c.t sc a, cW c sc op (b :: r) with
    | .And, some f, some g => some (tAndS f g)
    | .Or, some f, some g => some (tOrS f g)
    | _, _, _ => none)
def stT (G : Gm) (N : List Str) (c : Cmp) (sc : Scope) : Expr → Option Tst
  | .BoolOp op vs _ => cW c sc op vs
  | .UnaryOp .Not a _ => (match c.t sc a with
    | some f => some (tNotS f)
    | none => none)
  | .Compare a ops bs _ => (match cCp c sc a ops bs with
    | some f => some (tstOf f)
    | none => none)
  | e => if valE e then (match c.e sc e with
    | some f => some (tstOf f)
    | none => none) else none
def cmp (G : Gm) (N : List Str) : Nat → Cmp
  | 0 => ⟨fun _ _ => none, fun _ _ => none⟩
  | n + 1 => ⟨stE G N (cmp G N n), stT G N (cmp G N n)⟩

section
variable {G : Gm} {N : List Str} {c : Cmp} {X : Cx} {sc : Scope}
theorem cA_nil {ce : Expr → Option Sem} {es : List Expr} {fs : Sems} (h : cA ce es = some fs) : es = [] → fs = aNil := fun e => by
  subst e
  unfold cA at h; cases h; rfl
theorem cBv_ok (Hc : CmpOk G N c) (C : CtxOk G N X) (hs : X.env.scope = sc) {pos : Pos} : ∀ {op : BoolOp} {vs : List Expr} {f : Sem}, cBv c sc pos op vs = some f → PE X (.BoolOp op vs pos) (TX X.K X.w f)
  | op, [], f, h => by cases op <;> (dsimp only [cBv] at h; cases h)
  | op, [a], f, h => by
    have h' : c.e sc a = some f := by cases op <;> exact h
    exact pe_one (Hc.e C hs h')
  | .And, a :: b :: r, f, h => by
    dsimp only [cBv] at h
    split at h
    · rename_i f1 g1 e1 e2
      cases h
      exact peW (pe_and (Hc.e C hs e1) (Hc.e C hs e2)) fun σ H Q q => wAndV q
    · cases h
  | .Or, a :: b :: r, f, h => by
    dsimp only [cBv] at h
    split at h
    · rename_i f1 g1 e1 e2
      cases h
      exact peW (pe_or (Hc.e C hs e1) (Hc.e C hs e2)) fun σ H Q q => wOrV q
    · cases h
theorem cCp_ok (Hc : CmpOk G N c) (C : CtxOk G N X) (hs : X.env.scope = sc) {a : Expr} {ops : List CmpOp} {bs : List Expr} {f : Sem} {pos : Pos} (h : cCp c sc a ops bs = some f) :
    PE X (.Compare a ops bs pos) (TX X.K X.w f) ∧ PT X (.Compare a ops bs pos) (TXt X.K X.w (tstOf f)) := by
  match ops, bs, h with
  | [op], [b], h =>
    dsimp only [cCp] at h
    split at h
    · rename_i hp
      split at h
      · rename_i hn
        split at h
        · rename_i g e1
          cases h
          obtain ⟨rfl, hn⟩ := hn
          have : ∃ j pos', b = .Constant .none j pos' := by
            unfold cNo at hn
            split at hn
            · exact ⟨_, _, rfl⟩
            · cases hn
          obtain ⟨j, pos', rfl⟩ := this
          have p := pc_isN (j := j) (pos' := pos') (Hc.e C hs e1)
          exact ⟨peW (pe_cmp p rfl) fun σ H Q q => wIsN q, ptW (pt_cmp p rfl) fun σ H Q q => wIsN (wTst q)⟩
        · cases h
      · split at h
        · rename_i hn
          split at h
          · rename_i g e1
            cases h
            obtain ⟨rfl, hn⟩ := hn
            have : ∃ j pos', b = .Constant .none j pos' := by
              unfold cNo at hn
              split at hn
              · exact ⟨_, _, rfl⟩
              · cases hn
            obtain ⟨j, pos', rfl⟩ := this
            have p := pc_notN (j := j) (pos' := pos') (Hc.e C hs e1)
            exact ⟨peW (pe_cmp p rfl) fun σ H Q q => wNotN q, ptW (pt_cmp p rfl) fun σ H Q q => wNotN (wTst q)⟩
          · cases h
        · split at h
          · rename_i f1 g1 e1 e2
            cases h
            have k : ∀ σ H Q, TX X.K X.w (sCmp op f1 g1) σ H Q → tOp (rG X.K X.w (gCmp op)) (TX X.K X.w f1) (TX X.K X.w g1) σ H Q := fun σ H Q q => w2 (rG_ok X.K X.w) q
            exact ⟨peW (pe_cmpR (or_cmp C.hu op) (Hc.e C hs e1) (Hc.e C hs e2) (mark hp)) k, ptW (pt_cmpR (or_cmp C.hu op) (Hc.e C hs e1) (Hc.e C hs e2) (mark hp)) fun σ H Q q => k _ _ _ (wTst q)⟩
          · cases h
    · cases h
theorem cPs_ok (Hc : CmpOk G N c) (C : CtxOk G N X) (hs : X.env.scope = sc) {pos : Pos} : ∀ {ks : List (Option Expr)} {vs : List Expr} {l : List (Sem × Sem)}, cPs (c.e sc) ks vs = some l → PPs X pos ks vs (l.map fun p => (TX X.K X.w p.1, TX X.K X.w p.2))
  | [], [], l, h => by dsimp only [cPs] at h; cases h; exact pps_nil
  | some k :: ks, v :: vs, l, h => by
    dsimp only [cPs] at h
    split at h
    · rename_i f g l' e1 e2 e3
      cases h
      exact pps_cons (Hc.e C hs e1) (Hc.e C hs e2) (cPs_ok Hc C hs e3)
    · cases h
  | [], _ :: _, l, h => by dsimp only [cPs] at h; cases h
  | none :: _, _, l, h => by dsimp only [cPs] at h; cases h
  | some _ :: _, [], l, h => by dsimp only [cPs] at h; cases h
theorem cO_ok (Hc : CmpOk G N c) (C : CtxOk G N X) (hs : X.env.scope = sc) {e : Option Expr} {f : Option Sem} (h : cO (c.e sc) e = some f) : PO X e (TXp X.K X.w f) := by
  cases e with
  | none => dsimp only [cO] at h; cases h; exact xp_none
  | some e =>
    dsimp only [cO] at h
    split at h
    · rename_i g e1; cases h; exact xp_some (Hc.e C hs e1)
    · cases h
theorem cSu_ok (Hc : CmpOk G N c) (C : CtxOk G N X) (hs : X.env.scope = sc) {a i : Expr} {f : Sem} {pos : Pos} (h : cSu (c.e sc) a i = some f) : PE X (.Subscript a i pos) (TX X.K X.w f) := by
  unfold cSu at h
  split at h
  · split at h
    · rename_i g fl fh e1 e2 e3
      cases h
      exact x_slice (Hc.e C hs e1) (cO_ok Hc C hs e2) (cO_ok Hc C hs e3)
    · cases h
  · split at h
    · rename_i hp
      split at h
      · rename_i f1 g1 e1 e2
        cases h
        exact peW (pe_ix (ixr (by have := C.hu; omega)) (Hc.e C hs e1) (Hc.e C hs e2) (pix hp)) fun σ H Q q => w2 (rG_ok X.K X.w) q
      · cases h
    · cases h
theorem cCn_ok (Hc : CmpOk G N c) (C : CtxOk G N X) (hs : X.env.scope = sc) {x : Str} {args : List Expr} {f : Sem} {p pos : Pos} (hg : globS sc x = true) (h : cCn G N c sc x args = some f) : PE X (.Call (.Name x p) args [] pos) (TX X.K X.w f) := by
  unfold cCn at h
  split at h
  · rename_i ms F hf
    split at h
    · rename_i fs e1
      cases h
      obtain ⟨h1, h2⟩ := cA_ok (fun e f he => Hc.e C hs he) e1
      exact pe_fnOf C hs hg hf h1 (cA_nil e1) h2
    · cases h
  · split at h
    · rename_i hx
      subst hx
      unfold cIs at h
      split at h
      · split at h
        · rename_i hc
          split at h
          · rename_i n g e1 e2
            cases h
            exact pe_isiOf C hs hg hc.1 (Hc.e C hs e2) hc.2 e1
          · cases h
        · cases h
      · cases h
    · split at h
      · rename_i hx
        obtain ⟨rfl, _⟩ := hx
        unfold cLi at h
        split at h
        · split at h
          · rename_i hc
            obtain ⟨rfl, hl⟩ := hc
            split at h
            · rename_i i e1
              cases h
              exact pe_itemsOf C hs hg e1 hl
            · cases h
          · cases h
        · cases h
      · unfold cBn at h
        split at h
        · split at h
          · rename_i g fs e1 e2
            cases h
            obtain ⟨h1, h2⟩ := cA_ok (fun e f he => Hc.e C hs he) e2
            exact cBi_ok C hs hg e1 h1 h2
          · cases h
        · cases h
theorem cCm_ok (Hc : CmpOk G N c) (C : CtxOk G N X) (hs : X.env.scope = sc) {x m : Str} {args : List Expr} {f : Sem} {p apos pos : Pos} (hl : (apos.endLine == pos.line) = true) (h : cCm G N c sc x m args = some f) : PE X (.Call (.Attribute (.Name x p) m apos) args [] pos) (TX X.K X.w f) := by
  unfold cCm at h
  split at h
  · rename_i hm
    subst hm
    unfold cGe at h
    split at h
    · split at h
      · rename_i hp
        split at h
        · rename_i fx fa fb e1 e2 e3
          cases h
          exact pe_getOf C (cNm_ok C hs e1) hl (Hc.e C hs e2) (Hc.e C hs e3) hp.1 hp.2
        · cases h
      · cases h
    · cases h
  · split at h
    · rename_i i g fs e1 e2 e3
      cases h
      obtain ⟨h1, h2⟩ := cA_ok (fun e f he => Hc.e C hs he) e3
      exact pe_mtOf C hs e1 hl h1 (cA_nil e3) h2 e2
    · cases h
end
end Dt
set_option maxHeartbeats 4000000
/-! Dt18: the making of expressions is sound. -/
namespace Dt
open PySem PySem.Spec PyProof.Rows L2
section
variable {G : Gm} {N : List Str} {c : Cmp} {X : Cx} {sc : Scope}
theorem cSg_ok (Hc : CmpOk G N c) (C : CtxOk G N X) (hs : X.env.scope = sc) {tg e : Expr} {s : Src} (h : cSg c sc e = some s) : PI X tg e (TI' X.K X.w s) := by
  unfold cSg at h
  split at h
  · rename_i f e1
    cases h
    exact piW (pi_any (Hc.e C hs e1)) fun σ H R q => wAny q
  · cases h
theorem cSr_ok (Hc : CmpOk G N c) (C : CtxOk G N X) (hs : X.env.scope = sc) {tg e : Expr} {s : Src} (h : cSr c sc tg e = some s) : PI X tg e (TI' X.K X.w s) := by
  unfold cSr at h
  split at h
  · split at h
    · rename_i hc
      obtain ⟨rfl, hg⟩ := hc
      unfold cRg at h
      split at h
      · split at h
        · rename_i hp
          split at h
          · rename_i f e1
            cases h
            exact piW (pi_range1 (glob_ok hs hg) (C.bl _ (by decide)) (pa_cons (Hc.e C hs e1) pa_nil (star1 hp)) (star1 hp)) fun σ H R q => wRng1 q
          · cases h
        · cases h
      · split at h
        · rename_i hp
          split at h
          · rename_i f g e1 e2
            cases h
            have s2 : starEach [_] X.env = [(false, eval _ X.env)] := star1 (es := []) hp.2
            exact piW (pi_range2 (glob_ok hs hg) (C.bl _ (by decide)) (pa_cons (Hc.e C hs e1) (pa_cons (Hc.e C hs e2) pa_nil (star1 hp.2)) (star1 hp.1)) (by rw [star1 hp.1, s2]) s2) fun σ H R q => wRng2 q
          · cases h
        · cases h
      · split at h
        · rename_i hp
          split at h
          · rename_i f g k e1 e2 e3
            cases h
            exact piW (pi_range3 (glob_ok hs hg) (C.bl _ (by decide)) (pa_cons (Hc.e C hs e1) (pa_cons (Hc.e C hs e2) (pa_cons (Hc.e C hs e3) pa_nil (star1 hp.2.2)) (star1 hp.2.1)) (star1 hp.1)) (star1 hp.1)
              (star_all (by simp only [List.all_cons, List.all_nil, hp.2.1, hp.2.2]; rfl))) fun σ H R q => wRng3 q
          · cases h
        · cases h
      · cases h
    · split at h
      · rename_i hc
        obtain ⟨rfl, hg, ht⟩ := hc
        unfold cEn at h
        split at h
        · split at h
          · rename_i hp
            split at h
            · rename_i f e1
              cases h
              cases tg with
              | Tuple elts kk tp => exact piW (pi_enum (glob_ok hs hg) (C.bl _ (by decide)) (pa_cons (Hc.e C hs e1) pa_nil (star1 hp)) (star1 hp)) fun σ H R q => wEnum q
              | _ => cases ht
            · cases h
          · cases h
        · cases h
      · exact cSg_ok Hc C hs h
  · exact cSg_ok Hc C hs h
theorem tYes_ok {σ : L2.St} {H : Hp} {Q : Bool → Hp → Prop} {K : PySem.W.Frag} {w : World} (h : TXt K w tYesS σ H Q) : tYes σ H Q := by
  obtain ⟨F, A, τ, b, τ', R0, e, q⟩ := h
  cases e
  exact q H A (Nx.refl R0)
/-- inside a comprehension -/
theorem CtxOk.blk (C : CtxOk G N X) {s : Shared} {H : Hp} {scope : Scope} {cenv : Env} {fp : List Addr} : CtxOk G N (X.blk s H scope cenv fp) :=
  ⟨C.calm, C.nd, C.nn, C.hu, C.fn, C.ks, C.bl⟩
theorem ts_blk {s : Shared} {H : Hp} {scope : Scope} {cenv : Env} {fp : List Addr} (he : cenv.scope = relS scope X.env.scope) : Ts (X.blk s H scope cenv fp) scope := by
  refine ⟨fun x e => ?_, fun x e => ⟨?_, ?_⟩⟩
  · show cenv.scope.names.lookup x = some .local
    rw [he]; exact lookup_relS_keep (by decide) e
  · show cenv.scope.names.lookup x = some .cell
    rw [he]; exact lookup_relS_keep (by decide) e
  · show (scope.names.lookup x == some .cell) = true
    rw [e]; rfl
theorem cLc_ok (Hc : CmpOk G N c) (C : CtxOk G N X) (hs : X.env.scope = sc) {elt : Expr} {scope : Scope} {gs : List Comprehension} {f : Sem} (h : cLc N c sc elt scope gs = some f) :
    ∃ (wi : TI) (tg iter : Expr) (ifs : List Expr) (g : TG) (tt : TT) (te : TE) (own : List (Str × Nat)), gs = [⟨tg, iter, ifs, 0⟩] ∧ PI X tg iter wi ∧ BlkOk X.N X.env.scope scope own ∧
      (∀ (s : Shared) (H : Hp) (D : Addr) (cl : List (Str × Addr)) (fp : List Addr), PG (X.blk s H scope (compEnvC scope cl D X.env) fp) tg g) ∧ (∀ (s : Shared) (H : Hp) (D : Addr) (cl : List (Str × Addr)) (fp : List Addr), PTs (X.blk s H scope (compEnvC scope cl D X.env) fp) ifs tt) ∧
      (∀ (s : Shared) (H : Hp) (D : Addr) (cl : List (Str × Addr)) (fp : List Addr), PE (X.blk s H scope (compEnvC scope cl D X.env) fp) elt te) ∧ (∀ x, foldedSetIterable iter X.env x = pure x) ∧
      ∀ σ H Q, TX X.K X.w f σ H Q → tLc wi g tt te (own.map (·.2)) σ H Q := by
  unfold cLc at h
  split at h
  · rename_i tg iter ifs k
    split at h
    · rename_i hc
      obtain ⟨rfl, hb, hp⟩ := hc
      split at h
      · rename_i is g s q f' e1 e2 e3 e4
        split at h
        · rename_i hi
          cases h
          have cx : ∀ (s : Shared) (H : Hp) (D : Addr) (cl : List (Str × Addr)) (fp : List Addr), CtxOk G N (X.blk s H scope (compEnvC scope cl D X.env) fp) := fun s H D cl fp => C.blk
          have ts : ∀ (s : Shared) (H : Hp) (D : Addr) (cl : List (Str × Addr)) (fp : List Addr), Ts (X.blk s H scope (compEnvC scope cl D X.env) fp) scope := fun s H D cl fp => ts_blk rfl
          have sc' : ∀ (s : Shared) (H : Hp) (D : Addr) (cl : List (Str × Addr)) (fp : List Addr), (X.blk s H scope (compEnvC scope cl D X.env) fp).env.scope = relS scope sc := fun s H D cl fp => by
            rw [← hs]; rfl
          have ha : ∀ i ∈ is, i ∈ (ownOf N scope).map (·.2) := fun i hm => by
            rw [List.all_eq_true] at hi
            have := hi i hm
            simpa using this
          -- the target's word does not hang on the block
          have tw : ∃ tw, (∀ (s : Shared) (H : Hp) (D : Addr) (cl : List (Str × Addr)) (fp : List Addr), PG (X.blk s H scope (compEnvC scope cl D X.env) fp) tg tw) ∧ GOk X.K X.w is g tw ∧ GIs is g := by
            cases tg with
            | Name x p =>
              have e1' := e1
              dsimp only [cTg] at e1'
              split at e1'
              · rename_i i e5
                cases e1'
                exact ⟨gName i, fun s H D cl fp => pg_nameOf (cx s H D cl fp) (ts s H D cl fp) e5, g_one i, gis_one i⟩
              · cases e1'
            | Tuple es k2 p =>
              have e1' := e1
              dsimp only [cTg] at e1'
              split at e1'
              · rename_i is' e5
                cases e1'
                refine ⟨gTup X.K is.length (gNames is), fun s H D cl fp => ?_, g_many _, gis_many _⟩
                obtain ⟨h1, h2, h3⟩ := pgs_namesOf (cx s H D cl fp) (ts s H D cl fp) e5
                exact pg_tup C.calm h1 h2 h3
              · cases e1'
            | _ => cases e1
          obtain ⟨tw, t1, t2, t3⟩ := tw
          have b : BlkOk X.N X.env.scope scope (ownOf N scope) := by
            rw [C.nn, hs]; exact blkOk_by hb
          have iff : ∃ tt, (∀ (s : Shared) (H : Hp) (D : Addr) (cl : List (Str × Addr)) (fp : List Addr), PTs (X.blk s H scope (compEnvC scope cl D X.env) fp) ifs tt) ∧ ∀ σ H Q, TXt X.K X.w q σ H Q → tt σ H Q := by
            unfold cIf at e3
            split at e3
            · cases e3
              exact ⟨tYes, fun s H D cl fp => pts_nil, fun σ H Q z => tYes_ok z⟩
            · exact ⟨TXt X.K X.w q, fun s H D cl fp => pts_one (Hc.t (cx s H D cl fp) (sc' s H D cl fp) e3), fun σ H Q z => z⟩
            · cases e3
          obtain ⟨tt, i1, i2⟩ := iff
          exact ⟨TI' X.K X.w s, tg, iter, ifs, tw, tt, TX X.K X.w f', ownOf N scope, rfl, cSr_ok Hc C hs e2, b, t1, i1, fun s H D cl fp => Hc.e (cx s H D cl fp) (sc' s H D cl fp) e4, foldd hp, fun σ H Q z => wLc t2 t3 ha i2 z⟩
        · cases h
      · cases h
    · cases h
  · cases h
theorem cW_ok (Hc : CmpOk G N c) (C : CtxOk G N X) (hs : X.env.scope = sc) {op : BoolOp} {pos : Pos} : ∀ {vs : List Expr} {f : Tst}, cW c sc op vs = some f → PW X (.BoolOp op vs pos) (TXt X.K X.w f)
  | [], f, h => by unfold cW at h; cases h
  | [a], f, h => by
    unfold cW at h
    cases op with
    | And => exact pw_and1 (Hc.t C hs h)
    | Or => exact pw_or1 (Hc.t C hs h)
  | a :: b :: r, f, h => by
    unfold cW at h
    have wk : ∀ {x : Expr} {t t' : TT}, PW X x t → (∀ σ H Q, t' σ H Q → t σ H Q) → PW X x t' := fun p m => ⟨fun wh pins s σ H Q I z => p.run wh pins s σ H Q I (m _ _ _ z)⟩
    split at h
    · rename_i f1 g1 e1 e2
      cases h
      exact wk (pw_and (Hc.t C hs e1) (cW_ok Hc C hs e2)) fun σ H Q q => wAndT q
    · rename_i f1 g1 e1 e2
      cases h
      exact wk (pw_or (Hc.t C hs e1) (cW_ok Hc C hs e2)) fun σ H Q q => wOrT q
    · cases h
theorem stE_ok (Hc : CmpOk G N c) (C : CtxOk G N X) (hs : X.env.scope = sc) {e : Expr} {f : Sem} (h : stE G N c sc e = some f) : PE X e (TX X.K X.w f) := by
  cases e with
  | Name x p => exact cNm_ok C hs h
  | Constant k j p => exact cCon_ok h
  | BinOp a op b p =>
    dsimp only [stE] at h
    split at h
    · rename_i f1 g1 e1 e2
      cases h
      exact peW (pe_op (or_bin op) (Hc.e C hs e1) (Hc.e C hs e2)) fun σ H Q q => w2 (rG_ok X.K X.w) q
    · cases h
  | UnaryOp op a p =>
    dsimp only [stE] at h
    unfold cUn at h
    split at h
    · rename_i g e1
      cases h
      exact peW (pe_un or_neg (Hc.e C hs e1)) fun σ H Q q => w1 (rG1_ok X.K X.w) q
    · rename_i g e1
      cases h
      exact peW (pe_not (Hc.e C hs e1)) fun σ H Q q => wNotV q
    · cases h
  | BoolOp op vs p => exact cBv_ok Hc C hs h
  | Compare a ops bs p => exact (cCp_ok Hc C hs h).1
  | IfExp q a b p =>
    dsimp only [stE] at h
    split at h
    · rename_i t1 f1 g1 e1 e2 e3
      cases h
      exact peW (pe_ifExp (Hc.t C hs e1) (Hc.e C hs e2) (Hc.e C hs e3)) fun σ H Q q => wIf q
    · cases h
  | Tuple es k p =>
    dsimp only [stE] at h
    split at h
    · rename_i g e1
      cases h
      exact peW (pe_tup (cA_ok (fun e f he => Hc.e C hs he) e1).1) fun σ H Q q => wTup q
    · cases h
  | List es p =>
    dsimp only [stE] at h
    split at h
    · rename_i g e1
      cases h
      exact peW (pe_lst (cA_ok (fun e f he => Hc.e C hs he) e1).1) fun σ H Q q => wLst q
    · cases h
  | Dict ks vs p =>
    dsimp only [stE] at h
    unfold cDi at h
    split at h
    · rename_i hc
      split at h
      · rename_i l e1
        cases h
        exact peW (pe_disp (cPs_ok Hc C hs e1) hc.1 hc.2.1 hc.2.2.1 hc.2.2.2) fun σ H Q q => wDic q
      · cases h
    · cases h
  | Subscript a i p => exact cSu_ok Hc C hs h
  | Call g args kws p =>
    dsimp only [stE] at h
    split at h
    · unfold cCl at h
      split at h
      · split at h
        · rename_i hg; exact cCn_ok Hc C hs hg h
        · cases h
      · split at h
        · rename_i hl; exact cCm_ok Hc C hs hl h
        · cases h
      · cases h
    · cases h
  | ListComp elt gs scope p =>
    obtain ⟨wi, tg, iter, ifs, g, tt, te, own, rfl, h1, h2, h3, h4, h5, h6, h7⟩ := cLc_ok Hc C hs h
    exact peW (pe_lc C.calm C.nd h1 h2 h3 h4 h5 h6) h7
  | _ => cases h
theorem stT_ok (Hc : CmpOk G N c) (C : CtxOk G N X) (hs : X.env.scope = sc) {e : Expr} {f : Tst} (h : stT G N c sc e = some f) : PT X e (TXt X.K X.w f) := by
  have val : ∀ {e : Expr}, valE e = true → (match c.e sc e with | some f => some (tstOf f) | none => none) = some f → PT X e (TXt X.K X.w f) := fun {e} hv h => by
    split at h
    · rename_i g e1
      cases h
      exact ptW (pt_val (Hc.e C hs e1) (istrue hv)) fun σ H Q q => wB q
    · cases h
  unfold stT at h
  split at h
  · exact (cW_ok Hc C hs h).pt
  · split at h
    · rename_i g e1
      cases h
      exact ptW (pt_not (Hc.t C hs e1)) fun σ H Q q => wNotT q
    · cases h
  · split at h
    · rename_i g e1
      cases h
      exact (cCp_ok Hc C hs e1).2
    · cases h
  · split at h
    · rename_i hv; exact val hv h
    · cases h
theorem cmp_ok (G : Gm) (N : List Str) (n : Nat) : CmpOk G N (cmp G N n) := by
  induction n with
  | zero =>
    constructor
    · intro X sc x f C hs h
      have h' : (none : Option Sem) = some f := h
      cases h'
    · intro X sc x f C hs h
      have h' : (none : Option Tst) = some f := h
      cases h'
  | succ n ih =>
    constructor
    · intro X sc x f C hs h
      exact stE_ok ih C hs h
    · intro X sc x f C hs h
      exact stT_ok ih C hs h
end
end Dt
set_option maxHeartbeats 4000000
/-! Dt19: the text's statements, made words of. -/
namespace Dt
open PySem PySem.Spec PyProof.Rows L2

def notTup : Expr → Bool
  | .Tuple .. => false
  | .ListComp .. => false
  | .SetComp .. => false
  | .DictComp .. => false
  | _ => true
def locS (sc : Scope) (x : Str) : Bool := match sc.names.lookup x with
  | some .local => true
  | _ => false
def augOp : Operator → Bool
  | .Add => true
  | .Sub => true
  | _ => false
/-- name = [..] -/
def swB (sc : Scope) (x : Str) (l : Nat) : Expr → Bool
  | .ListComp _ _ s p => locS sc x && (l == p.line) && !(s.names.any fun (n, k) => n == x && (k == .local || k == .cell))
  | _ => false
def cSetLc (N : List Str) (c : Cmp) (sc : Scope) (x : Str) (l : Nat) : Expr → Option Stm
  | .ListComp elt gs scope p => if swB sc x l (.ListComp elt gs scope p) = true then (match slotOf N x, cLc N c sc elt scope gs with
    | some i, some f => some (mSet i f)
    | _, _ => none) else none
  | _ => none
def cPar (N : List Str) (c : Cmp) (sc : Scope) : List Expr → Expr → Option Stm
  | [.Name x px, .Name y py], .Tuple [a, b] _ _ => if locS sc x ∧ locS sc y ∧ x ≠ y ∧ (py.line == px.line) = true ∧ plainE a ∧ plainE b ∧ (foldedForSure 8 a && foldedForSure 8 b) = false ∧ (constantsAlone 8 a && constantsAlone 8 b) = false then
      (match slotOf N x, slotOf N y, cA (c.e sc) [a, b] with
      | some i, some j, some f => if i ≠ j then some (mPar [i, j] f) else none
      | _, _, _ => none) else none
  | _, _ => none
def cAs (N : List Str) (c : Cmp) (sc : Scope) (e : Expr) : Expr → Option Stm
  | .Name x p => if quietE e then (match cName1 N sc (.Name x p), c.e sc e with
      | some i, some f => some (mSet i f)
      | _, _ => none) else cSetLc N c sc x p.line e
  | .Tuple ts _ _ => if notTup e then (match cNames N sc ts, c.e sc e with
      | some is, some f => some (mUnp is f)
      | _, _ => none) else cPar N c sc ts e
  | .Subscript (.Name x p) j _ => if quietE e ∧ plainE j then (match varOf N sc x, c.e sc j, c.e sc e with
      | some i, some f, some g => some (mPutIx i f g)
      | _, _, _ => none) else none
  | _ => none
def stB (cs : Stmt → Option Stm) : List Stmt → Option Stm
  | [] => some mNil
  | s :: r => (match cs s, stB cs r with
    | some a, some b => some (mSeq a b)
    | _, _ => none)
def stS (G : Gm) (N : List Str) (W : Nat) (c : Cmp) (sc : Scope) (cs : Stmt → Option Stm) : Stmt → Option Stm
  | .Pass _ => some mNil
  | .Break _ => some mBrk
  | .Continue _ => some mCnt
  | .Expr e _ => if quietE e then (match c.e sc e with
    | some f => some (mExp f)
    | none => none) else none
  | .Return none _ => some mRetN
  | .Return (some e) _ => (match c.e sc e with
    | some f => some (mRet f)
    | none => none)
  | .If q a b _ => (match c.t sc q, stB cs a, stB cs b with
    | some t, some f, some g => some (mIf t f g)
    | _, _, _ => none)
  | .Assign [t] e _ => cAs N c sc e t
  | .AugAssign (.Name x p) op e _ => if augOp op then (match cName1 N sc (.Name x p), c.e sc e with
    | some i, some f => some (mAug i op f)
    | _, _ => none) else none
  | .For tg iter body [] _ => if plainE iter then (match cTg N sc tg, cSr c sc tg iter, stB cs body with
    | some (_, g), some s, some b => some (mFor s g b)
    | _, _, _ => none) else none
  | .While q body [] _ => (match c.t sc q, stB cs body with
    | some t, some b => some (mWhile W t b)
    | _, _ => none)
  | .Raise (some (.Call (.Name x _) es [] _)) none _ => if G.exs x ∧ globS sc x ∧ es ≠ [] then (match cA (c.e sc) es with
    | some fs => some (mRaise x fs)
    | none => none) else none
  | _ => none
def cSt (G : Gm) (N : List Str) (W : Nat) (c : Cmp) (sc : Scope) : Nat → Stmt → Option Stm
  | 0 => fun _ => none
  | n + 1 => stS G N W c sc (cSt G N W c sc n)

/-- the context of a def's body -/
structure SOk (G : Gm) (N : List Str) (sc : Scope) (ev : Exv) (E : XK) (X : Cx) : Prop where
  C : CtxOk G N X
  hs : X.env.scope = sc
  fk : sc.kind = .function
  fn : ∀ x, X.fn x = true
  hp : PassesOwn (model X.prog X.w) X.A X.env X.xe
  rs : ∀ (x : Str) (es : List Expr) (fs : Sems) (p pos pos' : Pos), G.exs x = true → globS sc x = true → PA X es (TXs X.K X.w fs) → es.all plainE = true → es ≠ [] → PS X (.Raise (some (.Call (.Name x p) es [] pos)) none pos') (TXm X.K X.w ev E (mRaise x fs))
section
variable {G : Gm} {N : List Str} {W : Nat} {c : Cmp} {X : Cx} {sc : Scope} {ev : Exv} {E : XK}
theorem SOk.ts (S : SOk G N sc ev E X) : Ts X sc := ⟨fun x e => by rw [S.hs]; exact e, fun x e => ⟨by rw [S.hs]; exact e, S.fn x⟩⟩
theorem psW {st : Stmt} {t t' : TS} (h : PS X st t) (f : ∀ D σ H, t' D σ H → t D σ H) : PS X st t' := ⟨fun pins s σ H D I q => h.run pins s σ H D I (f _ _ _ q)⟩
theorem pssW {st : List Stmt} {t t' : TS} (h : PSs X st t) (f : ∀ D σ H, t' D σ H → t D σ H) : PSs X st t' := ⟨fun pins s σ H D I q => h.run pins s σ H D I (f _ _ _ q)⟩
theorem locS_ok {x : Str} (h : locS sc x = true) : sc.names.lookup x = some .local := by
  unfold locS at h
  split at h
  · rename_i e; exact e
  · cases h
theorem sw_par {x y : Str} {px py pt pt2 : Pos} {kt k2 : Nat} {a b : Expr} {env : Env} (hk : env.scope.kind = .function) (hx : env.scope.names.lookup x = some .local) (hy : env.scope.names.lookup y = some .local) (hxy : x ≠ y) (hl : (py.line == px.line) = true) (pa : plainE a = true) (pb : plainE b = true)
    (h1 : (foldedForSure 8 a && foldedForSure 8 b) = false) (h2 : (constantsAlone 8 a && constantsAlone 8 b) = false) : swappedStores [.Tuple [.Name x px, .Name y py] kt pt] (.Tuple [a, b] k2 pt2) env = pure (some [x, y]) := by
  have bk : env.blockKind = .function := by unfold Env.blockKind; rw [hk]; rfl
  have kx : env.kindOf x = some .local := hx
  have ky : env.kindOf y = some .local := hy
  have d : [x, y].eraseDups = [x, y] := by
    have hyx : (y == x) = false := by simpa using Ne.symm hxy
    simp [List.eraseDups_cons, hyx]
  unfold swappedStores
  simp only [bk, List.any_cons, List.any_nil, List.head?_cons, Option.map_some, Option.getD_some, Expr.pos, List.length_cons, List.length_nil, List.all_cons, List.all_nil, Bool.and_true, h1, h2, List.filterMap_cons, List.filterMap_nil, kx, ky, hl]
  rw [if_neg (by decide), if_neg (by
    simp only [Bool.or_eq_true, Bool.or_false]
    rintro (h | h)
    · cases a <;> first | exact Bool.noConfusion (show false = true from h) | exact Bool.noConfusion (show false = true from pa)
    · cases b <;> first | exact Bool.noConfusion (show false = true from h) | exact Bool.noConfusion (show false = true from pb))]
  simp [d]
theorem stB_ok {cs : Stmt → Option Stm} (hc : ∀ s m, cs s = some m → PS X s (TXm X.K X.w ev E m)) : ∀ {b : List Stmt} {m : Stm}, stB cs b = some m → PSs X b (TXm X.K X.w ev E m)
  | [], m, h => by dsimp only [stB] at h; cases h; exact pssW pss_nil fun D σ H q => wNext q
  | s :: r, m, h => by
    dsimp only [stB] at h
    split at h
    · rename_i a b e1 e2
      cases h
      exact pssW (pss_cons (hc s a e1) (stB_ok hc e2)) fun D σ H q => wSeq q
    · cases h
theorem sw_val {elt : Expr} {gs : List Comprehension} {scope : Scope} {pos py : Pos} {y : Str} {l : Nat} {env : Env} (hk : env.scope.kind = .function) (h : swB env.scope y py.line (.ListComp elt gs scope pos) = true) : swapsWith (.ListComp elt gs scope pos) (some (.Name y py)) l env = pure true := by
  unfold swB at h
  simp only [Bool.and_eq_true, Bool.not_eq_true'] at h
  exact sw_true hk (locS_ok h.1.1) h.1.2 h.2
theorem SOk.loc (S : SOk G N sc ev E X) {x : Str} (h : locS sc x = true) : X.env.scope.names.lookup x = some .local := by rw [S.hs]; exact locS_ok h
theorem pg_subOf {o i : Expr} {to ti : TE} {t : TSet} {pos : Pos} (ho : PE X o to) (hi : PE X i ti) (hs : PSet X t) (hj : plainE i = true) : PG X (.Subscript o i pos) (gSub to ti t) :=
  pg_sub ho hi hs (by intro v; cases i <;> first | rfl | exact Bool.noConfusion (show false = true from hj))
theorem swsole {t e : Expr} {l : Nat} {env : Env} (h : quietE e = true) : swapsWithSole [t] e l env = pure false := swp h
theorem swno {ts : List Expr} {e : Expr} {k : Nat} {p : Pos} {env : Env} (h : notTup e = true) : swappedStores [.Tuple ts k p] e env = pure none := by
  cases e <;> first | rfl | exact Bool.noConfusion (show false = true from h)
theorem swno2 {o i e : Expr} {p : Pos} {env : Env} : swappedStores [.Subscript o i p] e env = pure none := by
  cases e <;> rfl
theorem quiet_of {e : Expr} (h : notTup e = true) : quietE e = true := by cases e <;> first | rfl | exact Bool.noConfusion (show false = true from h)
theorem cPar_ok (Hc : CmpOk G N c) (S : SOk G N sc ev E X) {ts : List Expr} {e : Expr} {m : Stm} {k : Nat} {pt pos : Pos} (h : cPar N c sc ts e = some m) : PS X (.Assign [.Tuple ts k pt] e pos) (TXm X.K X.w ev E m) := by
  unfold cPar at h
  split at h
  · split at h
    · rename_i hc
      split at h
      · rename_i i j f e1 e2 e3
        split at h
        · rename_i hij
          cases h
          have hx := S.loc hc.1
          have hy := S.loc hc.2.1
          have hk : X.env.scope.kind = .function := by rw [S.hs]; exact S.fk
          have ha := (cA_ok (fun e f he => Hc.e S.C S.hs he) e3).1
          exact psW (ps_par S.C.calm S.C.nd (by rw [S.C.nn]; exact slot_at e1) (by rw [S.C.nn]; exact slot_at e2) hij hx hy ha (sw_par hk hx hy hc.2.2.1 hc.2.2.2.1 hc.2.2.2.2.1 hc.2.2.2.2.2.1 hc.2.2.2.2.2.2.1 hc.2.2.2.2.2.2.2) rfl) fun D σ H q => wPar q
        · cases h
      · cases h
    · cases h
  · cases h
theorem cAs_ok (Hc : CmpOk G N c) (S : SOk G N sc ev E X) {t e : Expr} {m : Stm} {pos : Pos} (h : cAs N c sc e t = some m) : PS X (.Assign [t] e pos) (TXm X.K X.w ev E m) := by
  unfold cAs at h
  split at h
  · split at h
    · rename_i hq
      split at h
      · rename_i i f e1 e2
        cases h
        obtain ⟨y, p', ey, h1, h2, h3⟩ := cName1_ok S.C S.ts e1
        cases ey
        exact psW (ps_set S.C.nd h1 h2 (Hc.e S.C S.hs e2) (swp hq) h3) fun D σ H q => wSet q
      · cases h
    · unfold cSetLc at h
      split at h
      · split at h
        · rename_i hw
          split at h
          · rename_i i f e1 e2
            cases h
            obtain ⟨wi, tg, iter, ifs, g, tt, te, own, rfl, h1, h2, h3, h4, h5, h6, h7⟩ := cLc_ok Hc S.C S.hs e2
            have hk : X.env.scope.kind = .function := by rw [S.hs]; exact S.fk
            have hl := hw
            unfold swB at hl
            simp only [Bool.and_eq_true] at hl
            have hy := S.loc hl.1.1
            have hw2 := hw
            rw [← S.hs] at hw2
            refine psW (ps_setLc S.C.calm S.C.nd (by rw [S.C.nn]; exact slot_at e1) hy (sw_val hk hw2) h1 h2 h3 h4 h5 h6) fun D σ H q => ?_
            have q' := wSet q
            exact h7 _ _ _ q'
          · cases h
        · cases h
      · cases h
  · split at h
    · rename_i hn
      split at h
      · rename_i is f e1 e2
        cases h
        obtain ⟨h1, h2, h3⟩ := pgs_namesOf S.C S.ts e1
        exact psW (ps_asg (Hc.e S.C S.hs e2) (pg_tup S.C.calm h1 h2 h3) (swsole (quiet_of hn)) (swno hn) rfl) fun D σ H q => wUnp q
      · cases h
    · exact cPar_ok Hc S h
  · split at h
    · rename_i hq
      split at h
      · rename_i i f g e1 e2 e3
        cases h
        exact psW (ps_asg (Hc.e S.C S.hs e3) (pg_subOf (pe_varOf S.C S.hs e1) (Hc.e S.C S.hs e2) set_list hq.2) (swsole hq.1) swno2 rfl) fun D σ H q => wPutIx q
      · cases h
    · cases h
  · cases h
end
end Dt
set_option maxHeartbeats 4000000
/-! Dt20: the making of statements is sound; defs. -/
namespace Dt
open PySem PySem.Spec PyProof.Rows L2
section
variable {G : Gm} {N : List Str} {W : Nat} {c : Cmp} {X : Cx} {sc : Scope} {ev : Exv} {E : XK}
theorem stS_ok (Hc : CmpOk G N c) (S : SOk G N sc ev E X) {cs : Stmt → Option Stm} (hcs : ∀ s m, cs s = some m → PS X s (TXm X.K X.w ev E m)) {s : Stmt} {m : Stm} (h : stS G N W c sc cs s = some m) : PS X s (TXm X.K X.w ev E m) := by
  unfold stS at h
  split at h
  · cases h; exact psW ps_pass fun D σ H q => wNext q
  · cases h; exact psW ps_break fun D σ H q => wBrk q
  · cases h; exact psW ps_continue fun D σ H q => wCnt q
  · split at h
    · rename_i hq
      split at h
      · rename_i f e1
        cases h
        exact psW (ps_expr (Hc.e S.C S.hs e1) (swp hq)) fun D σ H q => wExp q
      · cases h
    · cases h
  · cases h; exact psW ps_retN fun D σ H q => wRetN q
  · split at h
    · rename_i f e1
      cases h
      exact psW (ps_ret (Hc.e S.C S.hs e1)) fun D σ H q => wRet q
    · cases h
  · split at h
    · rename_i t f g e1 e2 e3
      cases h
      exact psW (ps_if (Hc.t S.C S.hs e1) (stB_ok hcs e2) (stB_ok hcs e3)) fun D σ H q => wIfS q
    · cases h
  · exact cAs_ok Hc S h
  · split at h
    · rename_i hop
      split at h
      · rename_i i f e1 e2
        cases h
        obtain ⟨y, p', ey, h1, h2, h3⟩ := cName1_ok S.C S.ts e1
        cases ey
        rename_i op _ _ _ _
        cases op with
        | Add => exact psW (ps_aug S.C.nd h1 h2 (Hc.e S.C S.hs e2) ip_add h3) fun D σ H q => wAug (fun _ _ => rfl) q
        | Sub => exact psW (ps_aug S.C.nd h1 h2 (Hc.e S.C S.hs e2) ip_sub h3) fun D σ H q => wAug (fun _ _ => rfl) q
        | _ => exact Bool.noConfusion (show false = true from hop)
      · cases h
    · cases h
  · split at h
    · rename_i hp
      split at h
      · rename_i is g s b e1 e2 e3
        cases h
        obtain ⟨tw, t1, t2, t3⟩ := cTg_ok S.C S.ts e1
        exact psW (ps_for S.hp S.C.calm (cSr_ok Hc S.C S.hs e2) t1 (stB_ok hcs e3) (foldd hp)) fun D σ H q => wFor t2 q
      · cases h
    · cases h
  · split at h
    · rename_i t b e1 e2
      cases h
      exact psW (ps_while S.hp (Hc.t S.C S.hs e1) (stB_ok hcs e2)) fun D σ H q => wWhile q
    · cases h
  · split at h
    · rename_i hx
      split at h
      · rename_i fs e1
        cases h
        obtain ⟨h1, h2⟩ := cA_ok (fun e f he => Hc.e S.C S.hs he) e1
        exact S.rs _ _ _ _ _ _ hx.1 hx.2.1 h1 h2 hx.2.2
      · cases h
    · cases h
  · cases h
theorem cSt_ok (Hc : CmpOk G N c) (S : SOk G N sc ev E X) : ∀ (n : Nat) (s : Stmt) (m : Stm), cSt G N W c sc n s = some m → PS X s (TXm X.K X.w ev E m)
  | 0, s, m, h => by
    have h' : (none : Option Stm) = some m := h
    cases h'
  | n + 1, s, m, h => stS_ok Hc S (cSt_ok Hc S n) h
/-- a body -/
def cBody (G : Gm) (N : List Str) (W n : Nat) (sc : Scope) (b : List Stmt) : Option Stm := stB (cSt G N W (cmp G N n) sc n) b
theorem cBody_ok (S : SOk G N sc ev E X) {n : Nat} {b : List Stmt} {m : Stm} (h : cBody G N W n sc b = some m) : PSs X b (TXm X.K X.w ev E m) := stB_ok (fun s m e => cSt_ok (cmp_ok G N n) S n s m e) h
end
/-- what the top has left, seen at depth k -/
structure Modd (G : Gm) (P : Program) (w : World) (K : PySem.W.Frag) (mg : Str → Option Value) (base : Heap) (k : Nat) : Prop where
  fn : ∀ x ms F, G.fns x = some (ms, F) → ∃ (ew : Exw) (f : Addr) (fd : FuncData) (ps : List Str), FnOk P w K mg base CX0 k f fd ps (spF K w ew ms F) ∧ mg x = some (.ref f) ∧ PySem.W.keepIn K (.ref f) = true ∧ Binds K fd ps [] ∧ (x == ("__debug__" : Str)) = false
  ks : ∀ x t, G.kst x = some t → ∃ (u : Value) (v : V), mg x = some u ∧ RelV v u ∧ (∀ H A, Rep K w H A t v) ∧ (x == ("__debug__" : Str)) = false
  bl : ∀ x ∈ bltNames, mg x = none
section
variable {G : Gm} {P : Program} {w : World} {K : PySem.W.Frag} {mg : Str → Option Value} {base : Heap} {k : Nat}
theorem Modd.up (M : Modd G P w K mg base k) {k' : Nat} (h : k ≤ k') : Modd G P w K mg base k' :=
  ⟨fun x ms F e => by
    obtain ⟨ew, f, fd, ps, h1, h2⟩ := M.fn x ms F e
    exact ⟨ew, f, fd, ps, h1.mono h, h2⟩, M.ks, M.bl⟩
theorem Modd.ctx (M : Modd G P w K mg base k) {X : Cx} {N : List Str} (h1 : X.prog = P) (h2 : X.w = w) (h3 : X.K = K) (h4 : X.mg = mg) (h5 : X.base = base) (hc : X.calm = true) (hN : X.N = N) (nd : N.Nodup) (hr : Room k X.A) : CtxOk G N X := by
  subst h1 h2 h3 h4 h5 hN
  exact ⟨hc, nd, rfl, hr.units, fun x ms F e => by
    obtain ⟨ew, f, fd, ps, g1, g2, g3, g4, g5⟩ := M.fn x ms F e
    exact ⟨ew, k, f, fd, ps, g1, hr, g2, g3, g4, g5⟩, M.ks, M.bl⟩
/-- a def of the text that raises nothing -/
theorem def_ok {x qual : Str} {st : Stmt} {f : Addr} {fd : FuncData} {N ps : List Str} {W n : Nat} {ms : List Md} {m : Stm} (M : Modd G P w K mg base k) (Fu : Fun K x qual st f fd) (S : FnScope N ps (defScope st)) (hms : ms.length = ps.length) (hN : ps.length ≤ N.length)
    (hx : ∀ x, G.exs x = false) (h : cBody G N W n (defScope st) (defBody st) = some m) : FnOk P w K mg base CX0 (k + 1) f fd ps (spF K w (fun _ _ _ _ _ _ => False) ms (runF ms N.length m)) :=
  fun_ok (ev := fun _ _ _ _ _ => False) Fu S hms hN fun cdv A outer s H E hr => by
    refine cBody_ok (sc := defScope st) ⟨M.ctx rfl rfl rfl rfl rfl rfl rfl S.nd hr, rfl, S.kind, fun _ => rfl, PassesOwn.never, fun y es fs p pos pos' e => ?_⟩ h
    rw [hx] at e; cases e
/-- .. that raises what ev tells -/
theorem def_okX {x qual : Str} {st : Stmt} {f : Addr} {fd : FuncData} {N ps : List Str} {W n : Nat} {ms : List Md} {m : Stm} {ev : Exv} (M : Modd G P w K mg base k) (Fu : Fun K x qual st f fd) (S : FnScope N ps (defScope st)) (hms : ms.length = ps.length) (hN : ps.length ≤ N.length)
    (hx : ∀ (X : Cx) (E : XK) (x : Str) (es : List Expr) (fs : Sems) (p pos pos' : Pos), X.prog = P → X.w = w → X.K = K → X.mg = mg → X.base = base → X.calm = true → Room k X.A → X.env.scope = defScope st → Takes X (fun cls d _ H => E cls d H) → G.exs x = true → globS (defScope st) x = true → PA X es (TXs X.K X.w fs) → es.all plainE = true → es ≠ [] →
      PS X (.Raise (some (.Call (.Name x p) es [] pos)) none pos') (TXm X.K X.w ev E (mRaise x fs)))
    (h : cBody G N W n (defScope st) (defBody st) = some m) : FnOk P w K mg base (L2.CX P w) (k + 1) f fd ps (spF K w (fun c ws C d _ H' => ev c ws C d H') ms (runF ms N.length m)) :=
  fun_okX Fu S hms hN fun cdv A outer s H E hr => by
    refine cBody_ok (sc := defScope st) ⟨M.ctx rfl rfl rfl rfl rfl rfl rfl S.nd hr, rfl, S.kind, fun _ => rfl, passes_of rfl, fun y es fs p pos pos' e1 e2 e3 e4 e5 => ?_⟩ h
    exact hx _ _ _ _ _ _ _ _ rfl rfl rfl rfl rfl rfl hr rfl (takes_of rfl rfl rfl rfl) e1 e2 e3 e4 e5
end
end Dt
set_option maxHeartbeats 4000000
/-! Dt21: defs as the head tells them. -/
namespace Dt
open PySem PySem.Spec PyProof.Rows L2
abbrev FnP (K : PySem.W.Frag) (x : Str) (st : Stmt) (f : Addr) (fd : FuncData) : Prop := FunD K x x (defArgs st) (defBody st) (defScope st) [] [] f fd
section
variable {G : Gm} {P : Program} {w : World} {K : PySem.W.Frag} {mg : Str → Option Value} {base : Heap} {k : Nat}
theorem def_okD {x : Str} {st : Stmt} {f : Addr} {fd : FuncData} {N ps : List Str} {W n : Nat} {ms : List Md} {m : Stm} (M : Modd G P w K mg base k) (Fu : FnP K x st f fd) (S : FnScope N ps (defScope st)) (hms : ms.length = ps.length) (hN : ps.length ≤ N.length)
    (hx : ∀ x, G.exs x = false) (h : cBody G N W n (defScope st) (defBody st) = some m) : FnOk P w K mg base CX0 (k + 1) f fd ps (spF K w (fun _ _ _ _ _ _ => False) ms (runF ms N.length m)) := by
  refine Fu.ok S (fun vs H Q E h => by rw [sp_len h, hms]) fun cdv A outer s H vs Q E hr hsp => ⟨_, PSs.nox ?_, body_ok (ev := fun _ _ _ _ _ => False) (by omega) hsp⟩
  refine cBody_ok (sc := defScope st) ⟨M.ctx rfl rfl rfl rfl rfl rfl rfl S.nd hr, rfl, S.kind, fun _ => rfl, PassesOwn.never, fun y es fs p pos pos' e => ?_⟩ h
  rw [hx] at e; cases e
theorem def_okDX {x : Str} {st : Stmt} {f : Addr} {fd : FuncData} {N ps : List Str} {W n : Nat} {ms : List Md} {m : Stm} {ev : Exv} (M : Modd G P w K mg base k) (Fu : FnP K x st f fd) (S : FnScope N ps (defScope st)) (hms : ms.length = ps.length) (hN : ps.length ≤ N.length)
    (hx : ∀ (X : Cx) (E : XK) (x : Str) (es : List Expr) (fs : Sems) (p pos pos' : Pos), X.prog = P → X.w = w → X.K = K → X.mg = mg → X.base = base → X.calm = true → Room k X.A → X.env.scope = defScope st → Takes X (fun cls d _ H => E cls d H) → G.exs x = true → globS (defScope st) x = true → PA X es (TXs X.K X.w fs) → es.all plainE = true → es ≠ [] →
      PS X (.Raise (some (.Call (.Name x p) es [] pos)) none pos') (TXm X.K X.w ev E (mRaise x fs)))
    (h : cBody G N W n (defScope st) (defBody st) = some m) : FnOk P w K mg base (L2.CX P w) (k + 1) f fd ps (spF K w (fun c ws C d _ H' => ev c ws C d H') ms (runF ms N.length m)) := by
  refine Fu.ok S (fun vs H Q E h => by rw [sp_len h, hms]) fun cdv A outer s H vs Q E hr hsp => ⟨_, ?_, body_ok (by omega) hsp⟩
  refine cBody_ok (sc := defScope st) ⟨M.ctx rfl rfl rfl rfl rfl rfl rfl S.nd hr, rfl, S.kind, fun _ => rfl, passes_of rfl, fun y es fs p pos pos' e1 e2 e3 e4 e5 => ?_⟩ h
  exact hx _ _ _ _ _ _ _ _ rfl rfl rfl rfl rfl rfl hr rfl (takes_of rfl rfl rfl rfl) e1 e2 e3 e4 e5
/-- one def more is known -/
def Gm.add (G : Gm) (x : Str) (ms : List Md) (F : Fn) : Gm := { G with fns := fun y => if y = x then some (ms, F) else G.fns y }
theorem Modd.add (M : Modd G P w K mg base k) {x : Str} {ms : List Md} {F : Fn} {ew : Exw} {f : Addr} {fd : FuncData} {ps : List Str} (h1 : FnOk P w K mg base CX0 (k + 1) f fd ps (spF K w ew ms F)) (h2 : mg x = some (.ref f)) (h3 : PySem.W.keepIn K (.ref f) = true) (h4 : Binds K fd ps []) (h5 : (x == ("__debug__" : Str)) = false) :
    Modd (G.add x ms F) P w K mg base (k + 1) :=
  ⟨fun y ms' F' e => by
    have e' : (if y = x then some (ms, F) else G.fns y) = some (ms', F') := e
    split at e'
    · rename_i hy
      cases e'
      subst hy
      exact ⟨ew, f, fd, ps, h1, h2, h3, h4, h5⟩
    · exact (M.up (Nat.le_succ k)).fn y ms' F' e', M.ks, M.bl⟩
end
end Dt
set_option maxHeartbeats 4000000
/-! Dt22: written tuples and dicts as trees. -/
namespace Dt
open PySem PySem.Spec PyProof.Rows L2
mutual
def repB (K : PySem.W.Frag) : T → Value → Bool
  | .int i, .int j _ => decide (i = j)
  | .str s, .str z _ => decide (s = z)
  | .tup l, .ref a => (match K.lookup a with
    | some ⟨cls, _, .seq its _, _⟩ => decide (cls = .type "tuple") && decide (its.size ≤ sizeLine) && repBs K l its.toList
    | _ => false)
  | _, _ => false
def repBs (K : PySem.W.Frag) : List T → List Value → Bool
  | [], [] => true
  | t :: r, u :: us => repB K t u && repBs K r us
  | _, _ => false
end
section
variable {K : PySem.W.Frag} {w : World}
mutual
theorem repB_ok : ∀ (t : T) (u : Value), repB K t u = true → ∃ v, RelV v u ∧ ∀ H A, Rep K w H A t v
  | .int i, u, h => by
    cases u with
    | int j k =>
      have e : i = j := by simpa [repB] using h
      subst e
      exact ⟨.int i, ⟨k, rfl⟩, fun _ _ => rp_int⟩
    | _ => simp [repB] at h
  | .str i, u, h => by
    cases u with
    | str j k =>
      have e : i = j := by simpa [repB] using h
      subst e
      exact ⟨.str i, ⟨k, rfl⟩, fun _ _ => rp_str⟩
    | _ => simp [repB] at h
  | .tup l, u, h => by
    cases u with
    | ref a =>
      unfold repB at h
      split at h
      · rename_i cls od its n sl e
        simp only [Bool.and_eq_true, decide_eq_true_eq] at h
        obtain ⟨vs, h1, h2⟩ := repBs_ok l its.toList h.2
        refine ⟨.ref a, rfl, fun H A => ?_⟩
        simp only [Rep]
        exact ⟨a, vs, rfl, .inr ⟨_, its, n, e, h.1.1, rfl, h.1.2, h1⟩, h2 H A⟩
      · cases h
    | _ => simp [repB] at h
  | .non, u, h => by cases u <;> simp [repB] at h
  | .bl _, u, h => by cases u <;> simp [repB] at h
  | .lst _, u, h => by cases u <;> simp [repB] at h
  | .dct _, u, h => by cases u <;> simp [repB] at h
theorem repBs_ok : ∀ (l : List T) (us : List Value), repBs K l us = true → ∃ vs, Vals vs us ∧ ∀ H A, Reps K w H A l vs
  | [], [], _ => ⟨[], .nil, fun _ _ => by simp only [Reps]⟩
  | [], _ :: _, h => by simp [repBs] at h
  | _ :: _, [], h => by simp [repBs] at h
  | t :: r, u :: us, h => by
    simp only [repBs, Bool.and_eq_true] at h
    obtain ⟨v, h1, h2⟩ := repB_ok t u h.1
    obtain ⟨vs, h3, h4⟩ := repBs_ok r us h.2
    exact ⟨v :: vs, .cons h1 h3, fun H A => by simp only [Reps]; exact ⟨v, vs, rfl, h2 H A, h4 H A⟩⟩
end
def pairsB (K : PySem.W.Frag) : List (T × T) → List DictEntry → Bool
  | [], [] => true
  | (.str x, t) :: r, e :: es => (match e.key with
    | .str y _ => decide (x = y)
    | _ => false) && repB K t e.val && pairsB K r es
  | _, _ => false
theorem pairsB_ok : ∀ {l : List (T × T)} {es : List DictEntry}, pairsB K l es = true → ∃ kvs : List (Key × V), (∀ H A, Repd K w H A l kvs) ∧ (∀ q ∈ kvs, ∃ x, q.1 = .inr x) ∧ kvs.length = l.length ∧ es.any (·.refKey) = false ∧
    ∀ x : Str, RelO (valV kvs (.inr x)) ((es.find? (·.key.isStr x)).map (·.val))
  | [], [], _ => ⟨[], (fun _ _ => by simp only [Repd]), (fun q z => absurd z (by simp)), rfl, rfl, fun x => True.intro⟩
  | [], _ :: _, h => by simp [pairsB] at h
  | (k, t) :: r, [], h => by cases k <;> simp [pairsB] at h
  | (k, t) :: r, e :: es, h => by
    cases k with
    | str x =>
      unfold pairsB at h
      simp only [Bool.and_eq_true] at h
      obtain ⟨⟨h1, h2⟩, h3⟩ := h
      obtain ⟨v, g1, g2⟩ := repB_ok (w := w) t e.val h2
      obtain ⟨kvs, f1, f2, f3, f4, f5⟩ := pairsB_ok h3
      cases ek : e.key with
      | str y k =>
        rw [ek] at h1
        have hxy : x = y := by simpa using h1
        subst hxy
        refine ⟨(.inr x, v) :: kvs, fun H A => ?_, fun q hq => ?_, by simp [f3], ?_, fun z => ?_⟩
        · simp only [Repd]
          exact ⟨.inr x, v, kvs, rfl, rfl, g2 H A, f1 H A⟩
        · rcases List.mem_cons.mp hq with rfl | hq
          · exact ⟨x, rfl⟩
          · exact f2 q hq
        · rw [List.any_cons, f4, Bool.or_false]
          simp [DictEntry.refKey, ek]
        · by_cases hz : x = z
          · subst hz
            have e1 : (e.key.isStr x) = true := by simp [ek, Value.isStr]
            rw [List.find?_cons, e1, valV_pos rfl]
            exact g1
          · have e1 : (e.key.isStr z) = false := by simp [ek, Value.isStr, hz]
            rw [List.find?_cons, e1, valV_neg (fun q => hz (by cases q; rfl))]
            exact f5 z
      | _ => rw [ek] at h1; cases h1
    | _ => simp [pairsB] at h
def tabB (K : PySem.W.Frag) (l : List (T × T)) (a : Addr) : Bool := match K.lookup a with
  | some ⟨_, _, .dict es _, _⟩ => !l.isEmpty && pairsB K l es.toList
  | _ => false
theorem tabB_ok {l : List (T × T)} {a : Addr} {es : Array DictEntry} {n : Nat} (D : KDict K w a es n) (h : tabB K l a = true) : ∀ H A, Rep K w H A (.dct l) (.ref a) := by
  unfold tabB at h
  rw [D.at_] at h
  simp only [Bool.and_eq_true] at h
  obtain ⟨kvs, f1, f2, f3, f4, f5⟩ := pairsB_ok (w := w) h.2
  intro H A
  simp only [Rep]
  refine ⟨a, kvs, rfl, .inr ⟨es, n, D, fun x => ?_⟩, f1 H A⟩
  have hx := f5 x
  have e : PySem.W.nsIn K a x = some ((es.toList.find? (·.key.isStr x)).map (·.val)) := by
    unfold PySem.W.nsIn
    rw [D.at_]
    dsimp only
    split
    · rename_i e he; rw [he]; rfl
    · rename_i he
      rw [he, f4]; rfl
  refine ⟨_, e, hx, ?_⟩
  cases kvs with
  | nil =>
    have : l = [] := List.eq_nil_of_length_eq_zero (by rw [← f3]; rfl)
    subst this
    simp at h
  | cons q r =>
    obtain ⟨y, hy⟩ := f2 q (List.mem_cons_self ..)
    exact ⟨q, List.mem_cons_self .., fun i z => by rw [hy] at z; cases z⟩
end
end Dt
set_option maxHeartbeats 4000000
/-! Dt23: an own exception over ValueError whose making begins with super().__init__(f"..") and then keeps two fields. -/
namespace Dt
open PySem PySem.Spec PyProof.Rows L2
section
variable {prog : Program} {w : World} {A : Around} {E : Value → Shared → Prop} {h : Heap} {g : Array GenState} {d : Drawn} {t : Nat} {os : OsState}
abbrev vMw (e : Addr) : Obj := PySem.W.kxs_mw "ValueError.__init__" e
/-- the bound __init__ of ValueError, called: only the exception's own object changes -/
theorem mw_call {u e t0 C : Addr} {rest : List Value} {Q : Value → Shared → Prop} {nm q : Str} {N : Addr} {bs bm : List Value} {hdct : Bool} {sn : List Str} {sub : List Value} {ab : Bool} {col : Option Bool} {dd : Option Addr} {k0 k1 k2 k3 k5 : Option Value}
    (cC : h.get? C = some (excClassObj nm q C N bs bm hdct sn sub ab col dd k0 k1 k2 k3 k5 "ValueError.__new__")) (ce : h.get? e = some (PySem.W.excRec (.ref C) t0 none .none .none (.bool false))) (cu : h.get? u = some (vMw e)) (len : rest.length ≤ sizeLine)
    (fin : ∀ h2 t2, (∀ b x, b ≠ e → h.get? b = some x → h2.get? b = some x) → h2.get? e = some (PySem.W.excRec (.ref C) t2 none .none .none (.bool false)) → Q .none ⟨h2, g, d, t, os⟩) :
    wpAny (model prog w) A (call (.ref u) rest) Q E ⟨h, g, d, t, os⟩ := by
  have two : (Value.type "method-wrapper" == Value.type "method" || Value.type "method-wrapper" == Value.type "builtin_function_or_method" || Value.type "method-wrapper" == Value.type "method-wrapper") = true := by decide
  refine wpAny_call <| codeAny_of_tree <| show wpAny (model prog w) A.in1 (callAny (.ref u) ⟨rest, []⟩) _ _ _ from ?_
  simp only [callAny]
  refine wpAny_bind <| wpAny_load cu ?_
  simp only [PySem.W.kxs_mw, two, if_true]
  refine PySem.W.KFB.if_so (by decide) <| wpAny_bind <| PySem.W.check_bound_init PySem.F.excBase_ValueError.toExcCallFacts cC ce rfl <| wpAny_bind <| wpAny_pure <| wpAny_pure ⟨plainId_quiet PySem.F.excBase_ValueError.init.plain _, codeAny_builtin PySem.F.excBase_ValueError.initEntry ?_⟩
  exact PySem.W.exc_init_tree (cls := .ref C) (t0 := t0) (dv := none) (c2 := .none) (c3 := .none) (b4 := .bool false) ce len fun h2 k k' _ => fin h2 _ k k'
end
end Dt
set_option maxHeartbeats 4000000
/-! Dt24: its __init__ keeps the promise. -/
namespace Dt
open PySem PySem.Spec PyProof.Rows L2
/-- what the written part says of the class at C and of its __init__ at f; cc: the cell of the class -/
structure InitK (P : Program) (K : PySem.W.Frag) (C f cc : Addr) (qual : Str) (params : Arguments) (body : List Stmt) (scope : Scope) (fd : FuncData) : Prop where
  T : OexC K C
  fn : ∃ (oc : Value) (od : Option Addr) (kV doc pm : Value) (an : Option Addr) (cda : Addr) (ct : Value) (osl : Array (Option Value)),
    fd = PySem.W.ksFn "__init__" qual params body scope .none kV doc pm an (.ref cda) ct cc ∧ K.lookup f = some ⟨oc, od, .func fd, osl⟩ ∧ PySem.W.codeIn K (.ref cda) qual = true ∧
    ∃ (ccl : Value) (cdd : Option Addr) (vs : Array Value) (ccs : Array (Option Value)) (file : Str) (tf : Tok), K.lookup cda = some ⟨ccl, cdd, .fields vs, ccs⟩ ∧ vs[2]? = some (.str file tf) ∧ ((P.main.file : Str) == file) = true
  cell : ∃ (cl : Value) (cld : Option Addr) (csl : Array (Option Value)), K.lookup cc = some ⟨cl, cld, .cell (some (.ref C)), csl⟩
  sub : PySem.W.subIn K (.ref C) (.type "ValueError") = some true
  mro : PySem.W.mroIn K C (.ref C) = some true
  opq : PySem.W.nsIn K cStatics "thirdparty.any" = some none
  sup : PySem.W.ks_superIn K C C "__init__" = some (some (.builtin "ValueError.__init__"))
  n1 : PySem.W.findIn K (.ref C) "place" = some none
  n2 : PySem.W.findIn K (.ref C) "reason" = some none
def selfN : List Str := ["self", "place", "reason"]
/-- the scope of such an __init__ -/
structure InitSc (sc : Scope) : Prop where
  kind : sc.kind = .function
  co : sc.isCoroutine = false
  gen : sc.isGenerator = false
  nocell : ∀ x ∈ sc.names, x.2 ≠ .cell
  s0 : sc.names.lookup ("self" : Str) = some .local
  s1 : sc.names.lookup ("place" : Str) = some .local
  s2 : sc.names.lookup ("reason" : Str) = some .local
  sup : sc.names.lookup ("super" : Str) = some .globalImplicit
  cl : sc.names.lookup ("__class__" : Str) = some .free
  free : ∀ x, sc.names.lookup x = some .free → x = "__class__"
def spI (C : Addr) : Sp := fun vs H Q _ => ∃ (a : Addr) (p : Int) (z : Str), vs = [.ref a, .int p, .str z] ∧ p.natAbs < 1000000 ∧ z.length ≤ 1000 ∧ H a = some (exo a C none) ∧
  ∀ d, H d = none → d ≠ a → Q .non (upd (upd (upd H d (exd d [("place", .int p)])) a (exo a C (some d))) d (exd d [("reason", .str z), ("place", .int p)]))
/-- the context of its body -/
def cxI (CX : CXT) (P : Program) (w : World) (K : PySem.W.Frag) (mg : Str → Option Value) (base : Heap) (env : Env) (A : Around) (outer : List Env) (s : Shared) (H : Hp) (E : XK) : Cx where
  prog := P
  w := w
  K := K
  mg := mg
  base := base
  A := A.deeper env
  N := selfN
  s_0 := s
  H_0 := H
  env := env
  outer := outer
  stack := env :: outer
  ex := []
  calm := true
  fn := fun _ => false
  pn := []
  xe := fun e s1 => wpAny (model P w) (A.deeper env) (leaving env e) (fun _ s2 => CX outer H s E e s2) (fun e2 s2 => CX outer H s E e2 s2) s1
section
variable {CX : CXT} {P : Program} {w : World} {K : PySem.W.Frag} {mg : Str → Option Value} {base : Heap} {C f cc : Addr} {qual : Str} {params : Arguments} {body : List Stmt} {scope : Scope} {fd : FuncData}
theorem initI {A : Around} {outer : List Env} {s : Shared} {H : Hp} {E : XK} {a : Addr} {p : Int} {z : Str} {t1 t2 : Tok} {h1 : Heap} {tk : Nat} {cdv : Value} (Sc : InitSc scope) (cell : ∃ (cl : Value) (cld : Option Addr) (csl : Array (Option Value)), K.lookup cc = some ⟨cl, cld, .cell (some (.ref C)), csl⟩)
    (hd : A.handled = none) (e0 : Env0 P w K mg base A outer s H) (ns : h1.Ns s.heap.objs.size (fun x => (selfN.zip [Value.ref a, .int p t1, .str z t2]).reverse.lookup x)) (k : ∀ b o, s.heap.get? b = some o → h1.get? b = some o) :
    Inv (cxI CX P w K mg base (PySem.W.ksEnv qual scope s.heap.objs.size f cdv cc) A outer s H E) [] [some (.ref a), some (.int p), some (.str z)] H { s with heap := h1, toks := tk } := by
  obtain ⟨cl, cld, csl, hc⟩ := cell
  have cb : base.get? cc = some ⟨cl, cld, .cell (some (.ref C)), csl⟩ := e0.mod.kin _ _ hc
  have cs := e0.bs _ _ cb
  have only : ∀ x c, List.lookup x [(("__class__" : Str), cc)] = some c → x = "__class__" ∧ c = cc := fun x c e => by
    have e' : (match x == ("__class__" : Str) with | true => some cc | false => none) = some c := e
    cases hb : (x == ("__class__" : Str)) with
    | false => rw [hb] at e'; cases e'
    | true => rw [hb] at e'; exact ⟨beq_iff_eq.mp hb, (Option.some.inj e').symm⟩
  have noA : ∀ b : Addr, ¬ b ∈ ([] : List Addr) := fun b q => by cases q
  refine ⟨⟨e0.mod, Sc.kind, rfl, rfl, Nat.le_refl _, fun x y c q1 q2 => ?_, fun x q => ?_, fun x c q1 q2 => (by cases q1), fun _ => hd, Around.frames_deeper e0.frames, .inr ⟨rfl, rfl⟩, fun b q => absurd q (noA b), e0.bs, e0.bsz, fun b _ _ => noA b, fun b q => absurd q (noA b), e0.funs, e0.frf⟩,
    rfl, e0.bare, Un.kept k, ⟨_, ns, fun i x v q1 q2 q3 => ?_⟩, fun x c q => ?_, e0.hok.fresh (Nat.le_refl _), fun x c q => ?_, fun q hq => absurd (show q ∈ ([] : List (Addr × Obj)) from hq) (by simp), e0.hok.kept k, rfl⟩
  · rw [(only x c q1).1, (only y c q2).1]
  · rcases q with q | q
    · exact absurd rfl (Sc.nocell _ (PySem.mem_of_lookup (show scope.names.lookup x = some .cell from q)))
    · have := Sc.free x q
      subst this
      exact ⟨cc, by kernel_rfl⟩
  · match i, q1, q2 with
    | 0, q1, q2 =>
      have e1 : x = "self" := (Option.some.inj q1).symm
      have e2 : v = .ref a := (Option.some.inj (Option.some.inj q2)).symm
      subst e1; subst e2
      exact ⟨.ref a, rfl, .inl ⟨Sc.s0, by kernel_rfl⟩⟩
    | 1, q1, q2 =>
      have e1 : x = "place" := (Option.some.inj q1).symm
      have e2 : v = .int p := (Option.some.inj (Option.some.inj q2)).symm
      subst e1; subst e2
      exact ⟨.int p t1, ⟨_, rfl⟩, .inl ⟨Sc.s1, by kernel_rfl⟩⟩
    | 2, q1, q2 =>
      have e1 : x = "reason" := (Option.some.inj q1).symm
      have e2 : v = .str z := (Option.some.inj (Option.some.inj q2)).symm
      subst e1; subst e2
      exact ⟨.str z t2, ⟨_, rfl⟩, .inl ⟨Sc.s2, by kernel_rfl⟩⟩
    | i + 3, q1, q2 => exact absurd q2 (by simp)
  · obtain ⟨_, rfl⟩ := only x c q
    exact ⟨_, ⟨_, k _ _ cs.1, rfl⟩⟩
  · obtain ⟨_, rfl⟩ := only x c q
    exact cs.2
end
end Dt
set_option maxHeartbeats 4000000
/-! Dt25: its __init__, run. -/
namespace Dt
open PySem PySem.Spec PyProof.Rows L2
section
variable {CX : CXT} {P : Program} {w : World} {K : PySem.W.Frag} {mg : Str → Option Value} {base : Heap} {C f cc : Addr} {qual : Str} {params : Arguments} {body : List Stmt} {scope : Scope} {fd : FuncData}
/-- the text of the message -/
theorem msg_pa {X : Cx} (Sc : InitSc X.env.scope) (hN : X.N = selfN) {j0 j1 : Nat} {c0 c1 c2 c3 c4 c5 p3 : Pos} : ∃ ta : TA, PA X [.JoinedStr [.Constant (.str "step ") j0 c0, .FormattedValue (.Name "place" c1) (-1) none c2, .Constant (.str ": ") j1 c3, .FormattedValue (.Name "reason" c4) (-1) none c5] p3] ta ∧
    ∀ (a : Addr) (p : Int) (z : Str) (H : Hp) (Q : List V → Hp → Prop), p.natAbs < 1000000 → z.length ≤ 1000 → (∀ x : Str, Q [.str x] H) → ta [some (.ref a), some (.int p), some (.str z)] H Q := by
  have v1 : PE X (.Name "place" c1) (tVar 1) := pe_var (by rw [hN]; rfl) (.inl Sc.s1)
  have v2 : PE X (.Name "reason" c4) (tVar 2) := pe_var (by rw [hN]; rfl) (.inl Sc.s2)
  refine ⟨_, pa_cons (pe_joined (.cons pe_str (.cons (pe_fmt v1) (.cons pe_str (.cons (pe_fmt v2) .nil))))) pa_nil, fun a p z H Q hp hz hq => ?_⟩
  have big : (10000 : Nat) ≤ sizeLine := by decide
  have l1 : ("step " : Str).length = 5 := by decide +kernel
  have l2 : (": " : Str).length = 2 := by decide +kernel
  have ls : ∀ x y : Str, (x ++ y).length = x.length + y.length := fun x y => Array.size_append ..
  have lg : p.natAbs.log2 < 1920 := by
    by_cases h0 : p.natAbs = 0
    · rw [h0]; decide
    · have := (Nat.log2_lt (k := 20) h0).mpr (by omega)
      omega
  have lt : ((toString p : String) : Str).length ≤ 7 := by
    have := int_text_length_le10 (a := p) (k := 6) (by decide) (by omega)
    rw [PySem.ofString_length]
    omega
  have le : (Str.empty : Str).length = 0 := rfl
  refine ⟨"step ", rfl, by rw [ls]; omega, .int p, rfl, .inr ⟨p, rfl, lg, (toString p : String), rfl, by rw [ls, ls]; omega, ": ", rfl, by rw [ls, ls, ls]; omega, .str z, rfl, .inl ⟨z, rfl, by omega, z, rfl, by rw [ls, ls, ls, ls]; omega, ?_⟩⟩⟩
  exact hq _
def iScope : Scope := { kind := .function, names := [("self", .local), ("place", .local), ("reason", .local), ("__class__", .free), ("super", .globalImplicit)], isGenerator := false, isCoroutine := false, more := [] }
theorem iSc : InitSc iScope := ⟨rfl, rfl, rfl, by decide +kernel, by kernel_rfl, by kernel_rfl, by kernel_rfl, by kernel_rfl, by kernel_rfl, fun x e => by
  have m := PySem.mem_of_lookup e
  simp only [iScope, List.mem_cons, Prod.mk.injEq, List.not_mem_nil, or_false] at m
  rcases m with ⟨_, h⟩ | ⟨_, h⟩ | ⟨_, h⟩ | ⟨h, _⟩ | ⟨_, h⟩
  · cases h
  · cases h
  · cases h
  · exact h
  · cases h⟩
def iBody : List Stmt := [.Expr (.Call (.Attribute (.Call (.Name "super" ⟨7, 8, 7, 13⟩) [] [] ⟨7, 8, 7, 15⟩) "__init__" ⟨7, 8, 7, 24⟩) [.JoinedStr [.Constant (.str "step ") 0 ⟨7, 27, 7, 32⟩, .FormattedValue (.Name "place" ⟨7, 33, 7, 38⟩) (-1) none ⟨7, 32, 7, 39⟩, .Constant (.str ": ") 0 ⟨7, 39, 7, 41⟩, .FormattedValue (.Name "reason" ⟨7, 42, 7, 48⟩) (-1) none ⟨7, 41, 7, 49⟩] ⟨7, 25, 7, 50⟩] [] ⟨7, 8, 7, 51⟩) ⟨7, 8, 7, 51⟩,
      .Assign [.Attribute (.Name "self" ⟨8, 8, 8, 12⟩) "place" ⟨8, 8, 8, 18⟩] (.Name "place" ⟨8, 21, 8, 26⟩) ⟨8, 8, 8, 26⟩, .Assign [.Attribute (.Name "self" ⟨9, 8, 9, 12⟩) "reason" ⟨9, 8, 9, 19⟩] (.Name "reason" ⟨9, 22, 9, 28⟩) ⟨9, 8, 9, 28⟩]
/-- THE RULE for such an __init__ -/
theorem init_ok {k : Nat} {ar : Arg} (F : InitK P K C f cc qual params body scope fd) (hsc : scope = iScope) (hm : mg "super" = none) (htop : (P.main.scope.names.lookup ("super" : Str)).isSome = false)
    (hp : (params.posonlyargs ++ params.args).head? = some ar) (har : ar.arg = "self")
    (hbody : body = iBody) :
    FnOk P w K mg base CX (k + 1) f fd selfN (spI C) := by
  obtain ⟨oc, od, kV, doc, pm, an, cda, ct, osl, rfl, lk, hcd, ccl, cdd, vs, ccs, file, tf, lc, hvs, hfile⟩ := F.fn
  refine ⟨fun vs H Q E ⟨a, p, z, e, _⟩ => by rw [e]; rfl, fun A outer s H args us vs' Q E hr e0 hb r hsp => ?_⟩
  obtain ⟨a, p, z, rfl, hp1, hz, ha, hq⟩ := hsp
  obtain ⟨t1, t2, rfl⟩ : ∃ t1 t2, us = [Value.ref a, .int p t1, .str z t2] := by
    cases r with
    | cons r0 r =>
      cases r with
      | cons r1 r =>
        cases r with
        | cons r2 r =>
          cases r
          obtain ⟨t1, rfl⟩ := r1
          obtain ⟨t2, rfl⟩ := r2
          cases r0
          exact ⟨t1, t2, rfl⟩
  have KX : K.In s.heap := e0.mod.kin.keeps fun b o e => (e0.bs b o e).1
  have lim : s.heap.NoLimit := e0.mod.nolimit.keeps fun b o e => (e0.bs b o e).1
  subst hbody
  subst hsc
  have Sc := iSc
  refine ks_codeAny_call_defAt (binds := selfN.zip [Value.ref a, .int p t1, .str z t2]) hr.depth (KX _ _ lk) rfl lim (PySem.W.codeRec_of KX hcd) rfl hb Sc.nocell (fun y hy => ?_) (fun h1 ns k1 => ?_) Sc.co Sc.gen Sc.kind
  · have hy' : y = (("self" : Str), Value.ref a) ∨ y = (("place" : Str), Value.int p t1) ∨ y = (("reason" : Str), Value.str z t2) := by simpa [selfN] using hy
    rcases hy' with rfl | rfl | rfl
    · exact Sc.s0
    · exact Sc.s1
    · exact Sc.s2
  have I0 := initI (CX := CX) (E := E) (qual := qual) (f := f) (cdv := .ref cda) (tk := s.toks + (selfN.zip [Value.ref a, .int p t1, .str z t2]).length) Sc F.cell hr.hd e0 ns k1
  generalize hX : cxI CX P w K mg base (PySem.W.ksEnv qual iScope s.heap.objs.size f (.ref cda) cc) A outer s H E = X at I0
  have X1 : K.In h1 := KX.keeps k1
  obtain ⟨cl, cld, csl, hcell⟩ := F.cell
  obtain ⟨nm, q, N, bs, bm, sn, sub, ab, col, dd, k0, k1', k2, k3, k5, hC, hbm⟩ := F.T.cls
  have hcl : PySem.W.clsIn K C = some { name := nm, bases := bs, mro := .ref C :: bm, ns := N, qualname := q, hasDict := true, slotNames := sn, subclasses := sub, abstract := ab, collection := col, hasDel := false } := by unfold PySem.W.clsIn; rw [hC] <;> rfl
  have hx : ∃ t1 : Addr, h1.get? a = some ({ cls := .ref C, dict := none, data := .fields #[.ref t1, .none, .none, .none, .bool false, .none] } : Obj) := exo_at I0.hok ha
  obtain ⟨t0, hx⟩ := hx
  have aC : a ≠ C := fun e => by
    have := X1 _ _ hC
    rw [← e, hx] at this
    exact absurd (Option.some.inj this) (by simp [excClassObj])
  refine ks_wpAt_execs_cons (ks_wpAt_Expr_any (ks_wpAt_MethodCall (ks_wpAt_super_base Sc.sup Sc.cl (by decide) rfl (X1 _ _ lk) rfl hp rfl (X1 _ _ lc) rfl hvs hfile htop ?_)))
  obtain ⟨mb, hb1, hb2⟩ := e0.mod.blt
  have bk : ∀ b o, base.get? b = some o → h1.get? b = some o := fun b o e => k1 _ _ (e0.bs b o e).1
  refine PySem.W.ks_loadName_global Sc.kind Sc.sup (Calls.loadGlobal_builtin (e0.mod.glob.keeps bk) hm (hb1.keeps bk) ((hb2 "super" (by decide)).trans (by kernel_rfl)) ⟨rfl, ?_⟩)
  refine wpAny_loadName_free Sc.kind Sc.cl rfl ⟨_, X1 _ _ hcell, rfl⟩ ?_
  rw [har]
  refine wpAny_loadName_local (v := .ref a) Sc.kind Sc.s0 ns (by kernel_rfl) ?_
  refine ks_wpAny_isType_cls (X1 _ _ hC) rfl ⟨rfl, ?_⟩
  refine ks_wpAny_call_super (X1 _ _ hC) rfl hx rfl (fun c e => by cases e) (PySem.W.looks_mroIn X1 F.mro) (fun h2 e2 kk2 => ?_)
  have X2 : K.In h2 := X1.keeps kk2
  have J : PySem.W.InstAt h2 a { cls := .ref C, dict := none, data := .fields #[.ref t0, .none, .none, .none, .bool false, .none] } C none := ⟨kk2 _ _ hx, rfl, rfl, trivial⟩
  have sup := F.sup
  unfold PySem.W.ks_superIn at sup
  rw [hcl] at sup
  refine PySem.W.kxs_getMethod PySem.W.kxs_ValueError (x := a) (C := C) (D := C) e2 (PySem.W.looks_opaque X2 F.opq) (fun A' Q' E' s' k q => wpAny_bind ((PySem.W.looks_clsIn X2 hcl) A' _ E' s' k (wpAny_pure q))) rfl X2 sup (J.type.andThen (PySem.W.looks_subIn X2 F.sub)) aC (by decide) ?_
  have kk3 : ∀ b o, h1.get? b = some o → (h2.push (vMw a)).get? b = some o := fun b o e => Heap.get?_push_of_some _ (kk2 _ _ e)
  have hu : (h2.push (vMw a)).get? h2.objs.size = some (vMw a) := Heap.get?_push_at rfl rfl
  have I2 : Inv X [(h2.objs.size, vMw a)] [some (.ref a), some (.int p), some (.str z)] H ⟨h2.push (vMw a), s.gens, s.drawn, s.toks + (selfN.zip [Value.ref a, .int p t1, .str z t2]).length + 1, s.os⟩ := by
    have I1 := I0.kept (t' := s.toks + (selfN.zip [Value.ref a, .int p t1, .str z t2]).length + 1) kk3
    have lt1 : h1.objs.size < h2.objs.size := Heap.lt_size e2
    have hL : s.heap.objs.size < h1.objs.size := by
      obtain ⟨o, es, ep, ho, _⟩ := ns
      exact Heap.lt_size ho
    refine I1.pins_of fun q hq => ?_
    have hq' : q = (h2.objs.size, vMw a) := by simpa using hq
    subst hq'
    refine ⟨hu, I0.hok.fresh (Nat.le_of_lt lt1), fun e => ?_, fun hm => ?_, fun v e => by cases e⟩
    · subst hX
      have e' : h2.objs.size = s.heap.objs.size := e
      omega
    · subst hX
      obtain ⟨_, o', e', _⟩ := e0.funs.mem (show h2.objs.size ∈ frs outer from hm)
      have hlt : h2.objs.size < s.heap.objs.size := Heap.lt_size e'
      omega
  obtain ⟨ta, hpa, hta⟩ := msg_pa (X := X) (by rw [← hX]; exact iSc) (by rw [← hX]; rfl) (j0 := 0) (j1 := 0) (c0 := ⟨7, 27, 7, 32⟩) (c1 := ⟨7, 33, 7, 38⟩) (c2 := ⟨7, 32, 7, 39⟩) (c3 := ⟨7, 39, 7, 41⟩) (c4 := ⟨7, 42, 7, 48⟩) (c5 := ⟨7, 41, 7, 49⟩) (p3 := ⟨7, 25, 7, 50⟩)
  have run := hpa.run ⟨7, 8, 7, 51⟩ [(h2.objs.size, vMw a)] _ _ H (fun vs H' => ∃ x : Str, vs = [.str x] ∧ H' = H) I2 (hta a p z H _ hp1 hz fun x => ⟨x, rfl, rfl⟩)
  have st : PSs X [.Assign [.Attribute (.Name "self" ⟨8, 8, 8, 12⟩) "place" ⟨8, 8, 8, 18⟩] (.Name "place" ⟨8, 21, 8, 26⟩) ⟨8, 8, 8, 26⟩, .Assign [.Attribute (.Name "self" ⟨9, 8, 9, 12⟩) "reason" ⟨9, 8, 9, 19⟩] (.Name "reason" ⟨9, 22, 9, 28⟩) ⟨9, 8, 9, 28⟩] (tSeq (tOst K "place" (tVar 0) (tVar 1)) (tSeq (tOst K "reason" (tVar 0) (tVar 2)) tNext)) := by
    subst hX
    exact pss_cons (ps_ost (pe_var rfl (.inl iSc.s0)) (pe_var rfl (.inl iSc.s1))) (pss_cons (ps_ost (pe_var rfl (.inl iSc.s0)) (pe_var rfl (.inl iSc.s2))) pss_nil)
  have hD : tSeq (tOst K "place" (tVar 0) (tVar 1)) (tSeq (tOst K "reason" (tVar 0) (tVar 2)) tNext) { nx := fun _ H' => Q .non H', rt := Q } [some (.ref a), some (.int p), some (.str z)] H :=
    ⟨.int p, rfl, .ref a, rfl, a, C, rfl, F.T, F.n1, .inl ⟨ha, fun dx n ne => ⟨.str z, rfl, .ref a, rfl, a, C, rfl, F.T, F.n2, .inr ⟨dx, [("place", .int p)], upd_same, (upd_ne ne).trans upd_same, by exact (by decide : 1 ≤ 900), hq dx n ne⟩⟩⟩⟩
  subst hX
  refine PySem.W.kxs_callWith (i := "ValueError.__init__") (x := a) rfl (Calls.evalArgs_plain (thn run fun us1 s1 hh => ?_))
  obtain ⟨vs1, H1, I3, rv, x, rfl, rfl⟩ := hh
  have pu := (I3.pin (h2.objs.size, vMw a) (by simp)).1
  refine ⟨pu, ?_⟩
  obtain ⟨hp', g', d', t', os'⟩ := s1
  obtain ⟨t5, ho⟩ := exo_at I3.hok ha
  have hus : us1.length ≤ sizeLine := by
    rw [← Paired.length rv]
    exact (by decide : 1 ≤ sizeLine)
  refine mw_call (I3.kIn _ _ hC) ho pu hus (fun h6 t6 k6 e6 => ?_)
  have J6 := I3.write (t' := t') (x := a) (e := a) (o := exo a C none) (by rw [ha]; exact True.intro) (.inl rfl) k6 ⟨_, e6⟩ (exo_ok e6)
  have same : upd H1 a (exo a C none) = H1 := by
    funext b
    by_cases hb : b = a
    · rw [hb, upd_same, ha]
    · rw [upd_ne hb]
  rw [same] at J6
  refine wpAt_of_wpAny (wpAny_mono (st.run _ _ _ _ _ J6 hD) (fun fl s' hs => ?_) fun e s' hs => hs)
  cases fl with
  | next =>
    obtain ⟨σ', H', J', q⟩ := hs
    exact ⟨.non, H', J'.os, J'.bare, J'.base, J'.hok, rfl, q⟩
  | ret u =>
    obtain ⟨v, σ', H', J', rv', q⟩ := hs
    exact ⟨v, H', J'.os, J'.bare, J'.base, J'.hok, rv', q⟩
  | brk => exact (hs.choose_spec.choose_spec.2).elim
  | cont => exact (hs.choose_spec.choose_spec.2).elim
end
end Dt
set_option maxHeartbeats 4000000
/-! Dt26: raise C(place, reason). -/
namespace Dt
open PySem PySem.Spec PyProof.Rows L2
/-- what is told of such an exception -/
def evI (C : Addr) : Exv := fun _ ws cls d H => cls = .ref C ∧ ∃ (dd : Addr) (p : Int) (z : Str) (u : V), ws = [.int p, .str z] ∧ d = some dd ∧ H dd = some (.xd [("reason", .str z), ("place", .int p)])
section
variable {P : Program} {w : World} {K : PySem.W.Frag} {mg : Str → Option Value} {base : Heap} {C f cc : Addr} {qual : Str} {params : Arguments} {body : List Stmt} {scope : Scope} {fd : FuncData}
theorem raise_in {x : Str} {fs : Sems} {E : XK} {D : Ends} {σ : L2.St} {H : Hp} (h : TXm K w (evI C) E (mRaise x fs) D σ H) : tMkO C (spI C) [] (TXs K w fs) σ H (fun cls d H' => E cls d H') := by
  obtain ⟨F, A, τ, r, R0, em, en⟩ := h
  unfold mRaise at em
  split at em
  · rename_i xs τ1 e1
    split at em
    · rename_i p z τ2 e2
      split at em
      · rename_i hc
        cases em
        refine ⟨F, A, τ, xs, τ1, R0, e1, fun vs H1 A1 n q => ?_⟩
        obtain ⟨A2, n2, rs⟩ := escs_ok n.r q e2
        have nn := n.trans n2
        obtain rfl : vs = [.int p, .str z] := by
          simp only [Reps, Rep] at rs
          obtain ⟨v1, vr, rfl, rfl, v2, vr2, rfl, rfl, rfl⟩ := rs
          rfl
        refine ⟨by simp, fun a ha => ⟨a, p, z, rfl, hc.1, hc.2, upd_same, fun d hd hne => ⟨rfl, d, _, (upd_ne (Ne.symm hne)).trans upd_same, upd_same, ?_, ?_⟩⟩⟩
        · rw [upd_ne hne] at hd
          exact hd
        · rw [upd_ne hne] at hd
          have same : upd (del (upd (upd (upd (upd H1 a (exo a C none)) d (exd d [("place", .int p)])) a (exo a C (some d))) d (exd d [("reason", .str z), ("place", .int p)])) a) d (.xd [("reason", .str z), ("place", .int p)]) = upd H1 d (.xd [("reason", .str z), ("place", .int p)]) := by
            funext b
            by_cases h1 : b = d
            · rw [h1, upd_same, upd_same]
            · rw [upd_ne h1, upd_ne h1]
              by_cases h2 : b = a
              · rw [h2, del_same, ha]
              · rw [del_ne h2, upd_ne h1, upd_ne h2, upd_ne h1, upd_ne h2]
          rw [same]
          obtain ⟨R3, s3⟩ := nn.r.laid (o := .xd [("reason", .str z), ("place", .int p)]) hd
          have m3 : Nm K w F σ τ2 H1 A2 σ τ2 (upd H1 d (.xd [("reason", .str z), ("place", .int p)])) A2 := ⟨R3, s3, fun _ q => .inl q, fun _ q => .inl q⟩
          exact en (.ref C) (some d) σ _ A2 [.int p, .str z] (Nm.trans R0 nn.nm m3) (nn.r.keepRs s3 rs) ⟨rfl, d, p, z, .non, rfl, rfl, upd_same⟩
      · cases em
    · cases em
  · cases em
end
end Dt
set_option maxHeartbeats 4000000
/-! Dt27: the rule of the raise, for the maker; isinstance of the caught one. -/
namespace Dt
open PySem PySem.Spec PyProof.Rows L2
section
variable {P : Program} {w : World} {K : PySem.W.Frag} {mg : Str → Option Value} {base : Heap} {C f cc : Addr} {qual : Str} {params : Arguments} {body : List Stmt} {scope : Scope} {fd : FuncData}
theorem raise_ps {G : Gm} {sc : Scope} {k : Nat} (hk : 2 ≤ k) (T : OexC K C) (iC : PySem.W.findIn K (.ref C) "__init__" = some (some (.ref f))) (tI : PySem.W.typeIn K (.ref f) = some (.type "function")) (F1 : FnOk P w K mg base CX0 1 f fd selfN (spI C)) (hb : Binds K fd selfN [])
    (hG : ∀ x, G.exs x = true → x = "InvalidStep") (hm : mg "InvalidStep" = some (.ref C)) :
    ∀ (X : Cx) (E : XK) (x : Str) (es : List Expr) (fs : Sems) (p pos pos' : Pos), X.prog = P → X.w = w → X.K = K → X.mg = mg → X.base = base → X.calm = true → Room k X.A → X.env.scope = sc → Takes X (fun cls d _ H => E cls d H) → G.exs x = true → globS sc x = true → PA X es (TXs X.K X.w fs) → es.all plainE = true → es ≠ [] →
      PS X (.Raise (some (.Call (.Name x p) es [] pos)) none pos') (TXm X.K X.w (evI C) E (mRaise x fs)) := by
  intro X E x es fs p pos pos' h1 h2 h3 h4 h5 calm room hs tk hx hg ha hp hne
  subst h1; subst h2; subst h3; subst h4; subst h5
  have ex := hG x hx
  subst ex
  cases es with
  | nil => exact absurd rfl hne
  | cons e es =>
    rw [List.all_cons, Bool.and_eq_true] at hp
    have mk := pmk_oex (X := X) (dvs := []) T iC tI F1 (room.mono hk) hb .nil (pass0 (X := X)) (glob_ok hs hg) hm ha (by decide) (star1 hp.1) (star_all hp.2) (p := p) (pos := pos)
    exact psW (ps_raise calm tk mk) fun D σ H q => raise_in q
/-- what the class says, for fields and isinstance -/
structure SeenC (K : PySem.W.Frag) (C : Addr) : Prop where
  xf : XfC K C
  cl : (PySem.W.clsIn K C).isSome = true
  ha : PySem.W.findIn K (.ref C) "__class__" = some (some (.builtin "object.__class__"))
  hn : PySem.W.specialIn K (.builtin "object.__class__") "__get__" = some (some (.builtin "getset_descriptor.__get__"))
  ht : PySem.W.takesIn K (.builtin "object.__class__") = some true
  hm : PySem.W.mroIn K C (.type "object") = some true
/-- isinstance(e, D), e caught, with its dict -/
def rIsD (K : PySem.W.Frag) (C dd a : Addr) : List V → Hp → VK → Prop := fun xs H Q => ∃ (c : V) (cv : Value) (b : Bool) (fs : List (Str × V)), xs = [.ref a, c] ∧ (∀ u, RelV c u → u = cv) ∧ H dd = some (.xd fs) ∧ PySem.W.kitOne K (.ref C) cv = some b ∧ Q (.bl b) H
theorem call_isD {X : Cx} {a C dd : Addr} {oe : Obj} {pn : List (Addr × Obj)} (S : SeenC X.K C) (hz : Zc (.ref C) (some dd) oe) (hf : ∃ vs, oe.data = .fields vs) : CallR (X.suite a ((a, oe) :: pn)) (.builtin "isinstance") (rIsD X.K C dd a) := by
  intro pins s σ H xs us Q I r h
  obtain ⟨c, cv, b, fs, rfl, hcv, hd, e, q⟩ := h
  obtain ⟨u1, u2, rfl, r1, r2⟩ := vals2 r
  obtain rfl : u1 = Value.ref a := r1
  obtain rfl : u2 = cv := hcv _ r2
  obtain ⟨get, _⟩ := I.pin (a, oe) (List.mem_append_left _ List.mem_cons_self)
  obtain ⟨vs, hv⟩ := hf
  have hx : ObjOk X.prog X.w H s.heap dd (.xd fs) := I.hok dd _ hd
  obtain ⟨mA, hns, hr⟩ := hx
  obtain ⟨od, ho, hl⟩ := lookIn_ns hns
  have J : PySem.W.InstAt s.heap a oe C (some od) := ⟨get, hz.1, by unfold PySem.W.notCls; rw [hv] <;> rfl, by rw [hz.2]; exact ho⟩
  exact PySem.W.kia_one (PySem.W.kitx_exc S.cl S.xf.ga S.xf.gg S.xf.exC S.ha S.hn S.ht S.hm) I.kIn J e (fun z => nomatch z) fun tk => ⟨.bl b, H, I.tok tk, rfl, q⟩
end
end Dt
set_option maxHeartbeats 0
/-! K4a: the defs of law_k04 as words (printed by gen5.py), and that the text's making gives them. -/
namespace K4
open PySem PySem.Spec PyProof.Rows L2 Dt
def top (i : Nat) : Stmt := PySem.Challenge.pw_drawntrue_k04_plans_are_checked.main.body.getD i (.Pass ⟨0, 0, 0, 0⟩)
def tKINDS : T := .dct [(.str "free", .tup [.int 0, .str ""]), (.str "at", .tup [.int 0, .str "xy"]), (.str "on", .tup [.int 2, .str "n"]), (.str "middle", .tup [.int 2, .str ""]), (.str "corner", .tup [.int 3, .str ""]), (.str "mirror", .tup [.int 2, .str ""]), (.str "square", .tup [.int 2, .str ""]), (.str "meet", .tup [.int 4, .str ""]), (.str "foot", .tup [.int 3, .str ""]), (.str "fold", .tup [.int 3, .str ""]), (.str "centre", .tup [.int 3, .str ""]), (.str "second", .tup [.int 3, .str ""]), (.str "inverse", .tup [.int 3, .str ""]), (.str "circle", .tup [.int 2, .str "n"]), (.str "like", .tup [.int 5, .str ""])]
def tAPART : T := .dct [(.str "on", .tup [.tup [.int 2, .int 3]]), (.str "middle", .tup [.tup [.int 2, .int 3]]), (.str "corner", .tup []), (.str "square", .tup [.tup [.int 2, .int 3]]), (.str "meet", .tup [.tup [.int 2, .int 3], .tup [.int 4, .int 5]]), (.str "foot", .tup [.tup [.int 3, .int 4]]), (.str "fold", .tup [.tup [.int 3, .int 4]]), (.str "centre", .tup [.tup [.int 2, .int 3], .tup [.int 2, .int 4], .tup [.int 3, .int 4]]), (.str "second", .tup [.tup [.int 2, .int 3], .tup [.int 2, .int 4]]), (.str "inverse", .tup [.tup [.int 3, .int 4]]), (.str "circle", .tup [.tup [.int 2, .int 3]]), (.str "like", .tup [.tup [.int 5, .int 6]])]
def kst (x : Str) : Option T := if x = "MOST_POINTS" then some (.int 24) else if x = "MOST_FREE" then some (.int 16) else if x = "MOST_GIVEN" then some (.int 1000000000000) else if x = "KINDS" then some tKINDS else if x = "APART" then some tAPART else none
def G0 : Gm := ⟨fun _ => none, kst, fun _ => false⟩
/-! common_divisor -/
def N_common_divisor : List Str := ["one", "two"]
def m_common_divisor : Stm := (mSeq (mPar [0, 1] (aCons (sBi gAbs (aCons (sVar 0) aNil)) (aCons (sBi gAbs (aCons (sVar 1) aNil)) aNil))) (mSeq (mWhile 1000 (tstOf (sCmp .NotEq (sVar 1) (sCst (.int 0)))) (mSeq (mPar [0, 1] (aCons (sVar 1) (aCons (sBin .Mod (sVar 0) (sVar 1)) aNil))) mNil)) (mSeq (mRet (sVar 0)) mNil)))
def F_common_divisor : Fn := runF [.S, .S] 2 m_common_divisor
theorem c_common_divisor : cBody (G0) N_common_divisor 1000 40 (defScope (top 4)) (defBody (top 4)) = some m_common_divisor := by kernel_rfl
def G1 : Gm := G0.add "common_divisor" [.S, .S] F_common_divisor
/-! is_ratio -/
def N_is_ratio : List Str := ["pair"]
def m_is_ratio : Stm := (mSeq (mRet (semOf (tAndS (tstOf (sCmp .Gt (sIx (sVar 0) (sCst (.int 1))) (sCst (.int 0)))) (tstOf (sCmp .Eq (sCall [.S, .S] F_common_divisor (aCons (sIx (sVar 0) (sCst (.int 0))) (aCons (sIx (sVar 0) (sCst (.int 1))) aNil))) (sCst (.int 1))))))) mNil)
def F_is_ratio : Fn := runF [.S] 1 m_is_ratio
theorem c_is_ratio : cBody (G1) N_is_ratio 1000 40 (defScope (top 5)) (defBody (top 5)) = some m_is_ratio := by kernel_rfl
def G2 : Gm := G1.add "is_ratio" [.S] F_is_ratio
/-! is_name -/
def N_is_name : List Str := ["name", "firsts", "most", "sign"]
def m_is_name : Stm := (mSeq (mIf (tOrS (tNotS (tstOf (sIsi "str" (sVar 0)))) (tOrS (tstOf (sCmp .Eq (sVar 0) (sCst (.str "")))) (tOrS (tstOf (sCmp .NotIn (sIx (sVar 0) (sCst (.int 0))) (sVar 1))) (tstOf (sCmp .Gt (sBi gLen (aCons (sVar 0) aNil)) (sBin .Add (sVar 2) (sCst (.int 1)))))))) (mSeq (mRet (sCst (.bl false))) mNil) mNil) (mSeq (mRet (sCmp .Eq (sLc (srcOf (sSl (sVar 0) (some (sCst (.int 1))) none)) (tgt1 3) [3] (tstOf (sCmp .NotIn (sVar 3) (sCst (.str "0123456789")))) (sVar 3)) (sLst aNil))) mNil))
def F_is_name : Fn := runF [.S, .S, .S] 4 m_is_name
theorem c_is_name : cBody (G2) N_is_name 1000 40 (defScope (top 14)) (defBody (top 14)) = some m_is_name := by kernel_rfl
def G3 : Gm := G2.add "is_name" [.S, .S, .S] F_is_name
/-! is_point_name -/
def N_is_point_name : List Str := ["name"]
def m_is_point_name : Stm := (mSeq (mRet (sCall [.S, .S, .S] F_is_name (aCons (sVar 0) (aCons (sCst (.str "ABCDEFGHIJKLMNOPQRSTUVWXYZ")) (aCons (sCst (.int 3)) aNil))))) mNil)
def F_is_point_name : Fn := runF [.S] 1 m_is_point_name
theorem c_is_point_name : cBody (G3) N_is_point_name 1000 40 (defScope (top 12)) (defBody (top 12)) = some m_is_point_name := by kernel_rfl
def G4 : Gm := G3.add "is_point_name" [.S] F_is_point_name
/-! is_number_name -/
def N_is_number_name : List Str := ["name"]
def m_is_number_name : Stm := (mSeq (mRet (sCall [.S, .S, .S] F_is_name (aCons (sVar 0) (aCons (sCst (.str "abcdefghijklmnopqrstuvwxyz")) (aCons (sCst (.int 2)) aNil))))) mNil)
def F_is_number_name : Fn := runF [.S] 1 m_is_number_name
theorem c_is_number_name : cBody (G4) N_is_number_name 1000 40 (defScope (top 13)) (defBody (top 13)) = some m_is_number_name := by kernel_rfl
def G5 : Gm := G4.add "is_number_name" [.S] F_is_number_name
/-! is_plain -/
def N_is_plain : List Str := ["number"]
def m_is_plain : Stm := (mSeq (mRet (semOf (tAndS (tstOf (sIsi "int" (sVar 0))) (tstOf (semOf (tNotS (tstOf (sIsi "bool" (sVar 0))))))))) mNil)
def F_is_plain : Fn := runF [.S] 1 m_is_plain
theorem c_is_plain : cBody (G5) N_is_plain 1000 40 (defScope (top 15)) (defBody (top 15)) = some m_is_plain := by kernel_rfl
def G6 : Gm := G5.add "is_plain" [.S] F_is_plain
/-! is_given -/
def N_is_given : List Str := ["number", "part"]
def m_is_given : Stm := (mSeq (mIf (tOrS (tNotS (tstOf (sIsi "tuple" (sVar 0)))) (tOrS (tstOf (sCmp .NotEq (sBi gLen (aCons (sVar 0) aNil)) (sCst (.int 2)))) (tstOf (sCmp .NotEq (sLc (srcOf (sVar 0)) (tgt1 1) [1] (tNotS (tstOf (sCall [.S] F_is_plain (aCons (sVar 1) aNil)))) (sVar 1)) (sLst aNil))))) (mSeq (mRet (sCst (.bl false))) mNil) mNil) (mSeq (mRet (semOf (tAndS (tstOf (sCall [.S] F_is_ratio (aCons (sVar 0) aNil))) (tstOf (sCmp .Eq (sLc (srcOf (sVar 0)) (tgt1 1) [1] (tstOf (sCmp .GtE (sBi gAbs (aCons (sVar 1) aNil)) (sCst (.int 1000000000000)))) (sVar 1)) (sLst aNil)))))) mNil))
def F_is_given : Fn := runF [.S] 2 m_is_given
theorem c_is_given : cBody (G6) N_is_given 1000 40 (defScope (top 16)) (defBody (top 16)) = some m_is_given := by kernel_rfl
def G7 : Gm := G6.add "is_given" [.S] F_is_given
/-! is_step -/
def N_is_step : List Str := ["step", "count", "more"]
def m_is_step : Stm := (mSeq (mIf (tOrS (tNotS (tstOf (sIsi "tuple" (sVar 0)))) (tOrS (tstOf (sCmp .Eq (sBi gLen (aCons (sVar 0) aNil)) (sCst (.int 0)))) (tOrS (tNotS (tstOf (sIsi "str" (sIx (sVar 0) (sCst (.int 0)))))) (tstOf (sCmp .NotIn (sIx (sVar 0) (sCst (.int 0))) (sCst tKINDS)))))) (mSeq (mRet (sCst (.bl false))) mNil) mNil) (mSeq (mUnp [1, 2] (sIx (sCst tKINDS) (sIx (sVar 0) (sCst (.int 0))))) (mSeq (mRet (sCmp .Eq (sBi gLen (aCons (sVar 0) aNil)) (sBin .Add (sBin .Add (sCst (.int 2)) (sVar 1)) (sBi gLen (aCons (sVar 2) aNil))))) mNil)))
def F_is_step : Fn := runF [.S] 3 m_is_step
theorem c_is_step : cBody (G7) N_is_step 1000 40 (defScope (top 17)) (defBody (top 17)) = some m_is_step := by kernel_rfl
def G8 : Gm := G7.add "is_step" [.S] F_is_step
/-! points_of -/
def N_points_of : List Str := ["step"]
def m_points_of : Stm := (mSeq (mRet (sBi gList (aCons (sSl (sVar 0) (some (sCst (.int 2))) (some (sBin .Add (sCst (.int 2)) (sIx (sIx (sCst tKINDS) (sIx (sVar 0) (sCst (.int 0)))) (sCst (.int 0)))))) aNil))) mNil)
def F_points_of : Fn := runF [.S] 1 m_points_of
theorem c_points_of : cBody (G8) N_points_of 1000 40 (defScope (top 18)) (defBody (top 18)) = some m_points_of := by kernel_rfl
def G9 : Gm := G8.add "points_of" [.S] F_points_of
/-! given_numbers -/
def N_given_numbers : List Str := ["step"]
def m_given_numbers : Stm := (mSeq (mRet (sBi gList (aCons (sSl (sVar 0) (some (sBin .Add (sCst (.int 2)) (sIx (sIx (sCst tKINDS) (sIx (sVar 0) (sCst (.int 0)))) (sCst (.int 0))))) none) aNil))) mNil)
def F_given_numbers : Fn := runF [.S] 1 m_given_numbers
theorem c_given_numbers : cBody (G9) N_given_numbers 1000 40 (defScope (top 19)) (defBody (top 19)) = some m_given_numbers := by kernel_rfl
def G10 : Gm := G9.add "given_numbers" [.S] F_given_numbers
/-! wrong_number -/
def N_wrong_number : List Str := ["step", "number"]
def m_wrong_number : Stm := (mSeq (mIf (tAndS (tstOf (sCmp .Eq (sIx (sIx (sCst tKINDS) (sIx (sVar 0) (sCst (.int 0)))) (sCst (.int 1))) (sCst (.str "n")))) (tstOf (sCall [.S] F_is_number_name (aCons (sVar 1) aNil)))) (mSeq (mRet (sCst (.bl false))) mNil) mNil) (mSeq (mRet (semOf (tNotS (tstOf (sCall [.S] F_is_given (aCons (sVar 1) aNil)))))) mNil))
def F_wrong_number : Fn := runF [.S, .S] 2 m_wrong_number
theorem c_wrong_number : cBody (G10) N_wrong_number 1000 40 (defScope (top 20)) (defBody (top 20)) = some m_wrong_number := by kernel_rfl
def G11 : Gm := G10.add "wrong_number" [.S, .S] F_wrong_number
/-! new_numbers -/
def N_new_numbers : List Str := ["step", "known", "names", "number", "name"]
def m_new_numbers : Stm := (mSeq (mIf (tstOf (sCmp .Eq (sIx (sVar 0) (sCst (.int 0))) (sCst (.str "free")))) (mSeq (mRet (sCst (.int 2))) mNil) mNil) (mSeq (mSet 2 (sLc (srcOf (sCall [.S] F_given_numbers (aCons (sVar 0) aNil))) (tgt1 3) [3] (tstOf (sIsi "str" (sVar 3))) (sVar 3))) (mSeq (mRet (sBi gLen (aCons (sLc (srcOf (sVar 2)) (tgt1 4) [4] (tstOf (sCmp .NotIn (sVar 4) (sVar 1))) (sVar 4)) aNil))) mNil)))
def F_new_numbers : Fn := runF [.S, .B] 5 m_new_numbers
theorem c_new_numbers : cBody (G11) N_new_numbers 1000 40 (defScope (top 21)) (defBody (top 21)) = some m_new_numbers := by kernel_rfl
def G12 : Gm := G11.add "new_numbers" [.S, .B] F_new_numbers
/-! fault_of_step -/
def N_fault_of_step : List Str := ["step", "names", "name", "number", "pair"]
def m_fault_of_step : Stm := (mSeq (mIf (tNotS (tstOf (sCall [.S] F_is_step (aCons (sVar 0) aNil)))) (mSeq (mRet (sCst (.str "word"))) mNil) mNil) (mSeq (mIf (tNotS (tstOf (sCall [.S] F_is_point_name (aCons (sIx (sVar 0) (sCst (.int 1))) aNil)))) (mSeq (mRet (sCst (.str "name"))) mNil) mNil) (mSeq (mIf (tstOf (sCmp .In (sIx (sVar 0) (sCst (.int 1))) (sVar 1))) (mSeq (mRet (sCst (.str "twice"))) mNil) mNil) (mSeq (mIf (tstOf (sCmp .NotEq (sLc (srcOf (sCall [.S] F_points_of (aCons (sVar 0) aNil))) (tgt1 2) [2] (tOrS (tNotS (tstOf (sIsi "str" (sVar 2)))) (tstOf (sCmp .NotIn (sVar 2) (sVar 1)))) (sVar 2)) (sLst aNil))) (mSeq (mRet (sCst (.str "point"))) mNil) mNil) (mSeq (mIf (tstOf (sCmp .NotEq (sLc (srcOf (sCall [.S] F_given_numbers (aCons (sVar 0) aNil))) (tgt1 3) [3] (tstOf (sCall [.S, .S] F_wrong_number (aCons (sVar 0) (aCons (sVar 3) aNil)))) (sVar 3)) (sLst aNil))) (mSeq (mRet (sCst (.str "number"))) mNil) mNil) (mSeq (mIf (tstOf (sCmp .NotEq (sLc (srcOf (sGet2 (sCst tAPART) (sIx (sVar 0) (sCst (.int 0))) (sTup aNil))) (tgt1 4) [4] (tstOf (sCmp .Eq (sIx (sVar 0) (sIx (sVar 4) (sCst (.int 0)))) (sIx (sVar 0) (sIx (sVar 4) (sCst (.int 1)))))) (sVar 4)) (sLst aNil))) (mSeq (mRet (sCst (.str "equal"))) mNil) mNil) (mSeq (mRet (sCst .non)) mNil)))))))
def F_fault_of_step : Fn := runF [.S, .B] 5 m_fault_of_step
theorem c_fault_of_step : cBody (G12) N_fault_of_step 1000 40 (defScope (top 22)) (defBody (top 22)) = some m_fault_of_step := by kernel_rfl
def G13 : Gm := G12.add "fault_of_step" [.S, .B] F_fault_of_step
/-! check_steps -/
def N_check_steps : List Str := ["steps", "names", "known", "free", "place", "step", "reason", "number"]
def m_check_steps : Stm := (mSeq (mSet 1 (sLst aNil)) (mSeq (mSet 2 (sLst aNil)) (mSeq (mSet 3 (sCst (.int 0))) (mSeq (mFor (srcEnum (sVar 0)) (tgtN [4, 5]) (mSeq (mSet 6 (sCall [.S, .B] F_fault_of_step (aCons (sVar 5) (aCons (sVar 1) aNil)))) (mSeq (mIf (tstOf (sCmp .GtE (sVar 4) (sCst (.int 24)))) (mSeq (mSet 6 (sCst (.str "many"))) mNil) (mSeq (mIf (tstOf (sIsN false (sVar 6))) (mSeq (mAug 3 .Add (sCall [.S, .B] F_new_numbers (aCons (sVar 5) (aCons (sVar 2) aNil)))) (mSeq (mIf (tstOf (sCmp .Gt (sVar 3) (sCst (.int 16)))) (mSeq (mSet 6 (sCst (.str "many"))) mNil) mNil) mNil)) mNil) mNil)) (mSeq (mIf (tstOf (sIsN true (sVar 6))) (mSeq (mRaise "InvalidStep" (aCons (sVar 4) (aCons (sVar 6) aNil))) mNil) mNil) (mSeq (mExp (sMut 1 T.isLst gAppend (aCons (sIx (sVar 5) (sCst (.int 1))) aNil))) (mSeq (mExp (sMut 2 T.isLst gExtend (aCons (sLc (srcOf (sCall [.S] F_given_numbers (aCons (sVar 5) aNil))) (tgt1 7) [7] (tstOf (sIsi "str" (sVar 7))) (sVar 7)) aNil))) mNil)))))) mNil))))
def F_check_steps : Fn := runF [.S] 8 m_check_steps
theorem c_check_steps : cBody ({ G13 with exs := fun x => decide (x = "InvalidStep") }) N_check_steps 1000 40 (defScope (top 23)) (defBody (top 23)) = some m_check_steps := by kernel_rfl
/-! _law_cell -/
def N__law_cell : List Str := ["script", "k", "cell"]
def m__law_cell : Stm := (mSeq (mIf (tAndS (tstOf (sCmp .Lt (sVar 1) (sBi gLen (aCons (sVar 0) aNil)))) (tstOf (sCmp .GtE (sIx (sVar 0) (sVar 1)) (sBin .Pow (sCst (.int 10)) (sCst (.int 9)))))) (mSeq (mRet (sIx (sVar 0) (sVar 1))) mNil) mNil) (mSeq (mSet 2 (sBin .Add (sBin .Mult (sCst (.int 7)) (sVar 1)) (sCst (.int 1)))) (mSeq (mIf (tstOf (sCmp .Gt (sBi gLen (aCons (sVar 0) aNil)) (sCst (.int 0)))) (mSeq (mSet 2 (sBin .Add (sVar 2) (sBin .Mult (sCst (.int 31)) (sIx (sVar 0) (sBin .Mod (sBi gInt (aCons (sVar 1) aNil)) (sBi gLen (aCons (sVar 0) aNil))))))) mNil) mNil) (mSeq (mSet 2 (sBin .Mod (sBi gInt (aCons (sBin .Add (sBin .Mult (sVar 2) (sCst (.int 48271))) (sBin .Mult (sCst (.int 69621)) (sVar 1))) aNil)) (sCst (.int 2147483647)))) (mSeq (mRet (sBin .Mod (sBi gInt (aCons (sBin .Add (sBin .Mult (sVar 2) (sVar 2)) (sBin .Mult (sCst (.int 48271)) (sBin .FloorDiv (sVar 2) (sCst (.int 1000))))) aNil)) (sCst (.int 2147483629)))) mNil)))))
def F__law_cell : Fn := runF [.B, .S] 3 m__law_cell
theorem c__law_cell : cBody (G13) N__law_cell 1000 40 (defScope (top 25)) (defBody (top 25)) = some m__law_cell := by kernel_rfl
def G14 : Gm := G13.add "_law_cell" [.B, .S] F__law_cell
/-! _law_take -/
def N__law_take : List Str := ["state", "m", "x"]
def m__law_take : Stm := (mSeq (mSet 2 (sBin .Mod (sBi gInt (aCons (sIx (sVar 0) (sCst (.int 0))) aNil)) (sVar 1))) (mSeq (mPutIx 0 (sCst (.int 0)) (sBi gInt (aCons (sBin .FloorDiv (sIx (sVar 0) (sCst (.int 0))) (sVar 1)) aNil))) (mSeq (mRet (sVar 2)) mNil)))
def F__law_take : Fn := runF [.M, .S] 3 m__law_take
theorem c__law_take : cBody (G14) N__law_take 1000 40 (defScope (top 26)) (defBody (top 26)) = some m__law_take := by kernel_rfl
def G15 : Gm := G14.add "_law_take" [.M, .S] F__law_take
/-! _law_big -/
def N__law_big : List Str := ["script", "at", "count", "found", "k"]
def m__law_big : Stm := (mSeq (mSet 3 (sCst (.int 0))) (mSeq (mFor (srcRange1 (sVar 2)) (tgt1 4) (mSeq (mSet 3 (sBin .Add (sBin .Mult (sVar 3) (sCst (.int 2147483648))) (sCall [.B, .S] F__law_cell (aCons (sVar 0) (aCons (sBin .Add (sVar 1) (sVar 4)) aNil))))) mNil)) (mSeq (mRet (sLst (aCons (sVar 3) aNil))) mNil)))
def F__law_big : Fn := runF [.B, .S, .S] 5 m__law_big
theorem c__law_big : cBody (G15) N__law_big 1000 40 (defScope (top 27)) (defBody (top 27)) = some m__law_big := by kernel_rfl
def G16 : Gm := G15.add "_law_big" [.B, .S, .S] F__law_big
/-! _law_divisor -/
def N__law_divisor : List Str := ["one", "two", "turn"]
def m__law_divisor : Stm := (mSeq (mSet 0 (sBi gAbs (aCons (sVar 0) aNil))) (mSeq (mSet 1 (sBi gAbs (aCons (sVar 1) aNil))) (mSeq (mFor (srcRange1 (sCst (.int 20000))) (tgt1 2) (mSeq (mIf (tstOf (sCmp .Eq (sVar 1) (sCst (.int 0)))) (mSeq mBrk mNil) mNil) (mSeq (mPar [0, 1] (aCons (sVar 1) (aCons (sBin .Mod (sBi gInt (aCons (sVar 0) aNil)) (sVar 1)) aNil))) mNil))) (mSeq (mRet (sVar 0)) mNil))))
def F__law_divisor : Fn := runF [.S, .S] 3 m__law_divisor
theorem c__law_divisor : cBody (G16) N__law_divisor 1000 40 (defScope (top 28)) (defBody (top 28)) = some m__law_divisor := by kernel_rfl
def G17 : Gm := G16.add "_law_divisor" [.S, .S] F__law_divisor
/-! _law_ratio -/
def N__law_ratio : List Str := ["p", "q", "divisor"]
def m__law_ratio : Stm := (mSeq (mSet 2 (sCall [.S, .S] F__law_divisor (aCons (sVar 0) (aCons (sVar 1) aNil)))) (mSeq (mIf (tstOf (sCmp .Lt (sVar 1) (sCst (.int 0)))) (mSeq (mSet 2 (sNeg (sVar 2))) mNil) mNil) (mSeq (mRet (sTup (aCons (sBi gInt (aCons (sBin .FloorDiv (sVar 0) (sVar 2)) aNil)) (aCons (sBi gInt (aCons (sBin .FloorDiv (sVar 1) (sVar 2)) aNil)) aNil)))) mNil)))
def F__law_ratio : Fn := runF [.S, .S] 3 m__law_ratio
theorem c__law_ratio : cBody (G17) N__law_ratio 1000 40 (defScope (top 29)) (defBody (top 29)) = some m__law_ratio := by kernel_rfl
def G18 : Gm := G17.add "_law_ratio" [.S, .S] F__law_ratio
/-! _law_name -/
def N__law_name : List Str := ["k"]
def m__law_name : Stm := (mSeq (mRet (sBin .Add (sIx (sCst (.str "ABCDEFGHIJKLMNOPQRSTUVWXYZ")) (sBin .Mod (sBi gInt (aCons (sVar 0) aNil)) (sCst (.int 26)))) (sIf (tstOf (sCmp .Lt (sVar 0) (sCst (.int 26)))) (sCst (.str "")) (sBi gStr (aCons (sBi gInt (aCons (sBin .FloorDiv (sVar 0) (sCst (.int 26))) aNil)) aNil))))) mNil)
def F__law_name : Fn := runF [.S] 1 m__law_name
theorem c__law_name : cBody (G18) N__law_name 1000 40 (defScope (top 30)) (defBody (top 30)) = some m__law_name := by kernel_rfl
def G19 : Gm := G18.add "_law_name" [.S] F__law_name
/-! _law_pick -/
def N__law_pick : List Str := ["state", "names", "count", "left", "found", "turn"]
def m__law_pick : Stm := (mSeq (mSet 3 (sBi gList (aCons (sVar 1) aNil))) (mSeq (mSet 4 (sLst aNil)) (mSeq (mFor (srcRange1 (sVar 2)) (tgt1 5) (mSeq (mExp (sMut 4 T.isLst gAppend (aCons (sMut 3 T.isLst gPop1 (aCons (sCall [.M, .S] F__law_take (aCons (sVar 0) (aCons (sBi gLen (aCons (sVar 3) aNil)) aNil))) aNil)) aNil))) mNil)) (mSeq (mRet (sVar 4)) mNil))))
def F__law_pick : Fn := runF [.M, .B, .S] 6 m__law_pick
theorem c__law_pick : cBody (G19) N__law_pick 1000 40 (defScope (top 31)) (defBody (top 31)) = some m__law_pick := by kernel_rfl
def G20 : Gm := G19.add "_law_pick" [.M, .B, .S] F__law_pick
/-! _law_number -/
def N__law_number : List Str := ["state", "numbers", "kind"]
def m__law_number : Stm := (mSeq (mSet 2 (sCall [.M, .S] F__law_take (aCons (sVar 0) (aCons (sCst (.int 4)) aNil)))) (mSeq (mIf (tstOf (sCmp .Eq (sVar 2) (sCst (.int 0)))) (mSeq (mRet (sCall [.S, .S] F__law_ratio (aCons (sBin .Sub (sCall [.M, .S] F__law_take (aCons (sVar 0) (aCons (sCst (.int 9)) aNil))) (sCst (.int 4))) (aCons (sBin .Add (sCst (.int 1)) (sCall [.M, .S] F__law_take (aCons (sVar 0) (aCons (sCst (.int 3)) aNil)))) aNil)))) mNil) mNil) (mSeq (mIf (tAndS (tstOf (sCmp .Eq (sVar 2) (sCst (.int 1)))) (tstOf (sCmp .NotEq (sVar 1) (sLst aNil)))) (mSeq (mRet (sIx (sVar 1) (sCall [.M, .S] F__law_take (aCons (sVar 0) (aCons (sBi gLen (aCons (sVar 1) aNil)) aNil))))) mNil) mNil) (mSeq (mExp (sMut 1 T.isLst gAppend (aCons (sBin .Add (sIx (sCst (.str "tuvwrs")) (sBin .Mod (sBi gLen (aCons (sVar 1) aNil)) (sCst (.int 6)))) (sIf (tstOf (sCmp .Lt (sBi gLen (aCons (sVar 1) aNil)) (sCst (.int 6)))) (sCst (.str "")) (sCst (.str "1")))) aNil))) (mSeq (mRet (sIx (sVar 1) (sNeg (sCst (.int 1))))) mNil)))))
def F__law_number : Fn := runF [.M, .M] 3 m__law_number
theorem c__law_number : cBody (G20) N__law_number 1000 40 (defScope (top 32)) (defBody (top 32)) = some m__law_number := by kernel_rfl
def G21 : Gm := G20.add "_law_number" [.M, .M] F__law_number
/-! _law_step -/
def N__law_step : List Str := ["state", "name", "names", "numbers", "words", "word", "needs", "count", "spots", "one", "size"]
def m__law_step : Stm := (mSeq (mSet 5 (sIx (sVar 4) (sCall [.M, .S] F__law_take (aCons (sVar 0) (aCons (sBi gLen (aCons (sVar 4) aNil)) aNil))))) (mSeq (mSet 6 (sLst (aCons (sTup (aCons (sCst (.str "on")) (aCons (sCst (.int 2)) aNil))) (aCons (sTup (aCons (sCst (.str "middle")) (aCons (sCst (.int 2)) aNil))) (aCons (sTup (aCons (sCst (.str "corner")) (aCons (sCst (.int 3)) aNil))) (aCons (sTup (aCons (sCst (.str "mirror")) (aCons (sCst (.int 2)) aNil))) (aCons (sTup (aCons (sCst (.str "square")) (aCons (sCst (.int 2)) aNil))) (aCons (sTup (aCons (sCst (.str "meet")) (aCons (sCst (.int 4)) aNil))) (aCons (sTup (aCons (sCst (.str "foot")) (aCons (sCst (.int 3)) aNil))) (aCons (sTup (aCons (sCst (.str "fold")) (aCons (sCst (.int 3)) aNil))) aNil)))))))))) (mSeq (mSet 6 (sBin .Add (sVar 6) (sLst (aCons (sTup (aCons (sCst (.str "centre")) (aCons (sCst (.int 3)) aNil))) (aCons (sTup (aCons (sCst (.str "second")) (aCons (sCst (.int 3)) aNil))) (aCons (sTup (aCons (sCst (.str "inverse")) (aCons (sCst (.int 3)) aNil))) (aCons (sTup (aCons (sCst (.str "circle")) (aCons (sCst (.int 2)) aNil))) (aCons (sTup (aCons (sCst (.str "like")) (aCons (sCst (.int 5)) aNil))) aNil)))))))) (mSeq (mSet 7 (sLc (srcOf (sVar 6)) (tgtN [9, 10]) [9, 10] (tstOf (sCmp .Eq (sVar 9) (sVar 5))) (sVar 10))) (mSeq (mIf (tOrS (tstOf (sCmp .Eq (sVar 7) (sLst aNil))) (tstOf (sCmp .Gt (sIx (sVar 7) (sCst (.int 0))) (sBi gLen (aCons (sVar 2) aNil))))) (mSeq (mRet (sTup (aCons (sCst (.str "free")) (aCons (sVar 1) aNil)))) mNil) mNil) (mSeq (mSet 8 (sCall [.M, .B, .S] F__law_pick (aCons (sVar 0) (aCons (sVar 2) (aCons (sIx (sVar 7) (sCst (.int 0))) aNil))))) (mSeq (mIf (tstOf (sCmp .In (sVar 5) (sLst (aCons (sCst (.str "on")) (aCons (sCst (.str "circle")) aNil))))) (mSeq (mRet (sBin .Add (sBin .Add (sTup (aCons (sVar 5) (aCons (sVar 1) aNil))) (sBi gTuple (aCons (sVar 8) aNil))) (sTup (aCons (sCall [.M, .M] F__law_number (aCons (sVar 0) (aCons (sVar 3) aNil))) aNil)))) mNil) mNil) (mSeq (mRet (sBin .Add (sTup (aCons (sVar 5) (aCons (sVar 1) aNil))) (sBi gTuple (aCons (sVar 8) aNil)))) mNil))))))))
def F__law_step : Fn := runF [.M, .S, .B, .M, .S] 11 m__law_step
theorem c__law_step : cBody (G21) N__law_step 1000 40 (defScope (top 33)) (defBody (top 33)) = some m__law_step := by kernel_rfl
def G22 : Gm := G21.add "_law_step" [.M, .S, .B, .M, .S] F__law_step
/-! _law_steps -/
def N__law_steps : List Str := ["state", "first", "more", "words", "names", "numbers", "steps", "k", "name", "step"]
def m__law_steps : Stm := (mSeq (mSet 4 (sLst aNil)) (mSeq (mSet 5 (sLst aNil)) (mSeq (mSet 6 (sLst aNil)) (mSeq (mFor (srcRange1 (sBin .Add (sVar 1) (sVar 2))) (tgt1 7) (mSeq (mSet 8 (sCall [.S] F__law_name (aCons (sVar 7) aNil))) (mSeq (mSet 9 (sIf (tstOf (sCmp .Lt (sVar 7) (sVar 1))) (sTup (aCons (sCst (.str "free")) (aCons (sVar 8) aNil))) (sCall [.M, .S, .B, .M, .S] F__law_step (aCons (sVar 0) (aCons (sVar 8) (aCons (sVar 4) (aCons (sVar 5) (aCons (sVar 3) aNil)))))))) (mSeq (mExp (sMut 6 T.isLst gAppend (aCons (sVar 9) aNil))) (mSeq (mExp (sMut 4 T.isLst gAppend (aCons (sVar 8) aNil))) mNil))))) (mSeq (mRet (sVar 6)) mNil)))))
def F__law_steps : Fn := runF [.M, .S, .S, .S] 10 m__law_steps
theorem c__law_steps : cBody (G22) N__law_steps 1000 40 (defScope (top 34)) (defBody (top 34)) = some m__law_steps := by kernel_rfl
def G23 : Gm := G22.add "_law_steps" [.M, .S, .S, .S] F__law_steps
/-! _law_is_name -/
def N__law_is_name : List Str := ["name", "signs", "most", "sign"]
def m__law_is_name : Stm := (mSeq (mIf (tOrS (tNotS (tstOf (sIsi "str" (sVar 0)))) (tOrS (tstOf (sCmp .Eq (sVar 0) (sCst (.str "")))) (tOrS (tstOf (sCmp .NotIn (sIx (sVar 0) (sCst (.int 0))) (sVar 1))) (tstOf (sCmp .Gt (sBi gLen (aCons (sVar 0) aNil)) (sBin .Add (sVar 2) (sCst (.int 1)))))))) (mSeq (mRet (sCst (.bl false))) mNil) mNil) (mSeq (mRet (sCmp .Eq (sLc (srcOf (sSl (sVar 0) (some (sCst (.int 1))) none)) (tgt1 3) [3] (tstOf (sCmp .NotIn (sVar 3) (sCst (.str "0123456789")))) (sVar 3)) (sLst aNil))) mNil))
def F__law_is_name : Fn := runF [.S, .S, .S] 4 m__law_is_name
theorem c__law_is_name : cBody (G23) N__law_is_name 1000 40 (defScope (top 35)) (defBody (top 35)) = some m__law_is_name := by kernel_rfl
def G24 : Gm := G23.add "_law_is_name" [.S, .S, .S] F__law_is_name
/-! _law_is_given -/
def N__law_is_given : List Str := ["number", "x"]
def m__law_is_given : Stm := (mSeq (mIf (tOrS (tNotS (tstOf (sIsi "tuple" (sVar 0)))) (tOrS (tstOf (sCmp .NotEq (sBi gLen (aCons (sVar 0) aNil)) (sCst (.int 2)))) (tstOf (sCmp .NotEq (sLc (srcOf (sVar 0)) (tgt1 1) [1] (tOrS (tNotS (tstOf (sIsi "int" (sVar 1)))) (tstOf (sIsi "bool" (sVar 1)))) (sVar 1)) (sLst aNil))))) (mSeq (mRet (sCst (.bl false))) mNil) mNil) (mSeq (mRet (semOf (tAndS (tstOf (sCmp .Gt (sIx (sVar 0) (sCst (.int 1))) (sCst (.int 0)))) (tstOf (semOf (tAndS (tstOf (sCmp .Eq (sCall [.S, .S] F__law_divisor (aCons (sIx (sVar 0) (sCst (.int 0))) (aCons (sIx (sVar 0) (sCst (.int 1))) aNil))) (sCst (.int 1)))) (tstOf (semOf (tAndS (tstOf (sCmp .Lt (sBi gAbs (aCons (sIx (sVar 0) (sCst (.int 0))) aNil)) (sBin .Pow (sCst (.int 10)) (sCst (.int 12))))) (tstOf (sCmp .Lt (sIx (sVar 0) (sCst (.int 1))) (sBin .Pow (sCst (.int 10)) (sCst (.int 12)))))))))))))) mNil))
def F__law_is_given : Fn := runF [.S] 2 m__law_is_given
theorem c__law_is_given : cBody (G24) N__law_is_given 1000 40 (defScope (top 36)) (defBody (top 36)) = some m__law_is_given := by kernel_rfl
def G25 : Gm := G24.add "_law_is_given" [.S] F__law_is_given
/-! _law_reason -/
def N__law_reason : List Str := ["step", "names", "place", "sizes", "points", "pairs", "row", "name", "k"]
def m__law_reason : Stm := (mSeq (mSet 3 (sDic (sFlat [((sCst (.str "free")), (sCst (.int 0))), ((sCst (.str "at")), (sCst (.int 2))), ((sCst (.str "on")), (sCst (.int 3))), ((sCst (.str "middle")), (sCst (.int 2))), ((sCst (.str "corner")), (sCst (.int 3))), ((sCst (.str "mirror")), (sCst (.int 2))), ((sCst (.str "square")), (sCst (.int 2))), ((sCst (.str "meet")), (sCst (.int 4))), ((sCst (.str "foot")), (sCst (.int 3))), ((sCst (.str "fold")), (sCst (.int 3)))]))) (mSeq (mSet 3 (sBi gDict (aCons (sBin .Add (sItems 3) (sLst (aCons (sTup (aCons (sCst (.str "centre")) (aCons (sCst (.int 3)) aNil))) (aCons (sTup (aCons (sCst (.str "second")) (aCons (sCst (.int 3)) aNil))) (aCons (sTup (aCons (sCst (.str "inverse")) (aCons (sCst (.int 3)) aNil))) (aCons (sTup (aCons (sCst (.str "circle")) (aCons (sCst (.int 3)) aNil))) (aCons (sTup (aCons (sCst (.str "like")) (aCons (sCst (.int 5)) aNil))) aNil))))))) aNil))) (mSeq (mIf (tstOf (sCmp .Gt (sVar 2) (sCst (.int 23)))) (mSeq (mRet (sCst (.str "many"))) mNil) mNil) (mSeq (mIf (tOrS (tNotS (tstOf (sIsi "tuple" (sVar 0)))) (tOrS (tstOf (sCmp .Eq (sVar 0) (sTup aNil))) (tOrS (tNotS (tstOf (sIsi "str" (sIx (sVar 0) (sCst (.int 0)))))) (tOrS (tstOf (sCmp .NotIn (sIx (sVar 0) (sCst (.int 0))) (sVar 3))) (tstOf (sCmp .NotEq (sBi gLen (aCons (sVar 0) aNil)) (sBin .Add (sCst (.int 2)) (sIx (sVar 3) (sIx (sVar 0) (sCst (.int 0))))))))))) (mSeq (mRet (sCst (.str "word"))) mNil) mNil) (mSeq (mIf (tNotS (tstOf (sCall [.S, .S, .S] F__law_is_name (aCons (sIx (sVar 0) (sCst (.int 1))) (aCons (sCst (.str "ABCDEFGHIJKLMNOPQRSTUVWXYZ")) (aCons (sCst (.int 3)) aNil)))))) (mSeq (mRet (sCst (.str "name"))) mNil) mNil) (mSeq (mIf (tstOf (sCmp .In (sIx (sVar 0) (sCst (.int 1))) (sVar 1))) (mSeq (mRet (sCst (.str "twice"))) mNil) mNil) (mSeq (mSet 4 (sIf (tstOf (sCmp .Eq (sIx (sVar 0) (sCst (.int 0))) (sCst (.str "at")))) (sLst aNil) (sBi gList (aCons (sIf (tstOf (sCmp .In (sIx (sVar 0) (sCst (.int 0))) (sLst (aCons (sCst (.str "on")) (aCons (sCst (.str "circle")) aNil))))) (sSl (sVar 0) (some (sCst (.int 2))) (some (sCst (.int 4)))) (sSl (sVar 0) (some (sCst (.int 2))) none)) aNil)))) (mSeq (mIf (tstOf (sCmp .NotEq (sLc (srcOf (sVar 4)) (tgt1 7) [7] (tOrS (tNotS (tstOf (sIsi "str" (sVar 7)))) (tstOf (sCmp .NotIn (sVar 7) (sVar 1)))) (sVar 7)) (sLst aNil))) (mSeq (mRet (sCst (.str "point"))) mNil) mNil) (mSeq (mIf (tAndS (tstOf (sCmp .Eq (sIx (sVar 0) (sCst (.int 0))) (sCst (.str "at")))) (tOrS (tNotS (tstOf (sCall [.S] F__law_is_given (aCons (sIx (sVar 0) (sCst (.int 2))) aNil)))) (tNotS (tstOf (sCall [.S] F__law_is_given (aCons (sIx (sVar 0) (sCst (.int 3))) aNil)))))) (mSeq (mRet (sCst (.str "number"))) mNil) mNil) (mSeq (mIf (tAndS (tstOf (sCmp .In (sIx (sVar 0) (sCst (.int 0))) (sLst (aCons (sCst (.str "on")) (aCons (sCst (.str "circle")) aNil))))) (tAndS (tNotS (tstOf (sCall [.S] F__law_is_given (aCons (sIx (sVar 0) (sCst (.int 4))) aNil)))) (tNotS (tstOf (sCall [.S, .S, .S] F__law_is_name (aCons (sIx (sVar 0) (sCst (.int 4))) (aCons (sCst (.str "abcdefghijklmnopqrstuvwxyz")) (aCons (sCst (.int 2)) aNil)))))))) (mSeq (mRet (sCst (.str "number"))) mNil) mNil) (mSeq (mSet 5 (sDic (sFlat [((sCst (.str "on")), (sLst (aCons (sCst (.int 0)) (aCons (sCst (.int 1)) aNil)))), ((sCst (.str "middle")), (sLst (aCons (sCst (.int 0)) (aCons (sCst (.int 1)) aNil)))), ((sCst (.str "square")), (sLst (aCons (sCst (.int 0)) (aCons (sCst (.int 1)) aNil)))), ((sCst (.str "meet")), (sLst (aCons (sCst (.int 0)) (aCons (sCst (.int 1)) (aCons (sCst (.int 2)) (aCons (sCst (.int 3)) aNil)))))), ((sCst (.str "foot")), (sLst (aCons (sCst (.int 1)) (aCons (sCst (.int 2)) aNil)))), ((sCst (.str "fold")), (sLst (aCons (sCst (.int 1)) (aCons (sCst (.int 2)) aNil))))]))) (mSeq (mSet 5 (sBi gDict (aCons (sBin .Add (sItems 5) (sLst (aCons (sTup (aCons (sCst (.str "second")) (aCons (sLst (aCons (sCst (.int 0)) (aCons (sCst (.int 1)) (aCons (sCst (.int 0)) (aCons (sCst (.int 2)) aNil))))) aNil))) (aCons (sTup (aCons (sCst (.str "inverse")) (aCons (sLst (aCons (sCst (.int 1)) (aCons (sCst (.int 2)) aNil))) aNil))) (aCons (sTup (aCons (sCst (.str "circle")) (aCons (sLst (aCons (sCst (.int 0)) (aCons (sCst (.int 1)) aNil))) aNil))) (aCons (sTup (aCons (sCst (.str "like")) (aCons (sLst (aCons (sCst (.int 3)) (aCons (sCst (.int 4)) aNil))) aNil))) (aCons (sTup (aCons (sCst (.str "centre")) (aCons (sLst (aCons (sCst (.int 0)) (aCons (sCst (.int 1)) (aCons (sCst (.int 0)) (aCons (sCst (.int 2)) (aCons (sCst (.int 1)) (aCons (sCst (.int 2)) aNil))))))) aNil))) aNil))))))) aNil))) (mSeq (mSet 6 (sGet2 (sVar 5) (sIx (sVar 0) (sCst (.int 0))) (sLst aNil))) (mSeq (mIf (tstOf (sCmp .NotEq (sLc (srcRange3 (sCst (.int 0)) (sBi gLen (aCons (sVar 6) aNil)) (sCst (.int 2))) (tgt1 8) [8] (tstOf (sCmp .Eq (sIx (sVar 4) (sIx (sVar 6) (sVar 8))) (sIx (sVar 4) (sIx (sVar 6) (sBin .Add (sVar 8) (sCst (.int 1))))))) (sVar 8)) (sLst aNil))) (mSeq (mRet (sCst (.str "equal"))) mNil) mNil) (mSeq (mRet (sCst .non)) mNil)))))))))))))))
def F__law_reason : Fn := runF [.S, .B, .S] 9 m__law_reason
theorem c__law_reason : cBody (G25) N__law_reason 1000 40 (defScope (top 37)) (defBody (top 37)) = some m__law_reason := by kernel_rfl
def G26 : Gm := G25.add "_law_reason" [.S, .B, .S] F__law_reason
/-! _law_fault -/
def N__law_fault : List Str := ["steps", "names", "numbers", "free", "place", "step", "reason", "more"]
def m__law_fault : Stm := (mSeq (mSet 1 (sLst aNil)) (mSeq (mSet 2 (sLst aNil)) (mSeq (mSet 3 (sCst (.int 0))) (mSeq (mFor (srcRange1 (sBi gLen (aCons (sVar 0) aNil))) (tgt1 4) (mSeq (mSet 5 (sIx (sVar 0) (sVar 4))) (mSeq (mSet 6 (sCall [.S, .B, .S] F__law_reason (aCons (sVar 5) (aCons (sVar 1) (aCons (sVar 4) aNil))))) (mSeq (mIf (tstOf (sIsN false (sVar 6))) (mSeq (mSet 7 (sIf (tstOf (sCmp .Eq (sIx (sVar 5) (sCst (.int 0))) (sCst (.str "free")))) (sCst (.int 2)) (sCst (.int 0)))) (mSeq (mIf (tAndS (tstOf (sCmp .In (sIx (sVar 5) (sCst (.int 0))) (sLst (aCons (sCst (.str "on")) (aCons (sCst (.str "circle")) aNil))))) (tAndS (tstOf (sIsi "str" (sIx (sVar 5) (sCst (.int 4))))) (tstOf (sCmp .NotIn (sIx (sVar 5) (sCst (.int 4))) (sVar 2))))) (mSeq (mExp (sMut 2 T.isLst gAppend (aCons (sIx (sVar 5) (sCst (.int 4))) aNil))) (mSeq (mSet 7 (sCst (.int 1))) mNil)) mNil) (mSeq (mSet 3 (sBin .Add (sVar 3) (sVar 7))) (mSeq (mSet 6 (sIf (tstOf (sCmp .Gt (sVar 3) (sCst (.int 16)))) (sCst (.str "many")) (sCst .non))) mNil)))) mNil) (mSeq (mIf (tstOf (sIsN true (sVar 6))) (mSeq (mRet (sTup (aCons (sVar 4) (aCons (sVar 6) aNil)))) mNil) mNil) (mSeq (mExp (sMut 1 T.isLst gAppend (aCons (sIx (sVar 5) (sCst (.int 1))) aNil))) mNil)))))) (mSeq (mRet (sCst (.str "fine"))) mNil)))))
def F__law_fault : Fn := runF [.S] 8 m__law_fault
theorem c__law_fault : cBody (G26) N__law_fault 1000 40 (defScope (top 38)) (defBody (top 38)) = some m__law_fault := by kernel_rfl
def G27 : Gm := G26.add "_law_fault" [.S] F__law_fault
/-! _law_told -/
def N__law_told : List Str := ["steps"]
def F__law_told : Fn := fun ts => match F_check_steps ts with
  | some (.ret .non _ _) => some (.ret (.str "fine") false [])
  | some (.ret _ _ _) => some (.ret (.str "odd") false [])
  | some (.exn _ [.int p, r]) => some (.ret (.tup [.int p, r]) false [])
  | _ => none
def G28 : Gm := G27.add "_law_told" [.S] F__law_told
/-! _law_bent -/
def N__law_bent : List Str := ["state", "steps", "place", "step", "kind", "wrong", "entry", "at"]
def m__law_bent : Stm := (mSeq (mSet 2 (sCall [.M, .S] F__law_take (aCons (sVar 0) (aCons (sBi gLen (aCons (sVar 1) aNil)) aNil)))) (mSeq (mSet 3 (sIx (sVar 1) (sVar 2))) (mSeq (mIf (tOrS (tNotS (tstOf (sIsi "tuple" (sVar 3)))) (tstOf (sCmp .Eq (sVar 3) (sTup aNil)))) (mSeq (mRet (sVar 1)) mNil) mNil) (mSeq (mSet 4 (sCall [.M, .S] F__law_take (aCons (sVar 0) (aCons (sCst (.int 6)) aNil)))) (mSeq (mSet 5 (sLst (aCons (sCst (.str "a")) (aCons (sCst (.str "A1")) (aCons (sCst (.str "Ab")) (aCons (sCst (.str "")) (aCons (sCst (.str "A1234")) (aCons (sCst (.int 7)) (aCons (sTup (aCons (sCst (.int 1)) (aCons (sCst (.int 2)) aNil))) (aCons (sTup (aCons (sCst (.int 2)) (aCons (sCst (.int 4)) aNil))) (aCons (sTup (aCons (sCst (.int 1)) (aCons (sCst (.int 0)) aNil))) (aCons (sCst (.str "zz")) (aCons (sCst (.str "t9")) (aCons (sCst .non) (aCons (sCst (.bl true)) (aCons (sCst (.str "B")) (aCons (sCst (.str "C")) (aCons (sTup (aCons (sBin .Pow (sCst (.int 10)) (sCst (.int 12))) (aCons (sCst (.int 1)) aNil))) (aCons (sCst (.str "free")) (aCons (sCst (.str "meet")) aNil)))))))))))))))))))) (mSeq (mSet 6 (sIx (sVar 5) (sCall [.M, .S] F__law_take (aCons (sVar 0) (aCons (sBi gLen (aCons (sVar 5) aNil)) aNil))))) (mSeq (mIf (tstOf (sCmp .Eq (sVar 4) (sCst (.int 0)))) (mSeq (mSet 3 (sSl (sVar 3) none (some (sNeg (sCst (.int 1)))))) mNil) (mSeq (mIf (tstOf (sCmp .Eq (sVar 4) (sCst (.int 1)))) (mSeq (mSet 3 (sBin .Add (sVar 3) (sTup (aCons (sVar 6) aNil)))) mNil) (mSeq (mIf (tstOf (sCmp .Eq (sVar 4) (sCst (.int 2)))) (mSeq (mSet 3 (sBi gList (aCons (sVar 3) aNil))) mNil) (mSeq (mSet 7 (sCall [.M, .S] F__law_take (aCons (sVar 0) (aCons (sBi gLen (aCons (sVar 3) aNil)) aNil)))) (mSeq (mSet 3 (sBin .Add (sBin .Add (sSl (sVar 3) none (some (sVar 7))) (sTup (aCons (sVar 6) aNil))) (sSl (sVar 3) (some (sBin .Add (sVar 7) (sCst (.int 1)))) none))) mNil))) mNil)) mNil)) (mSeq (mRet (sBin .Add (sBin .Add (sSl (sVar 1) none (some (sVar 2))) (sLst (aCons (sVar 3) aNil))) (sSl (sVar 1) (some (sBin .Add (sVar 2) (sCst (.int 1)))) none))) mNil))))))))
def F__law_bent : Fn := runF [.M, .S] 8 m__law_bent
theorem c__law_bent : cBody (G28) N__law_bent 1000 40 (defScope (top 40)) (defBody (top 40)) = some m__law_bent := by kernel_rfl
def G29 : Gm := G28.add "_law_bent" [.M, .S] F__law_bent
/-! law -/
def N_law : List Str := ["script", "state", "words", "steps", "turn", "given", "told", "count", "wide", "many", "row", "step", "due", "k"]
def m_law : Stm := (mSeq (mSet 1 (sCall [.B, .S, .S] F__law_big (aCons (sVar 0) (aCons (sCst (.int 0)) (aCons (sCst (.int 60)) aNil))))) (mSeq (mSet 2 (sLst (aCons (sCst (.str "on")) (aCons (sCst (.str "middle")) (aCons (sCst (.str "corner")) (aCons (sCst (.str "mirror")) (aCons (sCst (.str "square")) (aCons (sCst (.str "meet")) (aCons (sCst (.str "foot")) (aCons (sCst (.str "fold")) (aCons (sCst (.str "centre")) (aCons (sCst (.str "second")) (aCons (sCst (.str "inverse")) (aCons (sCst (.str "circle")) (aCons (sCst (.str "like")) aNil))))))))))))))) (mSeq (mSet 3 (sCall [.M, .S, .S, .S] F__law_steps (aCons (sVar 1) (aCons (sBin .Add (sCst (.int 2)) (sCall [.M, .S] F__law_take (aCons (sVar 1) (aCons (sCst (.int 3)) aNil)))) (aCons (sCall [.M, .S] F__law_take (aCons (sVar 1) (aCons (sCst (.int 5)) aNil))) (aCons (sVar 2) aNil)))))) (mSeq (mIf (tstOf (sCmp .Eq (sCall [.M, .S] F__law_take (aCons (sVar 1) (aCons (sCst (.int 3)) aNil))) (sCst (.int 0)))) (mSeq (mExp (sMut 3 T.isLst gAppend (aCons (sTup (aCons (sCst (.str "at")) (aCons (sCst (.str "Z")) (aCons (sCall [.S, .S] F__law_ratio (aCons (sBin .Sub (sCall [.M, .S] F__law_take (aCons (sVar 1) (aCons (sCst (.int 9)) aNil))) (sCst (.int 4))) (aCons (sBin .Add (sCst (.int 1)) (sCall [.M, .S] F__law_take (aCons (sVar 1) (aCons (sCst (.int 4)) aNil)))) aNil))) (aCons (sTup (aCons (sCst (.int 0)) (aCons (sCst (.int 1)) aNil))) aNil))))) aNil))) mNil) mNil) (mSeq (mFor (srcRange1 (sIx (sLst (aCons (sCst (.int 0)) (aCons (sCst (.int 1)) (aCons (sCst (.int 1)) (aCons (sCst (.int 2)) aNil))))) (sCall [.M, .S] F__law_take (aCons (sVar 1) (aCons (sCst (.int 4)) aNil))))) (tgt1 4) (mSeq (mSet 3 (sCall [.M, .S] F__law_bent (aCons (sVar 1) (aCons (sVar 3) aNil)))) mNil)) (mSeq (mSet 5 (sBi gList (aCons (sVar 3) aNil))) (mSeq (mSet 6 (sCall [.S] F__law_told (aCons (sVar 5) aNil))) (mSeq (mIf (tOrS (tstOf (sCmp .NotEq (sVar 6) (sCall [.S] F__law_fault (aCons (sVar 3) aNil)))) (tstOf (sCmp .NotEq (sVar 5) (sVar 3)))) (mSeq (mRet (sCst (.bl false))) mNil) mNil) (mSeq (mSet 7 (sBin .Add (sCst (.int 22)) (sCall [.M, .S] F__law_take (aCons (sVar 1) (aCons (sCst (.int 5)) aNil))))) (mSeq (mSet 8 (sBin .Add (sLst (aCons (sTup (aCons (sCst (.str "free")) (aCons (sCst (.str "A")) aNil))) (aCons (sTup (aCons (sCst (.str "free")) (aCons (sCst (.str "B")) aNil))) aNil))) (sLc (srcRange1 (sVar 7)) (tgt1 13) [13] tYesS (sTup (aCons (sCst (.str "middle")) (aCons (sBin .Add (sCst (.str "M")) (sBi gStr (aCons (sVar 13) aNil))) (aCons (sCst (.str "A")) (aCons (sCst (.str "B")) aNil)))))))) (mSeq (mSet 9 (sBin .Add (sLc (srcRange1 (sCst (.int 6))) (tgt1 13) [13] tYesS (sTup (aCons (sCst (.str "free")) (aCons (sCall [.S] F__law_name (aCons (sVar 13) aNil)) aNil)))) (sLc (srcRange1 (sBin .Add (sCst (.int 3)) (sCall [.M, .S] F__law_take (aCons (sVar 1) (aCons (sCst (.int 4)) aNil))))) (tgt1 13) [13] tYesS (sTup (aCons (sCst (.str "on")) (aCons (sBin .Add (sCst (.str "P")) (sBi gStr (aCons (sVar 13) aNil))) (aCons (sCst (.str "A")) (aCons (sCst (.str "B")) (aCons (sBin .Add (sCst (.str "n")) (sBi gStr (aCons (sVar 13) aNil))) aNil))))))))) (mSeq (mFor (srcOf (sLst (aCons (sVar 8) (aCons (sVar 9) (aCons (sLst aNil) (aCons (sLst (aCons (sTup (aCons (sCst (.str "free")) (aCons (sCst (.str "A")) aNil))) (aCons (sTup (aCons (sCst (.str "free")) (aCons (sCst (.str "A")) aNil))) aNil))) aNil)))))) (tgt1 10) (mSeq (mIf (tstOf (sCmp .NotEq (sCall [.S] F__law_told (aCons (sBi gList (aCons (sVar 10) aNil)) aNil)) (sCall [.S] F__law_fault (aCons (sVar 10) aNil)))) (mSeq (mRet (sCst (.bl false))) mNil) mNil) mNil)) (mSeq (mIf (tstOf (sCmp .Eq (sVar 6) (sCst (.str "fine")))) (mSeq (mFor (srcOf (sVar 3)) (tgt1 11) (mSeq (mSet 12 (sIf (tstOf (sCmp .In (sIx (sVar 11) (sCst (.int 0))) (sLst (aCons (sCst (.str "free")) (aCons (sCst (.str "at")) aNil))))) (sLst aNil) (sBi gList (aCons (sIf (tstOf (sCmp .In (sIx (sVar 11) (sCst (.int 0))) (sLst (aCons (sCst (.str "on")) (aCons (sCst (.str "circle")) aNil))))) (sSl (sVar 11) (some (sCst (.int 2))) (some (sCst (.int 4)))) (sSl (sVar 11) (some (sCst (.int 2))) none)) aNil)))) (mSeq (mIf (tOrS (tNotS (tstOf (sIsi "list" (sCall [.S] F_points_of (aCons (sVar 11) aNil))))) (tstOf (sCmp .NotEq (sCall [.S] F_points_of (aCons (sVar 11) aNil)) (sVar 12)))) (mSeq (mRet (sCst (.bl false))) mNil) mNil) mNil))) mNil) mNil) (mSeq (mRet (sCst (.bl true))) mNil))))))))))))))
def F_law : Fn := runF [.B] 14 m_law
theorem c_law : cBody (G29) N_law 1000 40 (defScope (top 41)) (defBody (top 41)) = some m_law := by kernel_rfl
def G30 : Gm := G29.add "law" [.B] F_law
end K4
set_option maxHeartbeats 0
/-! K4h: the head of law_k04 with its facts (printed by gen6.py). -/
namespace K4
open PySem PySem.Spec PyProof.Rows L2 Dt
def d_common_divisor : He.DefD := ⟨("common_divisor", none), "common_divisor", "common_divisor", defArgs (top 4), defBody (top 4), defScope (top 4), [], []⟩
def d_is_ratio : He.DefD := ⟨("is_ratio", none), "is_ratio", "is_ratio", defArgs (top 5), defBody (top 5), defScope (top 5), [], []⟩
def d_is_name : He.DefD := ⟨("is_name", none), "is_name", "is_name", defArgs (top 14), defBody (top 14), defScope (top 14), [], []⟩
def d_is_point_name : He.DefD := ⟨("is_point_name", none), "is_point_name", "is_point_name", defArgs (top 12), defBody (top 12), defScope (top 12), [], []⟩
def d_is_number_name : He.DefD := ⟨("is_number_name", none), "is_number_name", "is_number_name", defArgs (top 13), defBody (top 13), defScope (top 13), [], []⟩
def d_is_plain : He.DefD := ⟨("is_plain", none), "is_plain", "is_plain", defArgs (top 15), defBody (top 15), defScope (top 15), [], []⟩
def d_is_given : He.DefD := ⟨("is_given", none), "is_given", "is_given", defArgs (top 16), defBody (top 16), defScope (top 16), [], []⟩
def d_is_step : He.DefD := ⟨("is_step", none), "is_step", "is_step", defArgs (top 17), defBody (top 17), defScope (top 17), [], []⟩
def d_points_of : He.DefD := ⟨("points_of", none), "points_of", "points_of", defArgs (top 18), defBody (top 18), defScope (top 18), [], []⟩
def d_given_numbers : He.DefD := ⟨("given_numbers", none), "given_numbers", "given_numbers", defArgs (top 19), defBody (top 19), defScope (top 19), [], []⟩
def d_wrong_number : He.DefD := ⟨("wrong_number", none), "wrong_number", "wrong_number", defArgs (top 20), defBody (top 20), defScope (top 20), [], []⟩
def d_new_numbers : He.DefD := ⟨("new_numbers", none), "new_numbers", "new_numbers", defArgs (top 21), defBody (top 21), defScope (top 21), [], []⟩
def d_fault_of_step : He.DefD := ⟨("fault_of_step", none), "fault_of_step", "fault_of_step", defArgs (top 22), defBody (top 22), defScope (top 22), [], []⟩
def d_check_steps : He.DefD := ⟨("check_steps", none), "check_steps", "check_steps", defArgs (top 23), defBody (top 23), defScope (top 23), [], []⟩
def d__law_cell : He.DefD := ⟨("_law_cell", none), "_law_cell", "_law_cell", defArgs (top 25), defBody (top 25), defScope (top 25), [], []⟩
def d__law_take : He.DefD := ⟨("_law_take", none), "_law_take", "_law_take", defArgs (top 26), defBody (top 26), defScope (top 26), [], []⟩
def d__law_big : He.DefD := ⟨("_law_big", none), "_law_big", "_law_big", defArgs (top 27), defBody (top 27), defScope (top 27), [], []⟩
def d__law_divisor : He.DefD := ⟨("_law_divisor", none), "_law_divisor", "_law_divisor", defArgs (top 28), defBody (top 28), defScope (top 28), [], []⟩
def d__law_ratio : He.DefD := ⟨("_law_ratio", none), "_law_ratio", "_law_ratio", defArgs (top 29), defBody (top 29), defScope (top 29), [], []⟩
def d__law_name : He.DefD := ⟨("_law_name", none), "_law_name", "_law_name", defArgs (top 30), defBody (top 30), defScope (top 30), [], []⟩
def d__law_pick : He.DefD := ⟨("_law_pick", none), "_law_pick", "_law_pick", defArgs (top 31), defBody (top 31), defScope (top 31), [], []⟩
def d__law_number : He.DefD := ⟨("_law_number", none), "_law_number", "_law_number", defArgs (top 32), defBody (top 32), defScope (top 32), [], []⟩
def d__law_step : He.DefD := ⟨("_law_step", none), "_law_step", "_law_step", defArgs (top 33), defBody (top 33), defScope (top 33), [], []⟩
def d__law_steps : He.DefD := ⟨("_law_steps", none), "_law_steps", "_law_steps", defArgs (top 34), defBody (top 34), defScope (top 34), [], []⟩
def d__law_is_name : He.DefD := ⟨("_law_is_name", none), "_law_is_name", "_law_is_name", defArgs (top 35), defBody (top 35), defScope (top 35), [], []⟩
def d__law_is_given : He.DefD := ⟨("_law_is_given", none), "_law_is_given", "_law_is_given", defArgs (top 36), defBody (top 36), defScope (top 36), [], []⟩
def d__law_reason : He.DefD := ⟨("_law_reason", none), "_law_reason", "_law_reason", defArgs (top 37), defBody (top 37), defScope (top 37), [], []⟩
def d__law_fault : He.DefD := ⟨("_law_fault", none), "_law_fault", "_law_fault", defArgs (top 38), defBody (top 38), defScope (top 38), [], []⟩
def d__law_told : He.DefD := ⟨("_law_told", none), "_law_told", "_law_told", defArgs (top 39), defBody (top 39), defScope (top 39), [], []⟩
def d__law_bent : He.DefD := ⟨("_law_bent", none), "_law_bent", "_law_bent", defArgs (top 40), defBody (top 40), defScope (top 40), [], []⟩
def d_law : He.DefD := ⟨("law", none), "law", "law", defArgs (top 41), defBody (top 41), defScope (top 41), [], []⟩
def fn : List He.DefD := [d_common_divisor, d_is_ratio, d_is_name, d_is_point_name, d_is_number_name, d_is_plain, d_is_given, d_is_step, d_points_of, d_given_numbers, d_wrong_number, d_new_numbers, d_fault_of_step, d_check_steps, d__law_cell, d__law_take, d__law_big, d__law_divisor, d__law_ratio, d__law_name, d__law_pick, d__law_number, d__law_step, d__law_steps, d__law_is_name, d__law_is_given, d__law_reason, d__law_fault, d__law_told, d__law_bent, d_law]
def fa1 : List He.Fa := [.glo "common_divisor", .glo "is_ratio", .glo "is_name", .glo "is_point_name", .glo "is_number_name", .glo "is_plain", .glo "is_given", .glo "is_step", .glo "points_of", .glo "given_numbers", .glo "wrong_number", .glo "new_numbers", .glo "fault_of_step", .glo "check_steps", .glo "_law_cell", .glo "_law_take", .glo "_law_big", .glo "_law_divisor", .glo "_law_ratio", .glo "_law_name", .glo "_law_pick", .glo "_law_number", .glo "_law_step", .glo "_law_steps", .glo "_law_is_name", .glo "_law_is_given", .glo "_law_reason", .glo "_law_fault", .glo "_law_told", .glo "_law_bent"]
def fa2 : List He.Fa := [.glo "law", .glo "KINDS", .glo "APART", .glo "InvalidStep", .glo "DrawnError", .free "len", .free "abs", .free "int", .free "str", .free "tuple", .free "list", .free "dict", .free "isinstance", .free "range", .free "enumerate", .free "bool", .free "super", .free "ValueError", .int "MOST_POINTS" 24, .int "MOST_FREE" 16, .int "MOST_GIVEN" 1000000000000]
def fa : List He.Fa := fa1 ++ fa2
def tKINDS_l : List (T × T) := match tKINDS with | .dct l => l | _ => []
def tAPART_l : List (T × T) := match tAPART with | .dct l => l | _ => []
def ts : List He.Tab := [(fun K => He.ga K "KINDS", ["free", "at", "on", "middle", "corner", "mirror", "square", "meet", "foot", "fold", "centre", "second", "inverse", "circle", "like"]), (fun K => He.ga K "APART", ["on", "middle", "corner", "square", "meet", "foot", "fold", "centre", "second", "inverse", "circle", "like"])]
def ex (K : PySem.W.Frag) : Bool := tabB K tKINDS_l (He.ga K "KINDS") && tabB K tAPART_l (He.ga K "APART") && K.all (fun q => decide (q.2.cls ≠ .type "list"))
abbrev R : PySem.W.OpenRow := PySem.W.OpenLaw.row PySem.Challenge.rw_drawntrue_k04_plans_are_checked
def loose : List Str := ((["DrawnError", "InvalidStep", "common_divisor", "is_ratio", "MOST_POINTS", "MOST_FREE", "MOST_GIVEN", "KINDS", "APART", "is_point_name", "is_number_name", "is_name", "is_plain", "is_given", "is_step", "points_of", "given_numbers", "wrong_number", "new_numbers", "fault_of_step", "check_steps", "_law_cell", "_law_take", "_law_big", "_law_divisor", "_law_ratio", "_law_name", "_law_pick", "_law_number", "_law_step", "_law_steps", "_law_is_name", "_law_is_given", "_law_reason", "_law_fault", "_law_told", "_law_bent"] : List String).map Str.ofString)
end K4
set_option maxHeartbeats 0
/-! K4m: every def of law_k04 keeps its promise (printed by gen6.py). -/
namespace K4
open PySem PySem.Spec PyProof.Rows L2 Dt
section
variable {P : Program} {w : World} {K : PySem.W.Frag} {h : Heap} {mg : Str → Option Value} {base : Heap}
theorem tabs (c : He.SaysX fa fn ts [] ex w h K) : (∀ H A, Rep K w H A tKINDS (.ref (He.ga K "KINDS"))) ∧ (∀ H A, Rep K w H A tAPART (.ref (He.ga K "APART"))) := by
  have m := c.more
  unfold ex at m
  simp only [Bool.and_eq_true] at m
  obtain ⟨es, n, D⟩ := c.t.tab 0 rfl
  obtain ⟨es', n', D'⟩ := c.t.tab 1 rfl
  exact ⟨tabB_ok D m.1.1, tabB_ok D' m.1.2⟩
theorem nolist (c : He.SaysX fa fn ts [] ex w h K) {a : Addr} {o : Obj} (e : K.lookup a = some o) : o.cls ≠ .type "list" := by
  have m := c.more
  unfold ex at m
  simp only [Bool.and_eq_true, List.all_eq_true] at m
  simpa using m.2 (a, o) (He.lookup_mem e)
theorem gl (c : He.SaysX fa fn ts [] ex w h K) (X : K.In h) (Gh : h.Ns mainGlobals mg) {x : Str} (i : Nat) (hx : fa[i]? = some (He.Fa.glo x) := by rfl) : mg x = some (.ref (He.ga K x)) := He.glo_ok X Gh (c.t.d.fact i hx)
theorem fr' (c : He.SaysX fa fn ts [] ex w h K) (X : K.In h) (Gh : h.Ns mainGlobals mg) {x : Str} (i : Nat) (hx : fa[i]? = some (He.Fa.free x) := by rfl) : mg x = none := He.free_ok X Gh (c.t.d.fact i hx)
theorem modd0 (c : He.SaysX fa fn ts [] ex w h K) (X : K.In h) (Gh : h.Ns mainGlobals mg) : Modd G0 P w K mg base 0 := by
  refine ⟨fun x ms F e => absurd (show (none : Option (List Md × Fn)) = some (ms, F) from e) (by simp), fun x t e => ?_, fun x hx => ?_⟩
  · have e' : kst x = some t := e
    unfold kst at e'
    have int : ∀ {y : Str} {i : Int} (j : Nat), fa[j]? = some (He.Fa.int y i) → ∃ (u : Value) (v : V), mg y = some u ∧ RelV v u ∧ ∀ H A, Rep K w H A (.int i) v := fun {y i} j hm => by
      obtain ⟨k, e⟩ := He.int_ok X Gh (c.t.d.fact j hm)
      exact ⟨_, .int i, e, ⟨k, rfl⟩, fun _ _ => rp_int⟩
    split at e'
    · rename_i hx; cases e'; subst hx
      obtain ⟨u, v, h1, h2, h3⟩ := int (y := "MOST_POINTS") (i := 24) 48 rfl
      exact ⟨u, v, h1, h2, h3, by decide⟩
    · split at e'
      · rename_i hx; cases e'; subst hx
        obtain ⟨u, v, h1, h2, h3⟩ := int (y := "MOST_FREE") (i := 16) 49 rfl
        exact ⟨u, v, h1, h2, h3, by decide⟩
      · split at e'
        · rename_i hx; cases e'; subst hx
          obtain ⟨u, v, h1, h2, h3⟩ := int (y := "MOST_GIVEN") (i := 1000000000000) 50 rfl
          exact ⟨u, v, h1, h2, h3, by decide⟩
        · split at e'
          · rename_i hx; cases e'; subst hx
            exact ⟨_, .ref _, gl c X Gh (x := "KINDS") 31, rfl, (tabs c).1, by decide⟩
          · split at e'
            · rename_i hx; cases e'; subst hx
              exact ⟨_, .ref _, gl c X Gh (x := "APART") 32, rfl, (tabs c).2, by decide⟩
            · cases e'
  · simp only [bltNames, List.mem_cons, List.not_mem_nil, or_false] at hx
    rcases hx with rfl | rfl | rfl | rfl | rfl | rfl | rfl | rfl | rfl | rfl | rfl
    · exact fr' c X Gh 35
    · exact fr' c X Gh 36
    · exact fr' c X Gh 37
    · exact fr' c X Gh 38
    · exact fr' c X Gh 39
    · exact fr' c X Gh 40
    · exact fr' c X Gh 41
    · exact fr' c X Gh 42
    · exact fr' c X Gh 43
    · exact fr' c X Gh 44
    · exact fr' c X Gh 45
theorem sc_common_divisor : FnScope N_common_divisor ["one", "two"] (defScope (top 4)) := ⟨rfl, rfl, rfl, by decide +kernel, rfl, by decide +kernel, by decide +kernel⟩
theorem sc_is_ratio : FnScope N_is_ratio ["pair"] (defScope (top 5)) := ⟨rfl, rfl, rfl, by decide +kernel, rfl, by decide +kernel, by decide +kernel⟩
theorem sc_is_name : FnScope N_is_name ["name", "firsts", "most"] (defScope (top 14)) := ⟨rfl, rfl, rfl, by decide +kernel, rfl, by decide +kernel, by decide +kernel⟩
theorem sc_is_point_name : FnScope N_is_point_name ["name"] (defScope (top 12)) := ⟨rfl, rfl, rfl, by decide +kernel, rfl, by decide +kernel, by decide +kernel⟩
theorem sc_is_number_name : FnScope N_is_number_name ["name"] (defScope (top 13)) := ⟨rfl, rfl, rfl, by decide +kernel, rfl, by decide +kernel, by decide +kernel⟩
theorem sc_is_plain : FnScope N_is_plain ["number"] (defScope (top 15)) := ⟨rfl, rfl, rfl, by decide +kernel, rfl, by decide +kernel, by decide +kernel⟩
theorem sc_is_given : FnScope N_is_given ["number"] (defScope (top 16)) := ⟨rfl, rfl, rfl, by decide +kernel, rfl, by decide +kernel, by decide +kernel⟩
theorem sc_is_step : FnScope N_is_step ["step"] (defScope (top 17)) := ⟨rfl, rfl, rfl, by decide +kernel, rfl, by decide +kernel, by decide +kernel⟩
theorem sc_points_of : FnScope N_points_of ["step"] (defScope (top 18)) := ⟨rfl, rfl, rfl, by decide +kernel, rfl, by decide +kernel, by decide +kernel⟩
theorem sc_given_numbers : FnScope N_given_numbers ["step"] (defScope (top 19)) := ⟨rfl, rfl, rfl, by decide +kernel, rfl, by decide +kernel, by decide +kernel⟩
theorem sc_wrong_number : FnScope N_wrong_number ["step", "number"] (defScope (top 20)) := ⟨rfl, rfl, rfl, by decide +kernel, rfl, by decide +kernel, by decide +kernel⟩
theorem sc_new_numbers : FnScope N_new_numbers ["step", "known"] (defScope (top 21)) := ⟨rfl, rfl, rfl, by decide +kernel, rfl, by decide +kernel, by decide +kernel⟩
theorem sc_fault_of_step : FnScope N_fault_of_step ["step", "names"] (defScope (top 22)) := ⟨rfl, rfl, rfl, by decide +kernel, rfl, by decide +kernel, by decide +kernel⟩
theorem sc_check_steps : FnScope N_check_steps ["steps"] (defScope (top 23)) := ⟨rfl, rfl, rfl, by decide +kernel, rfl, by decide +kernel, by decide +kernel⟩
theorem sc__law_cell : FnScope N__law_cell ["script", "k"] (defScope (top 25)) := ⟨rfl, rfl, rfl, by decide +kernel, rfl, by decide +kernel, by decide +kernel⟩
theorem sc__law_take : FnScope N__law_take ["state", "m"] (defScope (top 26)) := ⟨rfl, rfl, rfl, by decide +kernel, rfl, by decide +kernel, by decide +kernel⟩
theorem sc__law_big : FnScope N__law_big ["script", "at", "count"] (defScope (top 27)) := ⟨rfl, rfl, rfl, by decide +kernel, rfl, by decide +kernel, by decide +kernel⟩
theorem sc__law_divisor : FnScope N__law_divisor ["one", "two"] (defScope (top 28)) := ⟨rfl, rfl, rfl, by decide +kernel, rfl, by decide +kernel, by decide +kernel⟩
theorem sc__law_ratio : FnScope N__law_ratio ["p", "q"] (defScope (top 29)) := ⟨rfl, rfl, rfl, by decide +kernel, rfl, by decide +kernel, by decide +kernel⟩
theorem sc__law_name : FnScope N__law_name ["k"] (defScope (top 30)) := ⟨rfl, rfl, rfl, by decide +kernel, rfl, by decide +kernel, by decide +kernel⟩
theorem sc__law_pick : FnScope N__law_pick ["state", "names", "count"] (defScope (top 31)) := ⟨rfl, rfl, rfl, by decide +kernel, rfl, by decide +kernel, by decide +kernel⟩
theorem sc__law_number : FnScope N__law_number ["state", "numbers"] (defScope (top 32)) := ⟨rfl, rfl, rfl, by decide +kernel, rfl, by decide +kernel, by decide +kernel⟩
theorem sc__law_step : FnScope N__law_step ["state", "name", "names", "numbers", "words"] (defScope (top 33)) := ⟨rfl, rfl, rfl, by decide +kernel, rfl, by decide +kernel, by decide +kernel⟩
theorem sc__law_steps : FnScope N__law_steps ["state", "first", "more", "words"] (defScope (top 34)) := ⟨rfl, rfl, rfl, by decide +kernel, rfl, by decide +kernel, by decide +kernel⟩
theorem sc__law_is_name : FnScope N__law_is_name ["name", "signs", "most"] (defScope (top 35)) := ⟨rfl, rfl, rfl, by decide +kernel, rfl, by decide +kernel, by decide +kernel⟩
theorem sc__law_is_given : FnScope N__law_is_given ["number"] (defScope (top 36)) := ⟨rfl, rfl, rfl, by decide +kernel, rfl, by decide +kernel, by decide +kernel⟩
theorem sc__law_reason : FnScope N__law_reason ["step", "names", "place"] (defScope (top 37)) := ⟨rfl, rfl, rfl, by decide +kernel, rfl, by decide +kernel, by decide +kernel⟩
theorem sc__law_fault : FnScope N__law_fault ["steps"] (defScope (top 38)) := ⟨rfl, rfl, rfl, by decide +kernel, rfl, by decide +kernel, by decide +kernel⟩
theorem sc__law_told : FnScope N__law_told ["steps"] (defScope (top 39)) := ⟨rfl, rfl, rfl, by decide +kernel, rfl, by decide +kernel, by decide +kernel⟩
theorem sc__law_bent : FnScope N__law_bent ["state", "steps"] (defScope (top 40)) := ⟨rfl, rfl, rfl, by decide +kernel, rfl, by decide +kernel, by decide +kernel⟩
theorem sc_law : FnScope N_law ["script"] (defScope (top 41)) := ⟨rfl, rfl, rfl, by decide +kernel, rfl, by decide +kernel, by decide +kernel⟩
theorem modd1 (c : He.SaysX fa fn ts [] ex w h K) (X : K.In h) (Gh : h.Ns mainGlobals mg) : Modd G1 P w K mg base 1 := by
  obtain ⟨fd, F⟩ := c.t.d.def_ 0 (d := d_common_divisor) rfl
  have M := modd0 (P := P) (base := base) c X Gh
  exact M.add (def_okD M F sc_common_divisor rfl (by decide) (fun _ => rfl) c_common_divisor) (gl c X Gh (x := "common_divisor") 0) F.kp (FunD.bindsN F fun _ _ _ _ _ _ us hl => match us, hl with | [_, _], _ => rfl) (by decide)
theorem modd2 (c : He.SaysX fa fn ts [] ex w h K) (X : K.In h) (Gh : h.Ns mainGlobals mg) : Modd G2 P w K mg base 2 := by
  obtain ⟨fd, F⟩ := c.t.d.def_ 1 (d := d_is_ratio) rfl
  have M := modd1 (P := P) (base := base) c X Gh
  exact M.add (def_okD M F sc_is_ratio rfl (by decide) (fun _ => rfl) c_is_ratio) (gl c X Gh (x := "is_ratio") 1) F.kp (FunD.bindsN F fun _ _ _ _ _ _ us hl => match us, hl with | [_], _ => rfl) (by decide)
theorem modd3 (c : He.SaysX fa fn ts [] ex w h K) (X : K.In h) (Gh : h.Ns mainGlobals mg) : Modd G3 P w K mg base 3 := by
  obtain ⟨fd, F⟩ := c.t.d.def_ 2 (d := d_is_name) rfl
  have M := modd2 (P := P) (base := base) c X Gh
  exact M.add (def_okD M F sc_is_name rfl (by decide) (fun _ => rfl) c_is_name) (gl c X Gh (x := "is_name") 2) F.kp (FunD.bindsN F fun _ _ _ _ _ _ us hl => match us, hl with | [_, _, _], _ => rfl) (by decide)
theorem modd4 (c : He.SaysX fa fn ts [] ex w h K) (X : K.In h) (Gh : h.Ns mainGlobals mg) : Modd G4 P w K mg base 4 := by
  obtain ⟨fd, F⟩ := c.t.d.def_ 3 (d := d_is_point_name) rfl
  have M := modd3 (P := P) (base := base) c X Gh
  exact M.add (def_okD M F sc_is_point_name rfl (by decide) (fun _ => rfl) c_is_point_name) (gl c X Gh (x := "is_point_name") 3) F.kp (FunD.bindsN F fun _ _ _ _ _ _ us hl => match us, hl with | [_], _ => rfl) (by decide)
theorem modd5 (c : He.SaysX fa fn ts [] ex w h K) (X : K.In h) (Gh : h.Ns mainGlobals mg) : Modd G5 P w K mg base 5 := by
  obtain ⟨fd, F⟩ := c.t.d.def_ 4 (d := d_is_number_name) rfl
  have M := modd4 (P := P) (base := base) c X Gh
  exact M.add (def_okD M F sc_is_number_name rfl (by decide) (fun _ => rfl) c_is_number_name) (gl c X Gh (x := "is_number_name") 4) F.kp (FunD.bindsN F fun _ _ _ _ _ _ us hl => match us, hl with | [_], _ => rfl) (by decide)
theorem modd6 (c : He.SaysX fa fn ts [] ex w h K) (X : K.In h) (Gh : h.Ns mainGlobals mg) : Modd G6 P w K mg base 6 := by
  obtain ⟨fd, F⟩ := c.t.d.def_ 5 (d := d_is_plain) rfl
  have M := modd5 (P := P) (base := base) c X Gh
  exact M.add (def_okD M F sc_is_plain rfl (by decide) (fun _ => rfl) c_is_plain) (gl c X Gh (x := "is_plain") 5) F.kp (FunD.bindsN F fun _ _ _ _ _ _ us hl => match us, hl with | [_], _ => rfl) (by decide)
theorem modd7 (c : He.SaysX fa fn ts [] ex w h K) (X : K.In h) (Gh : h.Ns mainGlobals mg) : Modd G7 P w K mg base 7 := by
  obtain ⟨fd, F⟩ := c.t.d.def_ 6 (d := d_is_given) rfl
  have M := modd6 (P := P) (base := base) c X Gh
  exact M.add (def_okD M F sc_is_given rfl (by decide) (fun _ => rfl) c_is_given) (gl c X Gh (x := "is_given") 6) F.kp (FunD.bindsN F fun _ _ _ _ _ _ us hl => match us, hl with | [_], _ => rfl) (by decide)
theorem modd8 (c : He.SaysX fa fn ts [] ex w h K) (X : K.In h) (Gh : h.Ns mainGlobals mg) : Modd G8 P w K mg base 8 := by
  obtain ⟨fd, F⟩ := c.t.d.def_ 7 (d := d_is_step) rfl
  have M := modd7 (P := P) (base := base) c X Gh
  exact M.add (def_okD M F sc_is_step rfl (by decide) (fun _ => rfl) c_is_step) (gl c X Gh (x := "is_step") 7) F.kp (FunD.bindsN F fun _ _ _ _ _ _ us hl => match us, hl with | [_], _ => rfl) (by decide)
theorem modd9 (c : He.SaysX fa fn ts [] ex w h K) (X : K.In h) (Gh : h.Ns mainGlobals mg) : Modd G9 P w K mg base 9 := by
  obtain ⟨fd, F⟩ := c.t.d.def_ 8 (d := d_points_of) rfl
  have M := modd8 (P := P) (base := base) c X Gh
  exact M.add (def_okD M F sc_points_of rfl (by decide) (fun _ => rfl) c_points_of) (gl c X Gh (x := "points_of") 8) F.kp (FunD.bindsN F fun _ _ _ _ _ _ us hl => match us, hl with | [_], _ => rfl) (by decide)
theorem modd10 (c : He.SaysX fa fn ts [] ex w h K) (X : K.In h) (Gh : h.Ns mainGlobals mg) : Modd G10 P w K mg base 10 := by
  obtain ⟨fd, F⟩ := c.t.d.def_ 9 (d := d_given_numbers) rfl
  have M := modd9 (P := P) (base := base) c X Gh
  exact M.add (def_okD M F sc_given_numbers rfl (by decide) (fun _ => rfl) c_given_numbers) (gl c X Gh (x := "given_numbers") 9) F.kp (FunD.bindsN F fun _ _ _ _ _ _ us hl => match us, hl with | [_], _ => rfl) (by decide)
theorem modd11 (c : He.SaysX fa fn ts [] ex w h K) (X : K.In h) (Gh : h.Ns mainGlobals mg) : Modd G11 P w K mg base 11 := by
  obtain ⟨fd, F⟩ := c.t.d.def_ 10 (d := d_wrong_number) rfl
  have M := modd10 (P := P) (base := base) c X Gh
  exact M.add (def_okD M F sc_wrong_number rfl (by decide) (fun _ => rfl) c_wrong_number) (gl c X Gh (x := "wrong_number") 10) F.kp (FunD.bindsN F fun _ _ _ _ _ _ us hl => match us, hl with | [_, _], _ => rfl) (by decide)
theorem modd12 (c : He.SaysX fa fn ts [] ex w h K) (X : K.In h) (Gh : h.Ns mainGlobals mg) : Modd G12 P w K mg base 12 := by
  obtain ⟨fd, F⟩ := c.t.d.def_ 11 (d := d_new_numbers) rfl
  have M := modd11 (P := P) (base := base) c X Gh
  exact M.add (def_okD M F sc_new_numbers rfl (by decide) (fun _ => rfl) c_new_numbers) (gl c X Gh (x := "new_numbers") 11) F.kp (FunD.bindsN F fun _ _ _ _ _ _ us hl => match us, hl with | [_, _], _ => rfl) (by decide)
theorem modd13 (c : He.SaysX fa fn ts [] ex w h K) (X : K.In h) (Gh : h.Ns mainGlobals mg) : Modd G13 P w K mg base 13 := by
  obtain ⟨fd, F⟩ := c.t.d.def_ 12 (d := d_fault_of_step) rfl
  have M := modd12 (P := P) (base := base) c X Gh
  exact M.add (def_okD M F sc_fault_of_step rfl (by decide) (fun _ => rfl) c_fault_of_step) (gl c X Gh (x := "fault_of_step") 12) F.kp (FunD.bindsN F fun _ _ _ _ _ _ us hl => match us, hl with | [_, _], _ => rfl) (by decide)
theorem modd14 (c : He.SaysX fa fn ts [] ex w h K) (X : K.In h) (Gh : h.Ns mainGlobals mg) : Modd G14 P w K mg base 14 := by
  obtain ⟨fd, F⟩ := c.t.d.def_ 14 (d := d__law_cell) rfl
  have M := modd13 (P := P) (base := base) c X Gh
  exact M.add (def_okD M F sc__law_cell rfl (by decide) (fun _ => rfl) c__law_cell) (gl c X Gh (x := "_law_cell") 14) F.kp (FunD.bindsN F fun _ _ _ _ _ _ us hl => match us, hl with | [_, _], _ => rfl) (by decide)
theorem modd15 (c : He.SaysX fa fn ts [] ex w h K) (X : K.In h) (Gh : h.Ns mainGlobals mg) : Modd G15 P w K mg base 15 := by
  obtain ⟨fd, F⟩ := c.t.d.def_ 15 (d := d__law_take) rfl
  have M := modd14 (P := P) (base := base) c X Gh
  exact M.add (def_okD M F sc__law_take rfl (by decide) (fun _ => rfl) c__law_take) (gl c X Gh (x := "_law_take") 15) F.kp (FunD.bindsN F fun _ _ _ _ _ _ us hl => match us, hl with | [_, _], _ => rfl) (by decide)
theorem modd16 (c : He.SaysX fa fn ts [] ex w h K) (X : K.In h) (Gh : h.Ns mainGlobals mg) : Modd G16 P w K mg base 16 := by
  obtain ⟨fd, F⟩ := c.t.d.def_ 16 (d := d__law_big) rfl
  have M := modd15 (P := P) (base := base) c X Gh
  exact M.add (def_okD M F sc__law_big rfl (by decide) (fun _ => rfl) c__law_big) (gl c X Gh (x := "_law_big") 16) F.kp (FunD.bindsN F fun _ _ _ _ _ _ us hl => match us, hl with | [_, _, _], _ => rfl) (by decide)
theorem modd17 (c : He.SaysX fa fn ts [] ex w h K) (X : K.In h) (Gh : h.Ns mainGlobals mg) : Modd G17 P w K mg base 17 := by
  obtain ⟨fd, F⟩ := c.t.d.def_ 17 (d := d__law_divisor) rfl
  have M := modd16 (P := P) (base := base) c X Gh
  exact M.add (def_okD M F sc__law_divisor rfl (by decide) (fun _ => rfl) c__law_divisor) (gl c X Gh (x := "_law_divisor") 17) F.kp (FunD.bindsN F fun _ _ _ _ _ _ us hl => match us, hl with | [_, _], _ => rfl) (by decide)
theorem modd18 (c : He.SaysX fa fn ts [] ex w h K) (X : K.In h) (Gh : h.Ns mainGlobals mg) : Modd G18 P w K mg base 18 := by
  obtain ⟨fd, F⟩ := c.t.d.def_ 18 (d := d__law_ratio) rfl
  have M := modd17 (P := P) (base := base) c X Gh
  exact M.add (def_okD M F sc__law_ratio rfl (by decide) (fun _ => rfl) c__law_ratio) (gl c X Gh (x := "_law_ratio") 18) F.kp (FunD.bindsN F fun _ _ _ _ _ _ us hl => match us, hl with | [_, _], _ => rfl) (by decide)
theorem modd19 (c : He.SaysX fa fn ts [] ex w h K) (X : K.In h) (Gh : h.Ns mainGlobals mg) : Modd G19 P w K mg base 19 := by
  obtain ⟨fd, F⟩ := c.t.d.def_ 19 (d := d__law_name) rfl
  have M := modd18 (P := P) (base := base) c X Gh
  exact M.add (def_okD M F sc__law_name rfl (by decide) (fun _ => rfl) c__law_name) (gl c X Gh (x := "_law_name") 19) F.kp (FunD.bindsN F fun _ _ _ _ _ _ us hl => match us, hl with | [_], _ => rfl) (by decide)
theorem modd20 (c : He.SaysX fa fn ts [] ex w h K) (X : K.In h) (Gh : h.Ns mainGlobals mg) : Modd G20 P w K mg base 20 := by
  obtain ⟨fd, F⟩ := c.t.d.def_ 20 (d := d__law_pick) rfl
  have M := modd19 (P := P) (base := base) c X Gh
  exact M.add (def_okD M F sc__law_pick rfl (by decide) (fun _ => rfl) c__law_pick) (gl c X Gh (x := "_law_pick") 20) F.kp (FunD.bindsN F fun _ _ _ _ _ _ us hl => match us, hl with | [_, _, _], _ => rfl) (by decide)
theorem modd21 (c : He.SaysX fa fn ts [] ex w h K) (X : K.In h) (Gh : h.Ns mainGlobals mg) : Modd G21 P w K mg base 21 := by
  obtain ⟨fd, F⟩ := c.t.d.def_ 21 (d := d__law_number) rfl
  have M := modd20 (P := P) (base := base) c X Gh
  exact M.add (def_okD M F sc__law_number rfl (by decide) (fun _ => rfl) c__law_number) (gl c X Gh (x := "_law_number") 21) F.kp (FunD.bindsN F fun _ _ _ _ _ _ us hl => match us, hl with | [_, _], _ => rfl) (by decide)
theorem modd22 (c : He.SaysX fa fn ts [] ex w h K) (X : K.In h) (Gh : h.Ns mainGlobals mg) : Modd G22 P w K mg base 22 := by
  obtain ⟨fd, F⟩ := c.t.d.def_ 22 (d := d__law_step) rfl
  have M := modd21 (P := P) (base := base) c X Gh
  exact M.add (def_okD M F sc__law_step rfl (by decide) (fun _ => rfl) c__law_step) (gl c X Gh (x := "_law_step") 22) F.kp (FunD.bindsN F fun _ _ _ _ _ _ us hl => match us, hl with | [_, _, _, _, _], _ => rfl) (by decide)
theorem modd23 (c : He.SaysX fa fn ts [] ex w h K) (X : K.In h) (Gh : h.Ns mainGlobals mg) : Modd G23 P w K mg base 23 := by
  obtain ⟨fd, F⟩ := c.t.d.def_ 23 (d := d__law_steps) rfl
  have M := modd22 (P := P) (base := base) c X Gh
  exact M.add (def_okD M F sc__law_steps rfl (by decide) (fun _ => rfl) c__law_steps) (gl c X Gh (x := "_law_steps") 23) F.kp (FunD.bindsN F fun _ _ _ _ _ _ us hl => match us, hl with | [_, _, _, _], _ => rfl) (by decide)
theorem modd24 (c : He.SaysX fa fn ts [] ex w h K) (X : K.In h) (Gh : h.Ns mainGlobals mg) : Modd G24 P w K mg base 24 := by
  obtain ⟨fd, F⟩ := c.t.d.def_ 24 (d := d__law_is_name) rfl
  have M := modd23 (P := P) (base := base) c X Gh
  exact M.add (def_okD M F sc__law_is_name rfl (by decide) (fun _ => rfl) c__law_is_name) (gl c X Gh (x := "_law_is_name") 24) F.kp (FunD.bindsN F fun _ _ _ _ _ _ us hl => match us, hl with | [_, _, _], _ => rfl) (by decide)
theorem modd25 (c : He.SaysX fa fn ts [] ex w h K) (X : K.In h) (Gh : h.Ns mainGlobals mg) : Modd G25 P w K mg base 25 := by
  obtain ⟨fd, F⟩ := c.t.d.def_ 25 (d := d__law_is_given) rfl
  have M := modd24 (P := P) (base := base) c X Gh
  exact M.add (def_okD M F sc__law_is_given rfl (by decide) (fun _ => rfl) c__law_is_given) (gl c X Gh (x := "_law_is_given") 25) F.kp (FunD.bindsN F fun _ _ _ _ _ _ us hl => match us, hl with | [_], _ => rfl) (by decide)
theorem modd26 (c : He.SaysX fa fn ts [] ex w h K) (X : K.In h) (Gh : h.Ns mainGlobals mg) : Modd G26 P w K mg base 26 := by
  obtain ⟨fd, F⟩ := c.t.d.def_ 26 (d := d__law_reason) rfl
  have M := modd25 (P := P) (base := base) c X Gh
  exact M.add (def_okD M F sc__law_reason rfl (by decide) (fun _ => rfl) c__law_reason) (gl c X Gh (x := "_law_reason") 26) F.kp (FunD.bindsN F fun _ _ _ _ _ _ us hl => match us, hl with | [_, _, _], _ => rfl) (by decide)
theorem modd27 (c : He.SaysX fa fn ts [] ex w h K) (X : K.In h) (Gh : h.Ns mainGlobals mg) : Modd G27 P w K mg base 27 := by
  obtain ⟨fd, F⟩ := c.t.d.def_ 27 (d := d__law_fault) rfl
  have M := modd26 (P := P) (base := base) c X Gh
  exact M.add (def_okD M F sc__law_fault rfl (by decide) (fun _ => rfl) c__law_fault) (gl c X Gh (x := "_law_fault") 27) F.kp (FunD.bindsN F fun _ _ _ _ _ _ us hl => match us, hl with | [_], _ => rfl) (by decide)
/-- what is left to show of _law_told -/
def ToldOk (P : Program) (w : World) (K : PySem.W.Frag) (mg : Str → Option Value) (base : Heap) : Prop := ∃ (ew : Exw) (fd : FuncData), FnOk P w K mg base CX0 28 (He.ga K "_law_told") fd ["steps"] (spF K w ew [.S] F__law_told) ∧ PySem.W.keepIn K (.ref (He.ga K "_law_told")) = true ∧ Binds K fd ["steps"] []
theorem modd28 (c : He.SaysX fa fn ts [] ex w h K) (X : K.In h) (Gh : h.Ns mainGlobals mg) (hT : ToldOk P w K mg base) : Modd G28 P w K mg base 28 := by
  obtain ⟨ew, fd, h1, h2, h3⟩ := hT
  exact (modd27 c X Gh).add h1 (gl c X Gh (x := "_law_told") 28) h2 h3 (by decide)
theorem modd29 (c : He.SaysX fa fn ts [] ex w h K) (X : K.In h) (Gh : h.Ns mainGlobals mg) (hT : ToldOk P w K mg base) : Modd G29 P w K mg base 29 := by
  obtain ⟨fd, F⟩ := c.t.d.def_ 29 (d := d__law_bent) rfl
  have M := modd28 (P := P) (base := base) c X Gh hT
  exact M.add (def_okD M F sc__law_bent rfl (by decide) (fun _ => rfl) c__law_bent) (gl c X Gh (x := "_law_bent") 29) F.kp (FunD.bindsN F fun _ _ _ _ _ _ us hl => match us, hl with | [_, _], _ => rfl) (by decide)
theorem ok_law (c : He.SaysX fa fn ts [] ex w h K) (X : K.In h) (Gh : h.Ns mainGlobals mg) (hT : ∀ base, ToldOk P w K mg base) : ∃ fd : FuncData, (∀ (s : Shared) (v : Value), BindsTo s fd ⟨[v], []⟩ [("script", v)]) ∧ ∀ base : Heap, FnOk P w K mg base CX0 30 (He.ga K "law") fd ["script"] (spF K w (fun _ _ _ _ _ _ => False) [.B] F_law) := by
  obtain ⟨fd, F⟩ := c.t.d.def_ 30 (d := d_law) rfl
  have b := FunD.bindsA (ps := ["script"]) F fun _ _ _ _ _ _ us hl => match us, hl with | [_], _ => rfl
  exact ⟨fd, fun s v => b s [v] rfl, fun base => def_okD (modd29 c X Gh (hT base)) F sc_law rfl (by decide) (fun _ => rfl) c_law⟩
end
end K4
set_option maxHeartbeats 4000000
/-! K4p1: what the small defs of k04 compute. -/
namespace K4
open PySem Dt
def plainT : T → Bool
  | .int _ => true
  | _ => false
theorem p_is_plain (t : T) : F_is_plain [t] = some (.ret (.bl (plainT t)) false []) := by cases t <;> kernel_rfl
/-! ints -/
theorem eq_ints (a b : Int) : eqT (.int a) (.int b) = decide (a = b) := by
  by_cases h : a = b
  · subst h; simp [eqT, T.pd, PyData.eqv]
  · simp [eqT, T.pd, PyData.eqv, h]
/-! the Euclid loops -/
abbrev two (a b : Int) : Sl := [some (.int a, .shr), some (.int b, .shr)]
abbrev three (a b : Int) (x : Option (T × Fl)) : Sl := [some (.int a, .shr), some (.int b, .shr), x]
theorem eu_test (a b : Int) : tstOf (sCmp .NotEq (sVar 1) (sCst (.int 0))) (two a b) = some (!decide (b = 0), two a b) := by
  show some (!eqT (.int b) (.int 0), two a b) = _
  rw [eq_ints]
theorem eu_step (a b : Int) (hb : 0 < b) : (mSeq (mPar [0, 1] (aCons (sVar 1) (aCons (sBin .Mod (sVar 0) (sVar 1)) aNil))) mNil) (two a b) = some (.nx (two b (a % b))) := by
  simp [mSeq, mPar, aCons, aNil, sVar, sBin, s2, Od.sh, Sl.tr, binT, hb, fr, Sl.escs, Sl.esc, putAll, mNil]
theorem whl_succ (c : Tst) (b : Stm) (n : Nat) (τ : Sl) : whl c b (n + 1) τ = (match c τ with
    | some (false, τ1) => some (.nx τ1)
    | some (true, τ1) => (match b τ1 with
      | some (.nx τ2) => whl c b n τ2
      | some (.ct τ2) => whl c b n τ2
      | some (.br τ2) => some (.nx τ2)
      | o => o)
    | none => none) := rfl
theorem halve {a b : Int} (hb : 0 < b) (h : b ≤ a) : a % b * 2 < a + 1 := by
  have h1 := Int.emod_lt_of_pos a hb
  have h2 := Int.mul_ediv_add_emod a b
  have h3 : 1 ≤ a / b := Int.le_ediv_of_mul_le hb (by omega)
  have h4 : b * 1 ≤ b * (a / b) := Int.mul_le_mul_of_nonneg_left h3 (by omega)
  omega
theorem gcd_step {a b : Int} (ha : 0 ≤ a) (hb : 0 ≤ b) : Int.gcd b (a % b) = Int.gcd a b := by
  obtain ⟨m, rfl⟩ := Int.eq_ofNat_of_zero_le ha
  obtain ⟨n, rfl⟩ := Int.eq_ofNat_of_zero_le hb
  show Nat.gcd n ((m : Int) % (n : Int)).natAbs = Nat.gcd m n
  have : ((m : Int) % (n : Int)).natAbs = m % n := by
    rw [← Int.natCast_emod]; exact Int.natAbs_natCast _
  rw [this, Nat.gcd_comm m n, Nat.gcd_rec n m, Nat.gcd_comm]
/-- how many turns are enough -/
theorem gcd_loop : ∀ (n : Nat) (a b : Int), 0 ≤ a → 0 ≤ b → b ≤ a → a < 2 ^ n →
    whl (tstOf (sCmp .NotEq (sVar 1) (sCst (.int 0)))) (mSeq (mPar [0, 1] (aCons (sVar 1) (aCons (sBin .Mod (sVar 0) (sVar 1)) aNil))) mNil) (2 * n + 1) (two a b) =
      some (.nx (two (Int.gcd a b) 0))
  | 0, a, b, ha, hb, hab, hn => by
    have : a = 0 := by omega
    have hb0 : b = 0 := by omega
    subst this; subst hb0
    rw [whl_succ, eu_test]
    rfl
  | n + 1, a, b, ha, hb, hab, hn => by
    by_cases h0 : b = 0
    · subst h0
      rw [show 2 * (n + 1) + 1 = (2 * n + 2) + 1 by omega, whl_succ, eu_test]
      simp [Int.gcd, Int.natAbs_of_nonneg ha]
    · have hp : 0 < b := by omega
      have m0 := Int.emod_nonneg a h0
      have m1 := Int.emod_lt_of_pos a hp
      have g1 : Int.gcd b (a % b) = Int.gcd a b := gcd_step ha hb
      rw [show 2 * (n + 1) + 1 = (2 * n + 2) + 1 by omega, whl_succ, eu_test]
      simp only [h0, decide_false, Bool.not_false]
      rw [eu_step a b hp]
      dsimp only
      by_cases h1 : a % b = 0
      · rw [show 2 * n + 2 = (2 * n + 1) + 1 by omega, whl_succ, eu_test]
        simp only [h1, decide_true, Bool.not_true]
        rw [← g1, h1]
        simp [Int.gcd, Int.natAbs_of_nonneg hb]
      · have hp2 : 0 < a % b := by omega
        rw [show 2 * n + 2 = (2 * n + 1) + 1 by omega, whl_succ, eu_test]
        simp only [h1, decide_false, Bool.not_false]
        rw [eu_step b (a % b) hp2]
        dsimp only
        have m2 := Int.emod_nonneg b h1
        have m3 := Int.emod_lt_of_pos b hp2
        have := halve hp hab
        rw [gcd_loop n (a % b) (b % (a % b)) m0 m2 (by omega) (by
          have : (2 : Int) ^ (n + 1) = 2 ^ n * 2 := by rw [Int.pow_succ]
          omega)]
        rw [gcd_step hb m0, g1]
end K4
set_option maxHeartbeats 4000000
/-! K4p2: divisors, ratios. -/
namespace K4
open PySem Dt
theorem whl_mono (c : Tst) (b : Stm) : ∀ (n : Nat) (τ : Sl) (r : Fw), whl c b n τ = some r → ∀ k, whl c b (n + k) τ = some r
  | 0, τ, r, h, k => by
    have h' : (none : Option Fw) = some r := h
    cases h'
  | n + 1, τ, r, h, k => by
    rw [show n + 1 + k = (n + k) + 1 by omega]
    rw [whl_succ] at h ⊢
    split at h
    · exact h
    · split at h
      · exact whl_mono c b n _ r h k
      · exact whl_mono c b n _ r h k
      · exact h
      · exact h
    · cases h
theorem gcd_whl {n : Nat} {a b : Int} (ha : 0 ≤ a) (hb : 0 ≤ b) (h1 : a < 2 ^ n) (h2 : b < 2 ^ n) (hn : 2 * n + 2 ≤ 1000) :
    whl (tstOf (sCmp .NotEq (sVar 1) (sCst (.int 0)))) (mSeq (mPar [0, 1] (aCons (sVar 1) (aCons (sBin .Mod (sVar 0) (sVar 1)) aNil))) mNil) 1000 (two a b) = some (.nx (two (Int.gcd a b) 0)) := by
  by_cases hab : b ≤ a
  · have := whl_mono _ _ _ _ _ (gcd_loop n a b ha hb hab h1) (1000 - (2 * n + 1))
    rw [show 2 * n + 1 + (1000 - (2 * n + 1)) = 1000 by omega] at this
    exact this
  · have hp : 0 < b := by omega
    have h0 : ¬ b = 0 := by omega
    have e : a % b = a := Int.emod_eq_of_lt ha (by omega)
    rw [show (1000 : Nat) = 999 + 1 by rfl, whl_succ, eu_test]
    simp only [h0, decide_false, Bool.not_false]
    rw [eu_step a b hp, e]
    dsimp only
    have := whl_mono _ _ _ _ _ (gcd_loop n b a hb ha (by omega) h2) (999 - (2 * n + 1))
    rw [show 2 * n + 1 + (999 - (2 * n + 1)) = 999 by omega] at this
    rw [this, Int.gcd_comm]
def finF (ms : List Md) : Option Fw → Option Res
  | some (.nx τ) => resOf ms (.v .non) τ
  | some (.rt o τ) => resOf ms o τ
  | some (.ex c a τ) => if ms.contains .M then none else some (.exn c a)
  | _ => none
theorem runF_at {ms : List Md} {n : Nat} {b : Stm} {ts : List T} (h : ts.length = ms.length) : runF ms n b ts = finF ms (b (frmOf ms ts ++ List.replicate (n - ms.length) none)) := by
  unfold runF
  rw [if_pos h]
  unfold finF
  rfl
theorem mSeq_nx {a b : Stm} {τ τ1 : Sl} (h : a τ = some (.nx τ1)) : mSeq a b τ = b τ1 := by
  unfold mSeq
  rw [h]
theorem mSeq_rt {a b : Stm} {τ τ1 : Sl} {o : Od} (h : a τ = some (.rt o τ1)) : mSeq a b τ = some (.rt o τ1) := by
  unfold mSeq
  rw [h]
theorem abs_val (a : Int) : (if a < 0 then -a else a) = (a.natAbs : Int) := by
  split <;> omega
theorem p_common_divisor {a b : Int} (h1 : a.natAbs < 2 ^ 200) (h2 : b.natAbs < 2 ^ 200) : F_common_divisor [.int a, .int b] = some (.ret (.int (Int.gcd a b)) false []) := by
  have e : (mPar [0, 1] (aCons (sBi gAbs (aCons (sVar 0) aNil)) (aCons (sBi gAbs (aCons (sVar 1) aNil)) aNil))) (two a b) = some (.nx (two a.natAbs b.natAbs)) := by
    simp [mPar, aCons, aNil, sVar, sBi, gAbs, Od.sh, Sl.trs, Sl.tr, fr, Sl.escs, Sl.esc, putAll, abs_val]
  have w := gcd_whl (n := 200) (a := a.natAbs) (b := b.natAbs) (by omega) (by omega) (by exact_mod_cast h1) (by exact_mod_cast h2) (by decide)
  have g : Int.gcd (a.natAbs : Int) (b.natAbs : Int) = Int.gcd a b := by simp [Int.gcd]
  rw [g] at w
  have r : F_common_divisor [.int a, .int b] = finF [.S, .S] (m_common_divisor (two a b)) := runF_at rfl
  rw [r]
  unfold m_common_divisor
  rw [mSeq_nx e, mSeq_nx (show mWhile 1000 _ _ (two a.natAbs b.natAbs) = _ from w)]
  rfl
/-! the law's own -/
def lBody : Stm := (mSeq (mIf (tstOf (sCmp .Eq (sVar 1) (sCst (.int 0)))) (mSeq mBrk mNil) mNil) (mSeq (mPar [0, 1] (aCons (sVar 1) (aCons (sBin .Mod (sBi gInt (aCons (sVar 0) aNil)) (sVar 1)) aNil))) mNil))
theorem l_stop (a : Int) (x : Option (T × Fl)) : lBody (three a 0 x) = some (.br (three a 0 x)) := rfl
theorem l_step (a b : Int) (x : Option (T × Fl)) (hb : 0 < b) : lBody (three a b x) = some (.nx (three b (a % b) x)) := by
  have t : tstOf (sCmp .Eq (sVar 1) (sCst (.int 0))) (three a b x) = some (decide (b = 0), three a b x) := by
    show some (eqT (.int b) (.int 0), three a b x) = _
    rw [eq_ints]
  have h0 : ¬ b = 0 := by omega
  unfold lBody mSeq mIf
  rw [t]
  simp [h0, mNil, mPar, aCons, aNil, sVar, sBin, s2, sBi, gInt, Od.sh, Sl.trs, Sl.tr, binT, hb, fr, Sl.escs, Sl.esc, putAll, mSeq]
theorem gcd_walk : ∀ (n : Nat) (a b : Int) (x : Option (T × Fl)) (l : List T), 0 ≤ a → 0 ≤ b → b ≤ a → a < 2 ^ n → 2 * n + 1 ≤ l.length → ∃ y, walk (tgt1 2) lBody l (three a b x) = some (.nx (three (Int.gcd a b) 0 y))
  | n, a, b, x, [], _, _, _, _, hl => by simp at hl
  | n, a, b, x, t :: l, ha, hb, hab, hn, hl => by
    have s : ∀ (a b : Int) (x : Option (T × Fl)) (t : T) (l : List T), walk (tgt1 2) lBody (t :: l) (three a b x) = (match lBody (three a b (some (t, .shr))) with
        | some (.nx τ2) => walk (tgt1 2) lBody l τ2
        | some (.ct τ2) => walk (tgt1 2) lBody l τ2
        | some (.br τ2) => some (.nx τ2)
        | o => o) := fun a b x t l => rfl
    by_cases h0 : b = 0
    · subst h0
      rw [s, l_stop]
      exact ⟨some (t, .shr), by simp [Int.gcd, Int.natAbs_of_nonneg ha]⟩
    · have hp : 0 < b := by omega
      have m0 := Int.emod_nonneg a h0
      have m1 := Int.emod_lt_of_pos a hp
      have g1 := gcd_step ha hb
      rw [s, l_step a b _ hp]
      dsimp only
      cases l with
      | nil =>
        have hn0 : n = 0 := by simp at hl; omega
        subst hn0
        simp at hn; omega
      | cons t2 l =>
        by_cases h1 : a % b = 0
        · rw [h1, s, l_stop, ← g1, h1]
          exact ⟨some (t2, .shr), by simp [Int.gcd, Int.natAbs_of_nonneg hb]⟩
        · have hp2 : 0 < a % b := by omega
          rw [s, l_step b (a % b) _ hp2]
          dsimp only
          have m2 := Int.emod_nonneg b h1
          have m3 := Int.emod_lt_of_pos b hp2
          have hh := halve hp hab
          cases n with
          | zero => simp at hn; omega
          | succ n =>
            have : (2 : Int) ^ (n + 1) = 2 ^ n * 2 := by rw [Int.pow_succ]
            obtain ⟨y, e⟩ := gcd_walk n (a % b) (b % (a % b)) (some (t2, .shr)) l m0 m2 (by omega) (by omega) (by simp at hl; omega)
            exact ⟨y, by rw [e, gcd_step hb m0, g1]⟩
end K4
set_option maxHeartbeats 4000000
/-! K4p3: the law's divisor, ratios. -/
namespace K4
open PySem Dt
theorem rangeT_len (n : Nat) : (rangeT 0 n).length = n := by simp [rangeT]
theorem mSet_abs0 (a b : Int) (x : Option (T × Fl)) : mSet 0 (sBi gAbs (aCons (sVar 0) aNil)) (three a b x) = some (.nx (three a.natAbs b x)) := by
  simp [mSet, aCons, aNil, sVar, sBi, gAbs, Od.sh, Sl.trs, Sl.tr, fr, Sl.esc, Sl.put, abs_val]
theorem mSet_abs1 (a b : Int) (x : Option (T × Fl)) : mSet 1 (sBi gAbs (aCons (sVar 1) aNil)) (three a b x) = some (.nx (three a b.natAbs x)) := by
  simp [mSet, aCons, aNil, sVar, sBi, gAbs, Od.sh, Sl.trs, Sl.tr, fr, Sl.esc, Sl.put, abs_val]
theorem gcd_walk2 {a b : Int} (x : Option (T × Fl)) (ha : 0 ≤ a) (hb : 0 ≤ b) (h1 : a < 2 ^ 200) (h2 : b < 2 ^ 200) : ∃ y, walk (tgt1 2) lBody (rangeT 0 20000) (three a b x) = some (.nx (three (Int.gcd a b) 0 y)) := by
  have hl : (rangeT 0 20000).length = 20000 := rangeT_len 20000
  by_cases hab : b ≤ a
  · exact gcd_walk 200 a b x _ ha hb hab h1 (by rw [hl]; decide)
  · have hp : 0 < b := by omega
    have e : a % b = a := Int.emod_eq_of_lt ha (by omega)
    cases hc : rangeT 0 20000 with
    | nil => rw [hc] at hl; simp at hl
    | cons t l =>
      rw [hc] at hl
      have s : walk (tgt1 2) lBody (t :: l) (three a b x) = (match lBody (three a b (some (t, .shr))) with
        | some (.nx τ2) => walk (tgt1 2) lBody l τ2
        | some (.ct τ2) => walk (tgt1 2) lBody l τ2
        | some (.br τ2) => some (.nx τ2)
        | o => o) := rfl
      rw [s, l_step a b _ hp, e]
      dsimp only
      obtain ⟨y, hy⟩ := gcd_walk 200 b a (some (t, .shr)) l hb ha (by omega) h2 (by simp at hl; omega)
      exact ⟨y, by rw [hy, Int.gcd_comm]⟩
theorem p__law_divisor {a b : Int} (h1 : a.natAbs < 2 ^ 200) (h2 : b.natAbs < 2 ^ 200) : F__law_divisor [.int a, .int b] = some (.ret (.int (Int.gcd a b)) false []) := by
  have r : F__law_divisor [.int a, .int b] = finF [.S, .S] (m__law_divisor (three a b none)) := runF_at rfl
  obtain ⟨y, w⟩ := gcd_walk2 (a := a.natAbs) (b := b.natAbs) none (by omega) (by omega) (by exact_mod_cast h1) (by exact_mod_cast h2)
  have g : Int.gcd (a.natAbs : Int) (b.natAbs : Int) = Int.gcd a b := by simp [Int.gcd]
  rw [g] at w
  have f : mFor (srcRange1 (sCst (.int 20000))) (tgt1 2) lBody (three a.natAbs b.natAbs none) = some (.nx (three (Int.gcd a b) 0 y)) := by
    have e : srcRange1 (sCst (.int 20000)) (three a.natAbs b.natAbs none) = some (rangeT 0 20000, three a.natAbs b.natAbs none) := by
      simp [srcRange1, sCst, Od.sh, Sl.tr, r62]
    unfold mFor
    rw [e]
    exact w
  rw [r]
  unfold m__law_divisor
  rw [mSeq_nx (mSet_abs0 a b none), mSeq_nx (mSet_abs1 _ b none), mSeq_nx (show mFor (srcRange1 (sCst (.int 20000))) (tgt1 2) (mSeq (mIf (tstOf (sCmp .Eq (sVar 1) (sCst (.int 0)))) (mSeq mBrk mNil) mNil) (mSeq (mPar [0, 1] (aCons (sVar 1) (aCons (sBin .Mod (sBi gInt (aCons (sVar 0) aNil)) (sVar 1)) aNil))) mNil)) _ = _ from f)]
  rfl
theorem sCall_at {ms : List Md} {F : Fn} {a : Sems} {τ τ1 τ2 τ3 : Sl} {xs : List Od} {ts : List T} {js : List Nat} {t : T} {b : Bool} {outs : List T} (h1 : a τ = some (xs, τ1)) (h2 : argsT τ1 ms xs = some (ts, js, τ2))
    (h3 : (τ2.muts js && nodupN js && (borT ms xs).all (fun i => !js.contains i)) = true) (h4 : F ts = some (.ret t b outs)) (h5 : τ2.puts js outs = some τ3) : sCall ms F a τ = some (fr t b, τ3) := by
  unfold sCall
  rw [h1]
  dsimp only
  rw [h2]
  dsimp only
  rw [if_pos h3, h4]
  dsimp only
  rw [h5]
theorem mRet_at {f : Dt.Sem} {τ τ1 : Sl} {o : Od} (h : f τ = some (o, τ1)) : mRet f τ = some (.rt o τ1) := by
  unfold mRet
  rw [h]
theorem eq_cmp_int (op : CmpOp) (f : Sem) (τ : Sl) (i j : Int) (h : f τ = some (.v (.int i), τ)) (hop : op = .Eq) : tstOf (sCmp op f (sCst (.int j))) τ = some (decide (i = j), τ) := by
  subst hop
  unfold tstOf sCmp s2
  rw [h]
  show some (eqT (.int i) (.int j), τ) = _
  rw [eq_ints]
theorem p_is_ratio {a b : Int} (h1 : a.natAbs < 2 ^ 200) (h2 : b.natAbs < 2 ^ 200) : F_is_ratio [.tup [.int a, .int b]] = some (.ret (.bl (decide (0 < b) && decide (Int.gcd a b = 1))) false []) := by
  have r : F_is_ratio [.tup [.int a, .int b]] = finF [.S] (m_is_ratio [some (.tup [.int a, .int b], .shr)]) := runF_at rfl
  rw [r]
  have c : sCall [.S, .S] F_common_divisor (aCons (sIx (sVar 0) (sCst (.int 0))) (aCons (sIx (sVar 0) (sCst (.int 1))) aNil)) [some (.tup [.int a, .int b], .shr)] = some (.v (.int (Int.gcd a b)), [some (.tup [.int a, .int b], .shr)]) := by
    have e : aCons (sIx (sVar 0) (sCst (.int 0))) (aCons (sIx (sVar 0) (sCst (.int 1))) aNil) [some (.tup [.int a, .int b], .shr)] = some ([.v (.int a), .v (.int b)], [some (.tup [.int a, .int b], .shr)]) := rfl
    exact sCall_at e rfl rfl (p_common_divisor h1 h2) rfl
  have g := eq_cmp_int .Eq _ _ (Int.gcd a b) 1 c rfl
  have t : tstOf (sCmp .Gt (sIx (sVar 0) (sCst (.int 1))) (sCst (.int 0))) [some (.tup [.int a, .int b], .shr)] = some (decide (0 < b), [some (.tup [.int a, .int b], .shr)]) := rfl
  have v : semOf (tAndS (tstOf (sCmp .Gt (sIx (sVar 0) (sCst (.int 1))) (sCst (.int 0)))) (tstOf (sCmp .Eq (sCall [.S, .S] F_common_divisor (aCons (sIx (sVar 0) (sCst (.int 0))) (aCons (sIx (sVar 0) (sCst (.int 1))) aNil))) (sCst (.int 1))))) [some (.tup [.int a, .int b], .shr)] =
      some (.v (.bl (decide (0 < b) && decide (Int.gcd a b = 1))), [some (.tup [.int a, .int b], .shr)]) := by
    unfold semOf tAndS
    rw [t]
    by_cases hb : 0 < b
    · simp only [hb, decide_true, Bool.true_and]
      rw [g]
      have : ((Int.gcd a b : Int) = 1) ↔ (Int.gcd a b = 1) := by omega
      simp [this]
    · simp [hb]
  unfold m_is_ratio
  rw [mSeq_rt (mRet_at v)]
  rfl
end K4
set_option maxHeartbeats 4000000
/-! K4p4: the law's draws. -/
namespace K4
open PySem Dt
theorem p__law_take {s m : Int} (h0 : 0 < m) (h1 : m < 1073741824) : F__law_take [.lst [.int s], .int m] = some (.ret (.int (s % m)) false [.lst [.int (s / m)]]) := by
  have r : F__law_take [.lst [.int s], .int m] = finF [.M, .S] (m__law_take [some (.lst [.int s], .chg), some (.int m, .shr), none]) := runF_at rfl
  rw [r]
  have i : sIx (sVar 0) (sCst (.int 0)) [some (.lst [.int s], .chg), some (.int m, .shr), none] = some (.v (.int s), [some (.lst [.int s], .chg), some (.int m, .shr), none]) := rfl
  have a1 : mSet 2 (sBin .Mod (sBi gInt (aCons (sIx (sVar 0) (sCst (.int 0))) aNil)) (sVar 1)) [some (.lst [.int s], .chg), some (.int m, .shr), none] = some (.nx [some (.lst [.int s], .chg), some (.int m, .shr), some (.int (s % m), .shr)]) := by
    have e : sBi gInt (aCons (sIx (sVar 0) (sCst (.int 0))) aNil) [some (.lst [.int s], .chg), some (.int m, .shr), none] = some (.v (.int s), [some (.lst [.int s], .chg), some (.int m, .shr), none]) := rfl
    unfold mSet sBin s2
    rw [e]
    simp [sVar, Od.sh, Sl.tr, binT, h0, fr, Sl.put, Sl.esc]
  have a2 : mPutIx 0 (sCst (.int 0)) (sBi gInt (aCons (sBin .FloorDiv (sIx (sVar 0) (sCst (.int 0))) (sVar 1)) aNil)) [some (.lst [.int s], .chg), some (.int m, .shr), some (.int (s % m), .shr)] = some (.nx [some (.lst [.int (s / m)], .chg), some (.int m, .shr), some (.int (s % m), .shr)]) := by
    have e : sIx (sVar 0) (sCst (.int 0)) [some (.lst [.int s], .chg), some (.int m, .shr), some (.int (s % m), .shr)] = some (.v (.int s), [some (.lst [.int s], .chg), some (.int m, .shr), some (.int (s % m), .shr)]) := rfl
    have hc : L2.CDiv s m := ⟨h0, h1⟩
    have e2 : sBin .FloorDiv (sIx (sVar 0) (sCst (.int 0))) (sVar 1) [some (.lst [.int s], .chg), some (.int m, .shr), some (.int (s % m), .shr)] = some (.v (.int (s / m)), [some (.lst [.int s], .chg), some (.int m, .shr), some (.int (s % m), .shr)]) := by
      unfold sBin s2
      rw [e]
      simp [sVar, Od.sh, Sl.tr, binT, hc, fr]
    unfold mPutIx sBi aCons
    rw [e2]
    rfl
  unfold m__law_take
  rw [mSeq_nx a1, mSeq_nx a2]
  rfl
end K4
set_option maxHeartbeats 4000000
/-! K4p5: words that change no slot, told by what they come to. -/
namespace K4
open PySem Dt
section
variable {τ : Sl} {f g : Dt.Sem} {c d : Tst} {t u r : T} {i : Nat} {b : Bool}
/-- f comes to an operand whose tree is t -/
def Eo (τ : Sl) (f : Dt.Sem) (t : T) : Prop := ∃ o, f τ = some (o, τ) ∧ τ.tr o.sh = some t
/-- .. to the value t -/
def Ev (τ : Sl) (f : Dt.Sem) (t : T) : Prop := f τ = some (.v t, τ)
def Et (τ : Sl) (c : Tst) (b : Bool) : Prop := c τ = some (b, τ)
theorem Ev.o (h : Ev τ f t) : Eo τ f t := ⟨_, h, rfl⟩
theorem ev_cst : Ev τ (sCst t) t := rfl
theorem ev_var (h : τ[i]? = some (some (t, .shr))) : Ev τ (sVar i) t := by
  unfold Ev sVar
  rw [h]
theorem eo_var {fl : Fl} (h : τ[i]? = some (some (t, fl))) : Eo τ (sVar i) t := by
  by_cases hf : fl = .shr
  · subst hf; exact (ev_var h).o
  · refine ⟨.s i, ?_, ?_⟩
    · unfold sVar
      rw [h]
      cases fl <;> first | rfl | exact absurd rfl hf
    · show (match τ[i]? with | some (some (t, _)) => some t | _ => none) = some t
      rw [h]
theorem ev_s2 {k : T → T → Option Od} (h1 : Eo τ f t) (h2 : Eo τ g u) (h : k t u = some (.v r)) : Ev τ (s2 k f g) r := by
  obtain ⟨o1, a1, a2⟩ := h1
  obtain ⟨o2, b1, b2⟩ := h2
  unfold Ev s2
  rw [a1]
  dsimp only
  rw [b1]
  dsimp only
  rw [a2, b2]
  dsimp only
  rw [h]
theorem ev_bin {op : Operator} (h1 : Eo τ f t) (h2 : Eo τ g u) (h : binT op t u = some (r, false)) : Ev τ (sBin op f g) r := ev_s2 h1 h2 (by rw [h]; rfl)
theorem ev_cmp {op : CmpOp} (h1 : Eo τ f t) (h2 : Eo τ g u) (h : cmpT op t u = some b) : Ev τ (sCmp op f g) (.bl b) := ev_s2 h1 h2 (by rw [h]; rfl)
theorem ev_ix (h1 : Eo τ f t) (h2 : Eo τ g u) (h : ixT t u = some r) : Ev τ (sIx f g) r := ev_s2 h1 h2 (by rw [h]; rfl)
theorem ev_bi1 {k : List T → Option (T × Bool)} (h1 : Eo τ f t) (h : k [t] = some (r, false)) : Ev τ (sBi k (aCons f aNil)) r := by
  obtain ⟨o1, a1, a2⟩ := h1
  have e : aCons f aNil τ = some ([o1.sh], τ) := by
    unfold aCons
    rw [a1]
    rfl
  unfold Ev sBi
  rw [e]
  dsimp only
  have e2 : Sl.trs τ [o1.sh] = some [t] := by
    unfold Sl.trs
    rw [a2]
    rfl
  rw [e2]
  dsimp only
  rw [h]
  rfl
theorem et_of (h : Eo τ f (.bl b)) : Et τ (tstOf f) b := by
  obtain ⟨o, a1, a2⟩ := h
  have a3 : τ.tr o = some (.bl b) := by cases o <;> exact a2
  unfold Et tstOf
  rw [a1]
  dsimp only
  rw [a3]
theorem et_not (h : Et τ c b) : Et τ (tNotS c) (!b) := by
  unfold Et tNotS
  rw [show c τ = _ from h]
theorem et_and (h : Et τ c b) {b2 : Bool} (h2 : b = true → Et τ d b2) (h3 : b = false → b2 = false) : Et τ (tAndS c d) b2 := by
  unfold Et tAndS
  rw [show c τ = _ from h]
  cases b with
  | true => exact h2 rfl
  | false => rw [h3 rfl]
theorem et_or (h : Et τ c b) {b2 : Bool} (h2 : b = false → Et τ d b2) (h3 : b = true → b2 = true) : Et τ (tOrS c d) b2 := by
  unfold Et tOrS
  rw [show c τ = _ from h]
  cases b with
  | true => rw [h3 rfl]
  | false => exact h2 rfl
theorem ev_tst (h : Et τ c b) : Ev τ (semOf c) (.bl b) := by
  unfold Ev semOf
  rw [show c τ = _ from h]
theorem ev_if (h : Et τ c b) (h1 : b = true → Ev τ f t) (h2 : b = false → Ev τ g t) : Ev τ (sIf c f g) t := by
  unfold Ev sIf
  rw [show c τ = _ from h]
  cases b with
  | true => exact h1 rfl
  | false => exact h2 rfl
theorem mIf_tt {m1 m2 : Stm} (h : Et τ c true) : mIf c m1 m2 τ = m1 τ := by
  unfold mIf
  rw [show c τ = _ from h]
theorem mIf_ff {m1 m2 : Stm} (h : Et τ c false) : mIf c m1 m2 τ = m2 τ := by
  unfold mIf
  rw [show c τ = _ from h]
theorem mSet_v (h : Ev τ f t) : mSet i f τ = some (.nx (τ.set i (some (t, .shr)))) := by
  unfold mSet
  rw [show f τ = _ from h]
  rfl
theorem mRet_v (h : Ev τ f t) : mRet f τ = some (.rt (.v t) τ) := mRet_at h
/-! ints -/
theorem mul_l {i j : Int} (h : -(2 ^ 64) < i ∧ i < 2 ^ 64) : binT .Mult (.int i) (.int j) = some (.int (i * j), false) := by
  have hc : CM i j := .inl (.inl h)
  simp [binT, hc]
theorem mul_r {i j : Int} (h : -(2 ^ 64) < j ∧ j < 2 ^ 64) : binT .Mult (.int i) (.int j) = some (.int (i * j), false) := by
  have hc : CM i j := .inl (.inr h)
  simp [binT, hc]
theorem mod_i {i j : Int} (h : 0 < j) : binT .Mod (.int i) (.int j) = some (.int (i % j), false) := by simp [binT, h]
theorem div_i {i j : Int} (h : 0 < j) (h2 : j < 1073741824) : binT .FloorDiv (.int i) (.int j) = some (.int (i / j), false) := by
  have hc : L2.CDiv i j := ⟨h, h2⟩
  simp [binT, hc]
theorem add_i {i j : Int} : binT .Add (.int i) (.int j) = some (.int (i + j), false) := rfl
theorem ix_ints {ns : List Int} {k : Int} (h0 : 0 ≤ k) (h1 : k < ns.length) : ixT (.lst (ns.map T.int)) (.int k) = some (.int (ns.getD k.toNat 0)) := by
  show L2.atI (ns.map T.int) k = _
  unfold L2.atI L2.ixN
  rw [if_pos h0, List.length_map, if_pos h1]
  have : k.toNat < ns.length := by omega
  simp [this]
end
end K4
set_option maxHeartbeats 4000000
/-! K4p6: the law's state. -/
namespace K4
open PySem Dt
def cellF (ns : List Int) (k : Int) : Int :=
  if k < ns.length ∧ 1000000000 ≤ ns.getD k.toNat 0 then ns.getD k.toNat 0 else
    let c2 := if 0 < ns.length then 7 * k + 1 + 31 * ns.getD (k % ns.length).toNat 0 else 7 * k + 1
    let c3 := (c2 * 48271 + 69621 * k) % 2147483647
    (c3 * c3 + 48271 * (c3 / 1000)) % 2147483629
theorem p__law_cell {ns : List Int} {k : Int} (h0 : 0 ≤ k) : F__law_cell [.lst (ns.map T.int), .int k] = some (.ret (.int (cellF ns k)) false []) := by
  have r : F__law_cell [.lst (ns.map T.int), .int k] = finF [.B, .S] (m__law_cell [some (.lst (ns.map T.int), .bor), some (.int k, .shr), none]) := runF_at rfl
  rw [r]
  generalize hL : (ns.length : Int) = L
  have len : ∀ τ : Sl, τ[0]? = some (some (.lst (ns.map T.int), .bor)) → Ev τ (sBi gLen (aCons (sVar 0) aNil)) (.int L) := fun τ e => ev_bi1 (eo_var e) (by simp [gLen, lenT, hL])
  -- the head
  have t1 : Et [some (.lst (ns.map T.int), .bor), some (.int k, .shr), none] (tstOf (sCmp .Lt (sVar 1) (sBi gLen (aCons (sVar 0) aNil)))) (decide (k < L)) := et_of (ev_cmp (ev_var rfl).o (len _ rfl).o rfl).o
  have pw : ∀ τ : Sl, Ev τ (sBin .Pow (sCst (.int 10)) (sCst (.int 9))) (.int 1000000000) := fun τ => ev_bin ev_cst.o ev_cst.o (by
    have hc : L2.CPow 10 9 := ⟨by decide, by decide, by decide⟩
    simp [binT, hc])
  have ixk : k < L → Ev [some (.lst (ns.map T.int), .bor), some (.int k, .shr), none] (sIx (sVar 0) (sVar 1)) (.int (ns.getD k.toNat 0)) := fun h => ev_ix (eo_var rfl) (ev_var rfl).o (ix_ints h0 (by rw [hL]; exact h))
  have t2 : Et [some (.lst (ns.map T.int), .bor), some (.int k, .shr), none] (tAndS (tstOf (sCmp .Lt (sVar 1) (sBi gLen (aCons (sVar 0) aNil)))) (tstOf (sCmp .GtE (sIx (sVar 0) (sVar 1)) (sBin .Pow (sCst (.int 10)) (sCst (.int 9)))))) (decide (k < L ∧ 1000000000 ≤ ns.getD k.toNat 0)) :=
    et_and t1 (fun h => by
      have hk : k < L := of_decide_eq_true h
      have := et_of (ev_cmp (op := .GtE) (ixk hk).o (pw _).o rfl).o
      simpa [hk] using this) fun h => by
      have hk : ¬ k < L := of_decide_eq_false h
      simp [hk]
  unfold cellF
  rw [hL]
  unfold m__law_cell
  by_cases hc : k < L ∧ 1000000000 ≤ ns.getD k.toNat 0
  · rw [if_pos hc]
    rw [decide_eq_true hc] at t2
    have e : (mIf _ (mSeq (mRet (sIx (sVar 0) (sVar 1))) mNil) mNil) [some (.lst (ns.map T.int), .bor), some (.int k, .shr), none] = some (.rt (.v (.int (ns.getD k.toNat 0))) [some (.lst (ns.map T.int), .bor), some (.int k, .shr), none]) :=
      (mIf_tt t2).trans (mSeq_rt (mRet_v (ixk hc.1)))
    rw [mSeq_rt e]
    rfl
  · rw [if_neg hc]
    dsimp only
    rw [decide_eq_false hc] at t2
    rw [mSeq_nx ((mIf_ff t2).trans rfl)]
    have a1 : mSet 2 (sBin .Add (sBin .Mult (sCst (.int 7)) (sVar 1)) (sCst (.int 1))) [some (.lst (ns.map T.int), .bor), some (.int k, .shr), none] = some (.nx [some (.lst (ns.map T.int), .bor), some (.int k, .shr), some (.int (7 * k + 1), .shr)]) :=
      mSet_v (ev_bin (ev_bin ev_cst.o (ev_var rfl).o (mul_l (by decide))).o ev_cst.o rfl)
    rw [mSeq_nx a1]
    -- the script's element
    have a2 : mIf (tstOf (sCmp .Gt (sBi gLen (aCons (sVar 0) aNil)) (sCst (.int 0)))) (mSeq (mSet 2 (sBin .Add (sVar 2) (sBin .Mult (sCst (.int 31)) (sIx (sVar 0) (sBin .Mod (sBi gInt (aCons (sVar 1) aNil)) (sBi gLen (aCons (sVar 0) aNil))))))) mNil) mNil [some (.lst (ns.map T.int), .bor), some (.int k, .shr), some (.int (7 * k + 1), .shr)] =
        some (.nx [some (.lst (ns.map T.int), .bor), some (.int k, .shr), some (.int (if 0 < ns.length then 7 * k + 1 + 31 * ns.getD (k % L).toNat 0 else 7 * k + 1), .shr)]) := by
      have t3 : Et [some (.lst (ns.map T.int), .bor), some (.int k, .shr), some (.int (7 * k + 1), .shr)] (tstOf (sCmp .Gt (sBi gLen (aCons (sVar 0) aNil)) (sCst (.int 0)))) (decide (0 < L)) := et_of (ev_cmp (len _ rfl).o ev_cst.o rfl).o
      by_cases hl : 0 < ns.length
      · have hl' : 0 < L := by omega
        rw [decide_eq_true hl'] at t3
        rw [mIf_tt t3, if_pos hl]
        have md : Ev [some (.lst (ns.map T.int), .bor), some (.int k, .shr), some (.int (7 * k + 1), .shr)] (sBin .Mod (sBi gInt (aCons (sVar 1) aNil)) (sBi gLen (aCons (sVar 0) aNil))) (.int (k % L)) := ev_bin (ev_bi1 (ev_var rfl).o rfl).o (len _ rfl).o (mod_i hl')
        have m1 := Int.emod_nonneg k (show L ≠ 0 by omega)
        have m2 := Int.emod_lt_of_pos k hl'
        have ix : Ev [some (.lst (ns.map T.int), .bor), some (.int k, .shr), some (.int (7 * k + 1), .shr)] (sIx (sVar 0) (sBin .Mod (sBi gInt (aCons (sVar 1) aNil)) (sBi gLen (aCons (sVar 0) aNil)))) (.int (ns.getD (k % L).toNat 0)) := ev_ix (eo_var rfl) md.o (ix_ints m1 (by rw [hL]; exact m2))
        exact (mSeq_nx (mSet_v (ev_bin (ev_var rfl).o (ev_bin ev_cst.o ix.o (mul_l (by decide))).o rfl))).trans rfl
      · have hl' : ¬ 0 < L := by omega
        rw [decide_eq_false hl'] at t3
        rw [mIf_ff t3, if_neg hl]
        rfl
    rw [mSeq_nx a2]
    generalize (if 0 < ns.length then 7 * k + 1 + 31 * ns.getD (k % L).toNat 0 else 7 * k + 1) = c2
    have a3 : mSet 2 (sBin .Mod (sBi gInt (aCons (sBin .Add (sBin .Mult (sVar 2) (sCst (.int 48271))) (sBin .Mult (sCst (.int 69621)) (sVar 1))) aNil)) (sCst (.int 2147483647))) [some (.lst (ns.map T.int), .bor), some (.int k, .shr), some (.int c2, .shr)] =
        some (.nx [some (.lst (ns.map T.int), .bor), some (.int k, .shr), some (.int ((c2 * 48271 + 69621 * k) % 2147483647), .shr)]) :=
      mSet_v (ev_bin (ev_bi1 (ev_bin (ev_bin (ev_var rfl).o ev_cst.o (mul_r (by decide))).o (ev_bin ev_cst.o (ev_var rfl).o (mul_l (by decide))).o rfl).o rfl).o ev_cst.o (mod_i (by decide)))
    rw [mSeq_nx a3]
    have n1 := Int.emod_nonneg (c2 * 48271 + 69621 * k) (show (2147483647 : Int) ≠ 0 by decide)
    have n2 := Int.emod_lt_of_pos (c2 * 48271 + 69621 * k) (show (0 : Int) < 2147483647 by decide)
    generalize (c2 * 48271 + 69621 * k) % 2147483647 = c3 at n1 n2
    have a4 : mRet (sBin .Mod (sBi gInt (aCons (sBin .Add (sBin .Mult (sVar 2) (sVar 2)) (sBin .Mult (sCst (.int 48271)) (sBin .FloorDiv (sVar 2) (sCst (.int 1000))))) aNil)) (sCst (.int 2147483629))) [some (.lst (ns.map T.int), .bor), some (.int k, .shr), some (.int c3, .shr)] =
        some (.rt (.v (.int ((c3 * c3 + 48271 * (c3 / 1000)) % 2147483629))) [some (.lst (ns.map T.int), .bor), some (.int k, .shr), some (.int c3, .shr)]) :=
      mRet_v (ev_bin (ev_bi1 (ev_bin (ev_bin (ev_var rfl).o (ev_var rfl).o (mul_l ⟨by omega, by omega⟩)).o (ev_bin ev_cst.o (ev_bin (ev_var rfl).o ev_cst.o (div_i (by decide) (by decide))).o (mul_l (by decide))).o rfl).o rfl).o ev_cst.o (mod_i (by decide)))
    rw [mSeq_rt a4]
    rfl
end K4
set_option maxHeartbeats 4000000
/-! K4p7: the law's big number. -/
namespace K4
open PySem Dt
theorem ev_call {τ : Sl} {ms : List Md} {F : Fn} {a : Sems} {xs : List Od} {ts : List T} {t : T} (h1 : a τ = some (xs, τ)) (h2 : argsT τ ms xs = some (ts, [], τ)) (h4 : F ts = some (.ret t false [])) : Ev τ (sCall ms F a) t :=
  sCall_at h1 h2 (by simp [Sl.muts, nodupN]) h4 rfl
abbrev bigS (ns : List Int) (at_ n f : Int) (x : Option (T × Fl)) : Sl := [some (.lst (ns.map T.int), .bor), some (.int at_, .shr), some (.int n, .shr), some (.int f, .shr), x]
def bigB : Stm := (mSeq (mSet 3 (sBin .Add (sBin .Mult (sVar 3) (sCst (.int 2147483648))) (sCall [.B, .S] F__law_cell (aCons (sVar 0) (aCons (sBin .Add (sVar 1) (sVar 4)) aNil))))) mNil)
theorem big_step {ns : List Int} {at_ n f : Int} {k : Int} (h : 0 ≤ at_ + k) : bigB (bigS ns at_ n f (some (.int k, .shr))) = some (.nx (bigS ns at_ n (f * 2147483648 + cellF ns (at_ + k)) (some (.int k, .shr)))) := by
  have c : Ev (bigS ns at_ n f (some (.int k, .shr))) (sCall [.B, .S] F__law_cell (aCons (sVar 0) (aCons (sBin .Add (sVar 1) (sVar 4)) aNil))) (.int (cellF ns (at_ + k))) :=
    ev_call (xs := [.s 0, .v (.int (at_ + k))]) rfl rfl (p__law_cell h)
  exact (mSeq_nx (mSet_v (ev_bin (ev_bin (ev_var rfl).o ev_cst.o (mul_r (by decide))).o c.o rfl))).trans rfl
theorem big_walk {ns : List Int} {at_ n : Int} (h : 0 ≤ at_) : ∀ (l : List T) (f : Int) (x : Option (T × Fl)), (∀ t ∈ l, ∃ k : Int, t = .int k ∧ 0 ≤ k) → ∃ f' y, walk (tgt1 4) bigB l (bigS ns at_ n f x) = some (.nx (bigS ns at_ n f' y))
  | [], f, x, _ => ⟨f, x, rfl⟩
  | t :: l, f, x, hl => by
    obtain ⟨k, rfl, hk⟩ := hl t (List.mem_cons_self ..)
    have s : walk (tgt1 4) bigB (.int k :: l) (bigS ns at_ n f x) = (match bigB (bigS ns at_ n f (some (.int k, .shr))) with
        | some (.nx τ2) => walk (tgt1 4) bigB l τ2
        | some (.ct τ2) => walk (tgt1 4) bigB l τ2
        | some (.br τ2) => some (.nx τ2)
        | o => o) := rfl
    rw [s, big_step (by omega)]
    exact big_walk h l _ _ fun t ht => hl t (List.mem_cons_of_mem _ ht)
theorem range_nn (n : Int) : ∀ t ∈ rangeT 0 n, ∃ k : Int, t = .int k ∧ 0 ≤ k := fun t ht => by
  unfold rangeT at ht
  obtain ⟨i, _, rfl⟩ := List.mem_map.mp ht
  exact ⟨_, rfl, by omega⟩
theorem p__law_big {ns : List Int} {at_ n : Int} (h : 0 ≤ at_) (hn : r62 n = true) : ∃ s : Int, F__law_big [.lst (ns.map T.int), .int at_, .int n] = some (.ret (.lst [.int s]) true []) := by
  have r : F__law_big [.lst (ns.map T.int), .int at_, .int n] = finF [.B, .S, .S] (m__law_big [some (.lst (ns.map T.int), .bor), some (.int at_, .shr), some (.int n, .shr), none, none]) := runF_at rfl
  obtain ⟨f, y, w⟩ := big_walk (ns := ns) (n := n) h (rangeT 0 n) 0 none (range_nn n)
  have e : mFor (srcRange1 (sVar 2)) (tgt1 4) bigB (bigS ns at_ n 0 none) = some (.nx (bigS ns at_ n f y)) := by
    have s : srcRange1 (sVar 2) (bigS ns at_ n 0 none) = some (rangeT 0 n, bigS ns at_ n 0 none) := by
      simp [srcRange1, sVar, Od.sh, Sl.tr, hn]
    unfold mFor
    rw [s]
    exact w
  refine ⟨f, ?_⟩
  rw [r]
  unfold m__law_big
  unfold bigB at e
  have a : mSet 3 (sCst (.int 0)) [some (.lst (ns.map T.int), .bor), some (.int at_, .shr), some (.int n, .shr), none, none] = some (.nx (bigS ns at_ n 0 none)) := rfl
  rw [mSeq_nx a, mSeq_nx e]
  rfl
end K4
set_option maxHeartbeats 4000000
/-! K4p8: filters; names. -/
namespace K4
open PySem Dt
/-- [x for x in l if c]: the slot i is the block's own -/
theorem collect_filter {i : Nat} {c : Tst} {p : T → Bool} {τw : Sl} {τ0 : Sl} (hw : τw = τ0.set i none) (hi : i < τ0.length) : ∀ (l acc : List T), (∀ x ∈ l, Et (τw.set i (some (x, .shr))) c (p x)) → acc.length + l.length ≤ sizeLine →
    Dt.collect (tgt1 i) [i] c (sVar i) l acc τw = some (acc ++ l.filter p, τw)
  | [], acc, _, _ => by simp [Dt.collect]
  | x :: l, acc, h, hz => by
    have hx := h x (List.mem_cons_self ..)
    have back : wipeT (τw.set i (some (x, .shr))) [i] = τw := by
      subst hw
      simp [wipeT, List.set_set]
    have ih := fun acc' hz' => collect_filter hw hi l acc' (fun y hy => h y (List.mem_cons_of_mem _ hy)) hz'
    unfold Dt.collect
    show (match c (τw.set i (some (x, .shr))) with
      | some (false, τ2) => Dt.collect (tgt1 i) [i] c (sVar i) l acc (wipeT τ2 [i])
      | some (true, τ2) => (match sVar i τ2 with
        | some (o, τ3) => (match τ3.esc o with
          | some (t, τ4) => if acc.length < sizeLine then Dt.collect (tgt1 i) [i] c (sVar i) l (acc ++ [t]) (wipeT τ4 [i]) else none
          | none => none)
        | none => none)
      | none => none) = _
    rw [show c (τw.set i (some (x, .shr))) = _ from hx]
    simp only [List.length_cons] at hz
    cases hp : p x with
    | false =>
      dsimp only
      rw [back, ih acc (by omega)]
      simp [hp]
    | true =>
      dsimp only
      have e : (τw.set i (some (x, .shr)))[i]? = some (some (x, .shr)) := by
        subst hw
        simp [hi]
      have v : sVar i (τw.set i (some (x, .shr))) = some (.v x, τw.set i (some (x, .shr))) := ev_var e
      rw [v]
      show (if acc.length < sizeLine then Dt.collect (tgt1 i) [i] c (sVar i) l (acc ++ [x]) (wipeT (τw.set i (some (x, .shr))) [i]) else none) = _
      rw [if_pos (by omega), back, ih (acc ++ [x]) (by simp; omega)]
      simp [hp]
theorem lc_filter {i : Nat} {s : Src} {c : Tst} {p : T → Bool} {τ : Sl} {l : List T} (hi : i < τ.length) (hp : τ.plain [i] = true) (hs : s τ = some (l, τ)) (hc : ∀ x ∈ l, Et (τ.set i (some (x, .shr))) c (p x)) (hz : l.length ≤ sizeLine) :
    sLc s (tgt1 i) [i] c (sVar i) τ = some (.f (.lst (l.filter p)), τ) := by
  have e : Dt.collect (tgt1 i) [i] c (sVar i) l [] (τ.set i none) = some ([] ++ l.filter p, τ.set i none) := collect_filter rfl hi l [] (fun x hx => by rw [List.set_set]; exact hc x hx) (by simpa using hz)
  unfold sLc
  rw [hs]
  dsimp only
  rw [if_pos hp]
  have w : wipeT τ [i] = τ.set i none := rfl
  rw [w, e]
  have u : unwipe τ (τ.set i none) [i] = τ := by
    have h : τ[i]? = some τ[i] := by simp [hi]
    unfold unwipe unwipe
    rw [h]
    simp
  simp [u]
theorem src_of {f : Dt.Sem} {τ : Sl} {t : T} {l : List T} (h : Ev τ f t) (hl : itemsT t = some l) : srcOf f τ = some (l, τ) := by
  unfold srcOf
  rw [show f τ = _ from h]
  show (match itemsT t with | some l => some (l, τ) | none => none) = _
  rw [hl]
theorem eq_strs (a b : Str) : eqT (.str a) (.str b) = decide (a = b) := by
  by_cases h : a = b
  · subst h; simp [eqT, T.pd, PyData.eqv]
  · simp [eqT, T.pd, PyData.eqv, h]
end K4
set_option maxHeartbeats 4000000
/-! K4p9: what may be told apart. -/
namespace K4
open PySem Dt
/-- may be told apart, n deep -/
def okD (n : Nat) (t : T) : Prop := t.pd.canLay0 = true ∧ t.pd.depth ≤ n
theorem okD.up {n m : Nat} {t : T} (h : okD n t) (hm : n ≤ m) : okD m t := ⟨h.1, Nat.le_trans h.2 hm⟩
theorem okD.e {n : Nat} {t : T} (h : okD n t) (hn : n ≤ 64) : okE t = true := by
  unfold okE SeqAt.shaped
  rw [h.1, decide_eq_true (Nat.le_trans h.2 hn)]; rfl
theorem okD_all {n : Nat} : ∀ {l : List T}, (∀ t ∈ l, okD n t) → PyData.canLayAll0 (T.pds l) = true ∧ PyData.depthAll (T.pds l) ≤ n
  | [], _ => ⟨rfl, Nat.zero_le _⟩
  | t :: l, h => by
    obtain ⟨h1, h2⟩ := h t (List.mem_cons_self ..)
    obtain ⟨h3, h4⟩ := okD_all fun u hu => h u (List.mem_cons_of_mem _ hu)
    simp only [T.pds, PyData.canLayAll0, PyData.depthAll]
    exact ⟨by rw [h1, h3]; rfl, Nat.max_le.mpr ⟨h2, h4⟩⟩
theorem okD_lst {n : Nat} {l : List T} (h : ∀ t ∈ l, okD n t) : okD (n + 1) (.lst l) := by
  obtain ⟨h1, h2⟩ := okD_all h
  exact ⟨by simpa only [T.pd, PyData.canLay0] using h1, by simp only [T.pd, PyData.depth]; omega⟩
theorem okD_tup {n : Nat} {l : List T} (h : ∀ t ∈ l, okD n t) : okD (n + 1) (.tup l) := by
  obtain ⟨h1, h2⟩ := okD_all h
  exact ⟨by simpa only [T.pd, PyData.canLay0] using h1, by simp only [T.pd, PyData.depth]; omega⟩
theorem okD_int {i : Int} : okD 0 (.int i) := ⟨rfl, Nat.le_refl _⟩
theorem okD_bl {i : Bool} : okD 0 (.bl i) := ⟨rfl, Nat.le_refl _⟩
theorem okD_non : okD 0 .non := ⟨rfl, Nat.le_refl _⟩
def sOk (s : Str) : Bool := s.cps.all (· < 0x110000)
theorem okD_str {s : Str} (h : sOk s = true) : okD 0 (.str s) := ⟨h, Nat.le_refl _⟩
theorem eq_nil {l : List T} : eqT (.lst l) (.lst []) = l.isEmpty := by
  cases l <;> simp [eqT, T.pd, T.pds, PyData.eqv, PyData.eqvAll]
/-- [..] == [] -/
theorem cmp_nil {n : Nat} {l : List T} (h : ∀ t ∈ l, okD n t) (hn : n < 64) : cmpT .Eq (.lst l) (.lst []) = some l.isEmpty := by
  have h1 := (okD_lst h).e (by omega)
  have h2 : okE (.lst []) = true := rfl
  simp only [cmpT, h1, h2, Bool.and_self, if_true, eq_nil]
theorem cmp_nnil {n : Nat} {l : List T} (h : ∀ t ∈ l, okD n t) (hn : n < 64) : cmpT .NotEq (.lst l) (.lst []) = some (!l.isEmpty) := by
  have h1 := (okD_lst h).e (by omega)
  have h2 : okE (.lst []) = true := rfl
  simp only [cmpT, h1, h2, Bool.and_self, if_true, eq_nil]
end K4
set_option maxHeartbeats 4000000
/-! K4p10: names. -/
namespace K4
open PySem Dt
section
variable {τ : Sl} {f g : Dt.Sem} {c d : Tst} {t u r : T} {i : Nat} {b b2 : Bool}
theorem et_orb (h : Et τ c b) (h2 : b = false → Et τ d b2) : Et τ (tOrS c d) (b || b2) := et_or h (fun e => by subst e; exact h2 rfl) fun e => by subst e; rfl
theorem et_andb (h : Et τ c b) (h2 : b = true → Et τ d b2) : Et τ (tAndS c d) (b && b2) := et_and h (fun e => by subst e; exact h2 rfl) fun e => by subst e; rfl
theorem ev_isi {n : String} (h : Eo τ f t) : Ev τ (sIsi n f) (.bl (isiT n t)) := by
  obtain ⟨o, a1, a2⟩ := h
  unfold Ev sIsi s1
  rw [a1]
  dsimp only
  rw [a2]
theorem eo_nil : Eo τ (sLst aNil) (.lst []) := ⟨.f (.lst []), by simp [sLst, aNil, Sl.escs], rfl⟩
theorem ev_slS {s : Str} {lo : Int} (h : Ev τ f (.str s)) (hl : s.length ≤ sizeLine) : Ev τ (sSl f (some (sCst (.int lo))) none) (.str (L2.cutS s (some lo) none)) := by
  unfold Ev sSl
  rw [show f τ = _ from h]
  show (match (if s.length ≤ sizeLine then some (T.str (L2.cutS s (some lo) none), false) else none) with | some r => some (fr r.1 r.2, τ) | none => none) = _
  rw [if_pos hl]
  rfl
end
def digits : Str := "0123456789"
def nameB (s z : Str) (m : Int) : Bool := !(decide (s = "") || (!decide (s.cps.toList.headD 0 ∈ z.cps.toList) || decide (m + 1 < s.length))) && (((L2.cutS s (some 1) none).cps.toList.map fun c => T.str ⟨#[c]⟩).filter (fun t => match t with
  | .str a => !decide (a.cps.toList.headD 0 ∈ digits.cps.toList)
  | _ => false)).isEmpty
theorem cut_mem {s : Str} {c : Nat} (h : c ∈ (L2.cutS s (some 1) none).cps.toList) : c ∈ s.cps.toList := by
  have e : (L2.cutS s (some 1) none).cps.toList = ((s.cps.toList.drop (HT.sIx s.length 0 (some 1))).take (HT.sIx s.length s.length none - HT.sIx s.length 0 (some 1))) := by simp [L2.cutS]
  rw [e] at h
  exact List.mem_of_mem_drop (List.mem_of_mem_take h)
theorem p_is_name {s z : Str} {m : Int} (hs : sOk s = true) (hl : s.length ≤ sizeLine) : F_is_name [.str s, .str z, .int m] = some (.ret (.bl (nameB s z m)) false []) := by
  have r : F_is_name [.str s, .str z, .int m] = finF [.S, .S, .S] (m_is_name [some (.str s, .shr), some (.str z, .shr), some (.int m, .shr), none]) := runF_at rfl
  rw [r]
  generalize hτ : ([some (.str s, .shr), some (.str z, .shr), some (.int m, .shr), none] : Sl) = τ
  have v0 : Ev τ (sVar 0) (.str s) := ev_var (by rw [← hτ]; rfl)
  have v1 : Ev τ (sVar 1) (.str z) := ev_var (by rw [← hτ]; rfl)
  have v2 : Ev τ (sVar 2) (.int m) := ev_var (by rw [← hτ]; rfl)
  have e1 : Et τ (tNotS (tstOf (sIsi "str" (sVar 0)))) false := et_not (et_of (ev_isi v0.o).o)
  have e2 : Et τ (tstOf (sCmp .Eq (sVar 0) (sCst (.str "")))) (decide (s = "")) := et_of (ev_cmp v0.o ev_cst.o (by
    have h1 := (okD_str hs).e (Nat.zero_le 64)
    have h2 : okE (.str "") = true := by decide +kernel
    simp only [cmpT, h1, h2, Bool.and_self, if_true, eq_strs])).o
  have e3 : decide (s = "") = false → Et τ (tstOf (sCmp .NotIn (sIx (sVar 0) (sCst (.int 0))) (sVar 1))) (!decide (s.cps.toList.headD 0 ∈ z.cps.toList)) := fun h => by
    have h' : s ≠ "" := of_decide_eq_false h
    cases hc : s.cps.toList with
    | nil =>
      refine absurd ?_ h'
      cases s with
      | mk a =>
        have : a = #[] := by
          cases a with
          | mk l =>
            have hc' : l = [] := hc
            subst hc'; rfl
        subst this
        rfl
    | cons c r =>
      refine et_of (ev_cmp (ev_ix (r := .str ⟨#[c]⟩) v0.o ev_cst.o ?_).o v1.o rfl).o
      show (if s.length ≤ sizeLine then (L2.atI s.cps.toList 0).map fun c => T.str ⟨#[c]⟩ else none) = _
      rw [if_pos hl, hc]
      simp [L2.atI, L2.ixN]
  have e4 : Et τ (tstOf (sCmp .Gt (sBi gLen (aCons (sVar 0) aNil)) (sBin .Add (sVar 2) (sCst (.int 1))))) (decide (m + 1 < s.length)) := et_of (ev_cmp (ev_bi1 (r := .int s.length) v0.o (by simp [gLen, lenT, hl])).o (ev_bin v2.o ev_cst.o add_i).o rfl).o
  have t := et_orb e1 fun _ => et_orb e2 fun h => et_orb (e3 h) fun _ => e4
  unfold m_is_name nameB
  rw [Bool.false_or] at t
  generalize hB : (decide (s = "") || (!decide (s.cps.toList.headD 0 ∈ z.cps.toList) || decide (m + 1 < s.length))) = B at t
  cases B with
  | true =>
    have e : mIf _ (mSeq (mRet (sCst (.bl false))) mNil) mNil τ = some (.rt (.v (.bl false)) τ) := (mIf_tt t).trans rfl
    rw [mSeq_rt e, ← hτ]
    rfl
  | false =>
    rw [mSeq_nx ((mIf_ff t).trans rfl)]
    have hlen : τ.length = 4 := by rw [← hτ]; rfl
    have l := lc_filter (i := 3) (c := tstOf (sCmp .NotIn (sVar 3) (sCst (.str "0123456789")))) (τ := τ) (p := fun t => match t with
      | .str a => !decide (a.cps.toList.headD 0 ∈ digits.cps.toList)
      | _ => false) (by rw [hlen]; decide) (by rw [← hτ]; rfl) (src_of (ev_slS v0 hl) (l := (L2.cutS s (some 1) none).cps.toList.map fun c => T.str ⟨#[c]⟩) rfl) (fun x hx => by
        obtain ⟨c, hc, rfl⟩ := List.mem_map.mp hx
        exact et_of (ev_cmp (ev_var (by rw [List.getElem?_set_self (by rw [hlen]; decide)])).o ev_cst.o rfl).o) (by
        rw [List.length_map]
        have e : (L2.cutS s (some 1) none).cps.toList = ((s.cps.toList.drop (HT.sIx s.length 0 (some 1))).take (HT.sIx s.length s.length none - HT.sIx s.length 0 (some 1))) := by simp [L2.cutS]
        rw [e]
        refine Nat.le_trans (List.length_take_le _ _) ?_
        show s.length - _ ≤ sizeLine
        exact Nat.le_trans (Nat.sub_le _ _) hl)
    have ev : Ev τ (sCmp .Eq (sLc _ (tgt1 3) [3] _ (sVar 3)) (sLst aNil)) _ := ev_cmp ⟨_, l, rfl⟩ eo_nil (cmp_nil (n := 0) (fun t ht => by
      obtain ⟨ht, _⟩ := List.mem_filter.mp ht
      obtain ⟨c, hc, rfl⟩ := List.mem_map.mp ht
      refine okD_str ?_
      have := cut_mem hc
      unfold sOk at hs ⊢
      rw [Array.all_eq_true'] at hs
      have h2 := hs c (by simpa using this)
      simpa using h2) (by decide))
    rw [mSeq_rt (mRet_v ev), ← hτ]
    rfl
theorem name_same : F__law_is_name = F_is_name := rfl
end K4
set_option maxHeartbeats 4000000
/-! K4p11: names of points and numbers; given numbers. -/
namespace K4
open PySem Dt
def upper : Str := "ABCDEFGHIJKLMNOPQRSTUVWXYZ"
def lower : Str := "abcdefghijklmnopqrstuvwxyz"
theorem p_is_name_no {t : T} {z : Str} {m : Int} (h : isiT "str" t = false) : F_is_name [t, .str z, .int m] = some (.ret (.bl false) false []) := by
  have r : F_is_name [t, .str z, .int m] = finF [.S, .S, .S] (m_is_name [some (t, .shr), some (.str z, .shr), some (.int m, .shr), none]) := runF_at rfl
  rw [r]
  generalize hτ : ([some (t, .shr), some (.str z, .shr), some (.int m, .shr), none] : Sl) = τ
  have v0 : Ev τ (sVar 0) t := ev_var (by rw [← hτ]; rfl)
  have e1 : Et τ (tNotS (tstOf (sIsi "str" (sVar 0)))) true := by
    have := et_not (et_of (ev_isi (n := "str") v0.o).o)
    rw [h] at this
    exact this
  unfold m_is_name
  have e : ∀ d : Tst, mIf (tOrS (tNotS (tstOf (sIsi "str" (sVar 0)))) d) (mSeq (mRet (sCst (.bl false))) mNil) mNil τ = some (.rt (.v (.bl false)) τ) := fun d => (mIf_tt (et_or (b2 := true) e1 (fun h => by cases h) fun _ => rfl)).trans rfl
  rw [mSeq_rt (e _), ← hτ]
  rfl
/-- is it a name of these letters? -/
def nameT (t : T) (z : Str) (m : Int) : Bool := match t with
  | .str s => nameB s z m
  | _ => false
/-- an entry of a step -/
def En (t : T) : Prop := match t with
  | .str s => sOk s = true ∧ s.length ≤ 1000
  | .int i => i.natAbs ≤ 10 ^ 12
  | .tup l => l.length ≤ 10 ∧ ∀ x ∈ l, ∃ i : Int, x = .int i ∧ i.natAbs ≤ 10 ^ 12
  | .non => True
  | .bl _ => True
  | _ => False
theorem p_name {t : T} {z : Str} {m : Int} (h : En t) : F_is_name [t, .str z, .int m] = some (.ret (.bl (nameT t z m)) false []) := by
  cases t with
  | str s => exact p_is_name h.1 (Nat.le_trans h.2 (by decide))
  | _ => exact p_is_name_no rfl
theorem p_is_point_name {t : T} (h : En t) : F_is_point_name [t] = some (.ret (.bl (nameT t upper 3)) false []) := by
  have r : F_is_point_name [t] = finF [.S] (m_is_point_name [some (t, .shr)]) := runF_at rfl
  rw [r]
  have e : Ev [some (t, .shr)] (sCall [.S, .S, .S] F_is_name (aCons (sVar 0) (aCons (sCst (.str "ABCDEFGHIJKLMNOPQRSTUVWXYZ")) (aCons (sCst (.int 3)) aNil)))) (.bl (nameT t upper 3)) :=
    ev_call (xs := [.v t, .v (.str upper), .v (.int 3)]) rfl rfl (p_name h)
  unfold m_is_point_name
  rw [mSeq_rt (mRet_v e)]
  rfl
theorem p_is_number_name {t : T} (h : En t) : F_is_number_name [t] = some (.ret (.bl (nameT t lower 2)) false []) := by
  have r : F_is_number_name [t] = finF [.S] (m_is_number_name [some (t, .shr)]) := runF_at rfl
  rw [r]
  have e : Ev [some (t, .shr)] (sCall [.S, .S, .S] F_is_name (aCons (sVar 0) (aCons (sCst (.str "abcdefghijklmnopqrstuvwxyz")) (aCons (sCst (.int 2)) aNil)))) (.bl (nameT t lower 2)) :=
    ev_call (xs := [.v t, .v (.str lower), .v (.int 2)]) rfl rfl (p_name h)
  unfold m_is_number_name
  rw [mSeq_rt (mRet_v e)]
  rfl
theorem en_ok {t : T} (h : En t) : okD 1 t := by
  cases t with
  | str s => exact (okD_str h.1).up (by decide)
  | int i => exact okD_int.up (by decide)
  | tup l =>
    refine okD_tup fun x hx => ?_
    obtain ⟨i, rfl, _⟩ := h.2 x hx
    exact okD_int
  | non => exact okD_non.up (by decide)
  | bl b => exact okD_bl.up (by decide)
  | lst l => exact h.elim
  | dct l => exact h.elim
end K4
set_option maxHeartbeats 4000000
/-! K4p12: given numbers. -/
namespace K4
open PySem Dt
def givenB (t : T) : Bool := match t with
  | .tup [.int a, .int b] => decide (0 < b) && decide (Int.gcd a b = 1) && (decide (a.natAbs < 10 ^ 12) && decide (b.natAbs < 10 ^ 12))
  | _ => false
theorem isi_tup {t : T} (h : ∀ l, t ≠ .tup l) : isiT "tuple" t = false := by
  cases t with
  | tup l => exact absurd rfl (h l)
  | _ => rfl
/-- the heads of both: not a tuple of two plain ints -/
theorem given_no {c : Tst} {t : T} {τ : Sl} (h0 : Ev τ (sVar 0) t) (hE : En t) (h : ∀ a b : Int, t ≠ .tup [.int a, .int b]) : Et τ (tOrS (tNotS (tstOf (sIsi "tuple" (sVar 0)))) (tOrS (tstOf (sCmp .NotEq (sBi gLen (aCons (sVar 0) aNil)) (sCst (.int 2)))) c)) true := by
  by_cases ht : ∃ l, t = .tup l
  · obtain ⟨l, rfl⟩ := ht
    have e1 : Et τ (tNotS (tstOf (sIsi "tuple" (sVar 0)))) false := et_not (et_of (ev_isi (n := "tuple") h0.o).o)
    have hl : l.length ≠ 2 := fun hl => by
      match l, hl with
      | [x, y], _ =>
        obtain ⟨a, rfl, _⟩ := hE.2 x (by simp)
        obtain ⟨b, rfl, _⟩ := hE.2 y (by simp)
        exact h a b rfl
    have e2 : Et τ (tstOf (sCmp .NotEq (sBi gLen (aCons (sVar 0) aNil)) (sCst (.int 2)))) true := et_of (ev_cmp (ev_bi1 (r := .int l.length) h0.o rfl).o ev_cst.o (by
      show some (!eqT (.int l.length) (.int 2)) = some true
      rw [eq_ints, decide_eq_false (by omega)]; rfl)).o
    exact et_or e1 (fun _ => et_or e2 (fun h => by cases h) fun _ => rfl) fun h => by cases h
  · have e1 : Et τ (tNotS (tstOf (sIsi "tuple" (sVar 0)))) true := by
      have := et_not (et_of (ev_isi (n := "tuple") h0.o).o)
      rw [isi_tup fun l hl => ht ⟨l, hl⟩] at this
      exact this
    exact et_or e1 (fun h => by cases h) fun _ => rfl
theorem two_head {τ : Sl} {a b : Int} (h0 : Ev τ (sVar 0) (.tup [.int a, .int b])) : Et τ (tNotS (tstOf (sIsi "tuple" (sVar 0)))) false ∧ Et τ (tstOf (sCmp .NotEq (sBi gLen (aCons (sVar 0) aNil)) (sCst (.int 2)))) false :=
  ⟨et_not (et_of (ev_isi (n := "tuple") h0.o).o), et_of (ev_cmp (ev_bi1 (r := .int 2) h0.o rfl).o ev_cst.o rfl).o⟩
theorem p_is_given {t : T} (hE : En t) : F_is_given [t] = some (.ret (.bl (givenB t)) false []) := by
  have r : F_is_given [t] = finF [.S] (m_is_given [some (t, .shr), none]) := runF_at rfl
  rw [r]
  unfold m_is_given
  by_cases h : ∃ a b : Int, t = .tup [.int a, .int b]
  · obtain ⟨a, b, rfl⟩ := h
    obtain ⟨_, ha⟩ := hE
    have ba : a.natAbs ≤ 10 ^ 12 := by
      obtain ⟨i, e, h⟩ := ha (.int a) (by simp)
      cases e; exact h
    have bb : b.natAbs ≤ 10 ^ 12 := by
      obtain ⟨i, e, h⟩ := ha (.int b) (by simp)
      cases e; exact h
    generalize hτ : ([some (.tup [.int a, .int b], .shr), none] : Sl) = τ
    have hlen : τ.length = 2 := by rw [← hτ]; rfl
    have v0 : Ev τ (sVar 0) (.tup [.int a, .int b]) := ev_var (by rw [← hτ]; rfl)
    obtain ⟨e1, e2⟩ := two_head v0
    have mem : ∀ x ∈ [T.int a, T.int b], ∃ i : Int, x = .int i := fun x hx => by
      simp only [List.mem_cons, List.not_mem_nil, or_false] at hx
      rcases hx with rfl | rfl
      · exact ⟨a, rfl⟩
      · exact ⟨b, rfl⟩
    have l1 := lc_filter (i := 1) (c := tNotS (tstOf (sCall [.S] F_is_plain (aCons (sVar 1) aNil)))) (τ := τ) (p := fun t => !plainT t) (by rw [hlen]; decide) (by rw [← hτ]; rfl) (src_of v0 (l := [.int a, .int b]) rfl) (fun x hx =>
      et_not (et_of (ev_call (xs := [.v x]) (by
        have : Ev (τ.set 1 (some (x, .shr))) (sVar 1) x := ev_var (by rw [List.getElem?_set_self (by rw [hlen]; decide)])
        unfold aCons
        rw [show sVar 1 _ = _ from this]
        rfl) rfl (p_is_plain x)).o)) (by simp; decide)
    have e3 : Et τ (tstOf (sCmp .NotEq (sLc (srcOf (sVar 0)) (tgt1 1) [1] (tNotS (tstOf (sCall [.S] F_is_plain (aCons (sVar 1) aNil)))) (sVar 1)) (sLst aNil))) false := et_of (ev_cmp ⟨_, l1, rfl⟩ eo_nil rfl).o
    rw [mSeq_nx ((mIf_ff (et_or e1 (fun _ => et_or e2 (fun _ => e3) fun h => by cases h) fun h => by cases h)).trans rfl)]
    have l2 := lc_filter (i := 1) (c := tstOf (sCmp .GtE (sBi gAbs (aCons (sVar 1) aNil)) (sCst (.int 1000000000000)))) (τ := τ) (p := fun t => match t with
      | .int i => decide (1000000000000 ≤ i.natAbs)
      | _ => false) (by rw [hlen]; decide) (by rw [← hτ]; rfl) (src_of v0 (l := [.int a, .int b]) rfl) (fun x hx => by
        obtain ⟨i, rfl⟩ := mem x hx
        have v : Ev (τ.set 1 (some (.int i, .shr))) (sVar 1) (.int i) := ev_var (by rw [List.getElem?_set_self (by rw [hlen]; decide)])
        refine et_of (ev_cmp (b := decide (1000000000000 ≤ i.natAbs)) (ev_bi1 (r := .int i.natAbs) v.o (by simp [gAbs, abs_val])).o ev_cst.o ?_).o
        show some (decide ((1000000000000 : Int) ≤ (i.natAbs : Int))) = _
        congr 1
        simp only [decide_eq_decide]
        omega) (by simp; decide)
    have e4 : Et τ (tstOf (sCmp .Eq (sLc (srcOf (sVar 0)) (tgt1 1) [1] (tstOf (sCmp .GtE (sBi gAbs (aCons (sVar 1) aNil)) (sCst (.int 1000000000000)))) (sVar 1)) (sLst aNil))) (decide (a.natAbs < 10 ^ 12) && decide (b.natAbs < 10 ^ 12)) := by
      refine et_of (ev_cmp ⟨_, l2, rfl⟩ eo_nil ?_).o
      rw [cmp_nil (n := 0) (fun t ht => by
        obtain ⟨i, rfl⟩ := mem t (List.mem_filter.mp ht).1
        exact okD_int) (by decide)]
      congr 1
      by_cases h1 : a.natAbs < 10 ^ 12 <;> by_cases h2 : b.natAbs < 10 ^ 12 <;>
        simp [h1, h2, List.filter_cons, show (1000000000000 ≤ a.natAbs) ↔ ¬ a.natAbs < 10 ^ 12 by omega, show (1000000000000 ≤ b.natAbs) ↔ ¬ b.natAbs < 10 ^ 12 by omega]
    have ra : Ev τ (sCall [.S] F_is_ratio (aCons (sVar 0) aNil)) (.bl (decide (0 < b) && decide (Int.gcd a b = 1))) := ev_call (xs := [.v (.tup [.int a, .int b])]) (by
        unfold aCons
        rw [show sVar 0 _ = _ from v0]
        rfl) rfl (p_is_ratio (Nat.lt_of_le_of_lt ba (by decide)) (Nat.lt_of_le_of_lt bb (by decide)))
    have ev := ev_tst (et_andb (et_of ra.o) fun _ => e4)
    rw [mSeq_rt (mRet_v ev), ← hτ]
    rfl
  · have h' : ∀ a b : Int, t ≠ .tup [.int a, .int b] := fun a b e => h ⟨a, b, e⟩
    have e : ∀ c : Tst, mIf (tOrS (tNotS (tstOf (sIsi "tuple" (sVar 0)))) (tOrS (tstOf (sCmp .NotEq (sBi gLen (aCons (sVar 0) aNil)) (sCst (.int 2)))) c)) (mSeq (mRet (sCst (.bl false))) mNil) mNil [some (t, .shr), none] = some (.rt (.v (.bl false)) [some (t, .shr), none]) := fun c =>
      (mIf_tt (given_no (ev_var rfl) hE h')).trans rfl
    rw [mSeq_rt (e _)]
    have : givenB t = false := by
      unfold givenB
      split
      · rename_i a b; exact absurd rfl (h' a b)
      · rfl
    rw [this]
    rfl
end K4
set_option maxHeartbeats 4000000
/-! K4p13: the law's given numbers. -/
namespace K4
open PySem Dt
theorem pow12 (τ : Sl) : Ev τ (sBin .Pow (sCst (.int 10)) (sCst (.int 12))) (.int 1000000000000) := ev_bin ev_cst.o ev_cst.o (by
  have hc : L2.CPow 10 12 := ⟨by decide, by decide, by decide⟩
  simp [binT, hc])
theorem p__law_is_given {t : T} (hE : En t) : F__law_is_given [t] = some (.ret (.bl (givenB t)) false []) := by
  have r : F__law_is_given [t] = finF [.S] (m__law_is_given [some (t, .shr), none]) := runF_at rfl
  rw [r]
  unfold m__law_is_given
  by_cases h : ∃ a b : Int, t = .tup [.int a, .int b]
  · obtain ⟨a, b, rfl⟩ := h
    obtain ⟨_, ha⟩ := hE
    have ba : a.natAbs ≤ 10 ^ 12 := by
      obtain ⟨i, e, h⟩ := ha (.int a) (by simp)
      cases e; exact h
    have bb : b.natAbs ≤ 10 ^ 12 := by
      obtain ⟨i, e, h⟩ := ha (.int b) (by simp)
      cases e; exact h
    generalize hτ : ([some (.tup [.int a, .int b], .shr), none] : Sl) = τ
    have hlen : τ.length = 2 := by rw [← hτ]; rfl
    have v0 : Ev τ (sVar 0) (.tup [.int a, .int b]) := ev_var (by rw [← hτ]; rfl)
    obtain ⟨e1, e2⟩ := two_head v0
    have mem : ∀ x ∈ [T.int a, T.int b], ∃ i : Int, x = .int i := fun x hx => by
      simp only [List.mem_cons, List.not_mem_nil, or_false] at hx
      rcases hx with rfl | rfl
      · exact ⟨a, rfl⟩
      · exact ⟨b, rfl⟩
    have l1 := lc_filter (i := 1) (c := tOrS (tNotS (tstOf (sIsi "int" (sVar 1)))) (tstOf (sIsi "bool" (sVar 1)))) (τ := τ) (p := fun t => false) (by rw [hlen]; decide) (by rw [← hτ]; rfl) (src_of v0 (l := [.int a, .int b]) rfl) (fun x hx => by
      obtain ⟨i, rfl⟩ := mem x hx
      have v : Ev (τ.set 1 (some (.int i, .shr))) (sVar 1) (.int i) := ev_var (by rw [List.getElem?_set_self (by rw [hlen]; decide)])
      exact et_or (et_not (et_of (ev_isi (n := "int") v.o).o)) (fun _ => et_of (ev_isi (n := "bool") v.o).o) fun h => by cases h) (by simp; decide)
    have e3 : Et τ (tstOf (sCmp .NotEq (sLc (srcOf (sVar 0)) (tgt1 1) [1] (tOrS (tNotS (tstOf (sIsi "int" (sVar 1)))) (tstOf (sIsi "bool" (sVar 1)))) (sVar 1)) (sLst aNil))) false := et_of (ev_cmp ⟨_, l1, rfl⟩ eo_nil rfl).o
    rw [mSeq_nx ((mIf_ff (et_or e1 (fun _ => et_or e2 (fun _ => e3) fun h => by cases h) fun h => by cases h)).trans rfl)]
    have x0 : Ev τ (sIx (sVar 0) (sCst (.int 0))) (.int a) := ev_ix v0.o ev_cst.o rfl
    have x1 : Ev τ (sIx (sVar 0) (sCst (.int 1))) (.int b) := ev_ix v0.o ev_cst.o rfl
    have dv : Ev τ (sCall [.S, .S] F__law_divisor (aCons (sIx (sVar 0) (sCst (.int 0))) (aCons (sIx (sVar 0) (sCst (.int 1))) aNil))) (.int (Int.gcd a b)) := ev_call (xs := [.v (.int a), .v (.int b)]) (by
        unfold aCons
        rw [show sIx (sVar 0) (sCst (.int 0)) _ = _ from x0]
        dsimp only
        rw [show sIx (sVar 0) (sCst (.int 1)) τ = _ from x1]
        rfl) rfl (p__law_divisor (Nat.lt_of_le_of_lt ba (by decide)) (Nat.lt_of_le_of_lt bb (by decide)))
    have t1 : Et τ (tstOf (sCmp .Gt (sIx (sVar 0) (sCst (.int 1))) (sCst (.int 0)))) (decide (0 < b)) := et_of (ev_cmp x1.o ev_cst.o rfl).o
    have t2 : Et τ (tstOf (sCmp .Eq (sCall [.S, .S] F__law_divisor (aCons (sIx (sVar 0) (sCst (.int 0))) (aCons (sIx (sVar 0) (sCst (.int 1))) aNil))) (sCst (.int 1)))) (decide (Int.gcd a b = 1)) := et_of (ev_cmp dv.o ev_cst.o (by
      show some (eqT (.int (Int.gcd a b)) (.int 1)) = _
      rw [eq_ints]
      congr 1
      simp only [decide_eq_decide]
      omega)).o
    have t3 : Et τ (tstOf (sCmp .Lt (sBi gAbs (aCons (sIx (sVar 0) (sCst (.int 0))) aNil)) (sBin .Pow (sCst (.int 10)) (sCst (.int 12))))) (decide (a.natAbs < 10 ^ 12)) := et_of (ev_cmp (ev_bi1 (r := .int a.natAbs) x0.o (by simp [gAbs, abs_val])).o (pow12 τ).o (by
      have q : decide ((a.natAbs : Int) < 1000000000000) = decide (a.natAbs < 10 ^ 12) := decide_eq_decide.mpr (by omega)
      exact congrArg some q)).o
    have t4 : Et τ (tstOf (sCmp .Lt (sIx (sVar 0) (sCst (.int 1))) (sBin .Pow (sCst (.int 10)) (sCst (.int 12))))) (decide (b < 1000000000000)) := et_of (ev_cmp x1.o (pow12 τ).o rfl).o
    have ev := ev_tst (et_andb t1 fun _ => et_of (ev_tst (et_andb t2 fun _ => et_of (ev_tst (et_andb t3 fun _ => t4)).o)).o)
    have same : (decide (0 < b) && (decide (Int.gcd a b = 1) && (decide (a.natAbs < 10 ^ 12) && decide (b < 1000000000000)))) = givenB (.tup [.int a, .int b]) := by
      show _ = (decide (0 < b) && decide (Int.gcd a b = 1) && (decide (a.natAbs < 10 ^ 12) && decide (b.natAbs < 10 ^ 12)))
      by_cases hb : 0 < b
      · have : (b < 1000000000000) ↔ (b.natAbs < 10 ^ 12) := by omega
        simp only [hb, decide_true, Bool.true_and, this]
      · simp [hb]
    rw [same] at ev
    rw [mSeq_rt (mRet_v ev), ← hτ]
    rfl
  · have h' : ∀ a b : Int, t ≠ .tup [.int a, .int b] := fun a b e => h ⟨a, b, e⟩
    have e : ∀ c : Tst, mIf (tOrS (tNotS (tstOf (sIsi "tuple" (sVar 0)))) (tOrS (tstOf (sCmp .NotEq (sBi gLen (aCons (sVar 0) aNil)) (sCst (.int 2)))) c)) (mSeq (mRet (sCst (.bl false))) mNil) mNil [some (t, .shr), none] = some (.rt (.v (.bl false)) [some (t, .shr), none]) := fun c =>
      (mIf_tt (given_no (ev_var rfl) hE h')).trans rfl
    rw [mSeq_rt (e _)]
    have : givenB t = false := by
      unfold givenB
      split
      · rename_i a b; exact absurd rfl (h' a b)
      · rfl
    rw [this]
    rfl
end K4
set_option maxHeartbeats 4000000
/-! K4p14: drawn numbers. -/
namespace K4
open PySem Dt
section
variable {τ : Sl} {f g : Dt.Sem} {t u : T} {a : Sems} {xs : List Od}
theorem a_cons (h : Ev τ f t) (hr : a τ = some (xs, τ)) : aCons f a τ = some (.v t :: xs, τ) := by
  unfold aCons
  rw [show f τ = _ from h]
  dsimp only
  rw [hr]
  rfl
theorem a_nil : aNil τ = some ([], τ) := rfl
theorem escs_v : ∀ ts : List T, Sl.escs τ (ts.map Od.v) = some (ts, τ)
  | [] => rfl
  | t :: r => by
    show (match some (t, τ) with | some (t, τ1) => (match Sl.escs τ1 (r.map Od.v) with | some (ts, τ2) => some (t :: ts, τ2) | none => none) | none => none) = _
    dsimp only
    rw [escs_v r]
theorem ev_tup {ts : List T} (h : a τ = some (ts.map Od.v, τ)) (hz : ts.length ≤ sizeLine) : Ev τ (sTup a) (.tup ts) := by
  unfold Ev sTup
  rw [h]
  dsimp only
  rw [escs_v]
  dsimp only
  rw [if_pos hz]
theorem eo_lst {ts : List T} (h : a τ = some (ts.map Od.v, τ)) (hz : ts.length ≤ sizeLine) : sLst a τ = some (.f (.lst ts), τ) := by
  unfold sLst
  rw [h]
  dsimp only
  rw [escs_v]
  dsimp only
  rw [if_pos hz]
end
theorem p__law_ratio {p q : Int} (hq : 0 < q) (hq2 : q < 1000) (hp : p.natAbs < 1000) : F__law_ratio [.int p, .int q] = some (.ret (.tup [.int (p / Int.gcd p q), .int (q / Int.gcd p q)]) false []) := by
  have r : F__law_ratio [.int p, .int q] = finF [.S, .S] (m__law_ratio [some (.int p, .shr), some (.int q, .shr), none]) := runF_at rfl
  rw [r]
  unfold m__law_ratio
  have gp : 0 < Int.gcd p q := Int.gcd_pos_of_ne_zero_right _ (by omega)
  have gl : Int.gcd p q ≤ q.natAbs := Nat.le_of_dvd (by omega) (Nat.gcd_dvd_right _ _)
  have dv : Ev [some (.int p, .shr), some (.int q, .shr), none] (sCall [.S, .S] F__law_divisor (aCons (sVar 0) (aCons (sVar 1) aNil))) (.int (Int.gcd p q)) := ev_call (xs := [.v (.int p), .v (.int q)]) rfl rfl (p__law_divisor (by
    have : (1000 : Nat) < 2 ^ 200 := by decide
    omega) (by
    have : (1000 : Nat) < 2 ^ 200 := by decide
    omega))
  rw [mSeq_nx (mSet_v dv)]
  show finF [.S, .S] (mSeq _ _ [some (.int p, .shr), some (.int q, .shr), some (.int (Int.gcd p q), .shr)]) = _
  generalize (Int.gcd p q) = n at gp gl
  have t1 : Et [some (.int p, .shr), some (.int q, .shr), some (.int (n : Int), .shr)] (tstOf (sCmp .Lt (sVar 1) (sCst (.int 0)))) false := et_of (ev_cmp (ev_var rfl).o ev_cst.o (by
    show some (decide (q < 0)) = some false
    rw [decide_eq_false (by omega)])).o
  rw [mSeq_nx ((mIf_ff t1).trans rfl)]
  have d0 : Ev [some (.int p, .shr), some (.int q, .shr), some (.int (n : Int), .shr)] (sBi gInt (aCons (sBin .FloorDiv (sVar 0) (sVar 2)) aNil)) (.int (p / n)) := ev_bi1 (ev_bin (ev_var rfl).o (ev_var rfl).o (div_i (by omega) (by omega))).o rfl
  have d1 : Ev [some (.int p, .shr), some (.int q, .shr), some (.int (n : Int), .shr)] (sBi gInt (aCons (sBin .FloorDiv (sVar 1) (sVar 2)) aNil)) (.int (q / n)) := ev_bi1 (ev_bin (ev_var rfl).o (ev_var rfl).o (div_i (by omega) (by omega))).o rfl
  have ev := ev_tup (ts := [.int (p / n), .int (q / n)]) (a_cons d0 (a_cons d1 a_nil)) (by simp; decide)
  rw [mSeq_rt (mRet_v ev)]
  rfl
end K4
set_option maxHeartbeats 4000000
/-! K4p15: drawn names. -/
namespace K4
open PySem Dt
theorem upper_len : upper.cps.toList.length = 26 := by decide +kernel
theorem upper_ok : upper.cps.toList.all (fun c => decide (c < 0x110000)) = true := by decide +kernel
theorem upper_short : upper.length ≤ sizeLine := by decide +kernel
theorem p__law_name {k : Int} (h0 : 0 ≤ k) (h1 : k < 26) : ∃ c, c ∈ upper.cps.toList ∧ F__law_name [.int k] = some (.ret (.str (⟨#[c]⟩ ++ "")) false []) := by
  have r : F__law_name [.int k] = finF [.S] (m__law_name [some (.int k, .shr)]) := runF_at rfl
  have hk : k.toNat < upper.cps.toList.length := by rw [upper_len]; omega
  refine ⟨upper.cps.toList[k.toNat], List.getElem_mem hk, ?_⟩
  rw [r]
  have md : Ev [some (.int k, .shr)] (sBin .Mod (sBi gInt (aCons (sVar 0) aNil)) (sCst (.int 26))) (.int k) := ev_bin (ev_bi1 (ev_var rfl).o rfl).o ev_cst.o (by
    rw [mod_i (by decide), Int.emod_eq_of_lt h0 h1])
  have ix : Ev [some (.int k, .shr)] (sIx (sCst (.str "ABCDEFGHIJKLMNOPQRSTUVWXYZ")) (sBin .Mod (sBi gInt (aCons (sVar 0) aNil)) (sCst (.int 26)))) (.str ⟨#[upper.cps.toList[k.toNat]]⟩) := ev_ix ev_cst.o md.o (by
    show (if upper.length ≤ sizeLine then (L2.atI upper.cps.toList k).map fun c => T.str ⟨#[c]⟩ else none) = _
    rw [if_pos upper_short]
    unfold L2.atI L2.ixN
    rw [if_pos h0, if_pos (by rw [upper_len]; omega)]
    simp [hk])
  have t1 : Et [some (.int k, .shr)] (tstOf (sCmp .Lt (sVar 0) (sCst (.int 26)))) true := et_of (ev_cmp (ev_var rfl).o ev_cst.o (by
    show some (decide (k < 26)) = some true
    rw [decide_eq_true h1])).o
  have iff : ∀ g, Ev [some (.int k, .shr)] (sIf (tstOf (sCmp .Lt (sVar 0) (sCst (.int 26)))) (sCst (.str "")) g) (.str "") := fun g => ev_if t1 (fun _ => ev_cst) fun h => by cases h
  have ev := fun g => ev_bin (op := .Add) (r := .str (⟨#[upper.cps.toList[k.toNat]]⟩ ++ "")) ix.o (iff g).o (by
    have hz : (⟨#[upper.cps.toList[k.toNat]]⟩ : Str).length + ("" : Str).length ≤ sizeLine := by
      have e : (⟨#[upper.cps.toList[k.toNat]]⟩ : Str).length = 1 := rfl
      rw [e]
      decide +kernel
    simp only [binT, addT, if_pos hz])
  unfold m__law_name
  rw [mSeq_rt (mRet_v (ev _))]
  rfl
end K4
set_option maxHeartbeats 4000000
/-! K4p16: a draw as a word: it changes the state's slot. -/
namespace K4
open PySem Dt
theorem take_at {τ : Sl} {j : Nat} {s m : Int} {fl : Fl} {f : Dt.Sem} (hj : τ[j]? = some (some (.lst [.int s], fl))) (hf : fl = .own ∨ fl = .chg) (hm : Ev τ f (.int m)) (h0 : 0 < m) (h1 : m < 1073741824) :
    sCall [.M, .S] F__law_take (aCons (sVar j) (aCons f aNil)) τ = some (.v (.int (s % m)), τ.set j (some (.lst [.int (s / m)], fl))) := by
  have v : sVar j τ = some (.s j, τ) := by
    unfold sVar
    rw [hj]
    rcases hf with rfl | rfl <;> rfl
  have a : aCons (sVar j) (aCons f aNil) τ = some ([.s j, .v (.int m)], τ) := by
    have r := a_cons hm (a_nil (τ := τ))
    unfold aCons
    rw [v]
    dsimp only
    unfold aCons at r
    rw [r]
    rfl
  have b : argsT τ [.M, .S] [.s j, .v (.int m)] = some ([.lst [.int s], .int m], [j], τ) := by
    unfold argsT
    rw [hj]
    rfl
  refine sCall_at a b ?_ (p__law_take h0 h1) ?_
  · have e : τ.muts [j] = true := by
      unfold Sl.muts
      simp only [List.all_cons, List.all_nil, Bool.and_true]
      rw [hj]
      rcases hf with rfl | rfl <;> rfl
    rw [e]; rfl
  · unfold Sl.puts
    rw [hj]
    rfl
end K4
set_option maxHeartbeats 4000000
/-! K4p17: the table of the words. -/
namespace K4
open PySem Dt
def kindF (w : Str) : Option (Int × Str) :=
  if w = "free" then some (0, "") else if w = "at" then some (0, "xy") else if w = "on" then some (2, "n") else if w = "middle" then some (2, "") else if w = "corner" then some (3, "") else if w = "mirror" then some (2, "") else
  if w = "square" then some (2, "") else if w = "meet" then some (4, "") else if w = "foot" then some (3, "") else if w = "fold" then some (3, "") else if w = "centre" then some (3, "") else if w = "second" then some (3, "") else
  if w = "inverse" then some (3, "") else if w = "circle" then some (2, "n") else if w = "like" then some (5, "") else none
def kindT (p : Int × Str) : T := .tup [.int p.1, .str p.2]
theorem ifs {c : Prop} [Decidable c] {a b : Option T} {a' b' : Option (Int × Str)} (h1 : a = a'.map kindT) (h2 : b = b'.map kindT) : (if c then a else b) = (if c then a' else b').map kindT := by
  split <;> assumption
theorem look_kinds (w : Str) : ixT tKINDS (.str w) = (kindF w).map kindT := by
  have k : ∀ (x : Str) (t : T) (r : List (T × T)), look ((.str x, t) :: r) (.inr w) = if w = x then some t else look r (.inr w) := fun x t r => by
    show (if (Sum.inr w : L2.Key) = .inr x then some t else look r (.inr w)) = _
    by_cases h : w = x
    · subst h; simp
    · have : ¬ ((Sum.inr w : L2.Key) = .inr x) := fun z => h (by cases z; rfl)
      rw [if_neg this, if_neg h]
  show look _ (.inr w) = _
  unfold kindF
  repeat (rw [k]; refine ifs rfl ?_)
  rfl
theorem in_kinds (w : Str) : inT (.str w) tKINDS = some (kindF w).isSome := by
  have h := look_kinds w
  have e : ixT tKINDS (.str w) = look (match tKINDS with | .dct l => l | _ => []) (.inr w) := rfl
  show some (look (match tKINDS with | .dct l => l | _ => []) (.inr w)).isSome = _
  rw [← e, h]
  cases kindF w <;> rfl
end K4
set_option maxHeartbeats 4000000
/-! K4p18: the points and the numbers of a step. -/
namespace K4
open PySem Dt
section
variable {τ : Sl} {f g : Dt.Sem} {l : List T} {i : Int}
theorem ev_slT2 (h : Ev τ f (.tup l)) {lo : Int} (hg : Ev τ g (.int i)) : Ev τ (sSl f (some (sCst (.int lo))) (some g)) (.tup (cutT l (some lo) (some i))) := by
  unfold Ev sSl
  rw [show f τ = _ from h]
  show (match (match g τ with | some (x, τ1) => (match τ1.tr x with | some (.int i) => some (some i, τ1) | _ => none) | none => none) with
    | some (h, τ3) => (match slT (.tup l) (some lo) h with | some r => some (fr r.1 r.2, τ3) | none => none)
    | none => none) = _
  rw [show g τ = _ from hg]
  rfl
theorem ev_slT1 (h : Ev τ f (.tup l)) (hg : Ev τ g (.int i)) : Ev τ (sSl f (some g) none) (.tup (cutT l (some i) none)) := by
  unfold Ev sSl
  rw [show f τ = _ from h]
  show (match (match g τ with | some (x, τ1) => (match τ1.tr x with | some (.int i) => some (some i, τ1) | _ => none) | none => none) with
    | some (lo, τ2) => (match slT (.tup l) lo none with | some r => some (fr r.1 r.2, τ2) | none => none)
    | none => none) = _
  rw [show g τ = _ from hg]
  rfl
theorem list_of (h : Ev τ f (.tup l)) : sBi gList (aCons f aNil) τ = some (.f (.lst l), τ) := by
  have e : aCons f aNil τ = some ([.v (.tup l)], τ) := a_cons h a_nil
  unfold sBi
  rw [e]
  rfl
end
theorem ev_kind {τ : Sl} {w : Str} {r : List T} {n : Int} {m : Str} (h0 : Ev τ (sVar 0) (.tup (.str w :: r))) (hk : kindF w = some (n, m)) : Ev τ (sIx (sCst tKINDS) (sIx (sVar 0) (sCst (.int 0)))) (kindT (n, m)) :=
  ev_ix ev_cst.o (ev_ix (r := .str w) h0.o ev_cst.o (by
    show L2.atI (T.str w :: r) 0 = _
    simp [L2.atI, L2.ixN])).o (by rw [look_kinds, hk]; rfl)
theorem p_points_of {w : Str} {r : List T} {n : Int} {m : Str} (hk : kindF w = some (n, m)) : F_points_of [.tup (.str w :: r)] = some (.ret (.lst (cutT (.str w :: r) (some 2) (some (2 + n)))) true []) := by
  have e : F_points_of [.tup (.str w :: r)] = finF [.S] (m_points_of [some (.tup (.str w :: r), .shr)]) := runF_at rfl
  rw [e]
  unfold m_points_of
  have v0 : Ev [some (.tup (.str w :: r), .shr)] (sVar 0) (.tup (.str w :: r)) := ev_var rfl
  have k0 := ev_ix (r := .int n) (ev_kind v0 hk).o (ev_cst (t := .int 0)).o rfl
  rw [mSeq_rt (mRet_at (list_of (ev_slT2 v0 (ev_bin ev_cst.o k0.o add_i))))]
  rfl
theorem p_given_numbers {w : Str} {r : List T} {n : Int} {m : Str} (hk : kindF w = some (n, m)) : F_given_numbers [.tup (.str w :: r)] = some (.ret (.lst (cutT (.str w :: r) (some (2 + n)) none)) true []) := by
  have e : F_given_numbers [.tup (.str w :: r)] = finF [.S] (m_given_numbers [some (.tup (.str w :: r), .shr)]) := runF_at rfl
  rw [e]
  unfold m_given_numbers
  have v0 : Ev [some (.tup (.str w :: r), .shr)] (sVar 0) (.tup (.str w :: r)) := ev_var rfl
  have k0 := ev_ix (r := .int n) (ev_kind v0 hk).o (ev_cst (t := .int 0)).o rfl
  rw [mSeq_rt (mRet_at (list_of (ev_slT1 v0 (ev_bin ev_cst.o k0.o add_i))))]
  rfl
end K4
set_option maxHeartbeats 4000000
/-! K4p19: is_step. -/
namespace K4
open PySem Dt
def isStepB (t : T) : Bool := match t with
  | .tup (.str w :: r) => (match kindF w with
    | some (n, m) => decide (((r.length : Int) + 1) = 2 + n + m.length)
    | none => false)
  | _ => false
theorem ifk {c : Prop} [Decidable c] {a b : Option (Int × Str)} {P : Int × Str → Prop} (h1 : ∀ p, a = some p → P p) (h2 : ∀ p, b = some p → P p) : ∀ p, (if c then a else b) = some p → P p := by
  intro p h
  by_cases hc : c
  · rw [if_pos hc] at h; exact h1 p h
  · rw [if_neg hc] at h; exact h2 p h
theorem kind_len {w : Str} {n : Int} {m : Str} (h : kindF w = some (n, m)) : m.length ≤ sizeLine := by
  have k : ∀ p : Int × Str, kindF w = some p → p.2.length ≤ sizeLine := by
    unfold kindF
    repeat refine ifk (P := fun p => p.2.length ≤ sizeLine) (fun p h => by cases h; decide +kernel) ?_
    intro p h
    cases h
  exact k _ h
theorem p_is_step {t : T} (ht : (∃ l, t = .tup l) ∨ ∃ l, t = .lst l) : F_is_step [t] = some (.ret (.bl (isStepB t)) false []) := by
  have e : F_is_step [t] = finF [.S] (m_is_step [some (t, .shr), none, none]) := runF_at rfl
  rw [e]
  unfold m_is_step
  have v0 : Ev [some (t, .shr), none, none] (sVar 0) t := ev_var rfl
  have no : ∀ c : Tst, Et [some (t, .shr), none, none] c true → mIf c (mSeq (mRet (sCst (.bl false))) mNil) mNil [some (t, .shr), none, none] = some (.rt (.v (.bl false)) [some (t, .shr), none, none]) := fun c h => (mIf_tt h).trans rfl
  rcases ht with ⟨l, rfl⟩ | ⟨l, rfl⟩
  · have e1 : Et [some (.tup l, .shr), none, none] (tNotS (tstOf (sIsi "tuple" (sVar 0)))) false := et_not (et_of (ev_isi (n := "tuple") v0.o).o)
    have e2 : Et [some (.tup l, .shr), none, none] (tstOf (sCmp .Eq (sBi gLen (aCons (sVar 0) aNil)) (sCst (.int 0)))) (decide (l.length = 0)) := et_of (ev_cmp (ev_bi1 (r := .int l.length) v0.o rfl).o ev_cst.o (by
      show some (eqT (.int l.length) (.int 0)) = _
      rw [eq_ints]
      exact congrArg some (decide_eq_decide.mpr (by omega)))).o
    cases l with
    | nil =>
      rw [mSeq_rt (no _ (et_or (b2 := true) e1 (fun _ => et_or (b2 := true) e2 (fun h => by cases h) fun _ => rfl) fun h => by cases h))]
      rfl
    | cons x r =>
      have x0 : Ev [some (.tup (x :: r), .shr), none, none] (sIx (sVar 0) (sCst (.int 0))) x := ev_ix v0.o ev_cst.o (by
        show L2.atI (x :: r) 0 = _
        simp [L2.atI, L2.ixN])
      have e2' : Et [some (.tup (x :: r), .shr), none, none] (tstOf (sCmp .Eq (sBi gLen (aCons (sVar 0) aNil)) (sCst (.int 0)))) false := by
        have q := e2
        rw [decide_eq_false (by simp)] at q
        exact q
      by_cases hx : ∃ w, x = .str w
      · obtain ⟨w, rfl⟩ := hx
        have e3 : Et [some (.tup (.str w :: r), .shr), none, none] (tNotS (tstOf (sIsi "str" (sIx (sVar 0) (sCst (.int 0)))))) false := et_not (et_of (ev_isi (n := "str") x0.o).o)
        have e4 : Et [some (.tup (.str w :: r), .shr), none, none] (tstOf (sCmp .NotIn (sIx (sVar 0) (sCst (.int 0))) (sCst tKINDS))) (!(kindF w).isSome) := et_of (ev_cmp x0.o ev_cst.o (by
          show (inT (.str w) tKINDS).map not = _
          rw [in_kinds]; rfl)).o
        cases hk : kindF w with
        | none =>
          rw [hk] at e4
          rw [mSeq_rt (no _ (et_or (b2 := true) e1 (fun _ => et_or (b2 := true) e2' (fun _ => et_or (b2 := true) e3 (fun _ => e4) fun h => by cases h) fun h => by cases h) fun h => by cases h))]
          show _ = some (Res.ret (T.bl (match kindF w with | some (n, m) => decide (((r.length : Int) + 1) = 2 + n + m.length) | none => false)) false [])
          rw [hk]
          rfl
        | some p =>
          obtain ⟨n, m⟩ := p
          rw [hk] at e4
          rw [mSeq_nx ((mIf_ff (et_or (b2 := false) e1 (fun _ => et_or (b2 := false) e2' (fun _ => et_or (b2 := false) e3 (fun _ => e4) fun h => by cases h) fun h => by cases h) fun h => by cases h)).trans rfl)]
          have u : mUnp [1, 2] (sIx (sCst tKINDS) (sIx (sVar 0) (sCst (.int 0)))) [some (.tup (.str w :: r), .shr), none, none] = some (.nx [some (.tup (.str w :: r), .shr), some (.int n, .shr), some (.str m, .shr)]) := by
            have kv := ev_kind v0 hk
            unfold mUnp
            rw [show sIx (sCst tKINDS) (sIx (sVar 0) (sCst (.int 0))) _ = _ from kv]
            rfl
          rw [mSeq_nx u]
          have ev : Ev [some (.tup (.str w :: r), .shr), some (.int n, .shr), some (.str m, .shr)] (sCmp .Eq (sBi gLen (aCons (sVar 0) aNil)) (sBin .Add (sBin .Add (sCst (.int 2)) (sVar 1)) (sBi gLen (aCons (sVar 2) aNil)))) (.bl (decide (((r.length : Int) + 1) = 2 + n + m.length))) :=
            ev_cmp (ev_bi1 (r := .int ((r.length : Int) + 1)) (ev_var rfl).o (by
              show some (T.int (((T.str w :: r).length : Nat) : Int), false) = _
              simp)).o (ev_bin (ev_bin ev_cst.o (ev_var rfl).o add_i).o (ev_bi1 (r := .int m.length) (ev_var rfl).o (by simp [gLen, lenT, kind_len hk])).o add_i).o (by
              show some (eqT (.int _) (.int _)) = _
              rw [eq_ints])
          rw [mSeq_rt (mRet_v ev)]
          show _ = some (Res.ret (T.bl (match kindF w with | some (n, m) => decide (((r.length : Int) + 1) = 2 + n + m.length) | none => false)) false [])
          rw [hk]
          rfl
      · have hs : isiT "str" x = false := by
          cases x with
          | str w => exact absurd ⟨w, rfl⟩ hx
          | _ => rfl
        have e3 : Et [some (.tup (x :: r), .shr), none, none] (tNotS (tstOf (sIsi "str" (sIx (sVar 0) (sCst (.int 0)))))) true := by
          have := et_not (et_of (ev_isi (n := "str") x0.o).o)
          rw [hs] at this
          exact this
        rw [mSeq_rt (no _ (et_or (b2 := true) e1 (fun _ => et_or (b2 := true) e2' (fun _ => et_or (b2 := true) e3 (fun h => by cases h) fun _ => rfl) fun h => by cases h) fun h => by cases h))]
        have : isStepB (.tup (x :: r)) = false := by
          cases x with
          | str w => exact absurd ⟨w, rfl⟩ hx
          | _ => rfl
        rw [this]
        rfl
  · have e1 : Et [some (.lst l, .shr), none, none] (tNotS (tstOf (sIsi "tuple" (sVar 0)))) true := et_not (et_of (ev_isi (n := "tuple") v0.o).o)
    rw [mSeq_rt (no _ (et_or (b2 := true) e1 (fun h => by cases h) fun _ => rfl))]
    rfl
end K4
set_option maxHeartbeats 4000000
/-! K4p20: wrong_number. -/
namespace K4
open PySem Dt
theorem kind_ok {w : Str} {n : Int} {m : Str} (h : kindF w = some (n, m)) : sOk m = true := by
  have k : ∀ p : Int × Str, kindF w = some p → sOk p.2 = true := by
    unfold kindF
    repeat refine ifk (P := fun p => sOk p.2 = true) (fun p h => by cases h; decide +kernel) ?_
    intro p h
    cases h
  exact k _ h
def wrongB (m : Str) (x : T) : Bool := !(decide (m = "n") && nameT x lower 2) && !givenB x
theorem p_wrong_number {w : Str} {r : List T} {n : Int} {m : Str} {x : T} (hk : kindF w = some (n, m)) (hx : En x) : F_wrong_number [.tup (.str w :: r), x] = some (.ret (.bl (wrongB m x)) false []) := by
  have e : F_wrong_number [.tup (.str w :: r), x] = finF [.S, .S] (m_wrong_number [some (.tup (.str w :: r), .shr), some (x, .shr)]) := runF_at rfl
  rw [e]
  unfold m_wrong_number
  have v0 : Ev [some (.tup (.str w :: r), .shr), some (x, .shr)] (sVar 0) (.tup (.str w :: r)) := ev_var rfl
  have v1 : Ev [some (.tup (.str w :: r), .shr), some (x, .shr)] (sVar 1) x := ev_var rfl
  have k1 := ev_ix (r := .str m) (ev_kind v0 hk).o (ev_cst (t := .int 1)).o rfl
  have t1 : Et [some (.tup (.str w :: r), .shr), some (x, .shr)] (tstOf (sCmp .Eq (sIx (sIx (sCst tKINDS) (sIx (sVar 0) (sCst (.int 0)))) (sCst (.int 1))) (sCst (.str "n")))) (decide (m = "n")) := et_of (ev_cmp k1.o ev_cst.o (by
    have h1 := (okD_str (kind_ok hk)).e (Nat.zero_le 64)
    have h2 : okE (.str "n") = true := by decide +kernel
    simp only [cmpT, h1, h2, Bool.and_self, if_true, eq_strs])).o
  have c1 : Ev [some (.tup (.str w :: r), .shr), some (x, .shr)] (sCall [.S] F_is_number_name (aCons (sVar 1) aNil)) (.bl (nameT x lower 2)) := ev_call (xs := [.v x]) (a_cons v1 a_nil) rfl (p_is_number_name hx)
  have c2 : Ev [some (.tup (.str w :: r), .shr), some (x, .shr)] (sCall [.S] F_is_given (aCons (sVar 1) aNil)) (.bl (givenB x)) := ev_call (xs := [.v x]) (a_cons v1 a_nil) rfl (p_is_given hx)
  have t := et_andb t1 fun _ => et_of c1.o
  unfold wrongB
  generalize (decide (m = "n") && nameT x lower 2) = B at t
  cases B with
  | true =>
    have q : mIf _ (mSeq (mRet (sCst (.bl false))) mNil) mNil [some (.tup (.str w :: r), .shr), some (x, .shr)] = some (.rt (.v (.bl false)) [some (.tup (.str w :: r), .shr), some (x, .shr)]) := (mIf_tt t).trans rfl
    rw [mSeq_rt q]
    rfl
  | false =>
    rw [mSeq_nx ((mIf_ff t).trans rfl)]
    rw [mSeq_rt (mRet_v (ev_tst (et_not (et_of c2.o))))]
    rfl
end K4
set_option maxHeartbeats 4000000
/-! K4p21: cuts, texts, tables; new_numbers. -/
namespace K4
open PySem Dt
def isStr (t : T) : Bool := match t with
  | .str _ => true
  | _ => false
theorem isi_str (t : T) : isiT "str" t = isStr t := by cases t <;> rfl
/-- is it one of these? -/
def memB (x : T) (l : List T) : Bool := l.any fun z => eqT z x
/-- all of them texts -/
def Strs (l : List T) : Prop := ∀ z ∈ l, ∃ s, z = .str s ∧ sOk s = true
theorem Strs.flat {l : List T} (h : Strs l) : l.all T.flat = true := by
  rw [List.all_eq_true]
  intro z hz
  obtain ⟨s, rfl, _⟩ := h z hz
  rfl
theorem in_strs {x : T} {l : List T} (hx : isStr x = true) (h : Strs l) : inT x (.lst l) = some (memB x l) := by
  cases x with
  | str s =>
    show (if (T.str s).flat && l.all T.flat then some (l.any fun z => eqT z (.str s)) else none) = _
    rw [h.flat]
    rfl
  | _ => cases hx
theorem cut_from {l : List T} (k : Nat) : cutT l (some (k : Int)) none = l.drop k := by
  unfold cutT
  rw [HT.sIx_nat, HT.sIx_none]
  by_cases h : k ≤ l.length
  · rw [Nat.min_eq_left h, List.take_of_length_le (by simp)]
  · rw [Nat.min_eq_right (by omega), List.drop_of_length_le (Nat.le_refl _), List.drop_of_length_le (by omega)]
    simp
theorem cut_mid {l : List T} (a b : Nat) (h1 : a ≤ b) (h2 : b ≤ l.length) : cutT l (some (a : Int)) (some (b : Int)) = (l.drop a).take (b - a) := by
  unfold cutT
  rw [HT.sIx_nat, HT.sIx_nat, Nat.min_eq_left h2, Nat.min_eq_left (by omega)]
theorem kind_nat {w : Str} {n : Int} {m : Str} (h : kindF w = some (n, m)) : ∃ k : Nat, n = (k : Int) ∧ k ≤ 5 := by
  have g : ∀ p : Int × Str, kindF w = some p → ∃ k : Nat, p.1 = (k : Int) ∧ k ≤ 5 := by
    unfold kindF
    repeat refine ifk (P := fun p => ∃ k : Nat, p.1 = (k : Int) ∧ k ≤ 5) (fun p h => by cases h; first | exact ⟨0, rfl, by decide⟩ | exact ⟨2, rfl, by decide⟩ | exact ⟨3, rfl, by decide⟩ | exact ⟨4, rfl, by decide⟩ | exact ⟨5, rfl, by decide⟩) ?_
    intro p h
    cases h
  exact g _ h
theorem ifc {α : Type} {c : Prop} [Decidable c] {a b r : α} {P : Prop} (h1 : c → a = r → P) (h2 : b = r → P) (h : (if c then a else b) = r) : P := by
  by_cases hc : c
  · rw [if_pos hc] at h; exact h1 hc h
  · rw [if_neg hc] at h; exact h2 h
theorem kind_word {w : Str} {p : Int × Str} (h : kindF w = some p) : sOk w = true := by
  unfold kindF at h
  revert h
  iterate 15 refine ifc (fun e _ => by subst e; decide +kernel) ?_
  intro h
  cases h
section
variable {τ τ1 : Sl} {f : Dt.Sem} {l : List T} {s : Src} {c : Tst} {p : T → Bool} {i : Nat} {t r : T} {o : Od}
theorem lc_filter1 (hi : i < τ1.length) (hp : τ1.plain [i] = true) (hs : s τ = some (l, τ1)) (hc : ∀ x ∈ l, Et (τ1.set i (some (x, .shr))) c (p x)) (hz : l.length ≤ sizeLine) :
    sLc s (tgt1 i) [i] c (sVar i) τ = some (.f (.lst (l.filter p)), τ1) := by
  have h := lc_filter (s := fun _ => some (l, τ1)) (τ := τ1) hi hp rfl hc hz
  unfold sLc at h ⊢
  rw [hs]
  exact h
theorem src_f (h : f τ = some (.f t, τ1)) (hl : itemsT t = some l) : srcOf f τ = some (l, τ1) := by
  unfold srcOf
  rw [h]
  show (match itemsT t with | some l => some (l, τ1) | none => none) = _
  rw [hl]
theorem src_own (h : τ[i]? = some (some (t, .own))) (hl : itemsT t = some l) : srcOf (sVar i) τ = some (l, τ.set i (some (t, .shr))) := by
  have v : sVar i τ = some (.s i, τ) := by
    unfold sVar
    rw [h]
  have n : τ.lnd (.s i) = some (t, τ.set i (some (t, .shr))) := by
    unfold Sl.lnd
    dsimp only
    rw [h]
  unfold srcOf
  rw [v]
  dsimp only
  rw [n]
  dsimp only
  rw [hl]
theorem bi1_at {k : List T → Option (T × Bool)} (h1 : f τ = some (o, τ1)) (h2 : τ1.tr o.sh = some t) (h3 : k [t] = some (r, false)) : sBi k (aCons f aNil) τ = some (.v r, τ1) := by
  have e : aCons f aNil τ = some ([o.sh], τ1) := by
    unfold aCons
    rw [h1]
    rfl
  have e2 : Sl.trs τ1 [o.sh] = some [t] := by
    unfold Sl.trs
    rw [h2]
    rfl
  unfold sBi
  rw [e]
  dsimp only
  rw [e2]
  dsimp only
  rw [h3]
  rfl
theorem callF_at {ms : List Md} {F : Fn} {a : Sems} {xs : List Od} {ts : List T} (h1 : a τ = some (xs, τ)) (h2 : argsT τ ms xs = some (ts, [], τ)) (h4 : F ts = some (.ret t true [])) : sCall ms F a τ = some (.f t, τ) :=
  sCall_at h1 h2 (by simp [Sl.muts, nodupN]) h4 rfl
theorem set_f (h : f τ = some (.f t, τ1)) : mSet i f τ = some (.nx (τ1.set i (some (t, .own)))) := by
  unfold mSet
  rw [h]
  rfl
end
def newN (w : Str) (r : List T) (n : Int) (known : List T) : Nat := if w = "free" then 2 else (((cutT (.str w :: r) (some (2 + n)) none).filter isStr).filter fun x => !memB x known).length
theorem cut_mem' {l : List T} {a b : Option Int} {x : T} (h : x ∈ cutT l a b) : x ∈ l := List.mem_of_mem_drop (List.mem_of_mem_take h)
theorem cut_len {l : List T} {a b : Option Int} : (cutT l a b).length ≤ l.length := by
  unfold cutT
  refine Nat.le_trans (List.length_take_le' _ _) ?_
  rw [List.length_drop]
  exact Nat.sub_le _ _
theorem ix0 {τ : Sl} {x : T} {r : List T} (h : Ev τ (sVar 0) (.tup (x :: r))) : Ev τ (sIx (sVar 0) (sCst (.int 0))) x := ev_ix h.o ev_cst.o (by
  show L2.atI (x :: r) 0 = _
  simp [L2.atI, L2.ixN])
theorem eq_word {τ : Sl} {f : Dt.Sem} {w z : Str} (h : Ev τ f (.str w)) (hw : sOk w = true) (hz : sOk z = true) : Et τ (tstOf (sCmp .Eq f (sCst (.str z)))) (decide (w = z)) := et_of (ev_cmp h.o ev_cst.o (by
  have h1 := (okD_str hw).e (Nat.zero_le 64)
  have h2 := (okD_str hz).e (Nat.zero_le 64)
  simp only [cmpT, h1, h2, Bool.and_self, if_true, eq_strs])).o
theorem p_new_numbers {w : Str} {r known : List T} {n : Int} {m : Str} (hk : kindF w = some (n, m)) (hl : r.length ≤ 100) (hkn : Strs known) : F_new_numbers [.tup (.str w :: r), .lst known] = some (.ret (.int (newN w r n known)) false []) := by
  have e : F_new_numbers [.tup (.str w :: r), .lst known] = finF [.S, .B] (m_new_numbers [some (.tup (.str w :: r), .shr), some (.lst known, .bor), none, none, none]) := runF_at rfl
  rw [e]
  unfold m_new_numbers newN
  have v0 : Ev [some (.tup (.str w :: r), .shr), some (.lst known, .bor), none, none, none] (sVar 0) (.tup (.str w :: r)) := ev_var rfl
  have t1 := eq_word (z := "free") (ix0 v0) (kind_word hk) (by decide +kernel)
  by_cases hw : w = "free"
  · rw [decide_eq_true hw] at t1
    rw [if_pos hw]
    have q : mIf _ (mSeq (mRet (sCst (.int 2))) mNil) mNil [some (.tup (.str w :: r), .shr), some (.lst known, .bor), none, none, none] = some (.rt (.v (.int 2)) [some (.tup (.str w :: r), .shr), some (.lst known, .bor), none, none, none]) := (mIf_tt t1).trans rfl
    rw [mSeq_rt q]
    rfl
  · rw [decide_eq_false hw] at t1
    rw [if_neg hw, mSeq_nx ((mIf_ff t1).trans rfl)]
    generalize hc : cutT (.str w :: r) (some (2 + n)) none = cs
    have hcl : cs.length ≤ 101 := by
      rw [← hc]
      refine Nat.le_trans cut_len ?_
      simp
      omega
    have g : sCall [.S] F_given_numbers (aCons (sVar 0) aNil) [some (.tup (.str w :: r), .shr), some (.lst known, .bor), none, none, none] = some (.f (.lst cs), [some (.tup (.str w :: r), .shr), some (.lst known, .bor), none, none, none]) :=
      callF_at (a_cons v0 a_nil) rfl (by rw [p_given_numbers hk, hc])
    have big : (101 : Nat) ≤ sizeLine := by decide
    have l1 := lc_filter1 (i := 3) (c := tstOf (sIsi "str" (sVar 3))) (p := isStr) (by exact (by decide : 3 < 5)) rfl (src_f g rfl) (fun x hx => et_of (Ev.o (by
      have q := ev_isi (n := "str") (ev_var (τ := [some (.tup (.str w :: r), .shr), some (.lst known, .bor), none, some (x, .shr), none]) (i := 3) rfl).o
      rw [isi_str] at q
      exact q))) (Nat.le_trans hcl big)
    rw [mSeq_nx (set_f l1)]
    generalize hf : cs.filter isStr = fs
    have hfl : fs.length ≤ 101 := by
      rw [← hf]
      exact Nat.le_trans (List.length_filter_le _ _) hcl
    have hfs : ∀ x ∈ fs, isStr x = true := fun x hx => by
      rw [← hf] at hx
      exact (List.mem_filter.mp hx).2
    have l2 := lc_filter1 (τ := [some (.tup (.str w :: r), .shr), some (.lst known, .bor), some (.lst fs, .own), none, none]) (i := 4) (c := tstOf (sCmp .NotIn (sVar 4) (sVar 1))) (p := fun x => !memB x known) (by exact (by decide : 4 < 5)) rfl (src_own (i := 2) rfl rfl) (fun x hx => et_of (ev_cmp (ev_var (i := 4) rfl).o (eo_var (i := 1) rfl) (by
      show (inT x (.lst known)).map not = _
      rw [in_strs (hfs x hx) hkn]
      rfl)).o) (Nat.le_trans hfl big)
    have b := bi1_at (k := gLen) (r := .int ((fs.filter fun x => !memB x known).length : Nat)) l2 rfl rfl
    have fin : mSeq (mRet (sBi gLen (aCons (sLc (srcOf (sVar 2)) (tgt1 4) [4] (tstOf (sCmp .NotIn (sVar 4) (sVar 1))) (sVar 4)) aNil))) mNil [some (.tup (.str w :: r), .shr), some (.lst known, .bor), some (.lst fs, .own), none, none] = some (.rt (.v (.int ((fs.filter fun x => !memB x known).length : Nat))) [some (.tup (.str w :: r), .shr), some (.lst known, .bor), some (.lst fs, .shr), none, none]) := by
      refine mSeq_rt ?_
      unfold mRet
      rw [b]
      rfl
    show finF [.S, .B] (mSeq _ _ [some (.tup (.str w :: r), .shr), some (.lst known, .bor), some (.lst fs, .own), none, none]) = _
    rw [fin]
    rfl
end K4
set_option maxHeartbeats 4000000
/-! K4p22: the first reason, in plain words. -/
namespace K4
open PySem Dt
/-- places that may not be one, by the word -/
def pairsF (w : Str) : List (Nat × Nat) :=
  if w = "on" then [(0, 1)] else if w = "middle" then [(0, 1)] else if w = "corner" then [] else if w = "square" then [(0, 1)] else if w = "meet" then [(0, 1), (2, 3)] else if w = "foot" then [(1, 2)] else
  if w = "fold" then [(1, 2)] else if w = "centre" then [(0, 1), (0, 2), (1, 2)] else if w = "second" then [(0, 1), (0, 2)] else if w = "inverse" then [(1, 2)] else if w = "circle" then [(0, 1)] else if w = "like" then [(3, 4)] else []
def pairT (p : Nat × Nat) : T := .tup [.int ((p.1 + 2 : Nat) : Int), .int ((p.2 + 2 : Nat) : Int)]
theorem look_str {x w : Str} {t : T} {r : List (T × T)} : look ((.str x, t) :: r) (.inr w) = if w = x then some t else look r (.inr w) := by
  show (if (Sum.inr w : L2.Key) = .inr x then some t else look r (.inr w)) = _
  by_cases h : w = x
  · subst h; simp
  · have : ¬ ((Sum.inr w : L2.Key) = .inr x) := fun z => h (by cases z; rfl)
    rw [if_neg this, if_neg h]
theorem if_get {c : Prop} [Decidable c] {a : T} {b : Option T} {x y : List (Nat × Nat)} (h1 : a = .tup (x.map pairT)) (h2 : b.getD (.tup []) = .tup (y.map pairT)) : (if c then some a else b).getD (.tup []) = .tup ((if c then x else y).map pairT) := by
  split
  · exact h1
  · exact h2
theorem look_apart (w : Str) : gGet2 tAPART (.str w) (.tup []) = some (.tup ((pairsF w).map pairT)) := by
  show some ((look _ (.inr w)).getD (.tup [])) = _
  congr 1
  unfold pairsF
  iterate 12 (rw [look_str]; refine if_get rfl ?_)
  rfl
theorem pairs_shape (w : Str) : pairsF w = [] ∨ (∃ p, pairsF w = [p]) ∨ (∃ p q, pairsF w = [p, q]) ∨ ∃ p q s, pairsF w = [p, q, s] := by
  have g : ∀ l, pairsF w = l → l = [] ∨ (∃ p, l = [p]) ∨ (∃ p q, l = [p, q]) ∨ ∃ p q s, l = [p, q, s] := by
    intro l
    unfold pairsF
    iterate 12 refine ifc (fun _ h => by subst h; first | exact .inl rfl | exact .inr (.inl ⟨_, rfl⟩) | exact .inr (.inr (.inl ⟨_, _, rfl⟩)) | exact .inr (.inr (.inr ⟨_, _, _, rfl⟩))) ?_
    intro h
    subst h
    exact .inl rfl
  exact g _ rfl
/-- they lie among the points -/
theorem pairs_in {w : Str} {n : Int} {m : Str} (hk : kindF w = some (n, m)) : ∀ p ∈ pairsF w, ((p.1 : Int) < n ∧ (p.2 : Int) < n) := by
  unfold kindF at hk
  revert hk
  iterate 15 refine ifc (fun e hk => by subst e; cases hk; decide +kernel) ?_
  intro hk
  cases hk
def badP (ns : List T) (x : T) : Bool := !isStr x || !memB x ns
def sameP (r : List T) (p : Nat × Nat) : Bool := eqT (r.getD p.1 .non) (r.getD p.2 .non)
/-- what is wrong with a step, its elements behind the new name being r -/
def why (w : Str) (x : T) (r ns : List T) (n : Int) (m : Str) : Option Str :=
  if nameT x upper 3 = false then some ("name" : Str) else if memB x ns = true then some ("twice" : Str) else if (r.take n.toNat).any (badP ns) = true then some ("point" : Str) else
  if (r.drop n.toNat).any (wrongB m) = true then some ("number" : Str) else if (pairsF w).any (sameP r) = true then some ("equal" : Str) else none
def reasonS (t : T) (ns : List T) : Option Str := match t with
  | .tup (.str w :: x :: r) => (match kindF w with
    | some (n, m) => if (r.length : Int) = n + m.length then why w x r ns n m else some ("word" : Str)
    | none => some ("word" : Str))
  | _ => some ("word" : Str)
def rsnT (o : Option Str) : T := match o with
  | some s => .str s
  | none => .non
/-- a step that may be asked about -/
def StepT (t : T) : Prop := ∃ l : List T, (t = .tup l ∨ t = .lst l) ∧ l.length ≤ 50 ∧ ∀ x ∈ l, En x
theorem isStep_no {t : T} {ns : List T} (h : isStepB t = false) : reasonS t ns = some ("word" : Str) := by
  unfold isStepB at h
  unfold reasonS
  split
  · rename_i w x r
    split
    · rename_i n m hk
      dsimp only at h
      rw [hk] at h
      have h' := of_decide_eq_false h
      rw [if_neg]
      intro e
      apply h'
      simp only [List.length_cons]
      omega
    · rfl
  · rfl
theorem isStep_yes {t : T} (h : isStepB t = true) : ∃ (w : Str) (x : T) (r : List T) (n : Int) (m : Str), t = .tup (.str w :: x :: r) ∧ kindF w = some (n, m) ∧ (r.length : Int) = n + m.length := by
  unfold isStepB at h
  split at h
  · rename_i w r
    split at h
    · rename_i n m hk
      have h' := of_decide_eq_true h
      obtain ⟨k, hn, _⟩ := kind_nat hk
      cases r with
      | nil =>
        simp only [List.length_nil] at h'
        omega
      | cons x r =>
        refine ⟨w, x, r, n, m, rfl, hk, ?_⟩
        simp only [List.length_cons] at h'
        omega
    · cases h
  · cases h
end K4
set_option maxHeartbeats 4000000
/-! K4p23: fault_of_step. -/
namespace K4
open PySem Dt
section
variable {τ τ1 : Sl} {c : Tst} {b : Bool} {x : T} {rest : Stm}
theorem guard1 (h : c τ = some (b, τ1)) : mSeq (mIf c (mSeq (mRet (sCst x)) mNil) mNil) rest τ = if b = true then some (.rt (.v x) τ1) else rest τ1 := by
  cases b with
  | true =>
    have e : mIf c (mSeq (mRet (sCst x)) mNil) mNil τ = some (.rt (.v x) τ1) := by
      unfold mIf
      rw [h]
      rfl
    rw [mSeq_rt e]
    rfl
  | false =>
    have e : mIf c (mSeq (mRet (sCst x)) mNil) mNil τ = some (.nx τ1) := by
      unfold mIf
      rw [h]
      rfl
    rw [mSeq_nx e]
    rfl
theorem any_filter {α : Type} (p : α → Bool) : ∀ l : List α, (!(l.filter p).isEmpty) = l.any p
  | [] => rfl
  | a :: l => by
    rw [List.any_cons, List.filter_cons]
    cases h : p a with
    | true => simp
    | false => simp [any_filter p l]
/-- [..] != [], what stands in the block's own slot is filtered -/
theorem et_some {s : Src} {i : Nat} {l : List T} {p : T → Bool} {n : Nat} (h : sLc s (tgt1 i) [i] c (sVar i) τ = some (.f (.lst (l.filter p)), τ1)) (ho : ∀ x ∈ l, okD n x) (hn : n < 64) :
    tstOf (sCmp .NotEq (sLc s (tgt1 i) [i] c (sVar i)) (sLst aNil)) τ = some (l.any p, τ1) := by
  have e0 : sLst aNil τ1 = some (.f (.lst []), τ1) := by simp [sLst, aNil, Sl.escs]
  have e1 : sCmp .NotEq (sLc s (tgt1 i) [i] c (sVar i)) (sLst aNil) τ = some (.v (.bl (l.any p)), τ1) := by
    unfold sCmp s2
    rw [h]
    dsimp only
    rw [e0]
    show (match (cmpT .NotEq (.lst (l.filter p)) (.lst [])).map fun r => Od.v (.bl r) with | some o => some (o, τ1) | none => none) = _
    rw [cmp_nnil (fun x hx => ho x (List.mem_filter.mp hx).1) hn, any_filter]
    rfl
  unfold tstOf
  rw [e1]
  rfl
theorem ev_get2 {a d f : Dt.Sem} {l : List (T × T)} {u v r : T} {z : Od} (h1 : Eo τ a (.dct l)) (h2 : Eo τ d u) (h3 : f τ = some (z, τ)) (h4 : z.sh = .v v) (h : gGet2 (.dct l) u v = some r) : Ev τ (sGet2 a d f) r := by
  obtain ⟨o1, a1, a2⟩ := h1
  obtain ⟨o2, b1, b2⟩ := h2
  unfold Ev sGet2
  rw [a1]
  dsimp only
  rw [a2]
  dsimp only
  rw [b1]
  dsimp only
  rw [h3]
  dsimp only
  rw [h4]
  show (match τ.tr o1.sh, τ.tr o2.sh with
    | some t, some u => (match gGet2 t u v with
      | some r => some (Od.v r, τ)
      | none => none)
    | _, _ => none) = _
  rw [a2, b2]
  dsimp only
  rw [h]
end
theorem ix_behind {w : Str} {x : T} {r : List T} {k : Nat} (h : k < r.length) : ixT (.tup (.str w :: x :: r)) (.int ((k + 2 : Nat) : Int)) = some (r.getD k .non) := by
  show L2.atI (T.str w :: x :: r) ((k + 2 : Nat) : Int) = _
  unfold L2.atI L2.ixN
  rw [if_pos (by omega), if_pos (by simp only [List.length_cons]; omega)]
  show (T.str w :: x :: r)[((k + 2 : Nat) : Int).toNat]? = _
  rw [Int.toNat_natCast]
  simp [h]
theorem getD_mem {r : List T} {k : Nat} (h : k < r.length) : r.getD k .non ∈ r := by
  rw [List.getD_eq_getElem?_getD, List.getElem?_eq_getElem h]
  exact List.getElem_mem h
theorem ix_at {l : List T} {k : Nat} {x : T} (h : l[k]? = some x) : ixT (.tup l) (.int (k : Int)) = some x := by
  have hk : k < l.length := by
    rcases Nat.lt_or_ge k l.length with q | q
    · exact q
    · rw [List.getElem?_eq_none q] at h; cases h
  show L2.atI l (k : Int) = _
  unfold L2.atI L2.ixN
  rw [if_pos (by omega), if_pos (by omega)]
  show l[((k : Nat) : Int).toNat]? = _
  rw [Int.toNat_natCast, h]
theorem ixl_at {l : List T} {k : Nat} {x : T} (h : l[k]? = some x) : ixT (.lst l) (.int (k : Int)) = some x := ix_at (l := l) h
theorem cmp_en {a b : T} (ha : En a) (hb : En b) : cmpT .Eq a b = some (eqT a b) := by
  have h1 := (en_ok ha).e (by decide)
  have h2 := (en_ok hb).e (by decide)
  simp only [cmpT, h1, h2, Bool.and_self, if_true]
def sameT (r : List T) (t : T) : Bool := match t with
  | .tup [.int a, .int b] => eqT (r.getD (a.toNat - 2) .non) (r.getD (b.toNat - 2) .non)
  | _ => false
theorem sameT_pair (r : List T) (q : Nat × Nat) : sameT r (pairT q) = sameP r q := by
  show eqT (r.getD ((((q.1 + 2 : Nat) : Int)).toNat - 2) .non) (r.getD ((((q.2 + 2 : Nat) : Int)).toNat - 2) .non) = eqT _ _
  rw [Int.toNat_natCast, Int.toNat_natCast]
  rfl
theorem name_str {x : T} {z : Str} {m : Int} (h : nameT x z m = true) : isStr x = true := by
  cases x with
  | str s => rfl
  | _ => cases h
theorem points_at {w : Str} {x : T} {r : List T} {n : Int} {m : Str} (hk : kindF w = some (n, m)) (hr : (r.length : Int) = n + m.length) : cutT (.str w :: x :: r) (some 2) (some (2 + n)) = r.take n.toNat := by
  obtain ⟨k, rfl, _⟩ := kind_nat hk
  have e := cut_mid (l := .str w :: x :: r) 2 (2 + k) (by omega) (by simp only [List.length_cons]; omega)
  have e2 : (2 : Int) + (k : Int) = ((2 + k : Nat) : Int) := by omega
  rw [e2]
  show cutT _ (some ((2 : Nat) : Int)) _ = _
  rw [e]
  simp
theorem numbers_at {w : Str} {x : T} {r : List T} {n : Int} {m : Str} (hk : kindF w = some (n, m)) : cutT (.str w :: x :: r) (some (2 + n)) none = r.drop n.toNat := by
  obtain ⟨k, rfl, _⟩ := kind_nat hk
  have e2 : (2 : Int) + (k : Int) = ((2 + k : Nat) : Int) := by omega
  rw [e2, cut_from, Int.toNat_natCast, Nat.add_comm]
  rfl
theorem p_fault_of_step {t : T} {ns : List T} (ht : StepT t) (hn : Strs ns) : F_fault_of_step [t, .lst ns] = some (.ret (rsnT (reasonS t ns)) false []) := by
  obtain ⟨l, hl, hz, he⟩ := ht
  have e : F_fault_of_step [t, .lst ns] = finF [.S, .B] (m_fault_of_step [some (t, .shr), some (.lst ns, .bor), none, none, none]) := runF_at rfl
  rw [e]
  unfold m_fault_of_step
  have v0 : Ev [some (t, .shr), some (.lst ns, .bor), none, none, none] (sVar 0) t := ev_var rfl
  have c1 : Ev [some (t, .shr), some (.lst ns, .bor), none, none, none] (sCall [.S] F_is_step (aCons (sVar 0) aNil)) (.bl (isStepB t)) := ev_call (xs := [.v t]) (a_cons v0 a_nil) rfl (p_is_step (hl.imp (fun h => ⟨l, h⟩) fun h => ⟨l, h⟩))
  rw [guard1 (et_not (et_of c1.o))]
  cases hs : isStepB t with
  | false =>
    rw [isStep_no hs]
    rfl
  | true =>
    obtain ⟨w, x, r, n, m, rfl, hk, hr⟩ := isStep_yes hs
    have hl' : l = .str w :: x :: r := by
      rcases hl with hl | hl
      · cases hl; rfl
      · cases hl
    subst hl'
    have hx : En x := he x (by simp)
    have hre : ∀ y ∈ r, En y := fun y hy => he y (by simp [hy])
    have hrl : r.length ≤ 50 := by
      simp only [List.length_cons] at hz
      omega
    have big : (50 : Nat) ≤ sizeLine := by decide
    have rs : reasonS (.tup (.str w :: x :: r)) ns = why w x r ns n m := by
      unfold reasonS
      dsimp only
      rw [hk]
      exact if_pos hr
    rw [rs]
    unfold why
    simp only [Bool.not_true, Bool.false_eq_true, if_false]
    generalize hτ : ([some (.tup (.str w :: x :: r), .shr), some (.lst ns, .bor), none, none, none] : Sl) = τ
    rw [hτ] at v0
    have v1 : Eo τ (sVar 1) (.lst ns) := by rw [← hτ]; exact eo_var (i := 1) rfl
    have x1 : Ev τ (sIx (sVar 0) (sCst (.int 1))) x := ev_ix v0.o ev_cst.o (ix_at (k := 1) rfl)
    have c2 : Ev τ (sCall [.S] F_is_point_name (aCons (sIx (sVar 0) (sCst (.int 1))) aNil)) (.bl (nameT x upper 3)) := ev_call (xs := [.v x]) (a_cons x1 a_nil) rfl (p_is_point_name hx)
    rw [guard1 (et_not (et_of c2.o))]
    have end_ : ∀ {z : T}, finF [.S, .B] (some (.rt (.v z) τ)) = some (.ret z false []) := fun {z} => by rw [← hτ]; rfl
    cases h2 : nameT x upper 3 with
    | false =>
      simp only [Bool.not_false, if_true]
      rw [end_]
      rfl
    | true =>
      simp only [Bool.not_true, Bool.false_eq_true, if_false, Bool.true_eq_false]
      have c3 : Et τ (tstOf (sCmp .In (sIx (sVar 0) (sCst (.int 1))) (sVar 1))) (memB x ns) := et_of (ev_cmp (op := .In) x1.o v1 (in_strs (name_str h2) hn)).o
      rw [guard1 c3]
      cases h3 : memB x ns with
      | true =>
        simp only [if_true]
        rw [end_]
        rfl
      | false =>
        simp only [Bool.false_eq_true, if_false]
        have g4 : sCall [.S] F_points_of (aCons (sVar 0) aNil) τ = some (.f (.lst (r.take n.toNat)), τ) := callF_at (xs := [.v (.tup (.str w :: x :: r))]) (a_cons v0 a_nil) rfl (by rw [p_points_of hk, points_at hk hr])
        have l4 := lc_filter1 (τ := τ) (i := 2) (c := tOrS (tNotS (tstOf (sIsi "str" (sVar 2)))) (tstOf (sCmp .NotIn (sVar 2) (sVar 1)))) (p := badP ns) (by rw [← hτ]; exact (by decide : 2 < 5)) (by rw [← hτ]; rfl) (src_f g4 rfl) (fun y hy => by
          have vy : Ev (τ.set 2 (some (y, .shr))) (sVar 2) y := by rw [← hτ]; exact ev_var (i := 2) rfl
          have v1y : Eo (τ.set 2 (some (y, .shr))) (sVar 1) (.lst ns) := by rw [← hτ]; exact eo_var (i := 1) rfl
          have q := ev_isi (n := "str") vy.o
          rw [isi_str] at q
          exact et_orb (et_not (et_of q.o)) fun h => by
            have hy' : isStr y = true := by simpa using h
            exact et_of (ev_cmp vy.o v1y (by
              show (inT y (.lst ns)).map not = _
              rw [in_strs hy' hn]
              rfl)).o) (by
            refine Nat.le_trans (List.length_take_le' _ _) (Nat.le_trans hrl big))
        rw [guard1 (et_some (n := 1) l4 (fun y hy => en_ok (hre y (List.mem_of_mem_take hy))) (by decide))]
        cases h4 : (r.take n.toNat).any (badP ns) with
        | true =>
          simp only [if_true]
          rw [end_]
          rfl
        | false =>
          simp only [Bool.false_eq_true, if_false]
          have g5 : sCall [.S] F_given_numbers (aCons (sVar 0) aNil) τ = some (.f (.lst (r.drop n.toNat)), τ) := callF_at (xs := [.v (.tup (.str w :: x :: r))]) (a_cons v0 a_nil) rfl (by rw [p_given_numbers hk, numbers_at hk])
          have l5 := lc_filter1 (τ := τ) (i := 3) (c := tstOf (sCall [.S, .S] F_wrong_number (aCons (sVar 0) (aCons (sVar 3) aNil)))) (p := wrongB m) (by rw [← hτ]; exact (by decide : 3 < 5)) (by rw [← hτ]; rfl) (src_f g5 rfl) (fun y hy => by
            have vy : Ev (τ.set 3 (some (y, .shr))) (sVar 3) y := by rw [← hτ]; exact ev_var (i := 3) rfl
            have v0y : Ev (τ.set 3 (some (y, .shr))) (sVar 0) (.tup (.str w :: x :: r)) := by rw [← hτ]; exact ev_var (i := 0) rfl
            exact et_of (ev_call (xs := [.v (.tup (.str w :: x :: r)), .v y]) (a_cons v0y (a_cons vy a_nil)) rfl (p_wrong_number hk (hre y (List.mem_of_mem_drop hy)))).o) (by
              rw [List.length_drop]
              omega)
          rw [guard1 (et_some (n := 1) l5 (fun y hy => en_ok (hre y (List.mem_of_mem_drop hy))) (by decide))]
          cases h5 : (r.drop n.toNat).any (wrongB m) with
          | true =>
            simp only [if_true]
            rw [end_]
            rfl
          | false =>
            simp only [Bool.false_eq_true, if_false]
            have g6 : Ev τ (sGet2 (sCst tAPART) (sIx (sVar 0) (sCst (.int 0))) (sTup aNil)) (.tup ((pairsF w).map pairT)) := ev_get2 (z := .v (.tup [])) (ev_cst (t := tAPART)).o (ix0 v0).o (ev_tup (ts := []) a_nil (Nat.zero_le _)) rfl (look_apart w)
            obtain ⟨k, rfl, _⟩ := kind_nat hk
            have l6 := lc_filter1 (τ := τ) (i := 4) (c := tstOf (sCmp .Eq (sIx (sVar 0) (sIx (sVar 4) (sCst (.int 0)))) (sIx (sVar 0) (sIx (sVar 4) (sCst (.int 1)))))) (p := sameT r) (by rw [← hτ]; exact (by decide : 4 < 5)) (by rw [← hτ]; rfl) (src_of g6 rfl) (fun y hy => by
              obtain ⟨q, hq, rfl⟩ := List.mem_map.mp hy
              obtain ⟨q1, q2⟩ := pairs_in hk q hq
              have k1 : q.1 < r.length := by omega
              have k2 : q.2 < r.length := by omega
              have vy : Ev (τ.set 4 (some (pairT q, .shr))) (sVar 4) (pairT q) := by rw [← hτ]; exact ev_var (i := 4) rfl
              have v0y : Ev (τ.set 4 (some (pairT q, .shr))) (sVar 0) (.tup (.str w :: x :: r)) := by rw [← hτ]; exact ev_var (i := 0) rfl
              rw [sameT_pair]
              exact et_of (ev_cmp (ev_ix v0y.o (ev_ix vy.o ev_cst.o rfl).o (ix_behind k1)).o (ev_ix v0y.o (ev_ix vy.o ev_cst.o rfl).o (ix_behind k2)).o (cmp_en (hre _ (getD_mem k1)) (hre _ (getD_mem k2)))).o) (by
                rw [List.length_map]
                have : (3 : Nat) ≤ sizeLine := by decide
                rcases pairs_shape w with h | ⟨p, h⟩ | ⟨p, q, h⟩ | ⟨p, q, s, h⟩ <;> rw [h] <;> simp <;> omega)
            rw [guard1 (et_some (n := 1) l6 (fun y hy => by
              obtain ⟨q, hq, rfl⟩ := List.mem_map.mp hy
              refine okD_tup fun z hz => ?_
              simp only [List.mem_cons, List.not_mem_nil, or_false] at hz
              rcases hz with rfl | rfl <;> exact okD_int) (by decide))]
            have e6 : ((pairsF w).map pairT).any (sameT r) = (pairsF w).any (sameP r) := by
              have z : (sameT r ∘ pairT) = sameP r := funext fun q => sameT_pair r q
              rw [List.any_map, z]
            rw [e6]
            cases h6 : (pairsF w).any (sameP r) with
            | true =>
              simp only [if_true]
              rw [end_]
              rfl
            | false =>
              simp only [Bool.false_eq_true, if_false]
              rw [mSeq_rt (mRet_v ev_cst), end_]
              rfl
end K4
set_option maxHeartbeats 4000000
/-! K4p24: the law's tables. -/
namespace K4
open PySem Dt
def sizesL : List (T × T) := [(.str "free", .int 0), (.str "at", .int 2), (.str "on", .int 3), (.str "middle", .int 2), (.str "corner", .int 3), (.str "mirror", .int 2), (.str "square", .int 2), (.str "meet", .int 4), (.str "foot", .int 3), (.str "fold", .int 3), (.str "centre", .int 3), (.str "second", .int 3), (.str "inverse", .int 3), (.str "circle", .int 3), (.str "like", .int 5)]
def sizes1 : List (T × T) := [(.str "free", .int 0), (.str "at", .int 2), (.str "on", .int 3), (.str "middle", .int 2), (.str "corner", .int 3), (.str "mirror", .int 2), (.str "square", .int 2), (.str "meet", .int 4), (.str "foot", .int 3), (.str "fold", .int 3)]
def i2 (a b : Int) : T := .lst [.int a, .int b]
def pairs1 : List (T × T) := [(.str "on", i2 0 1), (.str "middle", i2 0 1), (.str "square", i2 0 1), (.str "meet", .lst [.int 0, .int 1, .int 2, .int 3]), (.str "foot", i2 1 2), (.str "fold", i2 1 2)]
def pairsL : List (T × T) := [(.str "on", i2 0 1), (.str "middle", i2 0 1), (.str "square", i2 0 1), (.str "meet", .lst [.int 0, .int 1, .int 2, .int 3]), (.str "foot", i2 1 2), (.str "fold", i2 1 2), (.str "second", .lst [.int 0, .int 1, .int 0, .int 2]), (.str "inverse", i2 1 2), (.str "circle", i2 0 1), (.str "like", i2 3 4), (.str "centre", .lst [.int 0, .int 1, .int 0, .int 2, .int 1, .int 2])]
def sizeT (p : Int × Str) : T := .int (p.1 + p.2.length)
theorem ifs2 {c : Prop} [Decidable c] {a b : Option T} {a' b' : Option (Int × Str)} (h1 : a = a'.map sizeT) (h2 : b = b'.map sizeT) : (if c then a else b) = (if c then a' else b').map sizeT := by
  split <;> assumption
theorem look_sizes (w : Str) : ixT (.dct sizesL) (.str w) = (kindF w).map sizeT := by
  show look sizesL (.inr w) = _
  unfold kindF sizesL
  iterate 15 (rw [look_str]; refine ifs2 (by kernel_rfl) ?_)
  rfl
theorem in_sizes (w : Str) : inT (.str w) (.dct sizesL) = some (kindF w).isSome := by
  have h := look_sizes w
  have e : ixT (.dct sizesL) (.str w) = look sizesL (.inr w) := rfl
  show some (look sizesL (.inr w)).isSome = _
  rw [← e, h]
  cases kindF w <;> rfl
def rowI : List (Nat × Nat) → List Nat
  | [] => []
  | p :: r => p.1 :: p.2 :: rowI r
def rowT (ps : List (Nat × Nat)) : T := .lst ((rowI ps).map fun i : Nat => T.int ((i : Nat) : Int))
theorem look_rows (w : Str) : gGet2 (.dct pairsL) (.str w) (.lst []) = some (rowT (pairsF w)) := by
  by_cases h1 : w = "on"
  · subst h1; kernel_rfl
  by_cases h2 : w = "middle"
  · subst h2; kernel_rfl
  by_cases h3 : w = "corner"
  · subst h3; kernel_rfl
  by_cases h4 : w = "square"
  · subst h4; kernel_rfl
  by_cases h5 : w = "meet"
  · subst h5; kernel_rfl
  by_cases h6 : w = "foot"
  · subst h6; kernel_rfl
  by_cases h7 : w = "fold"
  · subst h7; kernel_rfl
  by_cases h8 : w = "centre"
  · subst h8; kernel_rfl
  by_cases h9 : w = "second"
  · subst h9; kernel_rfl
  by_cases h10 : w = "inverse"
  · subst h10; kernel_rfl
  by_cases h11 : w = "circle"
  · subst h11; kernel_rfl
  by_cases h12 : w = "like"
  · subst h12; kernel_rfl
  have e1 : pairsF w = [] := by
    unfold pairsF
    rw [if_neg h1, if_neg h2, if_neg h3, if_neg h4, if_neg h5, if_neg h6, if_neg h7, if_neg h8, if_neg h9, if_neg h10, if_neg h11, if_neg h12]
  have e2 : look pairsL (.inr w) = none := by
    unfold pairsL
    rw [look_str, if_neg h1, look_str, if_neg h2, look_str, if_neg h4, look_str, if_neg h5, look_str, if_neg h6, look_str, if_neg h7, look_str, if_neg h9, look_str, if_neg h10, look_str, if_neg h11, look_str, if_neg h12, look_str, if_neg h8]
    rfl
  show some ((look pairsL (.inr w)).getD (.lst [])) = _
  rw [e1, e2]
  rfl
theorem kind_cases {w : Str} {n : Int} {m : Str} (h : kindF w = some (n, m)) : (w = "free" ∧ n = 0 ∧ m = "") ∨ (w = "at" ∧ n = 0 ∧ m = "xy") ∨ ((w = "on" ∨ w = "circle") ∧ n = 2 ∧ m = "n") ∨ (w ≠ "free" ∧ w ≠ "at" ∧ w ≠ "on" ∧ w ≠ "circle" ∧ m = "") := by
  unfold kindF at h
  revert h
  iterate 15 refine ifc (fun e hk => by subst e; cases hk; decide +kernel) ?_
  intro hk
  cases hk
def isOn (w : Str) : Bool := memB (.str w) [.str "on", .str "circle"]
theorem isOn_eq (w : Str) : isOn w = (decide (w = "on") || decide (w = "circle")) := by
  show (eqT (.str "on") (.str w) || (eqT (.str "circle") (.str w) || false)) = _
  rw [eq_strs, eq_strs, Bool.or_false]
  congr 1 <;> simp only [eq_comm]
theorem strs_on : Strs [.str "on", .str "circle"] := fun z hz => by
  simp only [List.mem_cons, List.not_mem_nil, or_false] at hz
  rcases hz with rfl | rfl
  · exact ⟨_, rfl, by decide +kernel⟩
  · exact ⟨_, rfl, by decide +kernel⟩
theorem et_on {τ : Sl} {f : Dt.Sem} {w : Str} (h : Ev τ f (.str w)) : Et τ (tstOf (sCmp .In f (sLst (aCons (sCst (.str "on")) (aCons (sCst (.str "circle")) aNil))))) (isOn w) :=
  et_of (ev_cmp (op := .In) h.o ⟨_, eo_lst (ts := [.str "on", .str "circle"]) (a_cons ev_cst (a_cons ev_cst a_nil)) (by decide), rfl⟩ (in_strs (x := .str w) rfl strs_on)).o
/-! the row of places, two by two -/
theorem rowI_get : ∀ (ps : List (Nat × Nat)) (i : Nat) (h : i < ps.length), (rowI ps)[i * 2]? = some ps[i].1 ∧ (rowI ps)[i * 2 + 1]? = some ps[i].2
  | p :: r, 0, _ => ⟨rfl, rfl⟩
  | p :: r, i + 1, h => by
    have ih := rowI_get r i (by simpa using h)
    have e1 : (i + 1) * 2 = i * 2 + 1 + 1 := by omega
    have e2 : (i + 1) * 2 + 1 = i * 2 + 1 + 1 + 1 := by omega
    refine ⟨?_, ?_⟩
    · show (p.1 :: p.2 :: rowI r)[(i + 1) * 2]? = _
      rw [e1]
      exact ih.1
    · show (p.1 :: p.2 :: rowI r)[(i + 1) * 2 + 1]? = _
      rw [e2]
      exact ih.2
theorem rowI_len : ∀ ps : List (Nat × Nat), (rowI ps).length = 2 * ps.length
  | [] => rfl
  | p :: r => by
    show (rowI r).length + 1 + 1 = 2 * (r.length + 1)
    rw [rowI_len r]
    omega
theorem rgc_row (k : Nat) (h : k ≤ 3) : rgc 0 ((2 * k : Nat) : Int) 2 = true ∧ (Builtin.Range.rangeSize 0 ((2 * k : Nat) : Int) 2).toNat = k := match k, h with
  | 0, _ => ⟨by kernel_rfl, by kernel_rfl⟩
  | 1, _ => ⟨by kernel_rfl, by kernel_rfl⟩
  | 2, _ => ⟨by kernel_rfl, by kernel_rfl⟩
  | 3, _ => ⟨by kernel_rfl, by kernel_rfl⟩
def sameR (r : List T) (ps : List (Nat × Nat)) (t : T) : Bool := match t with
  | .int i => eqT (r.getD ((rowI ps).getD i.toNat 0) .non) (r.getD ((rowI ps).getD (i.toNat + 1) 0) .non)
  | _ => false
theorem sameR_at (r : List T) {ps : List (Nat × Nat)} {i : Nat} (h : i < ps.length) : sameR r ps (.int (0 + (i : Int) * 2)) = sameP r ps[i] := by
  obtain ⟨h1, h2⟩ := rowI_get ps i h
  have e : (0 + (i : Int) * 2).toNat = i * 2 := by omega
  show eqT (r.getD ((rowI ps).getD (0 + (i : Int) * 2).toNat 0) .non) (r.getD ((rowI ps).getD ((0 + (i : Int) * 2).toNat + 1) 0) .non) = _
  have g1 : (rowI ps).getD (i * 2) 0 = ps[i].1 := by rw [List.getD_eq_getElem?_getD, h1]; rfl
  have g2 : (rowI ps).getD (i * 2 + 1) 0 = ps[i].2 := by rw [List.getD_eq_getElem?_getD, h2]; rfl
  rw [e, g1, g2]
  rfl
theorem row_any (r : List T) (ps : List (Nat × Nat)) : (rangeC 0 2 ps.length).any (sameR r ps) = ps.any (sameP r) := by
  rw [Bool.eq_iff_iff, List.any_eq_true, List.any_eq_true]
  unfold rangeC
  constructor
  · rintro ⟨x, hx, h⟩
    obtain ⟨i, hi, rfl⟩ := List.mem_map.mp hx
    have hi' := List.mem_range.mp hi
    rw [sameR_at r hi'] at h
    exact ⟨_, List.getElem_mem hi', h⟩
  · rintro ⟨p, hp, h⟩
    obtain ⟨i, hi, rfl⟩ := List.getElem_of_mem hp
    exact ⟨_, List.mem_map.mpr ⟨i, List.mem_range.mpr hi, rfl⟩, by rw [sameR_at r hi]; exact h⟩
end K4
set_option maxHeartbeats 4000000
/-! K4p25: _law_reason. -/
namespace K4
open PySem Dt
section
variable {τ : Sl} {c : Tst} {f g : Dt.Sem} {b : Bool} {l : List T}
theorem Et.to {b' : Bool} (h : Et τ c b) (e : b = b') : Et τ c b' := e ▸ h
theorem sIf_tt (h : Et τ c true) : sIf c f g τ = f τ := by
  unfold sIf
  rw [show c τ = _ from h]
theorem sIf_ff (h : Et τ c false) : sIf c f g τ = g τ := by
  unfold sIf
  rw [show c τ = _ from h]
theorem ev_slTn (h : Ev τ f (.tup l)) {lo : Int} : Ev τ (sSl f (some (sCst (.int lo))) none) (.tup (cutT l (some lo) none)) := by
  unfold Ev sSl
  rw [show f τ = _ from h]
  rfl
end
theorem eq_unit {l : List T} : eqT (.tup l) (.tup []) = l.isEmpty := by
  cases l <;> simp [eqT, T.pd, T.pds, PyData.eqv, PyData.eqvAll]
abbrev rF (t : T) (ns : List T) (place : Int) (z : Option (T × Fl)) (pt : Option (T × Fl)) (pr rw : Option (T × Fl)) : Sl := [some (t, .shr), some (.lst ns, .bor), some (.int place, .shr), z, pt, pr, rw, none, none]
/-- the test of the word -/
theorem word_test {t : T} {τ : Sl} (ht : StepT t) (v0 : Ev τ (sVar 0) t) (v3 : Eo τ (sVar 3) (.dct sizesL)) :
    Et τ (tOrS (tNotS (tstOf (sIsi "tuple" (sVar 0)))) (tOrS (tstOf (sCmp .Eq (sVar 0) (sTup aNil))) (tOrS (tNotS (tstOf (sIsi "str" (sIx (sVar 0) (sCst (.int 0)))))) (tOrS (tstOf (sCmp .NotIn (sIx (sVar 0) (sCst (.int 0))) (sVar 3))) (tstOf (sCmp .NotEq (sBi gLen (aCons (sVar 0) aNil)) (sBin .Add (sCst (.int 2)) (sIx (sVar 3) (sIx (sVar 0) (sCst (.int 0))))))))))) (!isStepB t) := by
  obtain ⟨l, hl, hz, he⟩ := ht
  rcases hl with rfl | rfl
  · have e1 : Et τ (tNotS (tstOf (sIsi "tuple" (sVar 0)))) false := et_not (et_of (ev_isi (n := "tuple") v0.o).o)
    have ok : okE (.tup l) = true := (okD_tup (n := 1) fun x hx => en_ok (he x hx)).e (by decide)
    have e2 : Et τ (tstOf (sCmp .Eq (sVar 0) (sTup aNil))) l.isEmpty := et_of (ev_cmp v0.o (ev_tup (ts := []) a_nil (Nat.zero_le _)).o (by
      have h2 : okE (.tup []) = true := rfl
      simp only [cmpT, ok, h2, Bool.and_self, if_true, eq_unit])).o
    cases l with
    | nil => exact et_or e1 (fun _ => et_or (b2 := true) e2 (fun h => by cases h) fun _ => rfl) fun h => by cases h
    | cons x r =>
      have x0 := ix0 v0
      by_cases hx : ∃ w, x = .str w
      · obtain ⟨w, rfl⟩ := hx
        have e3 : Et τ (tNotS (tstOf (sIsi "str" (sIx (sVar 0) (sCst (.int 0)))))) false := et_not (et_of (ev_isi (n := "str") x0.o).o)
        have e4 : Et τ (tstOf (sCmp .NotIn (sIx (sVar 0) (sCst (.int 0))) (sVar 3))) (!(kindF w).isSome) := et_of (ev_cmp x0.o v3 (by
          show (inT (.str w) (.dct sizesL)).map not = _
          rw [in_sizes]; rfl)).o
        cases hk : kindF w with
        | none =>
          rw [hk] at e4
          have : isStepB (.tup (.str w :: r)) = false := by
            show (match kindF w with | some (n, m) => decide (((r.length : Int) + 1) = 2 + n + m.length) | none => false) = false
            rw [hk]
          rw [this]
          exact et_or e1 (fun _ => et_or e2 (fun _ => et_or e3 (fun _ => et_or (b2 := true) e4 (fun h => by cases h) fun _ => rfl) fun h => by cases h) fun h => by cases h) fun h => by cases h
        | some p =>
          obtain ⟨n, m⟩ := p
          rw [hk] at e4
          have e5 : Et τ (tstOf (sCmp .NotEq (sBi gLen (aCons (sVar 0) aNil)) (sBin .Add (sCst (.int 2)) (sIx (sVar 3) (sIx (sVar 0) (sCst (.int 0))))))) (!isStepB (.tup (.str w :: r))) := et_of (ev_cmp (ev_bi1 (r := .int ((r.length : Int) + 1)) v0.o (by
              show some (T.int (((T.str w :: r).length : Nat) : Int), false) = _
              simp)).o (ev_bin (r := .int (2 + (n + m.length))) ev_cst.o (ev_ix (r := .int (n + m.length)) v3 x0.o (by rw [look_sizes, hk]; rfl)).o add_i).o (by
              show some (!eqT (.int _) (.int _)) = _
              rw [eq_ints]
              show _ = some (!(match kindF w with | some (n, m) => decide (((r.length : Int) + 1) = 2 + n + m.length) | none => false))
              rw [hk]
              have q : ((r.length : Int) + 1 = 2 + (n + m.length)) ↔ ((r.length : Int) + 1 = 2 + n + m.length) := by omega
              simp only [q])).o
          exact et_or e1 (fun _ => et_or e2 (fun _ => et_or e3 (fun _ => et_or e4 (fun _ => e5) fun h => by cases h) fun h => by cases h) fun h => by cases h) fun h => by cases h
      · have hs : isiT "str" x = false := by
          cases x with
          | str w => exact absurd ⟨w, rfl⟩ hx
          | _ => rfl
        have e3 : Et τ (tNotS (tstOf (sIsi "str" (sIx (sVar 0) (sCst (.int 0)))))) true := by
          have := et_not (et_of (ev_isi (n := "str") x0.o).o)
          rw [hs] at this
          exact this
        have : isStepB (.tup (x :: r)) = false := by
          cases x with
          | str w => exact absurd ⟨w, rfl⟩ hx
          | _ => rfl
        rw [this]
        exact et_or e1 (fun _ => et_or e2 (fun _ => et_or (b2 := true) e3 (fun h => by cases h) fun _ => rfl) fun h => by cases h) fun h => by cases h
  · have e1 : Et τ (tNotS (tstOf (sIsi "tuple" (sVar 0)))) true := et_not (et_of (ev_isi (n := "tuple") v0.o).o)
    exact et_or (b2 := true) e1 (fun h => by cases h) fun _ => rfl
/-- the points -/
theorem points_test {w : Str} {x : T} {r : List T} {n : Int} {m : Str} {τ : Sl} (v0 : Ev τ (sVar 0) (.tup (.str w :: x :: r))) (hk : kindF w = some (n, m)) (hr : (r.length : Int) = n + m.length) :
    sIf (tstOf (sCmp .Eq (sIx (sVar 0) (sCst (.int 0))) (sCst (.str "at")))) (sLst aNil) (sBi gList (aCons (sIf (tstOf (sCmp .In (sIx (sVar 0) (sCst (.int 0))) (sLst (aCons (sCst (.str "on")) (aCons (sCst (.str "circle")) aNil))))) (sSl (sVar 0) (some (sCst (.int 2))) (some (sCst (.int 4)))) (sSl (sVar 0) (some (sCst (.int 2))) none)) aNil)) τ = some (.f (.lst (r.take n.toNat)), τ) := by
  have x0 := ix0 v0
  have t1 := eq_word (z := "at") x0 (kind_word hk) (by decide +kernel)
  have t2 := et_on x0
  rcases kind_cases hk with ⟨rfl, rfl, rfl⟩ | ⟨rfl, rfl, rfl⟩ | ⟨hw, rfl, rfl⟩ | ⟨h1, h2, h3, h4, rfl⟩
  · rw [sIf_ff t1]
    have hr' : r = [] := List.eq_nil_of_length_eq_zero (by
      have : (("" : Str).length : Int) = 0 := by kernel_rfl
      omega)
    subst hr'
    have e : Ev τ (sIf (tstOf (sCmp .In (sIx (sVar 0) (sCst (.int 0))) (sLst (aCons (sCst (.str "on")) (aCons (sCst (.str "circle")) aNil))))) (sSl (sVar 0) (some (sCst (.int 2))) (some (sCst (.int 4)))) (sSl (sVar 0) (some (sCst (.int 2))) none)) (.tup []) := (sIf_ff t2).trans (ev_slTn v0)
    exact list_of e
  · rw [sIf_tt t1]
    exact eo_lst (ts := []) a_nil (Nat.zero_le _)
  · have n1 : w ≠ "at" := by rcases hw with rfl | rfl <;> decide +kernel
    have t3 := t1.to (decide_eq_false n1)
    have t4 := t2.to (show isOn w = true by rw [isOn_eq]; rcases hw with rfl | rfl <;> decide +kernel)
    rw [sIf_ff t3]
    have e : Ev τ (sIf (tstOf (sCmp .In (sIx (sVar 0) (sCst (.int 0))) (sLst (aCons (sCst (.str "on")) (aCons (sCst (.str "circle")) aNil))))) (sSl (sVar 0) (some (sCst (.int 2))) (some (sCst (.int 4)))) (sSl (sVar 0) (some (sCst (.int 2))) none)) (.tup (cutT (.str w :: x :: r) (some 2) (some (2 + 2)))) := (sIf_tt t4).trans (ev_slT2 v0 ev_cst)
    rw [points_at hk hr] at e
    exact list_of e
  · have t3 := t1.to (decide_eq_false h2)
    have t4 := t2.to (show isOn w = false by rw [isOn_eq, decide_eq_false h3, decide_eq_false h4]; rfl)
    rw [sIf_ff t3]
    have e : Ev τ (sIf (tstOf (sCmp .In (sIx (sVar 0) (sCst (.int 0))) (sLst (aCons (sCst (.str "on")) (aCons (sCst (.str "circle")) aNil))))) (sSl (sVar 0) (some (sCst (.int 2))) (some (sCst (.int 4)))) (sSl (sVar 0) (some (sCst (.int 2))) none)) (.tup (cutT (.str w :: x :: r) (some 2) none)) := (sIf_ff t4).trans (ev_slTn v0)
    have hl : (("" : Str).length : Int) = 0 := by kernel_rfl
    have e2 : cutT (.str w :: x :: r) (some 2) none = r.take n.toNat := by
      have := cut_from (l := .str w :: x :: r) 2
      rw [List.take_of_length_le (by omega)]
      exact this
    rw [e2] at e
    exact list_of e
/-- the numbers: both tests -/
theorem numbers_test {w : Str} {x : T} {r : List T} {n : Int} {m : Str} {τ : Sl} {rest : Stm} {ms : List Md} {R : Option Res} (v0 : Ev τ (sVar 0) (.tup (.str w :: x :: r))) (hk : kindF w = some (n, m)) (hr : (r.length : Int) = n + m.length) (he : ∀ y ∈ r, En y)
    (hR : finF ms (if (r.drop n.toNat).any (wrongB m) = true then some (.rt (.v (.str "number")) τ) else rest τ) = R) :
    finF ms (mSeq (mIf (tAndS (tstOf (sCmp .Eq (sIx (sVar 0) (sCst (.int 0))) (sCst (.str "at")))) (tOrS (tNotS (tstOf (sCall [.S] F__law_is_given (aCons (sIx (sVar 0) (sCst (.int 2))) aNil)))) (tNotS (tstOf (sCall [.S] F__law_is_given (aCons (sIx (sVar 0) (sCst (.int 3))) aNil)))))) (mSeq (mRet (sCst (.str "number"))) mNil) mNil)
      (mSeq (mIf (tAndS (tstOf (sCmp .In (sIx (sVar 0) (sCst (.int 0))) (sLst (aCons (sCst (.str "on")) (aCons (sCst (.str "circle")) aNil))))) (tAndS (tNotS (tstOf (sCall [.S] F__law_is_given (aCons (sIx (sVar 0) (sCst (.int 4))) aNil)))) (tNotS (tstOf (sCall [.S, .S, .S] F__law_is_name (aCons (sIx (sVar 0) (sCst (.int 4))) (aCons (sCst (.str "abcdefghijklmnopqrstuvwxyz")) (aCons (sCst (.int 2)) aNil)))))))) (mSeq (mRet (sCst (.str "number"))) mNil) mNil) rest) τ) = R := by
  rw [← hR]
  have x0 := ix0 v0
  have t1 := eq_word (z := "at") x0 (kind_word hk) (by decide +kernel)
  have t2 := et_on x0
  rcases kind_cases hk with ⟨rfl, rfl, rfl⟩ | ⟨rfl, rfl, rfl⟩ | ⟨hw, rfl, rfl⟩ | ⟨h1, h2, h3, h4, rfl⟩
  · have hr' : r = [] := List.eq_nil_of_length_eq_zero (by
      have : (("" : Str).length : Int) = 0 := by kernel_rfl
      omega)
    subst hr'
    rw [guard1 (et_and (b2 := false) t1 (fun h => by cases h) fun _ => rfl), if_neg Bool.false_ne_true, guard1 (et_and (b2 := false) t2 (fun h => by cases h) fun _ => rfl)]
    rfl
  · have hl : (("xy" : Str).length : Int) = 2 := by kernel_rfl
    match r, hr, he with
    | [a, b], _, he =>
      have a2 : Ev τ (sIx (sVar 0) (sCst (.int 2))) a := ev_ix v0.o ev_cst.o (ix_at (k := 2) rfl)
      have a3 : Ev τ (sIx (sVar 0) (sCst (.int 3))) b := ev_ix v0.o ev_cst.o (ix_at (k := 3) rfl)
      have g2 : Ev τ (sCall [.S] F__law_is_given (aCons (sIx (sVar 0) (sCst (.int 2))) aNil)) (.bl (givenB a)) := ev_call (xs := [.v a]) (a_cons a2 a_nil) rfl (p__law_is_given (he a (by simp)))
      have g3 : Ev τ (sCall [.S] F__law_is_given (aCons (sIx (sVar 0) (sCst (.int 3))) aNil)) (.bl (givenB b)) := ev_call (xs := [.v b]) (a_cons a3 a_nil) rfl (p__law_is_given (he b (by simp)))
      rw [guard1 (et_and t1 (fun _ => et_orb (et_not (et_of g2.o)) fun _ => et_not (et_of g3.o)) fun h => by cases h)]
      have q : (([a, b] : List T).drop (0 : Int).toNat).any (wrongB "xy") = (!givenB a || !givenB b) := by
        have nx : decide (("xy" : Str) = "n") = false := by decide +kernel
        show (wrongB "xy" a || (wrongB "xy" b || false)) = _
        unfold wrongB
        rw [nx]
        simp
      rw [q]
      cases hq : (!givenB a || !givenB b) with
      | true => rfl
      | false =>
        rw [if_neg Bool.false_ne_true, if_neg Bool.false_ne_true, guard1 (et_and (b2 := false) t2 (fun h => by cases h) fun _ => rfl)]
        rfl
    | [], h, _ => simp at h; omega
    | [_], h, _ => simp at h; omega
    | _ :: _ :: _ :: _, h, _ => simp only [List.length_cons] at h; omega
  · have hl : (("n" : Str).length : Int) = 1 := by kernel_rfl
    have n1 : w ≠ "at" := by rcases hw with rfl | rfl <;> decide +kernel
    have t3 := t1.to (decide_eq_false n1)
    have t4 := t2.to (show isOn w = true by rw [isOn_eq]; rcases hw with rfl | rfl <;> decide +kernel)
    match r, hr, he with
    | [a, b, y], _, he =>
      rw [guard1 (et_and (b2 := false) t3 (fun h => by cases h) fun _ => rfl), if_neg Bool.false_ne_true]
      have a4 : Ev τ (sIx (sVar 0) (sCst (.int 4))) y := ev_ix v0.o ev_cst.o (ix_at (k := 4) rfl)
      have ye : En y := he y (by simp)
      have g4 : Ev τ (sCall [.S] F__law_is_given (aCons (sIx (sVar 0) (sCst (.int 4))) aNil)) (.bl (givenB y)) := ev_call (xs := [.v y]) (a_cons a4 a_nil) rfl (p__law_is_given ye)
      have g5 : Ev τ (sCall [.S, .S, .S] F__law_is_name (aCons (sIx (sVar 0) (sCst (.int 4))) (aCons (sCst (.str "abcdefghijklmnopqrstuvwxyz")) (aCons (sCst (.int 2)) aNil)))) (.bl (nameT y lower 2)) := ev_call (xs := [.v y, .v (.str lower), .v (.int 2)]) (a_cons a4 (a_cons ev_cst (a_cons ev_cst a_nil))) rfl (by rw [name_same]; exact p_name ye)
      rw [guard1 (et_and t4 (fun _ => et_andb (et_not (et_of g4.o)) fun _ => et_not (et_of g5.o)) fun h => by cases h)]
      have q : (([a, b, y] : List T).drop (2 : Int).toNat).any (wrongB "n") = (!givenB y && !nameT y lower 2) := by
        show (wrongB "n" y || false) = _
        unfold wrongB
        rw [decide_eq_true rfl, Bool.true_and, Bool.or_false, Bool.and_comm]
      rw [q]
    | [], h, _ => simp at h; omega
    | [_], h, _ => simp at h; omega
    | [_, _], h, _ => simp at h; omega
    | _ :: _ :: _ :: _ :: _, h, _ => simp only [List.length_cons] at h; omega
  · have hl : (("" : Str).length : Int) = 0 := by kernel_rfl
    have t3 := t1.to (decide_eq_false h2)
    have t4 := t2.to (show isOn w = false by rw [isOn_eq, decide_eq_false h3, decide_eq_false h4]; rfl)
    rw [guard1 (et_and (b2 := false) t3 (fun h => by cases h) fun _ => rfl), if_neg Bool.false_ne_true, guard1 (et_and (b2 := false) t4 (fun h => by cases h) fun _ => rfl), if_neg Bool.false_ne_true]
    rw [List.drop_of_length_le (by omega)]
    rfl
end K4
set_option maxHeartbeats 4000000
/-! K4p26: _law_reason, whole. -/
namespace K4
open PySem Dt
theorem take_en {r : List T} {k : Nat} (h : ∀ y ∈ r, En y) : ∀ y ∈ r.take k, En y := fun y hy => h y (List.mem_of_mem_take hy)
theorem sameP_take {r : List T} {k : Nat} {p : Nat × Nat} (h1 : p.1 < k) (h2 : p.2 < k) : sameP (r.take k) p = sameP r p := by
  unfold sameP
  rw [List.getD_eq_getElem?_getD, List.getD_eq_getElem?_getD (l := r.take k), List.getElem?_take_of_lt h1, List.getElem?_take_of_lt h2, ← List.getD_eq_getElem?_getD, ← List.getD_eq_getElem?_getD]
/-- behind the tests of the numbers -/
theorem pairs_test {w : Str} {x : T} {r ns pts : List T} {n : Int} {m : Str} {place : Int} (hk : kindF w = some (n, m)) (hr : (r.length : Int) = n + m.length) (he : ∀ y ∈ r, En y) (hp : pts = r.take n.toNat) {a1 a2 : Dt.Sem}
    (e1 : mSet 5 a1 (rF (.tup (.str w :: x :: r)) ns place (some (.dct sizesL, .own)) (some (.lst pts, .shr)) none none) = some (.nx (rF (.tup (.str w :: x :: r)) ns place (some (.dct sizesL, .own)) (some (.lst pts, .shr)) (some (.dct pairs1, .own)) none)))
    (e2 : mSet 5 a2 (rF (.tup (.str w :: x :: r)) ns place (some (.dct sizesL, .own)) (some (.lst pts, .shr)) (some (.dct pairs1, .own)) none) = some (.nx (rF (.tup (.str w :: x :: r)) ns place (some (.dct sizesL, .own)) (some (.lst pts, .shr)) (some (.dct pairsL, .own)) none))) :
    finF [.S, .B, .S] (mSeq (mSet 5 a1) (mSeq (mSet 5 a2) (mSeq (mSet 6 (sGet2 (sVar 5) (sIx (sVar 0) (sCst (.int 0))) (sLst aNil)))
      (mSeq (mIf (tstOf (sCmp .NotEq (sLc (srcRange3 (sCst (.int 0)) (sBi gLen (aCons (sVar 6) aNil)) (sCst (.int 2))) (tgt1 8) [8] (tstOf (sCmp .Eq (sIx (sVar 4) (sIx (sVar 6) (sVar 8))) (sIx (sVar 4) (sIx (sVar 6) (sBin .Add (sVar 8) (sCst (.int 1))))))) (sVar 8)) (sLst aNil))) (mSeq (mRet (sCst (.str "equal"))) mNil) mNil)
        (mSeq (mRet (sCst .non)) mNil))))
      (rF (.tup (.str w :: x :: r)) ns place (some (.dct sizesL, .own)) (some (.lst pts, .shr)) none none)) = some (.ret (rsnT (if (pairsF w).any (sameP r) = true then some ("equal" : Str) else none)) false []) := by
  rw [mSeq_nx e1, mSeq_nx e2]
  obtain ⟨k, rfl, _⟩ := kind_nat hk
  have hk3 : (pairsF w).length ≤ 3 := by rcases pairs_shape w with h | ⟨p, h⟩ | ⟨p, q, h⟩ | ⟨p, q, s, h⟩ <;> rw [h] <;> simp
  have hpl : pts.length = k := by
    rw [hp, List.length_take, Int.toNat_natCast]
    omega
  have x0 : Ev (rF (.tup (.str w :: x :: r)) ns place (some (.dct sizesL, .own)) (some (.lst pts, .shr)) (some (.dct pairsL, .own)) none) (sIx (sVar 0) (sCst (.int 0))) (.str w) := ix0 (ev_var rfl)
  have g6 : Ev (rF (.tup (.str w :: x :: r)) ns place (some (.dct sizesL, .own)) (some (.lst pts, .shr)) (some (.dct pairsL, .own)) none) (sGet2 (sVar 5) (sIx (sVar 0) (sCst (.int 0))) (sLst aNil)) (rowT (pairsF w)) :=
    ev_get2 (z := .f (.lst [])) (eo_var (i := 5) rfl) x0.o (by simp [sLst, aNil, Sl.escs]) rfl (look_rows w)
  rw [mSeq_nx (mSet_v g6)]
  generalize hτ : (rF (.tup (.str w :: x :: r)) ns place (some (.dct sizesL, .own)) (some (.lst pts, .shr)) (some (.dct pairsL, .own)) none).set 6 (some (rowT (pairsF w), .shr)) = τ
  have hτl : τ.length = 9 := by rw [← hτ]; rfl
  have v4 : Ev τ (sVar 4) (.lst pts) := ev_var (by rw [← hτ]; rfl)
  have v6 : Ev τ (sVar 6) (rowT (pairsF w)) := ev_var (by rw [← hτ]; rfl)
  have end_ : ∀ {z : T}, finF [.S, .B, .S] (some (.rt (.v z) τ)) = some (.ret z false []) := fun {z} => by rw [← hτ]; rfl
  have src : srcRange3 (sCst (.int 0)) (sBi gLen (aCons (sVar 6) aNil)) (sCst (.int 2)) τ = some (rangeC 0 2 (pairsF w).length, τ) := by
    have b : Ev τ (sBi gLen (aCons (sVar 6) aNil)) (.int ((2 * (pairsF w).length : Nat) : Int)) := ev_bi1 v6.o (by
      show some (T.int ((((rowI (pairsF w)).map fun i : Nat => T.int ((i : Nat) : Int)).length : Nat) : Int), false) = _
      rw [List.length_map, rowI_len])
    obtain ⟨r1, r2⟩ := rgc_row (pairsF w).length hk3
    unfold srcRange3
    show (match (sBi gLen (aCons (sVar 6) aNil)) τ with
      | some (y, τ2) => (match some (Od.v (T.int 2), τ2) with
        | some (z, τ3) => (match τ3.tr (Od.v (T.int 0)).sh, τ3.tr y.sh, τ3.tr z.sh with
          | some (.int i), some (.int j), some (.int k) => if rgc i j k then some (rangeC i k (Builtin.Range.rangeSize i j k).toNat, τ3) else none
          | _, _, _ => none)
        | none => none)
      | none => none) = _
    rw [show sBi gLen (aCons (sVar 6) aNil) τ = _ from b]
    show (if rgc 0 ((2 * (pairsF w).length : Nat) : Int) 2 then some (rangeC 0 2 (Builtin.Range.rangeSize 0 ((2 * (pairsF w).length : Nat) : Int) 2).toNat, τ) else none) = _
    rw [if_pos r1, r2]
  have l8 := lc_filter1 (τ := τ) (i := 8) (c := tstOf (sCmp .Eq (sIx (sVar 4) (sIx (sVar 6) (sVar 8))) (sIx (sVar 4) (sIx (sVar 6) (sBin .Add (sVar 8) (sCst (.int 1))))))) (p := sameR pts (pairsF w)) (by rw [hτl]; decide) (by rw [← hτ]; rfl) src (fun y hy => by
    unfold rangeC at hy
    obtain ⟨i, hi, rfl⟩ := List.mem_map.mp hy
    have hi' := List.mem_range.mp hi
    obtain ⟨r1, r2⟩ := rowI_get (pairsF w) i hi'
    obtain ⟨q1, q2⟩ := pairs_in hk _ (List.getElem_mem hi')
    generalize hz : T.int (0 + (i : Int) * 2) = z
    have v8 : Ev (τ.set 8 (some (z, .shr))) (sVar 8) z := ev_var (by rw [List.getElem?_set_self (by rw [hτl]; decide)])
    have v4' : Ev (τ.set 8 (some (z, .shr))) (sVar 4) (.lst pts) := ev_var (by rw [← hτ]; rfl)
    have v6' : Ev (τ.set 8 (some (z, .shr))) (sVar 6) (rowT (pairsF w)) := ev_var (by rw [← hτ]; rfl)
    have z1 : z = .int ((i * 2 : Nat) : Int) := by
      rw [← hz]
      congr 1
      omega
    have j1 : Ev (τ.set 8 (some (z, .shr))) (sIx (sVar 6) (sVar 8)) (.int (((pairsF w)[i].1 : Nat) : Int)) := ev_ix v6'.o v8.o (by
      rw [z1]
      refine ixl_at ?_
      rw [List.getElem?_map, r1]
      rfl)
    have j2 : Ev (τ.set 8 (some (z, .shr))) (sIx (sVar 6) (sBin .Add (sVar 8) (sCst (.int 1)))) (.int (((pairsF w)[i].2 : Nat) : Int)) := ev_ix v6'.o (ev_bin (r := .int ((i * 2 + 1 : Nat) : Int)) v8.o ev_cst.o (by rw [z1]; rfl)).o (by
      refine ixl_at ?_
      rw [List.getElem?_map, r2]
      rfl)
    have k1 : (pairsF w)[i].1 < pts.length := by omega
    have k2 : (pairsF w)[i].2 < pts.length := by omega
    have en : ∀ y ∈ pts, En y := by rw [hp]; exact take_en he
    have p1 := ev_ix v4'.o j1.o (ixl_at (x := pts.getD (pairsF w)[i].1 .non) (by rw [List.getD_eq_getElem?_getD, List.getElem?_eq_getElem k1]; rfl))
    have p2 := ev_ix v4'.o j2.o (ixl_at (x := pts.getD (pairsF w)[i].2 .non) (by rw [List.getD_eq_getElem?_getD, List.getElem?_eq_getElem k2]; rfl))
    rw [← hz, sameR_at pts hi', hz]
    exact et_of (ev_cmp p1.o p2.o (cmp_en (en _ (getD_mem k1)) (en _ (getD_mem k2)))).o) (by
      unfold rangeC
      rw [List.length_map, List.length_range]
      exact Nat.le_trans hk3 (by decide))
  rw [guard1 (et_some (n := 0) l8 (fun y hy => by
    unfold rangeC at hy
    obtain ⟨i, hi, rfl⟩ := List.mem_map.mp hy
    exact okD_int) (by decide)), row_any]
  have e6 : (pairsF w).any (sameP pts) = (pairsF w).any (sameP r) := by
    rw [Bool.eq_iff_iff, List.any_eq_true, List.any_eq_true]
    constructor
    · rintro ⟨p, h1, h2⟩
      obtain ⟨q1, q2⟩ := pairs_in hk p h1
      rw [hp, sameP_take (by omega) (by omega)] at h2
      exact ⟨p, h1, h2⟩
    · rintro ⟨p, h1, h2⟩
      obtain ⟨q1, q2⟩ := pairs_in hk p h1
      refine ⟨p, h1, ?_⟩
      rw [hp, sameP_take (by omega) (by omega)]
      exact h2
  rw [e6]
  cases (pairsF w).any (sameP r) with
  | true =>
    simp only [if_true]
    rw [end_]
    rfl
  | false =>
    simp only [Bool.false_eq_true, if_false]
    rw [mSeq_rt (mRet_v ev_cst), end_]
    rfl
theorem p__law_reason {t : T} {ns : List T} {place : Int} (ht : StepT t) (hn : Strs ns) : F__law_reason [t, .lst ns, .int place] = some (.ret (rsnT (if 23 < place then some ("many" : Str) else reasonS t ns)) false []) := by
  have e : F__law_reason [t, .lst ns, .int place] = finF [.S, .B, .S] (m__law_reason (rF t ns place none none none none)) := runF_at rfl
  rw [e]
  unfold m__law_reason
  rw [mSeq_nx (τ1 := rF t ns place (some (.dct sizes1, .own)) none none none)]
  rotate_left
  · kernel_rfl
  rw [mSeq_nx (τ1 := rF t ns place (some (.dct sizesL, .own)) none none none)]
  rotate_left
  · kernel_rfl
  have tp : Et (rF t ns place (some (.dct sizesL, .own)) none none none) (tstOf (sCmp .Gt (sVar 2) (sCst (.int 23)))) (decide (23 < place)) := et_of (ev_cmp (ev_var (i := 2) rfl).o ev_cst.o rfl).o
  rw [guard1 tp]
  by_cases hp : 23 < place
  · rw [decide_eq_true hp, if_pos rfl, if_pos hp]
    rfl
  rw [decide_eq_false hp, if_neg Bool.false_ne_true, if_neg hp]
  rw [guard1 (word_test ht (ev_var rfl) (eo_var (i := 3) rfl))]
  obtain ⟨l, hl, hz, he⟩ := ht
  cases hs : isStepB t with
  | false =>
    rw [isStep_no hs]
    rfl
  | true =>
    obtain ⟨w, x, r, n, m, rfl, hk, hr⟩ := isStep_yes hs
    have hl' : l = .str w :: x :: r := by
      rcases hl with hl | hl
      · cases hl; rfl
      · cases hl
    subst hl'
    have hx : En x := he x (by simp)
    have hre : ∀ y ∈ r, En y := fun y hy => he y (by simp [hy])
    have hrl : r.length ≤ 50 := by
      simp only [List.length_cons] at hz
      omega
    have big : (50 : Nat) ≤ sizeLine := by decide
    have rs : reasonS (.tup (.str w :: x :: r)) ns = why w x r ns n m := by
      unfold reasonS
      dsimp only
      rw [hk]
      exact if_pos hr
    rw [rs]
    unfold why
    simp only [Bool.not_true, Bool.false_eq_true, if_false]
    have v0 : Ev (rF (.tup (.str w :: x :: r)) ns place (some (.dct sizesL, .own)) none none none) (sVar 0) (.tup (.str w :: x :: r)) := ev_var rfl
    have x1 : Ev (rF (.tup (.str w :: x :: r)) ns place (some (.dct sizesL, .own)) none none none) (sIx (sVar 0) (sCst (.int 1))) x := ev_ix v0.o ev_cst.o (ix_at (k := 1) rfl)
    have c2 : Ev (rF (.tup (.str w :: x :: r)) ns place (some (.dct sizesL, .own)) none none none) (sCall [.S, .S, .S] F__law_is_name (aCons (sIx (sVar 0) (sCst (.int 1))) (aCons (sCst (.str "ABCDEFGHIJKLMNOPQRSTUVWXYZ")) (aCons (sCst (.int 3)) aNil)))) (.bl (nameT x upper 3)) := ev_call (xs := [.v x, .v (.str upper), .v (.int 3)]) (a_cons x1 (a_cons ev_cst (a_cons ev_cst a_nil))) rfl (by rw [name_same]; exact p_name hx)
    rw [guard1 (et_not (et_of c2.o))]
    cases h2 : nameT x upper 3 with
    | false => rfl
    | true =>
      simp only [Bool.not_true, Bool.false_eq_true, if_false, Bool.true_eq_false]
      have c3 : Et (rF (.tup (.str w :: x :: r)) ns place (some (.dct sizesL, .own)) none none none) (tstOf (sCmp .In (sIx (sVar 0) (sCst (.int 1))) (sVar 1))) (memB x ns) := et_of (ev_cmp (op := .In) x1.o (eo_var (i := 1) rfl) (in_strs (name_str h2) hn)).o
      rw [guard1 c3]
      cases h3 : memB x ns with
      | true => rfl
      | false =>
        simp only [Bool.false_eq_true, if_false]
        rw [mSeq_nx (set_f (points_test v0 hk hr))]
        generalize hpt : r.take n.toNat = pts
        show finF [.S, .B, .S] (mSeq _ _ (rF (.tup (.str w :: x :: r)) ns place (some (.dct sizesL, .own)) (some (.lst pts, .own)) none none)) = _
        have l4 := lc_filter1 (τ := rF (.tup (.str w :: x :: r)) ns place (some (.dct sizesL, .own)) (some (.lst pts, .own)) none none) (τ1 := rF (.tup (.str w :: x :: r)) ns place (some (.dct sizesL, .own)) (some (.lst pts, .shr)) none none) (i := 7) (c := tOrS (tNotS (tstOf (sIsi "str" (sVar 7)))) (tstOf (sCmp .NotIn (sVar 7) (sVar 1)))) (p := badP ns) (by exact (by decide : 7 < 9)) rfl (src_own (i := 4) rfl rfl) (fun y hy => by
          have vy : Ev ((rF (.tup (.str w :: x :: r)) ns place (some (.dct sizesL, .own)) (some (.lst pts, .shr)) none none).set 7 (some (y, .shr))) (sVar 7) y := ev_var (i := 7) rfl
          have v1y : Eo ((rF (.tup (.str w :: x :: r)) ns place (some (.dct sizesL, .own)) (some (.lst pts, .shr)) none none).set 7 (some (y, .shr))) (sVar 1) (.lst ns) := eo_var (i := 1) rfl
          have q := ev_isi (n := "str") vy.o
          rw [isi_str] at q
          exact et_orb (et_not (et_of q.o)) fun h => by
            have hy' : isStr y = true := by simpa using h
            exact et_of (ev_cmp vy.o v1y (by
              show (inT y (.lst ns)).map not = _
              rw [in_strs hy' hn]
              rfl)).o) (by
            rw [← hpt]
            exact Nat.le_trans (List.length_take_le' _ _) (Nat.le_trans hrl big))
        rw [guard1 (et_some (n := 1) l4 (fun y hy => en_ok (hre y (List.mem_of_mem_take (by rw [hpt]; exact hy)))) (by decide))]
        cases h4 : pts.any (badP ns) with
        | true => rfl
        | false =>
          simp only [Bool.false_eq_true, if_false]
          refine numbers_test (ev_var rfl) hk hr hre ?_
          cases h5 : (r.drop n.toNat).any (wrongB m) with
          | true => rfl
          | false =>
            simp only [Bool.false_eq_true, if_false]
            exact pairs_test hk hr hre hpt.symm (by kernel_rfl) (by kernel_rfl)
end K4
set_option maxHeartbeats 4000000
/-! K4p27: check_steps. -/
namespace K4
open PySem Dt
def nameOf (t : T) : T := match t with
  | .tup (_ :: x :: _) => x
  | _ => .non
def strsOf (t : T) : List T := match t with
  | .tup (.str w :: _ :: r) => (match kindF w with
    | some (n, _) => (r.drop n.toNat).filter isStr
    | none => [])
  | _ => []
def newOf (t : T) (kn : List T) : Nat := match t with
  | .tup (.str w :: x :: r) => (match kindF w with
    | some (n, _) => newN w (x :: r) n kn
    | none => 0)
  | _ => 0
def chk : List T → Nat → List T → List T → Int → Option (Nat × Str)
  | [], _, _, _, _ => none
  | t :: r, p, ns, kn, f => if 24 ≤ p then some (p, ("many" : Str)) else match reasonS t ns with
    | some s => some (p, s)
    | none => if 16 < f + newOf t kn then some (p, ("many" : Str)) else chk r (p + 1) (ns ++ [nameOf t]) (kn ++ strsOf t) (f + newOf t kn)
/-- a step that is right -/
structure Valid (t : T) (ns : List T) (w : Str) (x : T) (r : List T) (n : Int) (m : Str) : Prop where
  eq : t = .tup (.str w :: x :: r)
  kind : kindF w = some (n, m)
  len : (r.length : Int) = n + m.length
  name : nameT x upper 3 = true
  new : memB x ns = false
  pts : (r.take n.toNat).any (badP ns) = false
  num : (r.drop n.toNat).any (wrongB m) = false
theorem ifn {c : Prop} [Decidable c] {s : Str} {b : Option Str} (h : (if c then some s else b) = none) : ¬ c ∧ b = none := by
  by_cases hc : c
  · rw [if_pos hc] at h; cases h
  · rw [if_neg hc] at h; exact ⟨hc, h⟩
theorem valid_of {t : T} {ns : List T} (h : reasonS t ns = none) : ∃ w x r n m, Valid t ns w x r n m := by
  unfold reasonS at h
  split at h
  · rename_i w x r
    split at h
    · rename_i n m hk
      by_cases hl : (r.length : Int) = n + m.length
      · rw [if_pos hl] at h
        unfold why at h
        obtain ⟨h1, h⟩ := ifn h
        obtain ⟨h2, h⟩ := ifn h
        obtain ⟨h3, h⟩ := ifn h
        obtain ⟨h4, h⟩ := ifn h
        exact ⟨w, x, r, n, m, rfl, hk, hl, by simpa using h1, by simpa using h2, by simpa using h3, by simpa using h4⟩
      · rw [if_neg hl] at h; cases h
    · cases h
  · cases h
def rOk (s : Str) : Prop := s.length ≤ 1000 ∧ sOk s = true
theorem ifs_ok {c : Prop} [Decidable c] {s : Str} {b : Option Str} (h1 : rOk s) (h2 : ∀ s, b = some s → rOk s) : ∀ z, (if c then some s else b) = some z → rOk z := by
  intro z h
  by_cases hc : c
  · rw [if_pos hc] at h; cases h; exact h1
  · rw [if_neg hc] at h; exact h2 z h
theorem rok (s : Str) (h1 : decide (s.length ≤ 1000) = true) (h2 : sOk s = true) : rOk s := ⟨of_decide_eq_true h1, h2⟩
theorem rok_many : rOk ("many" : Str) := rok _ (by decide +kernel) (by decide +kernel)
theorem reason_ok {t : T} {ns : List T} {s : Str} (h : reasonS t ns = some s) : rOk s := by
  have wd : rOk ("word" : Str) := rok _ (by decide +kernel) (by decide +kernel)
  unfold reasonS at h
  split at h
  · rename_i w x r
    split at h
    · rename_i n m hk
      refine (ifs_ok (c := ¬ (r.length : Int) = n + m.length) wd (b := why w x r ns n m) ?_) s ?_
      · unfold why
        refine ifs_ok (rok _ (by decide +kernel) (by decide +kernel)) (ifs_ok (rok _ (by decide +kernel) (by decide +kernel)) (ifs_ok (rok _ (by decide +kernel) (by decide +kernel)) (ifs_ok (rok _ (by decide +kernel) (by decide +kernel)) (ifs_ok (rok _ (by decide +kernel) (by decide +kernel)) ?_))))
        intro z h
        cases h
      · by_cases hl : (r.length : Int) = n + m.length
        · rw [if_pos hl] at h
          rw [if_neg (fun z => z hl)]
          exact h
        · rw [if_neg hl] at h
          rw [if_pos hl]
          exact h
    · cases h; exact wd
  · cases h; exact wd
section
variable {t : T} {ns kn : List T} {w : Str} {x : T} {r : List T} {n : Int} {m : Str}
theorem Valid.strs (v : Valid t ns w x r n m) : strsOf t = (r.drop n.toNat).filter isStr := by
  rw [v.eq]
  unfold strsOf
  dsimp only
  rw [v.kind]
theorem Valid.news (v : Valid t ns w x r n m) : newOf t kn = if w = "free" then 2 else ((strsOf t).filter fun x => !memB x kn).length := by
  rw [v.strs]
  have e := v.eq
  subst e
  unfold newOf
  dsimp only
  rw [v.kind]
  dsimp only
  unfold newN
  rw [numbers_at v.kind]
theorem Valid.nm (v : Valid t ns w x r n m) : nameOf t = x := by
  rw [v.eq]
  rfl
theorem Valid.nmS (v : Valid t ns w x r n m) (h : StepT t) : ∃ s, x = .str s ∧ sOk s = true := by
  obtain ⟨l, hl, hz, he⟩ := h
  rw [v.eq] at hl
  have hl' : l = .str w :: x :: r := by
    rcases hl with hl | hl
    · cases hl; rfl
    · cases hl
  subst hl'
  have hx : En x := he x (by simp)
  have := name_str v.name
  cases x with
  | str s => exact ⟨s, rfl, hx.1⟩
  | _ => cases this
theorem Valid.ens (v : Valid t ns w x r n m) (h : StepT t) : (∀ y ∈ r, En y) ∧ r.length ≤ 50 := by
  obtain ⟨l, hl, hz, he⟩ := h
  rw [v.eq] at hl
  have hl' : l = .str w :: x :: r := by
    rcases hl with hl | hl
    · cases hl; rfl
    · cases hl
  subst hl'
  simp only [List.length_cons] at hz
  exact ⟨fun y hy => he y (by simp [hy]), by omega⟩
theorem strs_filter {l : List T} (h : ∀ y ∈ l, En y) : Strs (l.filter isStr) := fun z hz => by
  obtain ⟨h1, h2⟩ := List.mem_filter.mp hz
  have := h z h1
  cases z with
  | str s => exact ⟨s, rfl, this.1⟩
  | _ => cases h2
theorem Valid.strsOk (v : Valid t ns w x r n m) (h : StepT t) : Strs (strsOf t) ∧ (strsOf t).length ≤ 50 := by
  obtain ⟨h1, h2⟩ := v.ens h
  rw [v.strs]
  refine ⟨strs_filter fun y hy => h1 y (List.mem_of_mem_drop hy), Nat.le_trans (List.length_filter_le _ _) ?_⟩
  rw [List.length_drop]
  omega
theorem Strs.app {a b : List T} (h1 : Strs a) (h2 : Strs b) : Strs (a ++ b) := fun z hz => (List.mem_append.mp hz).elim (h1 z) (h2 z)
end
section
variable {τ : Sl} {i : Nat} {l m : List T} {x : T} {f : Dt.Sem}
theorem append_at (h : τ[i]? = some (some (.lst l, .own))) (hf : Ev τ f x) (hz : l.length < sizeLine) : mExp (sMut i T.isLst gAppend (aCons f aNil)) τ = some (.nx (τ.set i (some (.lst (l ++ [x]), .own)))) := by
  have a : aCons f aNil τ = some ([.v x], τ) := a_cons hf a_nil
  have e : sMut i T.isLst gAppend (aCons f aNil) τ = some (.v .non, τ.set i (some (.lst (l ++ [x]), .own))) := by
    unfold sMut
    rw [h]
    dsimp only
    rw [if_pos ⟨rfl, .inl rfl⟩, a]
    show (match τ[i]? with
      | some (some (t, fl)) => if fl = Fl.own ∨ fl = Fl.chg then (match gAppend t [x] with
          | some (t', r) => some (Od.v r, τ.set i (some (t', fl)))
          | none => none) else none
      | _ => none) = _
    rw [h]
    dsimp only
    rw [if_pos (.inl rfl)]
    show (match (if l.length < sizeLine then some (T.lst (l ++ [x]), T.non) else none) with
      | some (t', r) => some (Od.v r, τ.set i (some (t', Fl.own)))
      | none => none) = _
    rw [if_pos hz]
  unfold mExp
  rw [e]
theorem extend_at (h : τ[i]? = some (some (.lst l, .own))) (hf : f τ = some (.f (.lst m), τ)) (hz : l.length + m.length ≤ sizeLine) : mExp (sMut i T.isLst gExtend (aCons f aNil)) τ = some (.nx (τ.set i (some (.lst (l ++ m), .own)))) := by
  have a : aCons f aNil τ = some ([.v (.lst m)], τ) := by
    unfold aCons
    rw [hf]
    rfl
  have e : sMut i T.isLst gExtend (aCons f aNil) τ = some (.v .non, τ.set i (some (.lst (l ++ m), .own))) := by
    unfold sMut
    rw [h]
    dsimp only
    rw [if_pos ⟨rfl, .inl rfl⟩, a]
    show (match τ[i]? with
      | some (some (t, fl)) => if fl = Fl.own ∨ fl = Fl.chg then (match gExtend t [.lst m] with
          | some (t', r) => some (Od.v r, τ.set i (some (t', fl)))
          | none => none) else none
      | _ => none) = _
    rw [h]
    dsimp only
    rw [if_pos (.inl rfl)]
    show (match (if l.length + m.length ≤ sizeLine then some (T.lst (l ++ m), T.non) else none) with
      | some (t', r) => some (Od.v r, τ.set i (some (t', Fl.own)))
      | none => none) = _
    rw [if_pos hz]
  unfold mExp
  rw [e]
theorem et_isN (h : Eo τ f x) (b : Bool) : Et τ (tstOf (sIsN b f)) (if b then !isNone x else isNone x) := et_of (Ev.o (by
  obtain ⟨o, a1, a2⟩ := h
  unfold Ev sIsN s1
  rw [a1]
  dsimp only
  rw [a2]))
end
abbrev cS (st : List T) (ns kn : List T) (f : Int) (x4 x5 x6 : Option (T × Fl)) : Sl := [some (.lst st, .shr), some (.lst ns, .own), some (.lst kn, .own), some (.int f, .shr), x4, x5, x6, none]
def cB : Stm := (mSeq (mSet 6 (sCall [.S, .B] F_fault_of_step (aCons (sVar 5) (aCons (sVar 1) aNil)))) (mSeq (mIf (tstOf (sCmp .GtE (sVar 4) (sCst (.int 24)))) (mSeq (mSet 6 (sCst (.str "many"))) mNil) (mSeq (mIf (tstOf (sIsN false (sVar 6))) (mSeq (mAug 3 .Add (sCall [.S, .B] F_new_numbers (aCons (sVar 5) (aCons (sVar 2) aNil)))) (mSeq (mIf (tstOf (sCmp .Gt (sVar 3) (sCst (.int 16)))) (mSeq (mSet 6 (sCst (.str "many"))) mNil) mNil) mNil)) mNil) mNil)) (mSeq (mIf (tstOf (sIsN true (sVar 6))) (mSeq (mRaise "InvalidStep" (aCons (sVar 4) (aCons (sVar 6) aNil))) mNil) mNil) (mSeq (mExp (sMut 1 T.isLst gAppend (aCons (sIx (sVar 5) (sCst (.int 1))) aNil))) (mSeq (mExp (sMut 2 T.isLst gExtend (aCons (sLc (srcOf (sCall [.S] F_given_numbers (aCons (sVar 5) aNil))) (tgt1 7) [7] (tstOf (sIsi "str" (sVar 7))) (sVar 7)) aNil))) mNil)))))
/-- the end of a turn, a reason being known -/
def cE : Stm := (mSeq (mIf (tstOf (sIsN true (sVar 6))) (mSeq (mRaise "InvalidStep" (aCons (sVar 4) (aCons (sVar 6) aNil))) mNil) mNil) (mSeq (mExp (sMut 1 T.isLst gAppend (aCons (sIx (sVar 5) (sCst (.int 1))) aNil))) (mSeq (mExp (sMut 2 T.isLst gExtend (aCons (sLc (srcOf (sCall [.S] F_given_numbers (aCons (sVar 5) aNil))) (tgt1 7) [7] (tstOf (sIsi "str" (sVar 7))) (sVar 7)) aNil))) mNil)))
theorem mSeq_ex {a b : Stm} {τ τ1 : Sl} {c : Str} {l : List T} (h : a τ = some (.ex c l τ1)) : mSeq a b τ = some (.ex c l τ1) := by
  unfold mSeq
  rw [h]
section
variable {st ns kn : List T} {f : Int} {p : Nat} {t : T} {x6 : Option (T × Fl)} {s : Str}
theorem cE_bad (hp : p < 1000) (hs : rOk s) : cE (cS st ns kn f (some (.int (p : Int), .shr)) (some (t, .shr)) (some (.str s, .shr))) = some (.ex "InvalidStep" [.int (p : Int), .str s] (cS st ns kn f (some (.int (p : Int), .shr)) (some (t, .shr)) (some (.str s, .shr)))) := by
  unfold cE
  have e1 := et_isN (τ := cS st ns kn f (some (.int (p : Int), .shr)) (some (t, .shr)) (some (.str s, .shr))) (f := sVar 6) (x := .str s) (ev_var rfl).o true
  refine mSeq_ex ((mIf_tt e1).trans (mSeq_ex ?_))
  unfold mRaise
  rw [a_cons (ev_var (i := 4) rfl) (a_cons (ev_var (i := 6) rfl) a_nil)]
  show (if ((p : Int)).natAbs < 1000000 ∧ s.length ≤ 1000 then some (Fw.ex "InvalidStep" [.int (p : Int), .str s] _) else none) = _
  rw [if_pos ⟨by omega, hs.1⟩]
theorem cE_good {w : Str} {x : T} {r : List T} {n : Int} {m : Str} (ht : StepT t) (v : Valid t ns w x r n m) (h1 : ns.length ≤ 1000) (h2 : kn.length ≤ 10000) :
    cE (cS st ns kn f (some (.int (p : Int), .shr)) (some (t, .shr)) (some (.non, .shr))) = some (.nx (cS st (ns ++ [nameOf t]) (kn ++ strsOf t) f (some (.int (p : Int), .shr)) (some (t, .shr)) (some (.non, .shr)))) := by
  unfold cE
  have e1 := et_isN (τ := cS st ns kn f (some (.int (p : Int), .shr)) (some (t, .shr)) (some (.non, .shr))) (f := sVar 6) (x := .non) (ev_var rfl).o true
  rw [mSeq_nx ((mIf_ff e1).trans rfl)]
  have v5 : ∀ a b, Ev (cS st a b f (some (.int (p : Int), .shr)) (some (t, .shr)) (some (.non, .shr))) (sVar 5) t := fun a b => ev_var (i := 5) rfl
  have x1 : Ev (cS st ns kn f (some (.int (p : Int), .shr)) (some (t, .shr)) (some (.non, .shr))) (sIx (sVar 5) (sCst (.int 1))) (nameOf t) := by
    have q := v5 ns kn
    rw [v.nm]
    exact ev_ix q.o ev_cst.o (by rw [v.eq]; exact ix_at (k := 1) rfl)
  have b1 : (1000 : Nat) < sizeLine := by decide
  have b2 : (10050 : Nat) ≤ sizeLine := by decide
  rw [mSeq_nx (append_at (i := 1) rfl x1 (by omega))]
  obtain ⟨en, hr⟩ := v.ens ht
  obtain ⟨s1, s2⟩ := v.strsOk ht
  have g : sCall [.S] F_given_numbers (aCons (sVar 5) aNil) (cS st (ns ++ [nameOf t]) kn f (some (.int (p : Int), .shr)) (some (t, .shr)) (some (.non, .shr))) = some (.f (.lst (r.drop n.toNat)), cS st (ns ++ [nameOf t]) kn f (some (.int (p : Int), .shr)) (some (t, .shr)) (some (.non, .shr))) :=
    callF_at (xs := [.v t]) (a_cons (v5 _ _) a_nil) rfl (by rw [v.eq, p_given_numbers v.kind, numbers_at v.kind])
  have l7 := lc_filter1 (i := 7) (c := tstOf (sIsi "str" (sVar 7))) (p := isStr) (by exact (by decide : 7 < 8)) rfl (src_f g rfl) (fun x hx => et_of (Ev.o (by
      have q := ev_isi (n := "str") (ev_var (τ := (cS st (ns ++ [nameOf t]) kn f (some (.int (p : Int), .shr)) (some (t, .shr)) (some (.non, .shr))).set 7 (some (x, .shr))) (i := 7) rfl).o
      rw [isi_str] at q
      exact q))) (by
      rw [List.length_drop]
      have b3 : (50 : Nat) ≤ sizeLine := by decide
      omega)
  rw [← v.strs] at l7
  have ex := extend_at (i := 2) (l := kn) rfl l7 (by omega)
  exact (mSeq_nx ex).trans rfl
end
theorem mAug_add {τ : Sl} {i : Nat} {x y : Int} {f : Dt.Sem} (h : τ[i]? = some (some (.int x, .shr))) (hf : Ev τ f (.int y)) : mAug i .Add f τ = some (.nx (τ.set i (some (.int (x + y), .shr)))) := by
  unfold mAug
  rw [h]
  dsimp only
  rw [show f τ = _ from hf]
  show (match τ[i]? with
    | some (some (.int x', .shr)) => if x' = x then some (Fw.nx (τ.set i (some (.int (x + y), .shr)))) else none
    | _ => none) = _
  rw [h]
  dsimp only
  rw [if_pos rfl]
theorem chk_walk {st : List T} : ∀ (l : List T) (p : Nat) (ns kn : List T) (f : Int) (x4 x5 x6 : Option (T × Fl)), (∀ t ∈ l, StepT t) → Strs ns → Strs kn → p + l.length ≤ 100 → ns.length ≤ p → kn.length ≤ 50 * p →
    match chk l p ns kn f with
    | none => ∃ τ, walk (tgtN [4, 5]) cB (enumT p l) (cS st ns kn f x4 x5 x6) = some (.nx τ)
    | some (q, s) => ∃ τ, walk (tgtN [4, 5]) cB (enumT p l) (cS st ns kn f x4 x5 x6) = some (.ex "InvalidStep" [.int (q : Int), .str s] τ)
  | [], p, ns, kn, f, x4, x5, x6, _, _, _, _, _, _ => ⟨_, rfl⟩
  | t :: l, p, ns, kn, f, x4, x5, x6, hl, h1, h2, h3, h4, h5 => by
    simp only [List.length_cons] at h3
    have ht := hl t (List.mem_cons_self ..)
    have s : walk (tgtN [4, 5]) cB (enumT p (t :: l)) (cS st ns kn f x4 x5 x6) = (match cB (cS st ns kn f (some (.int (p : Int), .shr)) (some (t, .shr)) x6) with
        | some (.nx τ2) => walk (tgtN [4, 5]) cB (enumT (p + 1) l) τ2
        | some (.ct τ2) => walk (tgtN [4, 5]) cB (enumT (p + 1) l) τ2
        | some (.br τ2) => some (.nx τ2)
        | o => o) := rfl
    rw [s]
    have v5 : ∀ f y, Ev (cS st ns kn f (some (.int (p : Int), .shr)) (some (t, .shr)) y) (sVar 5) t := fun f y => ev_var (i := 5) rfl
    have a : (aCons (sVar 5) (aCons (sVar 1) aNil)) (cS st ns kn f (some (.int (p : Int), .shr)) (some (t, .shr)) x6) = some ([.v t, .s 1], cS st ns kn f (some (.int (p : Int), .shr)) (some (t, .shr)) x6) := rfl
    have c6 : Ev (cS st ns kn f (some (.int (p : Int), .shr)) (some (t, .shr)) x6) (sCall [.S, .B] F_fault_of_step (aCons (sVar 5) (aCons (sVar 1) aNil))) (rsnT (reasonS t ns)) := ev_call a rfl (p_fault_of_step ht h1)
    have b0 : cB (cS st ns kn f (some (.int (p : Int), .shr)) (some (t, .shr)) x6) = (mSeq (mIf (tstOf (sCmp .GtE (sVar 4) (sCst (.int 24)))) (mSeq (mSet 6 (sCst (.str "many"))) mNil) (mSeq (mIf (tstOf (sIsN false (sVar 6))) (mSeq (mAug 3 .Add (sCall [.S, .B] F_new_numbers (aCons (sVar 5) (aCons (sVar 2) aNil)))) (mSeq (mIf (tstOf (sCmp .Gt (sVar 3) (sCst (.int 16)))) (mSeq (mSet 6 (sCst (.str "many"))) mNil) mNil) mNil)) mNil) mNil)) cE) (cS st ns kn f (some (.int (p : Int), .shr)) (some (t, .shr)) (some (rsnT (reasonS t ns), .shr))) := mSeq_nx (mSet_v c6)
    rw [b0]
    have t4 : Et (cS st ns kn f (some (.int (p : Int), .shr)) (some (t, .shr)) (some (rsnT (reasonS t ns), .shr))) (tstOf (sCmp .GtE (sVar 4) (sCst (.int 24)))) (decide (24 ≤ p)) := et_of (ev_cmp (ev_var (i := 4) rfl).o ev_cst.o (by
      show some (decide ((24 : Int) ≤ (p : Int))) = _
      congr 1
      simp only [decide_eq_decide]
      omega)).o
    unfold chk
    by_cases hp : 24 ≤ p
    · rw [if_pos hp]
      rw [mSeq_nx (τ1 := cS st ns kn f (some (.int (p : Int), .shr)) (some (t, .shr)) (some (.str "many", .shr))) ((mIf_tt (t4.to (decide_eq_true hp))).trans rfl), cE_bad (by omega) rok_many]
      exact ⟨_, rfl⟩
    rw [if_neg hp]
    have t4' := t4.to (decide_eq_false hp)
    have t6 := et_isN (τ := cS st ns kn f (some (.int (p : Int), .shr)) (some (t, .shr)) (some (rsnT (reasonS t ns), .shr))) (f := sVar 6) (x := rsnT (reasonS t ns)) (ev_var rfl).o false
    cases hr : reasonS t ns with
    | some z =>
      rw [hr] at t4' t6
      rw [mSeq_nx (τ1 := cS st ns kn f (some (.int (p : Int), .shr)) (some (t, .shr)) (some (.str z, .shr))) ((mIf_ff t4').trans ((mSeq_nx ((mIf_ff t6).trans rfl)).trans rfl)), cE_bad (by omega) (reason_ok hr)]
      exact ⟨_, rfl⟩
    | none =>
      rw [hr] at t4' t6
      obtain ⟨w, x, r, n, m, v⟩ := valid_of hr
      obtain ⟨en, hrl⟩ := v.ens ht
      have a2 : (aCons (sVar 5) (aCons (sVar 2) aNil)) (cS st ns kn f (some (.int (p : Int), .shr)) (some (t, .shr)) (some (.non, .shr))) = some ([.v t, .s 2], cS st ns kn f (some (.int (p : Int), .shr)) (some (t, .shr)) (some (.non, .shr))) := rfl
      have c3 : Ev (cS st ns kn f (some (.int (p : Int), .shr)) (some (t, .shr)) (some (.non, .shr))) (sCall [.S, .B] F_new_numbers (aCons (sVar 5) (aCons (sVar 2) aNil))) (.int (newOf t kn : Nat)) := ev_call a2 rfl (by
        have q : newOf t kn = newN w (x :: r) n kn := by
          rw [v.eq]
          unfold newOf
          dsimp only
          rw [v.kind]
        rw [q, v.eq]
        exact p_new_numbers v.kind (by simp only [List.length_cons]; omega) h2)
      have g3 := mAug_add (i := 3) rfl c3
      have t3 : Et (cS st ns kn (f + newOf t kn) (some (.int (p : Int), .shr)) (some (t, .shr)) (some (.non, .shr))) (tstOf (sCmp .Gt (sVar 3) (sCst (.int 16)))) (decide (16 < f + newOf t kn)) := et_of (ev_cmp (ev_var (i := 3) rfl).o ev_cst.o rfl).o
      dsimp only
      by_cases hf : 16 < f + newOf t kn
      · rw [if_pos hf]
        rw [mSeq_nx (τ1 := cS st ns kn (f + newOf t kn) (some (.int (p : Int), .shr)) (some (t, .shr)) (some (.str "many", .shr))) ((mIf_ff t4').trans ((mSeq_nx ((mIf_tt t6).trans ((mSeq_nx g3).trans ((mSeq_nx ((mIf_tt (t3.to (decide_eq_true hf))).trans rfl)).trans rfl)))).trans rfl)), cE_bad (by omega) rok_many]
        exact ⟨_, rfl⟩
      · rw [if_neg hf]
        rw [mSeq_nx (τ1 := cS st ns kn (f + newOf t kn) (some (.int (p : Int), .shr)) (some (t, .shr)) (some (.non, .shr))) ((mIf_ff t4').trans ((mSeq_nx ((mIf_tt t6).trans ((mSeq_nx g3).trans ((mSeq_nx ((mIf_ff (t3.to (decide_eq_false hf))).trans rfl)).trans rfl)))).trans rfl)), cE_good ht v (by omega) (by omega)]
        obtain ⟨z, hz1, hz2⟩ := v.nmS ht
        obtain ⟨s1, s2⟩ := v.strsOk ht
        exact chk_walk l (p + 1) (ns ++ [nameOf t]) (kn ++ strsOf t) _ _ _ _ (fun u hu => hl u (List.mem_cons_of_mem _ hu)) (h1.app fun y hy => by
          simp only [List.mem_cons, List.not_mem_nil, or_false] at hy
          exact ⟨z, by rw [hy, v.nm, hz1], hz2⟩) (h2.app s1) (by omega) (by simp; omega) (by simp; omega)
theorem p_check_steps {l : List T} (hl : ∀ t ∈ l, StepT t) (hz : l.length ≤ 100) : F_check_steps [.lst l] = some (match chk l 0 [] [] 0 with
    | none => .ret .non false []
    | some (q, s) => .exn "InvalidStep" [.int (q : Int), .str s]) := by
  have r : F_check_steps [.lst l] = finF [.S] (m_check_steps [some (.lst l, .shr), none, none, none, none, none, none, none]) := runF_at rfl
  rw [r]
  unfold m_check_steps
  rw [mSeq_nx (τ1 := [some (.lst l, .shr), some (.lst [], .own), none, none, none, none, none, none]) rfl, mSeq_nx (τ1 := [some (.lst l, .shr), some (.lst [], .own), some (.lst [], .own), none, none, none, none, none]) rfl, mSeq_nx (τ1 := cS l [] [] 0 none none none) rfl]
  have src : srcEnum (sVar 0) (cS l [] [] 0 none none none) = some (enumT 0 l, cS l [] [] 0 none none none) := rfl
  have w := chk_walk (st := l) l 0 [] [] 0 none none none hl (fun z hz => by cases hz) (fun z hz => by cases hz) (by omega) (Nat.le_refl _) (Nat.le_refl _)
  have e : ∀ r, walk (tgtN [4, 5]) cB (enumT 0 l) (cS l [] [] 0 none none none) = r → mFor (srcEnum (sVar 0)) (tgtN [4, 5]) cB (cS l [] [] 0 none none none) = r := fun r h => by
    unfold mFor
    rw [src]
    exact h
  cases hc : chk l 0 [] [] 0 with
  | none =>
    rw [hc] at w
    obtain ⟨τ, w⟩ := w
    have e' := e _ w
    unfold cB at e'
    rw [mSeq_nx e']
    rfl
  | some z =>
    obtain ⟨q, s⟩ := z
    rw [hc] at w
    obtain ⟨τ, w⟩ := w
    have e' := e _ w
    unfold cB at e'
    rw [mSeq_ex e']
    rfl
end K4
set_option maxHeartbeats 4000000
/-! K4p28: _law_fault. -/
namespace K4
open PySem Dt
/-- the same texts -/
def Alike (nu kn : List T) : Prop := ∀ s, memB (.str s) nu = memB (.str s) kn
theorem mem_app (x : T) (a b : List T) : memB x (a ++ b) = (memB x a || memB x b) := by simp [memB]
theorem mem_one (s z : Str) : memB (.str s) [.str z] = decide (z = s) := by
  show (eqT (.str z) (.str s) || false) = _
  rw [eq_strs, Bool.or_false]
abbrev lS (st : List T) (ns nu : List T) (f : Int) (x4 x5 x6 x7 : Option (T × Fl)) : Sl := [some (.lst st, .shr), some (.lst ns, .own), some (.lst nu, .own), some (.int f, .shr), x4, x5, x6, x7]
def lMore : Stm := (mSeq (mSet 7 (sIf (tstOf (sCmp .Eq (sIx (sVar 5) (sCst (.int 0))) (sCst (.str "free")))) (sCst (.int 2)) (sCst (.int 0)))) (mSeq (mIf (tAndS (tstOf (sCmp .In (sIx (sVar 5) (sCst (.int 0))) (sLst (aCons (sCst (.str "on")) (aCons (sCst (.str "circle")) aNil))))) (tAndS (tstOf (sIsi "str" (sIx (sVar 5) (sCst (.int 4))))) (tstOf (sCmp .NotIn (sIx (sVar 5) (sCst (.int 4))) (sVar 2))))) (mSeq (mExp (sMut 2 T.isLst gAppend (aCons (sIx (sVar 5) (sCst (.int 4))) aNil))) (mSeq (mSet 7 (sCst (.int 1))) mNil)) mNil) (mSeq (mSet 3 (sBin .Add (sVar 3) (sVar 7))) (mSeq (mSet 6 (sIf (tstOf (sCmp .Gt (sVar 3) (sCst (.int 16)))) (sCst (.str "many")) (sCst .non))) mNil))))
def lEnd : Stm := (mSeq (mIf (tstOf (sIsN true (sVar 6))) (mSeq (mRet (sTup (aCons (sVar 4) (aCons (sVar 6) aNil)))) mNil) mNil) (mSeq (mExp (sMut 1 T.isLst gAppend (aCons (sIx (sVar 5) (sCst (.int 1))) aNil))) mNil))
def lB : Stm := (mSeq (mSet 5 (sIx (sVar 0) (sVar 4))) (mSeq (mSet 6 (sCall [.S, .B, .S] F__law_reason (aCons (sVar 5) (aCons (sVar 1) (aCons (sVar 4) aNil))))) (mSeq (mIf (tstOf (sIsN false (sVar 6))) lMore mNil) lEnd)))
section
variable {st ns kn nu : List T} {f : Int} {p : Nat} {t : T} {w : Str} {x : T} {r : List T} {n : Int} {m : Str}
theorem more_tail {nu : List T} {c : Int} {x7 : Option (T × Fl)} :
    (mSeq (mSet 3 (sBin .Add (sVar 3) (sVar 7))) (mSeq (mSet 6 (sIf (tstOf (sCmp .Gt (sVar 3) (sCst (.int 16)))) (sCst (.str "many")) (sCst .non))) mNil)) (lS st ns nu f (some (.int (p : Int), .shr)) (some (t, .shr)) (some (.non, .shr)) (some (.int c, .shr))) =
      some (.nx (lS st ns nu (f + c) (some (.int (p : Int), .shr)) (some (t, .shr)) (some (if 16 < f + c then .str ("many" : Str) else .non, .shr)) (some (.int c, .shr)))) := by
  have e3 : Ev (lS st ns nu f (some (.int (p : Int), .shr)) (some (t, .shr)) (some (.non, .shr)) (some (.int c, .shr))) (sBin .Add (sVar 3) (sVar 7)) (.int (f + c)) := ev_bin (ev_var (i := 3) rfl).o (ev_var (i := 7) rfl).o add_i
  rw [mSeq_nx (mSet_v e3)]
  have t3 : Et (lS st ns nu (f + c) (some (.int (p : Int), .shr)) (some (t, .shr)) (some (.non, .shr)) (some (.int c, .shr))) (tstOf (sCmp .Gt (sVar 3) (sCst (.int 16)))) (decide (16 < f + c)) := et_of (ev_cmp (ev_var (i := 3) rfl).o ev_cst.o rfl).o
  have e6 : Ev (lS st ns nu (f + c) (some (.int (p : Int), .shr)) (some (t, .shr)) (some (.non, .shr)) (some (.int c, .shr))) (sIf (tstOf (sCmp .Gt (sVar 3) (sCst (.int 16)))) (sCst (.str "many")) (sCst .non)) (if 16 < f + c then .str ("many" : Str) else .non) :=
    ev_if t3 (fun h => by rw [if_pos (of_decide_eq_true h)]; exact ev_cst) fun h => by rw [if_neg (of_decide_eq_false h)]; exact ev_cst
  exact (mSeq_nx (mSet_v e6)).trans rfl
theorem more_ok {x7 : Option (T × Fl)} (ht : StepT t) (v : Valid t ns w x r n m) (hn : Strs nu) (hal : Alike nu kn) (hk : Strs kn) (hz : nu.length ≤ 1000) : ∃ (nu' : List T) (c : Int), c = (newOf t kn : Nat) ∧ Strs nu' ∧ Alike nu' (kn ++ strsOf t) ∧ nu'.length ≤ nu.length + 1 ∧
    lMore (lS st ns nu f (some (.int (p : Int), .shr)) (some (t, .shr)) (some (.non, .shr)) x7) = some (.nx (lS st ns nu' (f + c) (some (.int (p : Int), .shr)) (some (t, .shr)) (some (if 16 < f + c then .str ("many" : Str) else .non, .shr)) (some (.int c, .shr)))) := by
  obtain ⟨en, hrl⟩ := v.ens ht
  have v5 : ∀ y7, Ev (lS st ns nu f (some (.int (p : Int), .shr)) (some (t, .shr)) (some (.non, .shr)) y7) (sVar 5) (.tup (.str w :: x :: r)) := fun y7 => by
    rw [← v.eq]
    exact ev_var (i := 5) rfl
  have x0 : ∀ y7, Ev (lS st ns nu f (some (.int (p : Int), .shr)) (some (t, .shr)) (some (.non, .shr)) y7) (sIx (sVar 5) (sCst (.int 0))) (.str w) := fun y7 => ev_ix (v5 y7).o ev_cst.o (ix_at (k := 0) rfl)
  have tf := eq_word (z := "free") (x0 x7) (kind_word v.kind) (by decide +kernel)
  have e7 : Ev (lS st ns nu f (some (.int (p : Int), .shr)) (some (t, .shr)) (some (.non, .shr)) x7) (sIf (tstOf (sCmp .Eq (sIx (sVar 5) (sCst (.int 0))) (sCst (.str "free")))) (sCst (.int 2)) (sCst (.int 0))) (.int (if w = "free" then 2 else 0)) :=
    ev_if tf (fun h => by rw [if_pos (of_decide_eq_true h)]; exact ev_cst) fun h => by rw [if_neg (of_decide_eq_false h)]; exact ev_cst
  have s7 : lMore (lS st ns nu f (some (.int (p : Int), .shr)) (some (t, .shr)) (some (.non, .shr)) x7) = (mSeq (mIf (tAndS (tstOf (sCmp .In (sIx (sVar 5) (sCst (.int 0))) (sLst (aCons (sCst (.str "on")) (aCons (sCst (.str "circle")) aNil))))) (tAndS (tstOf (sIsi "str" (sIx (sVar 5) (sCst (.int 4))))) (tstOf (sCmp .NotIn (sIx (sVar 5) (sCst (.int 4))) (sVar 2))))) (mSeq (mExp (sMut 2 T.isLst gAppend (aCons (sIx (sVar 5) (sCst (.int 4))) aNil))) (mSeq (mSet 7 (sCst (.int 1))) mNil)) mNil) (mSeq (mSet 3 (sBin .Add (sVar 3) (sVar 7))) (mSeq (mSet 6 (sIf (tstOf (sCmp .Gt (sVar 3) (sCst (.int 16)))) (sCst (.str "many")) (sCst .non))) mNil))) (lS st ns nu f (some (.int (p : Int), .shr)) (some (t, .shr)) (some (.non, .shr)) (some (.int (if w = "free" then 2 else 0), .shr))) := mSeq_nx (mSet_v e7)
  have ton := et_on (x0 (some (.int (if w = "free" then 2 else 0), .shr)))
  -- not on a line, not on a circle: nothing new
  have plain : isOn w = false → strsOf t = [] → ∃ (nu' : List T) (c : Int), c = (newOf t kn : Nat) ∧ Strs nu' ∧ Alike nu' (kn ++ strsOf t) ∧ nu'.length ≤ nu.length + 1 ∧
      lMore (lS st ns nu f (some (.int (p : Int), .shr)) (some (t, .shr)) (some (.non, .shr)) x7) = some (.nx (lS st ns nu' (f + c) (some (.int (p : Int), .shr)) (some (t, .shr)) (some (if 16 < f + c then .str ("many" : Str) else .non, .shr)) (some (.int c, .shr)))) := fun ho hs => by
    refine ⟨nu, if w = "free" then 2 else 0, ?_, hn, by rw [hs, List.append_nil]; exact hal, by omega, ?_⟩
    · rw [v.news, hs]
      split <;> rfl
    · rw [s7, mSeq_nx ((mIf_ff (et_and (b2 := false) (ton.to ho) (fun h => by cases h) fun _ => rfl)).trans rfl)]
      exact more_tail (x7 := x7)
  rcases kind_cases v.kind with ⟨rfl, rfl, rfl⟩ | ⟨rfl, rfl, rfl⟩ | ⟨hw, rfl, rfl⟩ | ⟨h1, h2, h3, h4, rfl⟩
  · refine plain (by rw [isOn_eq]; decide +kernel) ?_
    have hl : (("" : Str).length : Int) = 0 := by kernel_rfl
    have hr := v.len
    rw [v.strs, List.drop_of_length_le (by omega)]
    rfl
  · refine plain (by rw [isOn_eq]; decide +kernel) ?_
    rw [v.strs, List.filter_eq_nil_iff]
    intro y hy hs
    have := v.num
    rw [List.any_eq_false] at this
    have q := this y hy
    have nx : decide (("xy" : Str) = "n") = false := by decide +kernel
    unfold wrongB at q
    rw [nx] at q
    cases y with
    | str s => exact q rfl
    | _ => cases hs
  · have ho : isOn w = true := by rw [isOn_eq]; rcases hw with rfl | rfl <;> decide +kernel
    have hf : w ≠ "free" := by rcases hw with rfl | rfl <;> decide +kernel
    have hl : (("n" : Str).length : Int) = 1 := by kernel_rfl
    have hr := v.len
    match r, hr, en, v with
    | [a, b, y], _, en, v =>
      have v5' : ∀ y7, Ev (lS st ns nu f (some (.int (p : Int), .shr)) (some (t, .shr)) (some (.non, .shr)) y7) (sIx (sVar 5) (sCst (.int 4))) y := fun y7 => ev_ix (Ev.o (by rw [v.eq]; exact ev_var (i := 5) rfl)) ev_cst.o (ix_at (l := [.str w, x, a, b, y]) (k := 4) rfl)
      have ss : strsOf t = [y].filter isStr := v.strs
      have tz := v5' (some (.int (if w = "free" then 2 else 0), .shr))
      have ti := et_of (ev_isi (n := "str") tz.o).o
      rw [isi_str] at ti
      have tn : isStr y = true → Et (lS st ns nu f (some (.int (p : Int), .shr)) (some (t, .shr)) (some (.non, .shr)) (some (.int (if w = "free" then 2 else 0), .shr))) (tstOf (sCmp .NotIn (sIx (sVar 5) (sCst (.int 4))) (sVar 2))) (!memB y nu) := fun h => et_of (ev_cmp tz.o (eo_var (i := 2) rfl) (by
        show (inT y (.lst nu)).map not = _
        rw [in_strs h hn]
        rfl)).o
      have tt := et_and (ton.to ho) (fun _ => et_andb ti tn) fun h => by cases h
      cases hy : isStr y with
      | false =>
        refine ⟨nu, 0, ?_, hn, ?_, by omega, ?_⟩
        · rw [v.news, if_neg hf, ss]
          simp [hy]
        · rw [ss]
          simpa [hy] using hal
        · rw [hy] at tt
          rw [s7, mSeq_nx ((mIf_ff tt).trans rfl), if_neg hf]
          exact more_tail (x7 := x7)
      | true =>
        rw [hy] at tt
        have ss' : strsOf t = [y] := by rw [ss]; simp [hy]
        obtain ⟨s, rfl, hs⟩ : ∃ s, y = .str s ∧ sOk s = true := by
          have := en y (by simp)
          cases y with
          | str s => exact ⟨s, rfl, this.1⟩
          | _ => cases hy
        have nw : newOf t kn = if memB (.str s) kn = true then 0 else 1 := by
          rw [v.news, if_neg hf, ss']
          cases hq : memB (.str s) kn <;> simp [List.filter, hq]
        rw [nw, ss', ← hal s]
        cases hm : memB (.str s) nu with
        | true =>
          rw [hm] at tt
          refine ⟨nu, 0, rfl, hn, fun z => ?_, by omega, ?_⟩
          · rw [mem_app, mem_one, hal z]
            by_cases hz : s = z
            · subst hz
              rw [← hal s, hm]
              simp
            · simp [hz]
          · rw [s7, mSeq_nx ((mIf_ff tt).trans rfl), if_neg hf]
            exact more_tail (x7 := x7)
        | false =>
          rw [hm] at tt
          have b1 : (1000 : Nat) < sizeLine := by decide
          refine ⟨nu ++ [.str s], 1, rfl, hn.app fun z hz => ?_, fun z => ?_, by simp, ?_⟩
          · simp only [List.mem_cons, List.not_mem_nil, or_false] at hz
            exact ⟨s, hz, hs⟩
          · rw [mem_app, mem_app, hal z]
          · rw [s7, mSeq_nx (τ1 := lS st ns (nu ++ [.str s]) f (some (.int (p : Int), .shr)) (some (t, .shr)) (some (.non, .shr)) (some (.int 1, .shr))) ((mIf_tt tt).trans ((mSeq_nx (append_at (i := 2) rfl tz (by omega))).trans rfl))]
            exact more_tail (x7 := x7)
    | [], h, _, _ => simp at h; omega
    | [_], h, _, _ => simp at h; omega
    | [_, _], h, _, _ => simp at h; omega
    | _ :: _ :: _ :: _ :: _, h, _, _ => simp only [List.length_cons] at h; omega
  · refine plain (by rw [isOn_eq, decide_eq_false h3, decide_eq_false h4]; rfl) ?_
    have hl : (("" : Str).length : Int) = 0 := by kernel_rfl
    have hr := v.len
    rw [v.strs, List.drop_of_length_le (by omega)]
    rfl
theorem lEnd_bad {s : Str} {x7 : Option (T × Fl)} : lEnd (lS st ns nu f (some (.int (p : Int), .shr)) (some (t, .shr)) (some (.str s, .shr)) x7) = some (.rt (.v (.tup [.int (p : Int), .str s])) (lS st ns nu f (some (.int (p : Int), .shr)) (some (t, .shr)) (some (.str s, .shr)) x7)) := by
  unfold lEnd
  have e1 := et_isN (τ := lS st ns nu f (some (.int (p : Int), .shr)) (some (t, .shr)) (some (.str s, .shr)) x7) (f := sVar 6) (x := .str s) (ev_var rfl).o true
  refine mSeq_rt ((mIf_tt e1).trans (mSeq_rt (mRet_v (ev_tup (ts := [.int (p : Int), .str s]) (a_cons (ev_var (i := 4) rfl) (a_cons (ev_var (i := 6) rfl) a_nil)) ?_))))
  exact (by decide : (2 : Nat) ≤ sizeLine)
theorem lEnd_good {x7 : Option (T × Fl)} (v : Valid t ns w x r n m) (h1 : ns.length ≤ 1000) : lEnd (lS st ns nu f (some (.int (p : Int), .shr)) (some (t, .shr)) (some (.non, .shr)) x7) = some (.nx (lS st (ns ++ [nameOf t]) nu f (some (.int (p : Int), .shr)) (some (t, .shr)) (some (.non, .shr)) x7)) := by
  unfold lEnd
  have e1 := et_isN (τ := lS st ns nu f (some (.int (p : Int), .shr)) (some (t, .shr)) (some (.non, .shr)) x7) (f := sVar 6) (x := .non) (ev_var rfl).o true
  rw [mSeq_nx ((mIf_ff e1).trans rfl)]
  have x1 : Ev (lS st ns nu f (some (.int (p : Int), .shr)) (some (t, .shr)) (some (.non, .shr)) x7) (sIx (sVar 5) (sCst (.int 1))) (nameOf t) := by
    rw [v.nm]
    exact ev_ix (ev_var (i := 5) rfl).o ev_cst.o (by rw [v.eq]; exact ix_at (k := 1) rfl)
  have b1 : (1000 : Nat) < sizeLine := by decide
  exact (mSeq_nx (append_at (i := 1) rfl x1 (by omega))).trans rfl
end
theorem r62_small {i : Int} (h0 : 0 ≤ i) (h1 : i ≤ 1000000) : r62 i = true := by
  have e : (2 : Int) ^ 62 = 4611686018427387904 := by decide +kernel
  unfold r62
  rw [e, Bool.and_eq_true]
  exact ⟨decide_eq_true (by omega), decide_eq_true (by omega)⟩
theorem src_range1 {τ : Sl} {f : Dt.Sem} {n : Int} (h : Ev τ f (.int n)) (hr : r62 n = true) : srcRange1 f τ = some (rangeT 0 n, τ) := by
  unfold srcRange1
  rw [show f τ = _ from h]
  simp [Od.sh, Sl.tr, hr]
/-- places from p on -/
def plc (p k : Nat) : List T := (List.range' p k).map fun i : Nat => T.int (0 + ((i : Nat) : Int))
theorem plc_zero (n : Nat) : rangeT 0 (n : Int) = plc 0 n := by
  unfold rangeT plc
  rw [show ((n : Int) - 0).toNat = n by omega, List.range_eq_range']
theorem flt_walk {st : List T} : ∀ (l : List T) (p : Nat) (ns kn nu : List T) (f : Int) (x4 x5 x6 x7 : Option (T × Fl)), st.drop p = l → (∀ t ∈ l, StepT t) → Strs ns → Strs kn → Strs nu → Alike nu kn → p + l.length ≤ 100 → ns.length ≤ p → nu.length ≤ p →
    match chk l p ns kn f with
    | none => ∃ τ, walk (tgt1 4) lB (plc p l.length) (lS st ns nu f x4 x5 x6 x7) = some (.nx τ)
    | some (q, s) => ∃ τ, walk (tgt1 4) lB (plc p l.length) (lS st ns nu f x4 x5 x6 x7) = some (.rt (.v (.tup [.int (q : Int), .str s])) τ)
  | [], p, ns, kn, nu, f, x4, x5, x6, x7, _, _, _, _, _, _, _, _, _ => ⟨_, rfl⟩
  | t :: l, p, ns, kn, nu, f, x4, x5, x6, x7, hd, hl, h1, h2, h3, h4, h5, h6, h7 => by
    simp only [List.length_cons] at h5
    have ht := hl t (List.mem_cons_self ..)
    have hp0 : st[p]? = some t := by
      have q : (st.drop p)[0]? = some t := by rw [hd]; rfl
      rw [List.getElem?_drop] at q
      exact q
    have hd' : st.drop (p + 1) = l := by
      rw [← List.drop_drop, hd]
      rfl
    have e0 : (0 : Int) + (p : Int) = (p : Int) := by omega
    have s : walk (tgt1 4) lB (plc p (t :: l).length) (lS st ns nu f x4 x5 x6 x7) = (match lB (lS st ns nu f (some (.int (0 + (p : Int)), .shr)) x5 x6 x7) with
        | some (.nx τ2) => walk (tgt1 4) lB (plc (p + 1) l.length) τ2
        | some (.ct τ2) => walk (tgt1 4) lB (plc (p + 1) l.length) τ2
        | some (.br τ2) => some (.nx τ2)
        | o => o) := rfl
    rw [s, e0]
    have c5 : Ev (lS st ns nu f (some (.int (p : Int), .shr)) x5 x6 x7) (sIx (sVar 0) (sVar 4)) t := ev_ix (ev_var (i := 0) rfl).o (ev_var (i := 4) rfl).o (ixl_at hp0)
    have a : (aCons (sVar 5) (aCons (sVar 1) (aCons (sVar 4) aNil))) (lS st ns nu f (some (.int (p : Int), .shr)) (some (t, .shr)) x6 x7) = some ([.v t, .s 1, .v (.int (p : Int))], lS st ns nu f (some (.int (p : Int), .shr)) (some (t, .shr)) x6 x7) := rfl
    have c6 : Ev (lS st ns nu f (some (.int (p : Int), .shr)) (some (t, .shr)) x6 x7) (sCall [.S, .B, .S] F__law_reason (aCons (sVar 5) (aCons (sVar 1) (aCons (sVar 4) aNil)))) (rsnT (if 23 < (p : Int) then some ("many" : Str) else reasonS t ns)) := ev_call a rfl (p__law_reason ht h1)
    have b0 : lB (lS st ns nu f (some (.int (p : Int), .shr)) x5 x6 x7) = (mSeq (mIf (tstOf (sIsN false (sVar 6))) lMore mNil) lEnd) (lS st ns nu f (some (.int (p : Int), .shr)) (some (t, .shr)) (some (rsnT (if 23 < (p : Int) then some ("many" : Str) else reasonS t ns), .shr)) x7) := (mSeq_nx (mSet_v c5)).trans (mSeq_nx (mSet_v c6))
    rw [b0]
    have t6 := fun z => et_isN (τ := lS st ns nu f (some (.int (p : Int), .shr)) (some (t, .shr)) (some (z, .shr)) x7) (f := sVar 6) (x := z) (ev_var rfl).o false
    unfold chk
    by_cases hp : 24 ≤ p
    · have er : rsnT (some ("many" : Str)) = .str ("many" : Str) := rfl
      rw [if_pos hp, if_pos (show (23 : Int) < (p : Int) by omega), er]
      rw [mSeq_nx ((mIf_ff (t6 (.str ("many" : Str)))).trans rfl), lEnd_bad]
      exact ⟨_, rfl⟩
    rw [if_neg hp, if_neg (show ¬ (23 : Int) < (p : Int) by omega)]
    cases hr : reasonS t ns with
    | some z =>
      have er : rsnT (some z) = .str z := rfl
      rw [er]
      rw [mSeq_nx ((mIf_ff (t6 (.str z))).trans rfl), lEnd_bad]
      exact ⟨_, rfl⟩
    | none =>
      obtain ⟨w, x, r, n, m, v⟩ := valid_of hr
      obtain ⟨nu', c, hc, g1, g2, g3, g4⟩ := more_ok (st := st) (f := f) (p := p) (x7 := x7) ht v h3 h4 h2 (by omega)
      subst hc
      have er : rsnT none = .non := rfl
      rw [er]
      dsimp only
      rw [mSeq_nx ((mIf_tt (t6 .non)).trans g4)]
      by_cases hf : 16 < f + newOf t kn
      · rw [if_pos hf, if_pos hf, lEnd_bad]
        exact ⟨_, rfl⟩
      · rw [if_neg hf, if_neg hf, lEnd_good v (by omega)]
        obtain ⟨z, hz1, hz2⟩ := v.nmS ht
        obtain ⟨s1, s2⟩ := v.strsOk ht
        exact flt_walk l (p + 1) (ns ++ [nameOf t]) (kn ++ strsOf t) nu' _ _ _ _ _ hd' (fun u hu => hl u (List.mem_cons_of_mem _ hu)) (h1.app fun y hy => by
          simp only [List.mem_cons, List.not_mem_nil, or_false] at hy
          exact ⟨z, by rw [hy, v.nm, hz1], hz2⟩) (h2.app s1) g1 g2 (by omega) (by simp; omega) (by omega)
end K4
set_option maxHeartbeats 4000000
/-! K4p29: _law_fault whole, _law_told. -/
namespace K4
open PySem Dt
def toldT (o : Option (Nat × Str)) : T := match o with
  | none => .str "fine"
  | some (q, s) => .tup [.int (q : Int), .str s]
theorem flt_pre (l : List T) : m__law_fault [some (.lst l, .shr), none, none, none, none, none, none, none] = mSeq (mFor (srcRange1 (sBi gLen (aCons (sVar 0) aNil))) (tgt1 4) lB) (mSeq (mRet (sCst (.str "fine"))) mNil) (lS l [] [] 0 none none none none) := by
  have e1 : mSet 1 (sLst aNil) [some (.lst l, .shr), none, none, none, none, none, none, none] = some (.nx [some (.lst l, .shr), some (.lst [], .own), none, none, none, none, none, none]) := rfl
  have e2 : mSet 2 (sLst aNil) [some (.lst l, .shr), some (.lst [], .own), none, none, none, none, none, none] = some (.nx [some (.lst l, .shr), some (.lst [], .own), some (.lst [], .own), none, none, none, none, none]) := rfl
  have e3 : mSet 3 (sCst (.int 0)) [some (.lst l, .shr), some (.lst [], .own), some (.lst [], .own), none, none, none, none, none] = some (.nx (lS l [] [] 0 none none none none)) := rfl
  exact (mSeq_nx e1).trans ((mSeq_nx e2).trans (mSeq_nx e3))
theorem flt_src (l : List T) (hz : l.length ≤ 100) : srcRange1 (sBi gLen (aCons (sVar 0) aNil)) (lS l [] [] 0 none none none none) = some (plc 0 l.length, lS l [] [] 0 none none none none) := by
  rw [← plc_zero]
  have v : Ev (lS l [] [] 0 none none none none) (sBi gLen (aCons (sVar 0) aNil)) (.int (l.length : Int)) := ev_bi1 (ev_var (i := 0) rfl).o rfl
  exact src_range1 v (r62_small (by omega) (by omega))
theorem for_at {s : Src} {g : T → Sl → Option Sl} {b : Stm} {l : List T} {τ τ1 : Sl} {r : Option Fw} (h : s τ = some (l, τ1)) (hw : walk g b l τ1 = r) : mFor s g b τ = r := by
  unfold mFor
  rw [h]
  exact hw
theorem p__law_fault {l : List T} (hl : ∀ t ∈ l, StepT t) (hz : l.length ≤ 100) : F__law_fault [.lst l] = some (.ret (toldT (chk l 0 [] [] 0)) false []) := by
  have r : F__law_fault [.lst l] = finF [.S] (m__law_fault [some (.lst l, .shr), none, none, none, none, none, none, none]) := runF_at rfl
  rw [r, flt_pre]
  have w := flt_walk (st := l) l 0 [] [] [] 0 none none none none rfl hl (fun z hz => by cases hz) (fun z hz => by cases hz) (fun z hz => by cases hz) (fun _ => rfl) (by omega) (Nat.le_refl _) (Nat.le_refl _)
  cases hc : chk l 0 [] [] 0 with
  | none =>
    rw [hc] at w
    obtain ⟨τ, w⟩ := w
    rw [mSeq_nx (for_at (flt_src l hz) w), mSeq_rt (mRet_v ev_cst)]
    rfl
  | some z =>
    obtain ⟨q, s⟩ := z
    rw [hc] at w
    obtain ⟨τ, w⟩ := w
    rw [mSeq_rt (for_at (flt_src l hz) w)]
    rfl
theorem p__law_told {l : List T} (hl : ∀ t ∈ l, StepT t) (hz : l.length ≤ 100) : F__law_told [.lst l] = some (.ret (toldT (chk l 0 [] [] 0)) false []) := by
  unfold F__law_told
  rw [p_check_steps hl hz]
  cases chk l 0 [] [] 0 with
  | none => rfl
  | some z => rfl
end K4
set_option maxHeartbeats 4000000
/-! K4p30: drawn points, drawn numbers. -/
namespace K4
open PySem Dt
section
variable {τ τ1 τ2 : Sl} {f g : Dt.Sem} {a : Sems} {x y o : Od} {xs : List Od} {t u t' r : T} {ts : List T} {i : Nat} {fl : Fl}
theorem s2_at {k : T → T → Option Od} (h1 : f τ = some (x, τ1)) (h2 : g τ1 = some (y, τ2)) (h3 : τ2.tr x.sh = some t) (h4 : τ2.tr y.sh = some u) (h5 : k t u = some o) : s2 k f g τ = some (o, τ2) := by
  unfold s2
  rw [h1]
  dsimp only
  rw [h2]
  dsimp only
  rw [h3, h4]
  dsimp only
  rw [h5]
theorem ac_at (h1 : f τ = some (x, τ1)) (h2 : a τ1 = some (xs, τ2)) : aCons f a τ = some (x.sh :: xs, τ2) := by
  unfold aCons
  rw [h1]
  dsimp only
  rw [h2]
theorem set_v (h : f τ = some (.v t, τ1)) : mSet i f τ = some (.nx (τ1.set i (some (t, .shr)))) := by
  unfold mSet
  rw [h]
  rfl
theorem mut_at {kd : T → Bool} {k : T → List T → Option (T × T)} (h0 : τ[i]? = some (some (t, fl))) (hk : kd t = true) (hf : fl = .own ∨ fl = .chg) (ha : a τ = some (ts.map Od.v, τ1)) (h1 : τ1[i]? = some (some (t, fl))) (hg : k t ts = some (t', r)) : sMut i kd k a τ = some (.v r, τ1.set i (some (t', fl))) := by
  unfold sMut
  rw [h0]
  dsimp only
  rw [if_pos ⟨hk, hf⟩, ha]
  dsimp only
  rw [escs_v]
  dsimp only
  rw [h1]
  dsimp only
  rw [if_pos hf, hg]
theorem exp_at (h : f τ = some (o, τ1)) : mExp f τ = some (.nx τ1) := by
  unfold mExp
  rw [h]
end
theorem pop_ix {l : List T} {i : Int} (h0 : 0 ≤ i) (h1 : i < l.length) (hz : l.length ≤ sizeLine) : gPop1 (.lst l) [.int i] = some (.lst (l.eraseIdx i.toNat), l.getD i.toNat .non) := by
  have hi : i.toNat < l.length := by omega
  show (match L2.ixN l.length i with
    | some j => if l.length ≤ sizeLine then (match l[j]? with
      | some x => some (T.lst (l.eraseIdx j), x)
      | none => none) else none
    | none => none) = _
  unfold L2.ixN
  rw [if_pos h0, if_pos h1]
  dsimp only
  rw [if_pos hz, List.getElem?_eq_getElem hi]
  dsimp only
  rw [List.getD_eq_getElem?_getD, List.getElem?_eq_getElem hi]
  rfl
theorem app_lst {l : List T} {x : T} (h : l.length < sizeLine) : gAppend (.lst l) [x] = some (.lst (l ++ [x]), .non) := by
  show (if l.length < sizeLine then some (T.lst (l ++ [x]), T.non) else none) = _
  rw [if_pos h]
/-! picking -/
abbrev pS (names : List T) (c s : Int) (left found : List T) (x5 : Option (T × Fl)) : Sl := [some (.lst [.int s], .chg), some (.lst names, .bor), some (.int c, .shr), some (.lst left, .own), some (.lst found, .own), x5]
def pB : Stm := (mSeq (mExp (sMut 4 T.isLst gAppend (aCons (sMut 3 T.isLst gPop1 (aCons (sCall [.M, .S] F__law_take (aCons (sVar 0) (aCons (sBi gLen (aCons (sVar 3) aNil)) aNil))) aNil)) aNil))) mNil)
theorem pick_step {names : List T} {c s : Int} {left found : List T} {x5 : Option (T × Fl)} (h0 : 0 < left.length) (h1 : left.length ≤ 1000) (h2 : found.length ≤ 1000) :
    ∃ (s' : Int) (j : Nat), j < left.length ∧ pB (pS names c s left found x5) = some (.nx (pS names c s' (left.eraseIdx j) (found ++ [left.getD j .non]) x5)) := by
  have b1 : (1000 : Nat) < sizeLine := by decide
  have ln : Ev (pS names c s left found x5) (sBi gLen (aCons (sVar 3) aNil)) (.int (left.length : Int)) := ev_bi1 (eo_var (i := 3) rfl) rfl
  have tk := take_at (j := 0) (s := s) (fl := .chg) rfl (.inr rfl) ln (by omega) (by omega)
  have m0 := Int.emod_nonneg s (show (left.length : Int) ≠ 0 by omega)
  have m1 := Int.emod_lt_of_pos s (show (0 : Int) < left.length by omega)
  generalize s % (left.length : Int) = k at tk m0 m1
  generalize s / (left.length : Int) = s' at tk
  have pp := mut_at (i := 3) (kd := T.isLst) (k := gPop1) (ts := [.int k]) (t := .lst left) (fl := .own) rfl rfl (.inl rfl) (ac_at tk a_nil) rfl (pop_ix m0 m1 (by omega))
  have ap := mut_at (i := 4) (kd := T.isLst) (k := gAppend) (ts := [left.getD k.toNat .non]) (t := .lst found) (fl := .own) rfl rfl (.inl rfl) (ac_at pp a_nil) rfl (app_lst (by omega))
  exact ⟨s', k.toNat, by omega, (mSeq_nx (exp_at ap)).trans rfl⟩
theorem pick_walk {names : List T} {c : Int} : ∀ (l : List T) (s : Int) (left found : List T) (x5 : Option (T × Fl)), l.length ≤ left.length → left.length ≤ 1000 → found.length + l.length ≤ 1000 → (∀ y ∈ left, y ∈ names) → (∀ y ∈ found, y ∈ names) →
    ∃ (s' : Int) (left' found' : List T) (y5 : Option (T × Fl)), found'.length = found.length + l.length ∧ (∀ y ∈ found', y ∈ names) ∧ walk (tgt1 5) pB l (pS names c s left found x5) = some (.nx (pS names c s' left' found' y5))
  | [], s, left, found, x5, _, _, _, _, h => ⟨s, left, found, x5, rfl, h, rfl⟩
  | t :: l, s, left, found, x5, h1, h2, h3, h4, h5 => by
    simp only [List.length_cons] at h1 h3
    obtain ⟨s1, j, hj, e⟩ := pick_step (names := names) (c := c) (s := s) (left := left) (found := found) (x5 := some (t, .shr)) (by omega) h2 (by omega)
    have st : walk (tgt1 5) pB (t :: l) (pS names c s left found x5) = (match pB (pS names c s left found (some (t, .shr))) with
        | some (.nx τ2) => walk (tgt1 5) pB l τ2
        | some (.ct τ2) => walk (tgt1 5) pB l τ2
        | some (.br τ2) => some (.nx τ2)
        | o => o) := rfl
    rw [st, e]
    have hm : left.getD j .non ∈ left := getD_mem hj
    have hel : (left.eraseIdx j).length = left.length - 1 := List.length_eraseIdx_of_lt hj
    obtain ⟨s', left', found', y5, g1, g2, g3⟩ := pick_walk (names := names) (c := c) l s1 (left.eraseIdx j) (found ++ [left.getD j .non]) (some (t, .shr)) (by omega) (by omega) (by simp; omega) (fun y hy => h4 y (List.mem_of_mem_eraseIdx hy)) (fun y hy => by
      rcases List.mem_append.mp hy with hy | hy
      · exact h5 y hy
      · simp only [List.mem_cons, List.not_mem_nil, or_false] at hy
        rw [hy]
        exact h4 _ hm)
    exact ⟨s', left', found', y5, by rw [g1]; simp; omega, g2, g3⟩
theorem rangeT_length (n : Nat) : (rangeT 0 (n : Int)).length = n := by
  rw [plc_zero]
  simp [plc]
theorem p__law_pick {names : List T} {c : Nat} {s : Int} (hc : c ≤ names.length) (hn : names.length ≤ 1000) :
    ∃ (s' : Int) (found : List T), found.length = c ∧ (∀ y ∈ found, y ∈ names) ∧ F__law_pick [.lst [.int s], .lst names, .int (c : Int)] = some (.ret (.lst found) true [.lst [.int s']]) := by
  have r : F__law_pick [.lst [.int s], .lst names, .int (c : Int)] = finF [.M, .B, .S] (m__law_pick [some (.lst [.int s], .chg), some (.lst names, .bor), some (.int (c : Int), .shr), none, none, none]) := runF_at rfl
  obtain ⟨s', left', found', y5, g1, g2, g3⟩ := pick_walk (names := names) (c := c) (rangeT 0 (c : Int)) s names [] none (by rw [rangeT_length]; exact hc) hn (by rw [rangeT_length]; simp; omega) (fun y hy => hy) (fun y hy => by cases hy)
  refine ⟨s', found', by rw [g1, rangeT_length]; simp, g2, ?_⟩
  rw [r]
  unfold m__law_pick
  have e1 : mSet 3 (sBi gList (aCons (sVar 1) aNil)) [some (.lst [.int s], .chg), some (.lst names, .bor), some (.int (c : Int), .shr), none, none, none] = some (.nx [some (.lst [.int s], .chg), some (.lst names, .bor), some (.int (c : Int), .shr), some (.lst names, .own), none, none]) := rfl
  have e2 : mSet 4 (sLst aNil) [some (.lst [.int s], .chg), some (.lst names, .bor), some (.int (c : Int), .shr), some (.lst names, .own), none, none] = some (.nx (pS names c s names [] none)) := rfl
  have src : srcRange1 (sVar 2) (pS names c s names [] none) = some (rangeT 0 (c : Int), pS names c s names [] none) := src_range1 (ev_var (i := 2) rfl) (r62_small (by omega) (by omega))
  have w := for_at src g3
  unfold pB at w
  rw [mSeq_nx e1, mSeq_nx e2, mSeq_nx w]
  rfl
/-! numbers -/
def NumsOk (l : List T) : Prop := ∀ z ∈ l, isStr z = true ∧ En z
theorem NumsOk.okD {l : List T} (h : NumsOk l) : ∀ z ∈ l, okD 1 z := fun z hz => en_ok (h z hz).2
abbrev uS (s : Int) (nums : List T) (x2 : Option (T × Fl)) : Sl := [some (.lst [.int s], .chg), some (.lst nums, .chg), x2]
theorem take_c {s m : Int} {nums : List T} {x2 : Option (T × Fl)} (h0 : 0 < m) (h1 : m < 1000) : ∃ (k s' : Int), 0 ≤ k ∧ k < m ∧ sCall [.M, .S] F__law_take (aCons (sVar 0) (aCons (sCst (.int m)) aNil)) (uS s nums x2) = some (.v (.int k), uS s' nums x2) :=
  ⟨s % m, s / m, Int.emod_nonneg s (by omega), Int.emod_lt_of_pos s h0, take_at (j := 0) (s := s) (fl := .chg) rfl (.inr rfl) ev_cst h0 (by omega)⟩
theorem ratio_en {p q : Int} (hp : p.natAbs < 1000) (hq : q.natAbs < 1000) (g : Nat) : En (.tup [.int (p / (g : Int)), .int (q / (g : Int))]) := by
  have b : ∀ z : Int, z.natAbs < 1000 → (z / (g : Int)).natAbs ≤ 10 ^ 12 := fun z hz => by
    have := Int.natAbs_ediv_le_natAbs z (g : Int)
    omega
  refine ⟨by simp, fun x hx => ?_⟩
  simp only [List.mem_cons, List.not_mem_nil, or_false] at hx
  rcases hx with rfl | rfl
  · exact ⟨_, rfl, b p hp⟩
  · exact ⟨_, rfl, b q hq⟩
def tuv : Str := "tuvwrs"
theorem tuv_len : tuv.cps.toList.length = 6 := by decide +kernel
theorem tuv_ok : ∀ c ∈ tuv.cps.toList, c < 0x110000 := by decide +kernel
theorem tuv_short : tuv.length ≤ sizeLine := by decide +kernel
theorem num_name {c : Nat} {z : Str} (hc : c < 0x110000) (hz : z = "" ∨ z = "1") : sOk (⟨#[c]⟩ ++ z) = true ∧ (⟨#[c]⟩ ++ z : Str).length ≤ 1000 := by
  have e : (⟨#[c]⟩ ++ z : Str).cps = #[c] ++ z.cps := rfl
  rcases hz with rfl | rfl
  · refine ⟨?_, ?_⟩
    · unfold sOk
      rw [e]
      have : ("" : Str).cps = #[] := by decide +kernel
      rw [this]
      simp [hc]
    · show (⟨#[c]⟩ ++ "" : Str).cps.size ≤ 1000
      rw [e]
      have : ("" : Str).cps.size = 0 := by decide +kernel
      rw [Array.size_append, this]
      exact (by decide : 1 + 0 ≤ 1000)
  · refine ⟨?_, ?_⟩
    · unfold sOk
      rw [e]
      have : ("1" : Str).cps = #[49] := by decide +kernel
      rw [this]
      simp [hc]
    · show (⟨#[c]⟩ ++ "1" : Str).cps.size ≤ 1000
      rw [e]
      have : ("1" : Str).cps.size = 1 := by decide +kernel
      rw [Array.size_append, this]
      exact (by decide : 1 + 1 ≤ 1000)
end K4
set_option maxHeartbeats 4000000
/-! K4p31: _law_number. -/
namespace K4
open PySem Dt
theorem cmp_nnil' {τ : Sl} {f : Dt.Sem} {l : List T} (h : Eo τ f (.lst l)) (ho : ∀ t ∈ l, okD 1 t) : Et τ (tstOf (sCmp .NotEq f (sLst aNil))) (!l.isEmpty) := et_of (ev_cmp h eo_nil (cmp_nnil (n := 1) ho (by decide))).o
theorem num_ratio {s : Int} {nums : List T} {x2 : Option (T × Fl)} : ∃ (s' : Int) (e : T), En e ∧ sCall [.S, .S] F__law_ratio (aCons (sBin .Sub (sCall [.M, .S] F__law_take (aCons (sVar 0) (aCons (sCst (.int 9)) aNil))) (sCst (.int 4))) (aCons (sBin .Add (sCst (.int 1)) (sCall [.M, .S] F__law_take (aCons (sVar 0) (aCons (sCst (.int 3)) aNil)))) aNil)) (uS s nums x2) = some (.v e, uS s' nums x2) := by
  obtain ⟨k1, s1, a1, b1, t1⟩ := take_c (s := s) (m := 9) (nums := nums) (x2 := x2) (by decide) (by decide)
  obtain ⟨k2, s2, a2, b2, t2⟩ := take_c (s := s1) (m := 3) (nums := nums) (x2 := x2) (by decide) (by decide)
  have d1 : sBin .Sub (sCall [.M, .S] F__law_take (aCons (sVar 0) (aCons (sCst (.int 9)) aNil))) (sCst (.int 4)) (uS s nums x2) = some (.v (.int (k1 - 4)), uS s1 nums x2) := s2_at t1 (show sCst (.int 4) (uS s1 nums x2) = some (.v (.int 4), uS s1 nums x2) from rfl) rfl rfl rfl
  have d2 : sBin .Add (sCst (.int 1)) (sCall [.M, .S] F__law_take (aCons (sVar 0) (aCons (sCst (.int 3)) aNil))) (uS s1 nums x2) = some (.v (.int (1 + k2)), uS s2 nums x2) := s2_at (show sCst (.int 1) (uS s1 nums x2) = some (.v (.int 1), uS s1 nums x2) from rfl) t2 rfl rfl rfl
  have c := sCall_at (ms := [.S, .S]) (F := F__law_ratio) (ac_at d1 (ac_at d2 a_nil)) (ts := [.int (k1 - 4), .int (1 + k2)]) (js := []) (τ2 := uS s2 nums x2) rfl (by simp [Sl.muts, nodupN]) (p__law_ratio (p := k1 - 4) (q := 1 + k2) (by omega) (by omega) (by omega)) (τ3 := uS s2 nums x2) rfl
  exact ⟨s2, _, ratio_en (by omega) (by omega) _, c⟩
theorem num_new {s : Int} {nums : List T} {x2 : T} (hl : nums.length ≤ 100) : ∃ z : Str, sOk z = true ∧ z.length ≤ 1000 ∧
    mExp (sMut 1 T.isLst gAppend (aCons (sBin .Add (sIx (sCst (.str "tuvwrs")) (sBin .Mod (sBi gLen (aCons (sVar 1) aNil)) (sCst (.int 6)))) (sIf (tstOf (sCmp .Lt (sBi gLen (aCons (sVar 1) aNil)) (sCst (.int 6)))) (sCst (.str "")) (sCst (.str "1")))) aNil)) (uS s nums (some (x2, .shr))) = some (.nx (uS s (nums ++ [.str z]) (some (x2, .shr)))) := by
  generalize hτ : uS s nums (some (x2, .shr)) = τ
  have v1 : Eo τ (sVar 1) (.lst nums) := by rw [← hτ]; exact eo_var (i := 1) rfl
  have ln : Ev τ (sBi gLen (aCons (sVar 1) aNil)) (.int (nums.length : Int)) := ev_bi1 v1 rfl
  have md : Ev τ (sBin .Mod (sBi gLen (aCons (sVar 1) aNil)) (sCst (.int 6))) (.int ((nums.length : Int) % 6)) := ev_bin ln.o ev_cst.o (mod_i (by decide))
  have m0 := Int.emod_nonneg (nums.length : Int) (show (6 : Int) ≠ 0 by decide)
  have m1 := Int.emod_lt_of_pos (nums.length : Int) (show (0 : Int) < 6 by decide)
  generalize (nums.length : Int) % 6 = k at md m0 m1
  have hk : k.toNat < tuv.cps.toList.length := by rw [tuv_len]; omega
  have ix : Ev τ (sIx (sCst (.str "tuvwrs")) (sBin .Mod (sBi gLen (aCons (sVar 1) aNil)) (sCst (.int 6)))) (.str ⟨#[tuv.cps.toList[k.toNat]]⟩) := ev_ix ev_cst.o md.o (by
    show (if tuv.length ≤ sizeLine then (L2.atI tuv.cps.toList k).map fun c => T.str ⟨#[c]⟩ else none) = _
    rw [if_pos tuv_short]
    unfold L2.atI L2.ixN
    rw [if_pos m0, if_pos (by rw [tuv_len]; omega)]
    simp [hk])
  have cok := tuv_ok _ (List.getElem_mem hk)
  generalize tuv.cps.toList[k.toNat] = c at ix cok
  have t1 : Et τ (tstOf (sCmp .Lt (sBi gLen (aCons (sVar 1) aNil)) (sCst (.int 6)))) (decide ((nums.length : Int) < 6)) := et_of (ev_cmp ln.o ev_cst.o rfl).o
  obtain ⟨z, hz, ez⟩ : ∃ z : Str, (z = "" ∨ z = "1") ∧ Ev τ (sIf (tstOf (sCmp .Lt (sBi gLen (aCons (sVar 1) aNil)) (sCst (.int 6)))) (sCst (.str "")) (sCst (.str "1"))) (.str z) := by
    by_cases h : (nums.length : Int) < 6
    · exact ⟨"", .inl rfl, (sIf_tt (t1.to (decide_eq_true h))).trans rfl⟩
    · exact ⟨"1", .inr rfl, (sIf_ff (t1.to (decide_eq_false h))).trans rfl⟩
  obtain ⟨ok, lz⟩ := num_name cok hz
  have b1 : (1000 : Nat) ≤ sizeLine := by decide
  have ad := ev_bin (op := .Add) (r := .str (⟨#[c]⟩ ++ z)) ix.o ez.o (by
    have q : (⟨#[c]⟩ : Str).length + z.length ≤ sizeLine := by
      have e : (⟨#[c]⟩ : Str).length = 1 := rfl
      rw [e]
      rcases hz with rfl | rfl <;> decide +kernel
    simp only [binT, addT, if_pos q])
  refine ⟨_, ok, lz, ?_⟩
  have ap := mut_at (i := 1) (kd := T.isLst) (k := gAppend) (ts := [.str (⟨#[c]⟩ ++ z)]) (t := .lst nums) (fl := .chg) (τ := τ) (by rw [← hτ]; rfl) rfl (.inr rfl) (a_cons ad a_nil) (by rw [← hτ]; rfl) (app_lst (by omega))
  rw [exp_at ap, ← hτ]
  rfl
theorem p__law_number {s : Int} {nums : List T} (hn : NumsOk nums) (hl : nums.length ≤ 100) : ∃ (s' : Int) (nums' : List T) (e : T), En e ∧ NumsOk nums' ∧ nums'.length ≤ nums.length + 1 ∧ F__law_number [.lst [.int s], .lst nums] = some (.ret e false [.lst [.int s'], .lst nums']) := by
  have r : F__law_number [.lst [.int s], .lst nums] = finF [.M, .M] (m__law_number (uS s nums none)) := runF_at rfl
  rw [r]
  unfold m__law_number
  obtain ⟨k, s1, a1, b1, t1⟩ := take_c (s := s) (m := 4) (nums := nums) (x2 := none) (by decide) (by decide)
  rw [mSeq_nx (set_v t1)]
  show ∃ (s' : Int) (nums' : List T) (e : T), En e ∧ NumsOk nums' ∧ nums'.length ≤ nums.length + 1 ∧ finF [.M, .M] (mSeq _ _ (uS s1 nums (some (.int k, .shr)))) = _
  have tk0 : Et (uS s1 nums (some (.int k, .shr))) (tstOf (sCmp .Eq (sVar 2) (sCst (.int 0)))) (decide (k = 0)) := et_of (ev_cmp (ev_var (i := 2) rfl).o ev_cst.o (by
    show some (eqT (.int k) (.int 0)) = _
    rw [eq_ints])).o
  by_cases h0 : k = 0
  · obtain ⟨s2, e, en, c⟩ := num_ratio (s := s1) (nums := nums) (x2 := some (.int k, .shr))
    refine ⟨s2, nums, e, en, hn, by omega, ?_⟩
    rw [mSeq_rt ((mIf_tt (tk0.to (decide_eq_true h0))).trans (mSeq_rt (mRet_at c)))]
    rfl
  · rw [mSeq_nx ((mIf_ff (tk0.to (decide_eq_false h0))).trans rfl)]
    have tk1 : Et (uS s1 nums (some (.int k, .shr))) (tstOf (sCmp .Eq (sVar 2) (sCst (.int 1)))) (decide (k = 1)) := et_of (ev_cmp (ev_var (i := 2) rfl).o ev_cst.o (by
      show some (eqT (.int k) (.int 1)) = _
      rw [eq_ints])).o
    have te := cmp_nnil' (τ := uS s1 nums (some (.int k, .shr))) (f := sVar 1) (eo_var (i := 1) rfl) hn.okD
    have tt := et_andb tk1 fun _ => te
    cases hq : (decide (k = 1) && !nums.isEmpty) with
    | true =>
      have hne : 0 < nums.length := by
        cases nums with
        | nil => simp at hq
        | cons a b => simp
      have ln : Ev (uS s1 nums (some (.int k, .shr))) (sBi gLen (aCons (sVar 1) aNil)) (.int (nums.length : Int)) := ev_bi1 (eo_var (i := 1) rfl) rfl
      have tk := take_at (j := 0) (s := s1) (fl := .chg) rfl (.inr rfl) ln (by omega) (by omega)
      have m0 := Int.emod_nonneg s1 (show (nums.length : Int) ≠ 0 by omega)
      have m1 := Int.emod_lt_of_pos s1 (show (0 : Int) < nums.length by omega)
      generalize s1 % (nums.length : Int) = j at tk m0 m1
      generalize s1 / (nums.length : Int) = s2 at tk
      have hj : j.toNat < nums.length := by omega
      have ix : sIx (sVar 1) (sCall [.M, .S] F__law_take (aCons (sVar 0) (aCons (sBi gLen (aCons (sVar 1) aNil)) aNil))) (uS s1 nums (some (.int k, .shr))) = some (.v (nums.getD j.toNat .non), uS s2 nums (some (.int k, .shr))) :=
        s2_at (show sVar 1 (uS s1 nums (some (.int k, .shr))) = some (.s 1, uS s1 nums (some (.int k, .shr))) from rfl) tk rfl rfl (by
          have q : ixT (.lst nums) (.int j) = some (nums.getD j.toNat .non) := by
            have := ixl_at (l := nums) (k := j.toNat) (x := nums.getD j.toNat .non) (by rw [List.getD_eq_getElem?_getD, List.getElem?_eq_getElem hj]; rfl)
            rw [show ((j.toNat : Nat) : Int) = j by omega] at this
            exact this
          rw [q]
          rfl)
      refine ⟨s2, nums, _, (hn _ (getD_mem hj)).2, hn, by omega, ?_⟩
      rw [mSeq_rt ((mIf_tt (tt.to hq)).trans (mSeq_rt (mRet_at ix)))]
      rfl
    | false =>
      rw [mSeq_nx ((mIf_ff (tt.to hq)).trans rfl)]
      obtain ⟨z, z1, z2, e⟩ := num_new (s := s1) (nums := nums) (x2 := .int k) hl
      rw [mSeq_nx e]
      have ix : Ev (uS s1 (nums ++ [.str z]) (some (.int k, .shr))) (sIx (sVar 1) (sNeg (sCst (.int 1)))) (.str z) := ev_ix (eo_var (i := 1) rfl) (show Ev _ (sNeg (sCst (.int 1))) (.int (-1)) from rfl).o (by
        show L2.atI (nums ++ [T.str z]) (-1) = _
        unfold L2.atI L2.ixN
        simp
        rw [if_pos (show (1 : Int) ≤ (nums.length : Int) + 1 by omega)]
        have e2 : (-1 + ((nums.length : Int) + 1)).toNat = nums.length := by omega
        show (nums ++ [T.str z])[(-1 + ((nums.length : Int) + 1)).toNat]? = _
        rw [e2]
        simp)
      refine ⟨s1, nums ++ [.str z], .str z, ⟨z1, z2⟩, fun y hy => ?_, by simp, ?_⟩
      · rcases List.mem_append.mp hy with hy | hy
        · exact hn y hy
        · simp only [List.mem_cons, List.not_mem_nil, or_false] at hy
          rw [hy]
          exact ⟨rfl, z1, z2⟩
      · rw [mSeq_rt (mRet_v ix)]
        rfl
end K4
set_option maxHeartbeats 4000000
/-! K4p32: _law_step. -/
namespace K4
open PySem Dt
def words : List T := [.str "on", .str "middle", .str "corner", .str "mirror", .str "square", .str "meet", .str "foot", .str "fold", .str "centre", .str "second", .str "inverse", .str "circle", .str "like"]
theorem words_len : words.length = 13 := rfl
def needL : List T := [.tup [.str "on", .int 2], .tup [.str "middle", .int 2], .tup [.str "corner", .int 3], .tup [.str "mirror", .int 2], .tup [.str "square", .int 2], .tup [.str "meet", .int 4], .tup [.str "foot", .int 3], .tup [.str "fold", .int 3], .tup [.str "centre", .int 3], .tup [.str "second", .int 3], .tup [.str "inverse", .int 3], .tup [.str "circle", .int 2], .tup [.str "like", .int 5]]
def need1 : List T := [.tup [.str "on", .int 2], .tup [.str "middle", .int 2], .tup [.str "corner", .int 3], .tup [.str "mirror", .int 2], .tup [.str "square", .int 2], .tup [.str "meet", .int 4], .tup [.str "foot", .int 3], .tup [.str "fold", .int 3]]
/-- a full step -/
def StepL (t : T) (a b : Nat) : Prop := ∃ l : List T, t = .tup l ∧ a ≤ l.length ∧ l.length ≤ b ∧ ∀ x ∈ l, En x
theorem word_en {x : T} (h : x ∈ words) : ∃ w : Str, x = .str w ∧ sOk w = true ∧ w.length ≤ 1000 := by
  simp only [words, List.mem_cons, List.not_mem_nil, or_false] at h
  rcases h with rfl | rfl | rfl | rfl | rfl | rfl | rfl | rfl | rfl | rfl | rfl | rfl | rfl <;> exact ⟨_, rfl, by decide +kernel, by decide +kernel⟩
abbrev sS (s : Int) (name : T) (names nums : List T) (x5 x6 x7 x8 : Option (T × Fl)) : Sl := [some (.lst [.int s], .chg), some (name, .shr), some (.lst names, .bor), some (.lst nums, .chg), some (.lst words, .shr), x5, x6, x7, x8, none, none]
/-- how many points a word wants -/
theorem need_of {s : Int} {name : T} {names nums : List T} {x : T} (h : x ∈ words) : ∃ k : Nat, 2 ≤ k ∧ k ≤ 5 ∧
    mSet 7 (sLc (srcOf (sVar 6)) (tgtN [9, 10]) [9, 10] (tstOf (sCmp .Eq (sVar 9) (sVar 5))) (sVar 10)) (sS s name names nums (some (x, .shr)) (some (.lst needL, .own)) none none) = some (.nx (sS s name names nums (some (x, .shr)) (some (.lst needL, .shr)) (some (.lst [.int (k : Int)], .own)) none)) := by
  simp only [words, List.mem_cons, List.not_mem_nil, or_false] at h
  rcases h with rfl | rfl | rfl | rfl | rfl | rfl | rfl | rfl | rfl | rfl | rfl | rfl | rfl
  · exact ⟨2, by decide, by decide, by kernel_rfl⟩
  · exact ⟨2, by decide, by decide, by kernel_rfl⟩
  · exact ⟨3, by decide, by decide, by kernel_rfl⟩
  · exact ⟨2, by decide, by decide, by kernel_rfl⟩
  · exact ⟨2, by decide, by decide, by kernel_rfl⟩
  · exact ⟨4, by decide, by decide, by kernel_rfl⟩
  · exact ⟨3, by decide, by decide, by kernel_rfl⟩
  · exact ⟨3, by decide, by decide, by kernel_rfl⟩
  · exact ⟨3, by decide, by decide, by kernel_rfl⟩
  · exact ⟨3, by decide, by decide, by kernel_rfl⟩
  · exact ⟨3, by decide, by decide, by kernel_rfl⟩
  · exact ⟨2, by decide, by decide, by kernel_rfl⟩
  · exact ⟨5, by decide, by decide, by kernel_rfl⟩
theorem tup_add {x y : List T} (h : x.length + y.length ≤ 1000) : binT .Add (.tup x) (.tup y) = some (.tup (x ++ y), false) := by
  have b1 : (1000 : Nat) ≤ sizeLine := by decide
  show (if x.length + y.length ≤ sizeLine then some (T.tup (x ++ y), false) else none) = _
  rw [if_pos (by omega)]
theorem bin_at {τ τ1 τ2 : Sl} {f g : Dt.Sem} {x y : Od} {t u v : T} {op : Operator} (h1 : f τ = some (x, τ1)) (h2 : g τ1 = some (y, τ2)) (h3 : τ2.tr x.sh = some t) (h4 : τ2.tr y.sh = some u) (h5 : binT op t u = some (v, false)) : sBin op f g τ = some (.v v, τ2) := s2_at h1 h2 h3 h4 (by rw [h5]; rfl)
theorem p__law_step {s : Int} {name : T} {names nums : List T} (hm : En name) (hn : ∀ y ∈ names, En y) (hnl : names.length ≤ 100) (hu : NumsOk nums) (hul : nums.length ≤ 100) :
    ∃ (s' : Int) (nums' : List T) (t : T), StepL t 2 8 ∧ NumsOk nums' ∧ nums'.length ≤ nums.length + 1 ∧ F__law_step [.lst [.int s], name, .lst names, .lst nums, .lst words] = some (.ret t false [.lst [.int s'], .lst nums']) := by
  have r : F__law_step [.lst [.int s], name, .lst names, .lst nums, .lst words] = finF [.M, .S, .B, .M, .S] (m__law_step (sS s name names nums none none none none)) := runF_at rfl
  rw [r]
  unfold m__law_step
  have ln : Ev (sS s name names nums none none none none) (sBi gLen (aCons (sVar 4) aNil)) (.int 13) := ev_bi1 (ev_var (i := 4) rfl).o rfl
  have tk := take_at (j := 0) (s := s) (fl := .chg) rfl (.inr rfl) ln (by decide) (by decide)
  have m0 := Int.emod_nonneg s (show (13 : Int) ≠ 0 by decide)
  have m1 := Int.emod_lt_of_pos s (show (0 : Int) < 13 by decide)
  generalize s % 13 = j at tk m0 m1
  generalize s / 13 = s1 at tk
  have hj : j.toNat < words.length := by rw [words_len]; omega
  have hx : words.getD j.toNat .non ∈ words := getD_mem hj
  have ix : sIx (sVar 4) (sCall [.M, .S] F__law_take (aCons (sVar 0) (aCons (sBi gLen (aCons (sVar 4) aNil)) aNil))) (sS s name names nums none none none none) = some (.v (words.getD j.toNat .non), sS s1 name names nums none none none none) :=
    s2_at (show sVar 4 (sS s name names nums none none none none) = some (.v (.lst words), sS s name names nums none none none none) from rfl) tk rfl rfl (by
      have q : ixT (.lst words) (.int j) = some (words.getD j.toNat .non) := by
        have := ixl_at (l := words) (k := j.toNat) (x := words.getD j.toNat .non) (by rw [List.getD_eq_getElem?_getD, List.getElem?_eq_getElem hj]; rfl)
        rw [show ((j.toNat : Nat) : Int) = j by omega] at this
        exact this
      rw [q]
      rfl)
  generalize words.getD j.toNat .non = x at ix hx
  rw [mSeq_nx (set_v ix)]
  show ∃ (s' : Int) (nums' : List T) (t : T), StepL t 2 8 ∧ NumsOk nums' ∧ nums'.length ≤ nums.length + 1 ∧ finF [.M, .S, .B, .M, .S] (mSeq _ _ (sS s1 name names nums (some (x, .shr)) none none none)) = _
  rw [mSeq_nx (τ1 := sS s1 name names nums (some (x, .shr)) (some (.lst need1, .own)) none none) (by kernel_rfl)]
  rw [mSeq_nx (τ1 := sS s1 name names nums (some (x, .shr)) (some (.lst needL, .own)) none none) (by kernel_rfl)]
  obtain ⟨k, k0, k1, e7⟩ := need_of (s := s1) (name := name) (names := names) (nums := nums) hx
  rw [mSeq_nx e7]
  obtain ⟨w, rfl, wok, wl⟩ := word_en hx
  generalize hτ : sS s1 name names nums (some (.str w, .shr)) (some (.lst needL, .shr)) (some (.lst [.int (k : Int)], .own)) none = τ
  have v5 : Ev τ (sVar 5) (.str w) := by rw [← hτ]; exact ev_var (i := 5) rfl
  have v1 : Ev τ (sVar 1) name := by rw [← hτ]; exact ev_var (i := 1) rfl
  have v7 : Eo τ (sVar 7) (.lst [.int (k : Int)]) := by rw [← hτ]; exact eo_var (i := 7) rfl
  have x7 : Ev τ (sIx (sVar 7) (sCst (.int 0))) (.int (k : Int)) := ev_ix v7 ev_cst.o rfl
  have t7 : Et τ (tstOf (sCmp .Eq (sVar 7) (sLst aNil))) false := et_of (ev_cmp v7 eo_nil (cmp_nil (n := 0) (l := [.int (k : Int)]) (fun z hz => by
    simp only [List.mem_cons, List.not_mem_nil, or_false] at hz
    rw [hz]; exact okD_int) (by decide))).o
  have t8 : Et τ (tstOf (sCmp .Gt (sIx (sVar 7) (sCst (.int 0))) (sBi gLen (aCons (sVar 2) aNil)))) (decide ((names.length : Int) < (k : Int))) := et_of (ev_cmp x7.o (ev_bi1 (r := .int (names.length : Int)) (by rw [← hτ]; exact eo_var (i := 2) rfl) rfl).o rfl).o
  have tt := et_orb t7 fun _ => t8
  rw [Bool.false_or] at tt
  have b1 : (1000 : Nat) ≤ sizeLine := by decide
  by_cases hk : (names.length : Int) < (k : Int)
  · have ev := ev_tup (ts := [.str "free", name]) (a_cons (ev_cst (τ := τ) (t := .str "free")) (a_cons v1 a_nil)) (by simp; omega)
    refine ⟨s1, nums, .tup [.str "free", name], ⟨_, rfl, by simp, by simp, fun y hy => ?_⟩, hu, by omega, ?_⟩
    · simp only [List.mem_cons, List.not_mem_nil, or_false] at hy
      rcases hy with rfl | rfl
      · exact ⟨by decide +kernel, by decide +kernel⟩
      · exact hm
    · rw [mSeq_rt ((mIf_tt (tt.to (decide_eq_true hk))).trans (mSeq_rt (mRet_v ev))), ← hτ]
      rfl
  · rw [mSeq_nx ((mIf_ff (tt.to (decide_eq_false hk))).trans rfl)]
    obtain ⟨s2, found, f1, f2, fe⟩ := p__law_pick (names := names) (c := k) (s := s1) (by omega) (by omega)
    have c8 : sCall [.M, .B, .S] F__law_pick (aCons (sVar 0) (aCons (sVar 2) (aCons (sIx (sVar 7) (sCst (.int 0))) aNil))) τ = some (.f (.lst found), sS s2 name names nums (some (.str w, .shr)) (some (.lst needL, .shr)) (some (.lst [.int (k : Int)], .own)) none) := by
      have a0 : (aCons (sVar 0) (aCons (sVar 2) (aCons (sIx (sVar 7) (sCst (.int 0))) aNil))) τ = some ([.s 0, .s 2, .v (.int (k : Int))], τ) := by
        have z0 : sVar 0 τ = some (.s 0, τ) := by rw [← hτ]; rfl
        have z2 : sVar 2 τ = some (.s 2, τ) := by rw [← hτ]; rfl
        exact ac_at z0 (ac_at z2 (a_cons x7 a_nil))
      rw [← hτ] at a0 ⊢
      exact sCall_at (js := [0]) a0 rfl rfl fe rfl
    rw [mSeq_nx (set_f c8)]
    show ∃ (s' : Int) (nums' : List T) (t : T), StepL t 2 8 ∧ NumsOk nums' ∧ nums'.length ≤ nums.length + 1 ∧ finF [.M, .S, .B, .M, .S] (mSeq _ _ (sS s2 name names nums (some (.str w, .shr)) (some (.lst needL, .shr)) (some (.lst [.int (k : Int)], .own)) (some (.lst found, .own)))) = _
    have fen : ∀ y ∈ found, En y := fun y hy => hn y (f2 y hy)
    have ont : Et (sS s2 name names nums (some (.str w, .shr)) (some (.lst needL, .shr)) (some (.lst [.int (k : Int)], .own)) (some (.lst found, .own))) _ _ := et_on (ev_var (i := 5) rfl)
    have h0 : Ev (sS s2 name names nums (some (.str w, .shr)) (some (.lst needL, .shr)) (some (.lst [.int (k : Int)], .own)) (some (.lst found, .own))) (sBin .Add (sTup (aCons (sVar 5) (aCons (sVar 1) aNil))) (sBi gTuple (aCons (sVar 8) aNil))) (.tup ([.str w, name] ++ found)) :=
      ev_bin (ev_tup (ts := [.str w, name]) (a_cons (ev_var (i := 5) rfl) (a_cons (ev_var (i := 1) rfl) a_nil)) (by simp; omega)).o (ev_bi1 (r := .tup found) (eo_var (i := 8) rfl) rfl).o (tup_add (by simp; omega))
    have en0 : ∀ y ∈ [.str w, name] ++ found, En y := fun y hy => by
      rcases List.mem_append.mp hy with hy | hy
      · simp only [List.mem_cons, List.not_mem_nil, or_false] at hy
        rcases hy with rfl | rfl
        · exact ⟨wok, wl⟩
        · exact hm
      · exact fen y hy
    cases ho : isOn w with
    | true =>
      obtain ⟨s3, nums', e, ee, g1, g2, ne⟩ := p__law_number (s := s2) hu hul
      have cn : sCall [.M, .M] F__law_number (aCons (sVar 0) (aCons (sVar 3) aNil)) (sS s2 name names nums (some (.str w, .shr)) (some (.lst needL, .shr)) (some (.lst [.int (k : Int)], .own)) (some (.lst found, .own))) = some (.v e, sS s3 name names nums' (some (.str w, .shr)) (some (.lst needL, .shr)) (some (.lst [.int (k : Int)], .own)) (some (.lst found, .own))) :=
        sCall_at (xs := [.s 0, .s 3]) (js := [0, 3]) rfl rfl rfl ne rfl
      have tp : sTup (aCons (sCall [.M, .M] F__law_number (aCons (sVar 0) (aCons (sVar 3) aNil))) aNil) (sS s2 name names nums (some (.str w, .shr)) (some (.lst needL, .shr)) (some (.lst [.int (k : Int)], .own)) (some (.lst found, .own))) = some (.v (.tup [e]), sS s3 name names nums' (some (.str w, .shr)) (some (.lst needL, .shr)) (some (.lst [.int (k : Int)], .own)) (some (.lst found, .own))) := by
        unfold sTup
        rw [ac_at cn a_nil]
        rfl
      have sm : sBin .Add (sBin .Add (sTup (aCons (sVar 5) (aCons (sVar 1) aNil))) (sBi gTuple (aCons (sVar 8) aNil))) (sTup (aCons (sCall [.M, .M] F__law_number (aCons (sVar 0) (aCons (sVar 3) aNil))) aNil)) (sS s2 name names nums (some (.str w, .shr)) (some (.lst needL, .shr)) (some (.lst [.int (k : Int)], .own)) (some (.lst found, .own))) = some (.v (.tup (([.str w, name] ++ found) ++ [e])), sS s3 name names nums' (some (.str w, .shr)) (some (.lst needL, .shr)) (some (.lst [.int (k : Int)], .own)) (some (.lst found, .own))) := bin_at h0 tp rfl rfl (tup_add (by simp; omega))
      refine ⟨s3, nums', .tup (([.str w, name] ++ found) ++ [e]), ⟨_, rfl, by simp, by simp; omega, fun y hy => ?_⟩, g1, g2, ?_⟩
      · rcases List.mem_append.mp hy with hy | hy
        · exact en0 y hy
        · simp only [List.mem_cons, List.not_mem_nil, or_false] at hy
          rw [hy]; exact ee
      · rw [mSeq_rt ((mIf_tt (ont.to ho)).trans (mSeq_rt (mRet_at sm)))]
        rfl
    | false =>
      refine ⟨s2, nums, .tup ([.str w, name] ++ found), ⟨_, rfl, by simp, by simp; omega, en0⟩, hu, by omega, ?_⟩
      rw [mSeq_nx ((mIf_ff (ont.to ho)).trans rfl), mSeq_rt (mRet_v h0)]
      rfl
end K4
set_option maxHeartbeats 4000000
/-! K4p33: _law_steps. -/
namespace K4
open PySem Dt
abbrev gS (s a b : Int) (names nums steps : List T) (x7 x8 x9 : Option (T × Fl)) : Sl := [some (.lst [.int s], .chg), some (.int a, .shr), some (.int b, .shr), some (.lst words, .shr), some (.lst names, .own), some (.lst nums, .own), some (.lst steps, .own), x7, x8, x9]
def gB : Stm := (mSeq (mSet 8 (sCall [.S] F__law_name (aCons (sVar 7) aNil))) (mSeq (mSet 9 (sIf (tstOf (sCmp .Lt (sVar 7) (sVar 1))) (sTup (aCons (sCst (.str "free")) (aCons (sVar 8) aNil))) (sCall [.M, .S, .B, .M, .S] F__law_step (aCons (sVar 0) (aCons (sVar 8) (aCons (sVar 4) (aCons (sVar 5) (aCons (sVar 3) aNil)))))))) (mSeq (mExp (sMut 6 T.isLst gAppend (aCons (sVar 9) aNil))) (mSeq (mExp (sMut 4 T.isLst gAppend (aCons (sVar 8) aNil))) mNil))))
theorem upper_lt {c : Nat} (h : c ∈ upper.cps.toList) : c < 0x110000 := by
  have := upper_ok
  rw [List.all_eq_true] at this
  exact of_decide_eq_true (this c h)
theorem steps_step {s a b : Int} {names nums steps : List T} {k : Int} {x8 x9 : Option (T × Fl)} (k0 : 0 ≤ k) (k1 : k < 26) (hn : ∀ y ∈ names, En y) (hnl : names.length ≤ 100) (hu : NumsOk nums) (hul : nums.length ≤ 100) (hz : steps.length ≤ 100) :
    ∃ (s' : Int) (nm : T) (nums' : List T) (t : T) (y8 y9 : Option (T × Fl)), En nm ∧ StepL t 2 8 ∧ NumsOk nums' ∧ nums'.length ≤ nums.length + 1 ∧ gB (gS s a b names nums steps (some (.int k, .shr)) x8 x9) = some (.nx (gS s' a b (names ++ [nm]) nums' (steps ++ [t]) (some (.int k, .shr)) y8 y9)) := by
  obtain ⟨c, hc, en⟩ := p__law_name k0 k1
  obtain ⟨o1, o2⟩ := num_name (upper_lt hc) (.inl rfl)
  generalize hnm : T.str (⟨#[c]⟩ ++ "") = nm at en
  have enm : En nm := by rw [← hnm]; exact ⟨o1, o2⟩
  have c8 : Ev (gS s a b names nums steps (some (.int k, .shr)) x8 x9) (sCall [.S] F__law_name (aCons (sVar 7) aNil)) nm := ev_call (xs := [.v (.int k)]) rfl rfl en
  have t9 : Et (gS s a b names nums steps (some (.int k, .shr)) (some (nm, .shr)) x9) (tstOf (sCmp .Lt (sVar 7) (sVar 1))) (decide (k < a)) := et_of (ev_cmp (ev_var (i := 7) rfl).o (ev_var (i := 1) rfl).o rfl).o
  have b1 : (100 : Nat) < sizeLine := by decide
  have fin : ∀ (s' : Int) (nums' : List T) (t : T), (mSeq (mExp (sMut 6 T.isLst gAppend (aCons (sVar 9) aNil))) (mSeq (mExp (sMut 4 T.isLst gAppend (aCons (sVar 8) aNil))) mNil)) (gS s' a b names nums' steps (some (.int k, .shr)) (some (nm, .shr)) (some (t, .shr))) = some (.nx (gS s' a b (names ++ [nm]) nums' (steps ++ [t]) (some (.int k, .shr)) (some (nm, .shr)) (some (t, .shr)))) := fun s' nums' t => by
    have e6 := append_at (τ := gS s' a b names nums' steps (some (.int k, .shr)) (some (nm, .shr)) (some (t, .shr))) (i := 6) (l := steps) (f := sVar 9) (x := t) rfl (ev_var rfl) (by omega)
    have e4 := append_at (τ := gS s' a b names nums' (steps ++ [t]) (some (.int k, .shr)) (some (nm, .shr)) (some (t, .shr))) (i := 4) (l := names) (f := sVar 8) (x := nm) rfl (ev_var rfl) (by omega)
    exact (mSeq_nx e6).trans ((mSeq_nx e4).trans rfl)
  unfold gB
  rw [mSeq_nx (τ1 := gS s a b names nums steps (some (.int k, .shr)) (some (nm, .shr)) x9) (set_v c8)]
  by_cases hk : k < a
  · have tp : Ev (gS s a b names nums steps (some (.int k, .shr)) (some (nm, .shr)) x9) (sIf (tstOf (sCmp .Lt (sVar 7) (sVar 1))) (sTup (aCons (sCst (.str "free")) (aCons (sVar 8) aNil))) (sCall [.M, .S, .B, .M, .S] F__law_step (aCons (sVar 0) (aCons (sVar 8) (aCons (sVar 4) (aCons (sVar 5) (aCons (sVar 3) aNil))))))) (.tup [.str "free", nm]) :=
      (sIf_tt (t9.to (decide_eq_true hk))).trans (ev_tup (ts := [.str "free", nm]) (a_cons ev_cst (a_cons (ev_var (i := 8) rfl) a_nil)) (by simp; omega))
    refine ⟨s, nm, nums, .tup [.str "free", nm], some (nm, .shr), some (.tup [.str "free", nm], .shr), enm, ⟨_, rfl, by simp, by simp, fun y hy => ?_⟩, hu, by omega, ?_⟩
    · simp only [List.mem_cons, List.not_mem_nil, or_false] at hy
      rcases hy with rfl | rfl
      · exact ⟨by decide +kernel, by decide +kernel⟩
      · exact enm
    · rw [mSeq_nx (set_v tp)]
      exact fin s nums _
  · obtain ⟨s', nums', t, g1, g2, g3, ge⟩ := p__law_step (s := s) enm hn hnl hu hul
    have cs : sCall [.M, .S, .B, .M, .S] F__law_step (aCons (sVar 0) (aCons (sVar 8) (aCons (sVar 4) (aCons (sVar 5) (aCons (sVar 3) aNil))))) (gS s a b names nums steps (some (.int k, .shr)) (some (nm, .shr)) x9) = some (.v t, gS s' a b names nums' steps (some (.int k, .shr)) (some (nm, .shr)) x9) :=
      sCall_at (xs := [.s 0, .v nm, .s 4, .s 5, .v (.lst words)]) (js := [0, 5]) rfl rfl rfl ge rfl
    have tp : sIf (tstOf (sCmp .Lt (sVar 7) (sVar 1))) (sTup (aCons (sCst (.str "free")) (aCons (sVar 8) aNil))) (sCall [.M, .S, .B, .M, .S] F__law_step (aCons (sVar 0) (aCons (sVar 8) (aCons (sVar 4) (aCons (sVar 5) (aCons (sVar 3) aNil)))))) (gS s a b names nums steps (some (.int k, .shr)) (some (nm, .shr)) x9) = some (.v t, gS s' a b names nums' steps (some (.int k, .shr)) (some (nm, .shr)) x9) := (sIf_ff (t9.to (decide_eq_false hk))).trans cs
    refine ⟨s', nm, nums', t, some (nm, .shr), some (t, .shr), enm, g1, g2, g3, ?_⟩
    rw [mSeq_nx (set_v tp)]
    exact fin s' nums' t
theorem steps_walk {a b : Int} : ∀ (n p : Nat) (s : Int) (names nums steps : List T) (x7 x8 x9 : Option (T × Fl)), p + n ≤ 26 → (∀ y ∈ names, En y) → names.length ≤ p → NumsOk nums → nums.length ≤ p → steps.length = p → (∀ t ∈ steps, StepL t 2 8) →
    ∃ (s' : Int) (names' nums' steps' : List T) (y7 y8 y9 : Option (T × Fl)), steps'.length = p + n ∧ (∀ t ∈ steps', StepL t 2 8) ∧ walk (tgt1 7) gB (plc p n) (gS s a b names nums steps x7 x8 x9) = some (.nx (gS s' a b names' nums' steps' y7 y8 y9))
  | 0, p, s, names, nums, steps, x7, x8, x9, _, _, _, _, _, h, h2 => ⟨s, names, nums, steps, x7, x8, x9, h, h2, rfl⟩
  | n + 1, p, s, names, nums, steps, x7, x8, x9, h1, h2, h3, h4, h5, h6, h7 => by
    obtain ⟨s1, nm, nums1, t, y8, y9, g1, g2, g3, g4, ge⟩ := steps_step (s := s) (a := a) (b := b) (names := names) (nums := nums) (steps := steps) (k := 0 + ((p : Nat) : Int)) (x8 := x8) (x9 := x9) (by omega) (by omega) h2 (by omega) h4 (by omega) (by omega)
    have st : walk (tgt1 7) gB (plc p (n + 1)) (gS s a b names nums steps x7 x8 x9) = (match gB (gS s a b names nums steps (some (.int (0 + ((p : Nat) : Int)), .shr)) x8 x9) with
        | some (.nx τ2) => walk (tgt1 7) gB (plc (p + 1) n) τ2
        | some (.ct τ2) => walk (tgt1 7) gB (plc (p + 1) n) τ2
        | some (.br τ2) => some (.nx τ2)
        | o => o) := rfl
    rw [st, ge]
    obtain ⟨s', names', nums', steps', y7, y8', y9', r1, r2, r3⟩ := steps_walk (a := a) (b := b) n (p + 1) s1 (names ++ [nm]) nums1 (steps ++ [t]) (some (.int (0 + ((p : Nat) : Int)), .shr)) y8 y9 (by omega) (fun y hy => by
      rcases List.mem_append.mp hy with hy | hy
      · exact h2 y hy
      · simp only [List.mem_cons, List.not_mem_nil, or_false] at hy
        rw [hy]; exact g1) (by simp; omega) g3 (by omega) (by simp; omega) (fun y hy => by
      rcases List.mem_append.mp hy with hy | hy
      · exact h7 y hy
      · simp only [List.mem_cons, List.not_mem_nil, or_false] at hy
        rw [hy]; exact g2)
    exact ⟨s', names', nums', steps', y7, y8', y9', by omega, r2, r3⟩
theorem p__law_steps {s : Int} {a b : Nat} (h : a + b ≤ 26) : ∃ (s' : Int) (steps : List T), steps.length = a + b ∧ (∀ t ∈ steps, StepL t 2 8) ∧ F__law_steps [.lst [.int s], .int (a : Int), .int (b : Int), .lst words] = some (.ret (.lst steps) true [.lst [.int s']]) := by
  have r : F__law_steps [.lst [.int s], .int (a : Int), .int (b : Int), .lst words] = finF [.M, .S, .S, .S] (m__law_steps [some (.lst [.int s], .chg), some (.int (a : Int), .shr), some (.int (b : Int), .shr), some (.lst words, .shr), none, none, none, none, none, none]) := runF_at rfl
  obtain ⟨s', names', nums', steps', y7, y8, y9, r1, r2, r3⟩ := steps_walk (a := a) (b := b) (a + b) 0 s [] [] [] none none none (by omega) (fun y hy => by cases hy) (Nat.le_refl _) (fun y hy => by cases hy) (Nat.le_refl _) rfl (fun y hy => by cases hy)
  refine ⟨s', steps', by omega, r2, ?_⟩
  rw [r]
  unfold m__law_steps
  have e1 : mSet 4 (sLst aNil) [some (.lst [.int s], .chg), some (.int (a : Int), .shr), some (.int (b : Int), .shr), some (.lst words, .shr), none, none, none, none, none, none] = some (.nx [some (.lst [.int s], .chg), some (.int (a : Int), .shr), some (.int (b : Int), .shr), some (.lst words, .shr), some (.lst [], .own), none, none, none, none, none]) := rfl
  have e2 : mSet 5 (sLst aNil) [some (.lst [.int s], .chg), some (.int (a : Int), .shr), some (.int (b : Int), .shr), some (.lst words, .shr), some (.lst [], .own), none, none, none, none, none] = some (.nx [some (.lst [.int s], .chg), some (.int (a : Int), .shr), some (.int (b : Int), .shr), some (.lst words, .shr), some (.lst [], .own), some (.lst [], .own), none, none, none, none]) := rfl
  have e3 : mSet 6 (sLst aNil) [some (.lst [.int s], .chg), some (.int (a : Int), .shr), some (.int (b : Int), .shr), some (.lst words, .shr), some (.lst [], .own), some (.lst [], .own), none, none, none, none] = some (.nx (gS s a b [] [] [] none none none)) := rfl
  have ad : Ev (gS s a b [] [] [] none none none) (sBin .Add (sVar 1) (sVar 2)) (.int ((a + b : Nat) : Int)) := ev_bin (ev_var (i := 1) rfl).o (ev_var (i := 2) rfl).o rfl
  have src := src_range1 ad (r62_small (by omega) (by omega))
  rw [plc_zero] at src
  have w := for_at src r3
  unfold gB at w
  rw [mSeq_nx e1, mSeq_nx e2, mSeq_nx e3, mSeq_nx w]
  rfl
end K4
set_option maxHeartbeats 4000000
/-! K4p34: _law_bent. -/
namespace K4
open PySem Dt
/-- a step, perhaps bent -/
def StepB (b : Nat) (t : T) : Prop := ∃ l : List T, (t = .tup l ∨ t = .lst l) ∧ l.length ≤ b ∧ ∀ x ∈ l, En x
def wrongL : List T := [.str "a", .str "A1", .str "Ab", .str "", .str "A1234", .int 7, .tup [.int 1, .int 2], .tup [.int 2, .int 4], .tup [.int 1, .int 0], .str "zz", .str "t9", .non, .bl true, .str "B", .str "C", .tup [.int 1000000000000, .int 1], .str "free", .str "meet"]
theorem wrong_len : wrongL.length = 18 := rfl
theorem two_en (a b : Int) (h1 : a.natAbs ≤ 10 ^ 12) (h2 : b.natAbs ≤ 10 ^ 12) : En (.tup [.int a, .int b]) := by
  refine ⟨by simp, fun x hx => ?_⟩
  simp only [List.mem_cons, List.not_mem_nil, or_false] at hx
  rcases hx with rfl | rfl
  · exact ⟨_, rfl, h1⟩
  · exact ⟨_, rfl, h2⟩
theorem str_en (s : Str) (h1 : sOk s = true) (h2 : decide (s.length ≤ 1000) = true) : En (.str s) := ⟨h1, of_decide_eq_true h2⟩
theorem wrong_en : ∀ x ∈ wrongL, En x := fun x hx => by
  simp only [wrongL, List.mem_cons, List.not_mem_nil, or_false] at hx
  rcases hx with rfl | rfl | rfl | rfl | rfl | rfl | rfl | rfl | rfl | rfl | rfl | rfl | rfl | rfl | rfl | rfl | rfl | rfl
  · exact str_en _ (by decide +kernel) (by decide +kernel)
  · exact str_en _ (by decide +kernel) (by decide +kernel)
  · exact str_en _ (by decide +kernel) (by decide +kernel)
  · exact str_en _ (by decide +kernel) (by decide +kernel)
  · exact str_en _ (by decide +kernel) (by decide +kernel)
  · exact (by decide : (7 : Int).natAbs ≤ 10 ^ 12)
  · exact two_en _ _ (by decide) (by decide)
  · exact two_en _ _ (by decide) (by decide)
  · exact two_en _ _ (by decide) (by decide)
  · exact str_en _ (by decide +kernel) (by decide +kernel)
  · exact str_en _ (by decide +kernel) (by decide +kernel)
  · exact True.intro
  · exact True.intro
  · exact str_en _ (by decide +kernel) (by decide +kernel)
  · exact str_en _ (by decide +kernel) (by decide +kernel)
  · exact two_en _ _ (by decide) (by decide)
  · exact str_en _ (by decide +kernel) (by decide +kernel)
  · exact str_en _ (by decide +kernel) (by decide +kernel)
section
variable {τ τ1 τ2 τ3 : Sl} {f g k : Dt.Sem} {t u : T} {l : List T} {i j : Int} {o : Od}
theorem sl_lo (h1 : f τ = some (o, τ1)) (h2 : g τ1 = some (.v (.int i), τ2)) {r : T × Bool} (h3 : τ2.tr o.sh = some t) (h4 : slT t (some i) none = some r) : sSl f (some g) none τ = some (fr r.1 r.2, τ2) := by
  unfold sSl
  rw [h1]
  show (match (match g τ1 with | some (x, τ1) => (match τ1.tr x with | some (.int i) => some (some i, τ1) | _ => none) | none => none) with
    | some (lo, τ2) => (match τ2.tr o.sh with | some t => (match slT t lo none with | some r => some (fr r.1 r.2, τ2) | none => none) | none => none)
    | none => none) = _
  rw [h2]
  show (match τ2.tr o.sh with | some t => (match slT t (some i) none with | some r => some (fr r.1 r.2, τ2) | none => none) | none => none) = _
  rw [h3]
  dsimp only
  rw [h4]
theorem sl_hi (h1 : f τ = some (o, τ1)) (h2 : g τ1 = some (.v (.int i), τ2)) {r : T × Bool} (h3 : τ2.tr o.sh = some t) (h4 : slT t none (some i) = some r) : sSl f none (some g) τ = some (fr r.1 r.2, τ2) := by
  unfold sSl
  rw [h1]
  show (match (match g τ1 with | some (x, τ1) => (match τ1.tr x with | some (.int i) => some (some i, τ1) | _ => none) | none => none) with
    | some (hi, τ2) => (match τ2.tr o.sh with | some t => (match slT t none hi with | some r => some (fr r.1 r.2, τ2) | none => none) | none => none)
    | none => none) = _
  rw [h2]
  show (match τ2.tr o.sh with | some t => (match slT t none (some i) with | some r => some (fr r.1 r.2, τ2) | none => none) | none => none) = _
  rw [h3]
  dsimp only
  rw [h4]
end
theorem lst_add {x y : List T} (h : x.length + y.length ≤ 1000) : binT .Add (.lst x) (.lst y) = some (.lst (x ++ y), true) := by
  have b1 : (1000 : Nat) ≤ sizeLine := by decide
  show (if x.length + y.length ≤ sizeLine then some (T.lst (x ++ y), true) else none) = _
  rw [if_pos (by omega)]
theorem binF_at {τ τ1 τ2 : Sl} {f g : Dt.Sem} {x y : Od} {t u v : T} {op : Operator} (h1 : f τ = some (x, τ1)) (h2 : g τ1 = some (y, τ2)) (h3 : τ2.tr x.sh = some t) (h4 : τ2.tr y.sh = some u) (h5 : binT op t u = some (v, true)) : sBin op f g τ = some (.f v, τ2) := s2_at h1 h2 h3 h4 (by rw [h5]; rfl)
abbrev bS (s : Int) (st : List T) (x2 x3 x4 x5 x6 x7 : Option (T × Fl)) : Sl := [some (.lst [.int s], .chg), some (.lst st, .shr), x2, x3, x4, x5, x6, x7]
/-- the last row of the def: the bent step in its place -/
theorem bent_end {s : Int} {st : List T} {p : Nat} {t : T} {fl : Fl} (hf : fl = .own ∨ fl = .shr) {x4 x5 x6 x7 : Option (T × Fl)} (hz : st.length ≤ 400) : ∃ τ, 
    mRet (sBin .Add (sBin .Add (sSl (sVar 1) none (some (sVar 2))) (sLst (aCons (sVar 3) aNil))) (sSl (sVar 1) (some (sBin .Add (sVar 2) (sCst (.int 1)))) none)) (bS s st (some (.int (p : Int), .shr)) (some (t, fl)) x4 x5 x6 x7) =
      some (.rt (.f (.lst ((cutT st none (some (p : Int)) ++ [t]) ++ cutT st (some ((p : Int) + 1)) none))) τ) ∧ outsOf [.M, .S] 0 τ = some [.lst [.int s]] := by
  have a1 : sSl (sVar 1) none (some (sVar 2)) (bS s st (some (.int (p : Int), .shr)) (some (t, fl)) x4 x5 x6 x7) = some (.f (.lst (cutT st none (some (p : Int)))), bS s st (some (.int (p : Int), .shr)) (some (t, fl)) x4 x5 x6 x7) := sl_hi (o := .v (.lst st)) (r := (.lst (cutT st none (some (p : Int))), true)) rfl rfl rfl rfl
  have a2 : sLst (aCons (sVar 3) aNil) (bS s st (some (.int (p : Int), .shr)) (some (t, fl)) x4 x5 x6 x7) = some (.f (.lst [t]), bS s st (some (.int (p : Int), .shr)) (some (t, .shr)) x4 x5 x6 x7) := by
    have q : ([t] : List T).length ≤ sizeLine := by
      show 1 ≤ sizeLine
      decide
    rcases hf with rfl | rfl
    · unfold sLst
      show (if ([t] : List T).length ≤ sizeLine then some (Od.f (.lst [t]), bS s st (some (.int (p : Int), .shr)) (some (t, .shr)) x4 x5 x6 x7) else none) = _
      rw [if_pos q]
    · unfold sLst
      show (if ([t] : List T).length ≤ sizeLine then some (Od.f (.lst [t]), bS s st (some (.int (p : Int), .shr)) (some (t, .shr)) x4 x5 x6 x7) else none) = _
      rw [if_pos q]
  have c1 := @cut_len st none (some (p : Int))
  have c2 := @cut_len st (some ((p : Int) + 1)) none
  have a3 := binF_at (op := .Add) a1 a2 (t := .lst (cutT st none (some (p : Int)))) (u := .lst [t]) rfl rfl (lst_add (by simp; omega))
  have a4 : sSl (sVar 1) (some (sBin .Add (sVar 2) (sCst (.int 1)))) none (bS s st (some (.int (p : Int), .shr)) (some (t, .shr)) x4 x5 x6 x7) = some (.f (.lst (cutT st (some ((p : Int) + 1)) none)), bS s st (some (.int (p : Int), .shr)) (some (t, .shr)) x4 x5 x6 x7) := sl_lo (o := .v (.lst st)) (r := (.lst (cutT st (some ((p : Int) + 1)) none), true)) rfl (ev_bin (ev_var (i := 2) rfl).o ev_cst.o rfl) rfl rfl
  have a5 := binF_at (op := .Add) a3 a4 (t := .lst (cutT st none (some (p : Int)) ++ [t])) (u := .lst (cutT st (some ((p : Int) + 1)) none)) rfl rfl (lst_add (by simp; omega))
  exact ⟨_, mRet_at a5, rfl⟩
def bKind : Stm := (mIf (tstOf (sCmp .Eq (sVar 4) (sCst (.int 0)))) (mSeq (mSet 3 (sSl (sVar 3) none (some (sNeg (sCst (.int 1)))))) mNil) (mSeq (mIf (tstOf (sCmp .Eq (sVar 4) (sCst (.int 1)))) (mSeq (mSet 3 (sBin .Add (sVar 3) (sTup (aCons (sVar 6) aNil)))) mNil) (mSeq (mIf (tstOf (sCmp .Eq (sVar 4) (sCst (.int 2)))) (mSeq (mSet 3 (sBi gList (aCons (sVar 3) aNil))) mNil) (mSeq (mSet 7 (sCall [.M, .S] F__law_take (aCons (sVar 0) (aCons (sBi gLen (aCons (sVar 3) aNil)) aNil)))) (mSeq (mSet 3 (sBin .Add (sBin .Add (sSl (sVar 3) none (some (sVar 7))) (sTup (aCons (sVar 6) aNil))) (sSl (sVar 3) (some (sBin .Add (sVar 7) (sCst (.int 1)))) none))) mNil))) mNil)) mNil))
theorem bent_kind {s : Int} {st l : List T} {p : Nat} {k : Int} {e : T} {x5 x7 : Option (T × Fl)} {b : Nat} (hl : 0 < l.length) (hb : l.length ≤ b) (hbb : b ≤ 100) (hE : ∀ x ∈ l, En x) (he : En e) : ∃ (s' : Int) (t : T) (fl : Fl) (y7 : Option (T × Fl)), (fl = .own ∨ fl = .shr) ∧ StepB (2 * b + 1) t ∧
    bKind (bS s st (some (.int (p : Int), .shr)) (some (.tup l, .shr)) (some (.int k, .shr)) x5 (some (e, .shr)) x7) = some (.nx (bS s' st (some (.int (p : Int), .shr)) (some (t, fl)) (some (.int k, .shr)) x5 (some (e, .shr)) y7)) := by
  have tk : ∀ j : Int, Et (bS s st (some (.int (p : Int), .shr)) (some (.tup l, .shr)) (some (.int k, .shr)) x5 (some (e, .shr)) x7) (tstOf (sCmp .Eq (sVar 4) (sCst (.int j)))) (decide (k = j)) := fun j => et_of (ev_cmp (ev_var (i := 4) rfl).o ev_cst.o (by
    show some (eqT (.int k) (.int j)) = _
    rw [eq_ints])).o
  have te : ∀ s7 y7, Ev (bS s7 st (some (.int (p : Int), .shr)) (some (.tup l, .shr)) (some (.int k, .shr)) x5 (some (e, .shr)) y7) (sTup (aCons (sVar 6) aNil)) (.tup [e]) := fun s7 y7 => ev_tup (ts := [e]) (a_cons (ev_var (i := 6) rfl) a_nil) (by
    show 1 ≤ sizeLine
    decide)
  unfold bKind
  by_cases h0 : k = 0
  · have a : sSl (sVar 3) none (some (sNeg (sCst (.int 1)))) (bS s st (some (.int (p : Int), .shr)) (some (.tup l, .shr)) (some (.int k, .shr)) x5 (some (e, .shr)) x7) = some (.v (.tup (cutT l none (some (-1)))), bS s st (some (.int (p : Int), .shr)) (some (.tup l, .shr)) (some (.int k, .shr)) x5 (some (e, .shr)) x7) := sl_hi (o := .v (.tup l)) (r := (.tup (cutT l none (some (-1))), false)) rfl rfl rfl rfl
    refine ⟨s, .tup (cutT l none (some (-1))), .shr, x7, .inr rfl, ⟨_, .inl rfl, ?_, fun x hx => hE x (cut_mem' hx)⟩, ?_⟩
    · have := @cut_len l none (some (-1))
      omega
    · rw [mIf_tt ((tk 0).to (decide_eq_true h0)), mSeq_nx (set_v a)]
      rfl
  rw [mIf_ff ((tk 0).to (decide_eq_false h0))]
  by_cases h1 : k = 1
  · have a : Ev (bS s st (some (.int (p : Int), .shr)) (some (.tup l, .shr)) (some (.int k, .shr)) x5 (some (e, .shr)) x7) (sBin .Add (sVar 3) (sTup (aCons (sVar 6) aNil))) (.tup (l ++ [e])) := ev_bin (ev_var (i := 3) rfl).o (te s x7).o (tup_add (by simp; omega))
    refine ⟨s, .tup (l ++ [e]), .shr, x7, .inr rfl, ⟨_, .inl rfl, by simp; omega, fun x hx => ?_⟩, ?_⟩
    · rcases List.mem_append.mp hx with hx | hx
      · exact hE x hx
      · simp only [List.mem_cons, List.not_mem_nil, or_false] at hx
        rw [hx]; exact he
    · exact (mSeq_nx ((mIf_tt ((tk 1).to (decide_eq_true h1))).trans ((mSeq_nx (mSet_v a)).trans rfl))).trans rfl
  by_cases h2 : k = 2
  · have a : sBi gList (aCons (sVar 3) aNil) (bS s st (some (.int (p : Int), .shr)) (some (.tup l, .shr)) (some (.int k, .shr)) x5 (some (e, .shr)) x7) = some (.f (.lst l), bS s st (some (.int (p : Int), .shr)) (some (.tup l, .shr)) (some (.int k, .shr)) x5 (some (e, .shr)) x7) := list_of (ev_var (i := 3) rfl)
    refine ⟨s, .lst l, .own, x7, .inl rfl, ⟨_, .inr rfl, by omega, hE⟩, ?_⟩
    exact (mSeq_nx ((mIf_ff ((tk 1).to (decide_eq_false h1))).trans ((mSeq_nx ((mIf_tt ((tk 2).to (decide_eq_true h2))).trans ((mSeq_nx (set_f a)).trans rfl))).trans rfl))).trans rfl
  · have ln : Ev (bS s st (some (.int (p : Int), .shr)) (some (.tup l, .shr)) (some (.int k, .shr)) x5 (some (e, .shr)) x7) (sBi gLen (aCons (sVar 3) aNil)) (.int (l.length : Int)) := ev_bi1 (ev_var (i := 3) rfl).o rfl
    have tt := take_at (j := 0) (s := s) (fl := .chg) rfl (.inr rfl) ln (by omega) (by omega)
    generalize s % (l.length : Int) = q at tt
    generalize s / (l.length : Int) = s1 at tt
    have a1 : sSl (sVar 3) none (some (sVar 7)) (bS s1 st (some (.int (p : Int), .shr)) (some (.tup l, .shr)) (some (.int k, .shr)) x5 (some (e, .shr)) (some (.int q, .shr))) = some (.v (.tup (cutT l none (some q))), bS s1 st (some (.int (p : Int), .shr)) (some (.tup l, .shr)) (some (.int k, .shr)) x5 (some (e, .shr)) (some (.int q, .shr))) := sl_hi (o := .v (.tup l)) (r := (.tup (cutT l none (some q)), false)) rfl rfl rfl rfl
    have a4 : sSl (sVar 3) (some (sBin .Add (sVar 7) (sCst (.int 1)))) none (bS s1 st (some (.int (p : Int), .shr)) (some (.tup l, .shr)) (some (.int k, .shr)) x5 (some (e, .shr)) (some (.int q, .shr))) = some (.v (.tup (cutT l (some (q + 1)) none)), bS s1 st (some (.int (p : Int), .shr)) (some (.tup l, .shr)) (some (.int k, .shr)) x5 (some (e, .shr)) (some (.int q, .shr))) := sl_lo (o := .v (.tup l)) (r := (.tup (cutT l (some (q + 1)) none), false)) rfl (ev_bin (ev_var (i := 7) rfl).o ev_cst.o rfl) rfl rfl
    have c1 := @cut_len l none (some q)
    have c2 := @cut_len l (some (q + 1)) none
    have a3 := bin_at (op := .Add) a1 (te s1 (some (.int q, .shr))) (t := .tup (cutT l none (some q))) (u := .tup [e]) rfl rfl (tup_add (by simp; omega))
    have a5 := bin_at (op := .Add) a3 a4 (t := .tup (cutT l none (some q) ++ [e])) (u := .tup (cutT l (some (q + 1)) none)) rfl rfl (tup_add (by simp; omega))
    refine ⟨s1, .tup ((cutT l none (some q) ++ [e]) ++ cutT l (some (q + 1)) none), .shr, some (.int q, .shr), .inr rfl, ⟨_, .inl rfl, by simp; omega, fun x hx => ?_⟩, ?_⟩
    · rcases List.mem_append.mp hx with hx | hx
      · rcases List.mem_append.mp hx with hx | hx
        · exact hE x (cut_mem' hx)
        · simp only [List.mem_cons, List.not_mem_nil, or_false] at hx
          rw [hx]; exact he
      · exact hE x (cut_mem' hx)
    · exact (mSeq_nx ((mIf_ff ((tk 1).to (decide_eq_false h1))).trans ((mSeq_nx ((mIf_ff ((tk 2).to (decide_eq_false h2))).trans ((mSeq_nx (set_v tt)).trans ((mSeq_nx (set_v a5)).trans rfl)))).trans rfl))).trans rfl
theorem p__law_bent {s : Int} {st : List T} {b : Nat} (h0 : 0 < st.length) (hz : st.length ≤ 400) (hbb : b ≤ 20) (hs : ∀ t ∈ st, StepB b t) : ∃ (s' : Int) (st' : List T) (fr : Bool), 0 < st'.length ∧ st'.length ≤ 2 * st.length + 1 ∧ (∀ t ∈ st', StepB (2 * b + 1) t) ∧ F__law_bent [.lst [.int s], .lst st] = some (.ret (.lst st') fr [.lst [.int s']]) := by
  have r : F__law_bent [.lst [.int s], .lst st] = finF [.M, .S] (m__law_bent (bS s st none none none none none none)) := runF_at rfl
  rw [r]
  unfold m__law_bent
  have ln : Ev (bS s st none none none none none none) (sBi gLen (aCons (sVar 1) aNil)) (.int (st.length : Int)) := ev_bi1 (ev_var (i := 1) rfl).o rfl
  have tk := take_at (j := 0) (s := s) (fl := .chg) rfl (.inr rfl) ln (by omega) (by omega)
  have m0 := Int.emod_nonneg s (show (st.length : Int) ≠ 0 by omega)
  have m1 := Int.emod_lt_of_pos s (show (0 : Int) < st.length by omega)
  generalize s % (st.length : Int) = p0 at tk m0 m1
  generalize s / (st.length : Int) = s1 at tk
  obtain ⟨p, rfl⟩ := Int.eq_ofNat_of_zero_le m0
  have hp : p < st.length := by omega
  have hm : st.getD p .non ∈ st := getD_mem hp
  have ix : Ev (bS s1 st (some (.int (p : Int), .shr)) none none none none none) (sIx (sVar 1) (sVar 2)) (st.getD p .non) := ev_ix (ev_var (i := 1) rfl).o (ev_var (i := 2) rfl).o (ixl_at (by rw [List.getD_eq_getElem?_getD, List.getElem?_eq_getElem hp]; rfl))
  rw [mSeq_nx (τ1 := bS s1 st (some (.int (p : Int), .shr)) none none none none none) (set_v tk), mSeq_nx (τ1 := bS s1 st (some (.int (p : Int), .shr)) (some (st.getD p .non, .shr)) none none none none) (mSet_v ix)]
  generalize st.getD p .non = t at hm
  obtain ⟨l, hl, hlb, hE⟩ := hs t hm
  have up : ∀ u ∈ st, StepB (2 * b + 1) u := fun u hu => by
    obtain ⟨l, a1, a2, a3⟩ := hs u hu
    exact ⟨l, a1, by omega, a3⟩
  have v3 : Ev (bS s1 st (some (.int (p : Int), .shr)) (some (t, .shr)) none none none none) (sVar 3) t := ev_var (i := 3) rfl
  have stop : ∀ c : Tst, Et (bS s1 st (some (.int (p : Int), .shr)) (some (t, .shr)) none none none none) c true → ∀ rest, ∃ (s' : Int) (st' : List T) (fr : Bool), 0 < st'.length ∧ st'.length ≤ 2 * st.length + 1 ∧ (∀ t ∈ st', StepB (2 * b + 1) t) ∧ finF [.M, .S] (mSeq (mIf c (mSeq (mRet (sVar 1)) mNil) mNil) rest (bS s1 st (some (.int (p : Int), .shr)) (some (t, .shr)) none none none none)) = some (.ret (.lst st') fr [.lst [.int s']]) := fun c h rest => by
    refine ⟨s1, st, false, h0, by omega, up, ?_⟩
    rw [mSeq_rt ((mIf_tt h).trans (mSeq_rt (mRet_v (ev_var (i := 1) rfl))))]
    rfl
  rcases hl with rfl | rfl
  · have e1 : Et (bS s1 st (some (.int (p : Int), .shr)) (some (.tup l, .shr)) none none none none) (tNotS (tstOf (sIsi "tuple" (sVar 3)))) false := et_not (et_of (ev_isi (n := "tuple") v3.o).o)
    have ok : okE (.tup l) = true := (okD_tup (n := 1) fun x hx => en_ok (hE x hx)).e (by decide)
    have e2 : Et (bS s1 st (some (.int (p : Int), .shr)) (some (.tup l, .shr)) none none none none) (tstOf (sCmp .Eq (sVar 3) (sTup aNil))) l.isEmpty := et_of (ev_cmp v3.o (ev_tup (ts := []) a_nil (Nat.zero_le _)).o (by
      have h2 : okE (.tup []) = true := rfl
      simp only [cmpT, ok, h2, Bool.and_self, if_true, eq_unit])).o
    by_cases hl0 : l.isEmpty = true
    · exact stop _ (et_or (b2 := true) e1 (fun _ => e2.to hl0) fun h => by cases h) _
    · have hl1 : l.isEmpty = false := by simpa using hl0
      have hll : 0 < l.length := by
        cases l with
        | nil => cases hl1
        | cons a b => simp
      rw [mSeq_nx ((mIf_ff (et_or (b2 := false) e1 (fun _ => e2.to hl1) fun h => by cases h)).trans rfl)]
      have t6 := take_at (τ := bS s1 st (some (.int (p : Int), .shr)) (some (.tup l, .shr)) none none none none) (j := 0) (s := s1) (m := 6) (fl := .chg) (f := sCst (.int 6)) rfl (.inr rfl) ev_cst (by decide) (by decide)
      generalize s1 % 6 = k at t6
      generalize s1 / 6 = s2 at t6
      rw [mSeq_nx (τ1 := bS s2 st (some (.int (p : Int), .shr)) (some (.tup l, .shr)) (some (.int k, .shr)) none none none) (set_v t6)]
      have w5 : mSet 5 _ (bS s2 st (some (.int (p : Int), .shr)) (some (.tup l, .shr)) (some (.int k, .shr)) none none none) = some (.nx (bS s2 st (some (.int (p : Int), .shr)) (some (.tup l, .shr)) (some (.int k, .shr)) (some (.lst wrongL, .own)) none none)) := set_f (eo_lst (ts := wrongL) (a_cons ev_cst (a_cons ev_cst (a_cons ev_cst (a_cons ev_cst (a_cons ev_cst (a_cons ev_cst (a_cons (ev_tup (ts := [.int 1, .int 2]) (a_cons ev_cst (a_cons ev_cst a_nil)) (by decide)) (a_cons (ev_tup (ts := [.int 2, .int 4]) (a_cons ev_cst (a_cons ev_cst a_nil)) (by decide)) (a_cons (ev_tup (ts := [.int 1, .int 0]) (a_cons ev_cst (a_cons ev_cst a_nil)) (by decide)) (a_cons ev_cst (a_cons ev_cst (a_cons ev_cst (a_cons ev_cst (a_cons ev_cst (a_cons ev_cst (a_cons (ev_tup (ts := [.int 1000000000000, .int 1]) (a_cons (pow12 _) (a_cons ev_cst a_nil)) (by decide)) (a_cons ev_cst (a_cons ev_cst a_nil)))))))))))))))))) (by decide))
      rw [mSeq_nx w5]
      have lw : Ev (bS s2 st (some (.int (p : Int), .shr)) (some (.tup l, .shr)) (some (.int k, .shr)) (some (.lst wrongL, .own)) none none) (sBi gLen (aCons (sVar 5) aNil)) (.int 18) := ev_bi1 (eo_var (i := 5) rfl) rfl
      have tw := take_at (j := 0) (s := s2) (fl := .chg) rfl (.inr rfl) lw (by decide) (by decide)
      have n0 := Int.emod_nonneg s2 (show (18 : Int) ≠ 0 by decide)
      have n1 := Int.emod_lt_of_pos s2 (show (0 : Int) < 18 by decide)
      generalize s2 % 18 = q0 at tw n0 n1
      generalize s2 / 18 = s3 at tw
      obtain ⟨q, rfl⟩ := Int.eq_ofNat_of_zero_le n0
      have hq : q < wrongL.length := by rw [wrong_len]; omega
      have een : En (wrongL.getD q .non) := wrong_en _ (getD_mem hq)
      have ix6 : sIx (sVar 5) (sCall [.M, .S] F__law_take (aCons (sVar 0) (aCons (sBi gLen (aCons (sVar 5) aNil)) aNil))) (bS s2 st (some (.int (p : Int), .shr)) (some (.tup l, .shr)) (some (.int k, .shr)) (some (.lst wrongL, .own)) none none) = some (.v (wrongL.getD q .non), bS s3 st (some (.int (p : Int), .shr)) (some (.tup l, .shr)) (some (.int k, .shr)) (some (.lst wrongL, .own)) none none) :=
        s2_at (show sVar 5 (bS s2 st (some (.int (p : Int), .shr)) (some (.tup l, .shr)) (some (.int k, .shr)) (some (.lst wrongL, .own)) none none) = some (.s 5, bS s2 st (some (.int (p : Int), .shr)) (some (.tup l, .shr)) (some (.int k, .shr)) (some (.lst wrongL, .own)) none none) from rfl) tw rfl rfl (by
          have z := ixl_at (l := wrongL) (k := q) (x := wrongL.getD q .non) (by rw [List.getD_eq_getElem?_getD, List.getElem?_eq_getElem hq]; rfl)
          rw [show ixT (.lst wrongL) (.int (q : Int)) = _ from z]
          rfl)
      rw [mSeq_nx (τ1 := bS s3 st (some (.int (p : Int), .shr)) (some (.tup l, .shr)) (some (.int k, .shr)) (some (.lst wrongL, .own)) (some (wrongL.getD q .non, .shr)) none) (set_v ix6)]
      obtain ⟨s4, u, fl, y7, hf, hu, ek⟩ := bent_kind (s := s3) (st := st) (p := p) (k := k) (e := wrongL.getD q .non) (x5 := some (.lst wrongL, .own)) (x7 := none) hll hlb (by omega) hE een
      unfold bKind at ek
      rw [mSeq_nx ek]
      obtain ⟨τ, ee, eo⟩ := bent_end (s := s4) (st := st) (p := p) (t := u) (fl := fl) hf (x4 := some (.int k, .shr)) (x5 := some (.lst wrongL, .own)) (x6 := some (wrongL.getD q .non, .shr)) (x7 := y7) hz
      rw [mSeq_rt ee]
      have c1 := @cut_len st none (some (p : Int))
      have c2 := @cut_len st (some ((p : Int) + 1)) none
      refine ⟨s4, (cutT st none (some (p : Int)) ++ [u]) ++ cutT st (some ((p : Int) + 1)) none, true, ?_, ?_, fun z hz' => ?_, ?_⟩
      · simp; omega
      · simp; omega
      · rcases List.mem_append.mp hz' with h | h
        · rcases List.mem_append.mp h with h | h
          · exact up z (cut_mem' h)
          · simp only [List.mem_cons, List.not_mem_nil, or_false] at h
            rw [h]; exact hu
        · exact up z (cut_mem' h)
      · show (outsOf [.M, .S] 0 τ).map (Res.ret _ true) = _
        rw [eo]
        rfl
  · have e1 : Et (bS s1 st (some (.int (p : Int), .shr)) (some (.lst l, .shr)) none none none none) (tNotS (tstOf (sIsi "tuple" (sVar 3)))) true := et_not (et_of (ev_isi (n := "tuple") v3.o).o)
    exact stop _ (et_or (b2 := true) e1 (fun h => by cases h) fun _ => rfl) _
end K4
set_option maxHeartbeats 4000000
/-! K4p35: small tools for law. -/
namespace K4
open PySem Dt
mutual
/-- no dict within -/
def nd : T → Bool
  | .dct _ => false
  | .tup l => nds l
  | .lst l => nds l
  | .non => true
  | .bl _ => true
  | .int _ => true
  | .str _ => true
def nds : List T → Bool
  | [] => true
  | t :: r => nd t && nds r
end
theorem nds_of : ∀ {l : List T}, (∀ t ∈ l, nd t = true) → nds l = true
  | [], _ => rfl
  | t :: r, h => by
    simp only [nds, h t (List.mem_cons_self ..), nds_of fun u hu => h u (List.mem_cons_of_mem _ hu), Bool.and_self]
mutual
theorem eqv_refl : ∀ t : T, nd t = true → PyData.eqv t.pd t.pd = true
  | .non, _ => by simp [T.pd, PyData.eqv]
  | .bl b, _ => by simp [T.pd, PyData.eqv]
  | .int i, _ => by simp [T.pd, PyData.eqv]
  | .str s, _ => by simp [T.pd, PyData.eqv]
  | .tup l, h => by
    simp only [T.pd, PyData.eqv]
    exact eqv_refls l (by simpa only [nd] using h)
  | .lst l, h => by
    simp only [T.pd, PyData.eqv]
    exact eqv_refls l (by simpa only [nd] using h)
  | .dct l, h => by simp only [nd] at h; cases h
theorem eqv_refls : ∀ l : List T, nds l = true → PyData.eqvAll (T.pds l) (T.pds l) = true
  | [], _ => rfl
  | t :: r, h => by
    simp only [nds, Bool.and_eq_true] at h
    simp only [T.pds, PyData.eqvAll, eqv_refl t h.1, eqv_refls r h.2, Bool.and_self]
end
theorem ne_self {t : T} (h : okE t = true) (hn : nd t = true) : cmpT .NotEq t t = some false := by
  have e : eqT t t = true := eqv_refl t hn
  simp only [cmpT, h, e, Bool.and_self, if_true, Bool.not_true]
theorem nd_tup {l : List T} (h : ∀ t ∈ l, nd t = true) : nd (.tup l) = true := by
  simp only [nd]
  exact nds_of h
theorem nd_lst {l : List T} (h : ∀ t ∈ l, nd t = true) : nd (.lst l) = true := by
  simp only [nd]
  exact nds_of h
theorem nd_en {t : T} (h : En t) : nd t = true := by
  cases t with
  | tup l =>
    refine nd_tup fun x hx => ?_
    obtain ⟨i, rfl, _⟩ := h.2 x hx
    simp only [nd]
  | lst l => exact h.elim
  | dct l => exact h.elim
  | _ => simp only [nd]
section
variable {τ τ1 τ2 : Sl} {f g e : Dt.Sem} {c : Tst} {b : Bool} {l : List T} {t u : T} {i : Nat} {m1 m2 : Stm} {o x y : Od} {h : T → T} {s : Src} {n : Int}
theorem mIf_t (q : c τ = some (true, τ1)) : mIf c m1 m2 τ = m1 τ1 := by
  unfold mIf
  rw [q]
theorem mIf_f (q : c τ = some (false, τ1)) : mIf c m1 m2 τ = m2 τ1 := by
  unfold mIf
  rw [q]
theorem tst_at (q : f τ = some (.v (.bl b), τ1)) : tstOf f τ = some (b, τ1) := by
  unfold tstOf
  rw [q]
  rfl
theorem cmp_at {op : CmpOp} (h1 : f τ = some (x, τ1)) (h2 : g τ1 = some (y, τ2)) (h3 : τ2.tr x.sh = some t) (h4 : τ2.tr y.sh = some u) (h5 : cmpT op t u = some b) : tstOf (sCmp op f g) τ = some (b, τ2) := tst_at (s2_at h1 h2 h3 h4 (by rw [h5]; rfl))
theorem list_eo (q : Eo τ f (.lst l)) : sBi gList (aCons f aNil) τ = some (.f (.lst l), τ) := by
  obtain ⟨o, a1, a2⟩ := q
  have e : aCons f aNil τ = some ([o.sh], τ) := ac_at a1 a_nil
  have e2 : Sl.trs τ [o.sh] = some [.lst l] := by
    unfold Sl.trs
    rw [a2]
    rfl
  unfold sBi
  rw [e]
  dsimp only
  rw [e2]
  rfl
theorem src_range_at (q : f τ = some (.v (.int n), τ1)) (hr : r62 n = true) : srcRange1 f τ = some (rangeT 0 n, τ1) := by
  unfold srcRange1
  rw [q]
  simp [Od.sh, Sl.tr, hr]
theorem collect_map {τw τ0 : Sl} (hw : τw = τ0.set i none) (hi : i < τ0.length) : ∀ (l acc : List T), (∀ x ∈ l, Ev (τw.set i (some (x, .shr))) e (h x)) → acc.length + l.length ≤ sizeLine →
    Dt.collect (tgt1 i) [i] tYesS e l acc τw = some (acc ++ l.map h, τw)
  | [], acc, _, _ => by simp [Dt.collect]
  | x :: l, acc, hh, hz => by
    have hx := hh x (List.mem_cons_self ..)
    have back : wipeT (τw.set i (some (x, .shr))) [i] = τw := by
      subst hw
      simp [wipeT, List.set_set]
    simp only [List.length_cons] at hz
    have ih := collect_map hw hi l (acc ++ [h x]) (fun y hy => hh y (List.mem_cons_of_mem _ hy)) (by simp; omega)
    unfold Dt.collect
    show (match e (τw.set i (some (x, .shr))) with
        | some (o, τ3) => (match τ3.esc o with
          | some (t, τ4) => if acc.length < sizeLine then Dt.collect (tgt1 i) [i] tYesS e l (acc ++ [t]) (wipeT τ4 [i]) else none
          | none => none)
        | none => none) = _
    rw [show e (τw.set i (some (x, .shr))) = _ from hx]
    show (if acc.length < sizeLine then Dt.collect (tgt1 i) [i] tYesS e l (acc ++ [h x]) (wipeT (τw.set i (some (x, .shr))) [i]) else none) = _
    rw [if_pos (by omega), back, ih]
    simp
theorem lc_map (hi : i < τ1.length) (hp : τ1.plain [i] = true) (hs : s τ = some (l, τ1)) (hc : ∀ x ∈ l, Ev (τ1.set i (some (x, .shr))) e (h x)) (hz : l.length ≤ sizeLine) :
    sLc s (tgt1 i) [i] tYesS e τ = some (.f (.lst (l.map h)), τ1) := by
  have q : Dt.collect (tgt1 i) [i] tYesS e l [] (τ1.set i none) = some ([] ++ l.map h, τ1.set i none) := collect_map rfl hi l [] (fun x hx => by rw [List.set_set]; exact hc x hx) (by simpa using hz)
  unfold sLc
  rw [hs]
  dsimp only
  rw [if_pos hp]
  have w : wipeT τ1 [i] = τ1.set i none := rfl
  rw [w, q]
  have u : unwipe τ1 (τ1.set i none) [i] = τ1 := by
    have h : τ1[i]? = some τ1[i] := by simp [hi]
    unfold unwipe unwipe
    rw [h]
    simp
  simp [u]
end
/-- all that check_steps lets pass is right -/
theorem chk_valid : ∀ (l : List T) (p : Nat) (ns kn : List T) (f : Int), chk l p ns kn f = none → ∀ t ∈ l, ∃ ns', reasonS t ns' = none
  | [], _, _, _, _, _, t, ht => by cases ht
  | u :: l, p, ns, kn, f, h, t, ht => by
    unfold chk at h
    by_cases hp : 24 ≤ p
    · rw [if_pos hp] at h; cases h
    rw [if_neg hp] at h
    cases hr : reasonS u ns with
    | some s => rw [hr] at h; cases h
    | none =>
      rw [hr] at h
      dsimp only at h
      by_cases hf : 16 < f + newOf u kn
      · rw [if_pos hf] at h; cases h
      · rw [if_neg hf] at h
        rcases List.mem_cons.mp ht with rfl | ht
        · exact ⟨ns, hr⟩
        · exact chk_valid l _ _ _ _ h t ht
theorem told_ok2 {l : List T} (hl : ∀ t ∈ l, StepT t) : okE (toldT (chk l 0 [] [] 0)) = true := by
  have g : ∀ (l : List T) (p : Nat) (ns kn : List T) (f : Int), ∀ q s, chk l p ns kn f = some (q, s) → rOk s := by
    intro l
    induction l with
    | nil => intro p ns kn f q s h; cases h
    | cons u l ih =>
      intro p ns kn f q s h
      unfold chk at h
      by_cases hp : 24 ≤ p
      · rw [if_pos hp] at h; cases h; exact rok_many
      rw [if_neg hp] at h
      cases hr : reasonS u ns with
      | some s' => rw [hr] at h; cases h; exact reason_ok hr
      | none =>
        rw [hr] at h
        dsimp only at h
        by_cases hf : 16 < f + newOf u kn
        · rw [if_pos hf] at h; cases h; exact rok_many
        · rw [if_neg hf] at h
          exact ih _ _ _ _ _ _ h
  cases hc : chk l 0 [] [] 0 with
  | none => decide +kernel
  | some z =>
    obtain ⟨q, s⟩ := z
    exact (okD_tup (n := 0) fun x hx => by
      simp only [List.mem_cons, List.not_mem_nil, or_false] at hx
      rcases hx with rfl | rfl
      · exact okD_int
      · exact okD_str (g _ _ _ _ _ _ _ hc).2).e (by decide)
theorem StepB.t {b : Nat} {t : T} (h : StepB b t) (hb : b ≤ 50) : StepT t := by
  obtain ⟨l, h1, h2, h3⟩ := h
  exact ⟨l, h1, by omega, h3⟩
theorem StepL.b {t : T} {a b : Nat} (h : StepL t a b) : StepB b t := by
  obtain ⟨l, h1, h2, h3, h4⟩ := h
  exact ⟨l, .inl h1, h3, h4⟩
theorem stepT_ok {t : T} (h : StepT t) : okD 2 t := by
  obtain ⟨l, h1, h2, h3⟩ := h
  rcases h1 with rfl | rfl
  · exact okD_tup fun x hx => en_ok (h3 x hx)
  · exact okD_lst fun x hx => en_ok (h3 x hx)
theorem stepT_nd {t : T} (h : StepT t) : nd t = true := by
  obtain ⟨l, h1, h2, h3⟩ := h
  rcases h1 with rfl | rfl
  · exact nd_tup fun x hx => nd_en (h3 x hx)
  · exact nd_lst fun x hx => nd_en (h3 x hx)
theorem told_nd (o : Option (Nat × Str)) : nd (toldT o) = true := by
  cases o with
  | none => simp only [toldT, nd]
  | some z => simp only [toldT, nd, nds, Bool.and_self]
theorem steps_ok {l : List T} (h : ∀ t ∈ l, StepT t) : okE (.lst l) = true := (okD_lst fun t ht => stepT_ok (h t ht)).e (by decide)
/-! names with figures -/
theorem m_name : ∀ j : Nat, j < 30 → (sOk (("M" : Str) ++ ((toString ((0 : Int) + (j : Int)) : String) : Str)) = true ∧ (("M" : Str) ++ ((toString ((0 : Int) + (j : Int)) : String) : Str)).length ≤ 1000) := by decide +kernel
theorem p_name' : ∀ j : Nat, j < 30 → (sOk (("P" : Str) ++ ((toString ((0 : Int) + (j : Int)) : String) : Str)) = true ∧ (("P" : Str) ++ ((toString ((0 : Int) + (j : Int)) : String) : Str)).length ≤ 1000) := by decide +kernel
theorem n_name : ∀ j : Nat, j < 30 → (sOk (("n" : Str) ++ ((toString ((0 : Int) + (j : Int)) : String) : Str)) = true ∧ (("n" : Str) ++ ((toString ((0 : Int) + (j : Int)) : String) : Str)).length ≤ 1000) := by decide +kernel
end K4
set_option maxHeartbeats 4000000
/-! K4p36: law: the steps that are drawn. -/
namespace K4
open PySem Dt
abbrev LS (sc : T) (x1 x2 x3 x4 x5 x6 x7 x8 x9 x10 x11 x12 x13 : Option (T × Fl)) : Sl := [some (sc, .bor), x1, x2, x3, x4, x5, x6, x7, x8, x9, x10, x11, x12, x13]
abbrev sT (s : Int) : Option (T × Fl) := some (.lst [.int s], .own)
abbrev wT : Option (T × Fl) := some (.lst words, .shr)
theorem take_1 {τ : Sl} {s m : Int} (h : τ[1]? = some (sT s)) (h0 : 0 < m) (h1 : m < 1000) : ∃ (k s' : Int), 0 ≤ k ∧ k < m ∧ sCall [.M, .S] F__law_take (aCons (sVar 1) (aCons (sCst (.int m)) aNil)) τ = some (.v (.int k), τ.set 1 (sT s')) :=
  ⟨s % m, s / m, Int.emod_nonneg s (by omega), Int.emod_lt_of_pos s h0, take_at (j := 1) (s := s) (fl := .own) h (.inl rfl) ev_cst h0 (by omega)⟩
theorem tup_at {τ τ1 : Sl} {a : Sems} {ts : List T} (h : a τ = some (ts.map Od.v, τ1)) (hz : ts.length ≤ 1000) : sTup a τ = some (.v (.tup ts), τ1) := by
  have b1 : (1000 : Nat) ≤ sizeLine := by decide
  unfold sTup
  rw [h]
  dsimp only
  rw [escs_v]
  dsimp only
  rw [if_pos (by omega)]
def w3 : Stm := mSet 3 (sCall [.M, .S, .S, .S] F__law_steps (aCons (sVar 1) (aCons (sBin .Add (sCst (.int 2)) (sCall [.M, .S] F__law_take (aCons (sVar 1) (aCons (sCst (.int 3)) aNil)))) (aCons (sCall [.M, .S] F__law_take (aCons (sVar 1) (aCons (sCst (.int 5)) aNil))) (aCons (sVar 2) aNil)))))
theorem seg3 {sc : T} {s : Int} : ∃ (s' : Int) (st : List T), 2 ≤ st.length ∧ st.length ≤ 8 ∧ (∀ t ∈ st, StepL t 2 8) ∧
    w3 (LS sc (sT s) (some (.lst words, .own)) none none none none none none none none none none none) = some (.nx (LS sc (sT s') wT (some (.lst st, .own)) none none none none none none none none none none)) := by
  obtain ⟨k1, s1, a1, b1, t1⟩ := take_1 (τ := LS sc (sT s) (some (.lst words, .own)) none none none none none none none none none none none) (s := s) (m := 3) rfl (by decide) (by decide)
  obtain ⟨k2, s2, a2, b2, t2⟩ := take_1 (τ := LS sc (sT s1) (some (.lst words, .own)) none none none none none none none none none none none) (s := s1) (m := 5) rfl (by decide) (by decide)
  obtain ⟨n1, rfl⟩ := Int.eq_ofNat_of_zero_le a1
  obtain ⟨n2, rfl⟩ := Int.eq_ofNat_of_zero_le a2
  have d1 : sBin .Add (sCst (.int 2)) (sCall [.M, .S] F__law_take (aCons (sVar 1) (aCons (sCst (.int 3)) aNil))) (LS sc (sT s) (some (.lst words, .own)) none none none none none none none none none none none) = some (.v (.int ((2 + n1 : Nat) : Int)), LS sc (sT s1) (some (.lst words, .own)) none none none none none none none none none none none) :=
    bin_at (x := .v (.int 2)) (t := .int 2) rfl t1 rfl rfl (by
      show some (T.int (2 + (n1 : Int)), false) = _
      rw [show (2 : Int) + (n1 : Int) = ((2 + n1 : Nat) : Int) by omega])
  obtain ⟨s3, st, g1, g2, ge⟩ := p__law_steps (s := s2) (a := 2 + n1) (b := n2) (by omega)
  have ar : aCons (sVar 1) (aCons (sBin .Add (sCst (.int 2)) (sCall [.M, .S] F__law_take (aCons (sVar 1) (aCons (sCst (.int 3)) aNil)))) (aCons (sCall [.M, .S] F__law_take (aCons (sVar 1) (aCons (sCst (.int 5)) aNil))) (aCons (sVar 2) aNil))) (LS sc (sT s) (some (.lst words, .own)) none none none none none none none none none none none) = some ([.s 1, .v (.int ((2 + n1 : Nat) : Int)), .v (.int (n2 : Int)), .s 2], LS sc (sT s2) (some (.lst words, .own)) none none none none none none none none none none none) :=
    ac_at (x := .s 1) rfl (ac_at d1 (ac_at t2 (ac_at (x := .s 2) rfl a_nil)))
  have c := sCall_at (ms := [.M, .S, .S, .S]) (F := F__law_steps) (js := [1]) ar (ts := [.lst [.int s2], .int ((2 + n1 : Nat) : Int), .int (n2 : Int), .lst words]) (τ2 := LS sc (sT s2) wT none none none none none none none none none none none) rfl rfl ge (τ3 := LS sc (sT s3) wT none none none none none none none none none none none) rfl
  exact ⟨s3, st, by omega, by omega, g2, (set_f c).trans rfl⟩
def w4 : Stm := (mIf (tstOf (sCmp .Eq (sCall [.M, .S] F__law_take (aCons (sVar 1) (aCons (sCst (.int 3)) aNil))) (sCst (.int 0)))) (mSeq (mExp (sMut 3 T.isLst gAppend (aCons (sTup (aCons (sCst (.str "at")) (aCons (sCst (.str "Z")) (aCons (sCall [.S, .S] F__law_ratio (aCons (sBin .Sub (sCall [.M, .S] F__law_take (aCons (sVar 1) (aCons (sCst (.int 9)) aNil))) (sCst (.int 4))) (aCons (sBin .Add (sCst (.int 1)) (sCall [.M, .S] F__law_take (aCons (sVar 1) (aCons (sCst (.int 4)) aNil)))) aNil))) (aCons (sTup (aCons (sCst (.int 0)) (aCons (sCst (.int 1)) aNil))) aNil))))) aNil))) mNil) mNil)
theorem seg4 {sc : T} {s : Int} {st : List T} (hz : st.length ≤ 8) (hs : ∀ t ∈ st, StepL t 2 8) : ∃ (s' : Int) (st' : List T), st.length ≤ st'.length ∧ st'.length ≤ 9 ∧ (∀ t ∈ st', StepL t 2 8) ∧
    w4 (LS sc (sT s) wT (some (.lst st, .own)) none none none none none none none none none none) = some (.nx (LS sc (sT s') wT (some (.lst st', .own)) none none none none none none none none none none)) := by
  obtain ⟨k1, s1, a1, b1, t1⟩ := take_1 (τ := LS sc (sT s) wT (some (.lst st, .own)) none none none none none none none none none none) (s := s) (m := 3) rfl (by decide) (by decide)
  have tt : tstOf (sCmp .Eq (sCall [.M, .S] F__law_take (aCons (sVar 1) (aCons (sCst (.int 3)) aNil))) (sCst (.int 0))) (LS sc (sT s) wT (some (.lst st, .own)) none none none none none none none none none none) = some (decide (k1 = 0), LS sc (sT s1) wT (some (.lst st, .own)) none none none none none none none none none none) :=
    cmp_at t1 (y := .v (.int 0)) (u := .int 0) rfl rfl rfl (by
      show some (eqT (.int k1) (.int 0)) = _
      rw [eq_ints])
  unfold w4
  by_cases h0 : k1 = 0
  · rw [decide_eq_true h0] at tt
    rw [mIf_t tt]
    obtain ⟨k2, s2, a2, b2, t2⟩ := take_1 (τ := LS sc (sT s1) wT (some (.lst st, .own)) none none none none none none none none none none) (s := s1) (m := 9) rfl (by decide) (by decide)
    obtain ⟨k3, s3, a3, b3, t3⟩ := take_1 (τ := LS sc (sT s2) wT (some (.lst st, .own)) none none none none none none none none none none) (s := s2) (m := 4) rfl (by decide) (by decide)
    have d1 : sBin .Sub (sCall [.M, .S] F__law_take (aCons (sVar 1) (aCons (sCst (.int 9)) aNil))) (sCst (.int 4)) (LS sc (sT s1) wT (some (.lst st, .own)) none none none none none none none none none none) = some (.v (.int (k2 - 4)), LS sc (sT s2) wT (some (.lst st, .own)) none none none none none none none none none none) := bin_at t2 (y := .v (.int 4)) (u := .int 4) rfl rfl rfl rfl
    have d2 : sBin .Add (sCst (.int 1)) (sCall [.M, .S] F__law_take (aCons (sVar 1) (aCons (sCst (.int 4)) aNil))) (LS sc (sT s2) wT (some (.lst st, .own)) none none none none none none none none none none) = some (.v (.int (1 + k3)), LS sc (sT s3) wT (some (.lst st, .own)) none none none none none none none none none none) := bin_at (x := .v (.int 1)) (t := .int 1) rfl t3 rfl rfl rfl
    have c := sCall_at (ms := [.S, .S]) (F := F__law_ratio) (ac_at d1 (ac_at d2 a_nil)) (ts := [.int (k2 - 4), .int (1 + k3)]) (js := []) (τ2 := LS sc (sT s3) wT (some (.lst st, .own)) none none none none none none none none none none) rfl rfl (p__law_ratio (p := k2 - 4) (q := 1 + k3) (by omega) (by omega) (by omega)) (τ3 := LS sc (sT s3) wT (some (.lst st, .own)) none none none none none none none none none none) rfl
    have en := ratio_en (p := k2 - 4) (q := 1 + k3) (by omega) (by omega) (Int.gcd (k2 - 4) (1 + k3))
    generalize T.tup [.int ((k2 - 4) / (Int.gcd (k2 - 4) (1 + k3) : Int)), .int ((1 + k3) / (Int.gcd (k2 - 4) (1 + k3) : Int))] = e at c en
    have zz : Ev (LS sc (sT s3) wT (some (.lst st, .own)) none none none none none none none none none none) (sTup (aCons (sCst (.int 0)) (aCons (sCst (.int 1)) aNil))) (.tup [.int 0, .int 1]) := ev_tup (ts := [.int 0, .int 1]) (a_cons ev_cst (a_cons ev_cst a_nil)) (by decide)
    have tp : sTup (aCons (sCst (.str "at")) (aCons (sCst (.str "Z")) (aCons (sCall [.S, .S] F__law_ratio (aCons (sBin .Sub (sCall [.M, .S] F__law_take (aCons (sVar 1) (aCons (sCst (.int 9)) aNil))) (sCst (.int 4))) (aCons (sBin .Add (sCst (.int 1)) (sCall [.M, .S] F__law_take (aCons (sVar 1) (aCons (sCst (.int 4)) aNil)))) aNil))) (aCons (sTup (aCons (sCst (.int 0)) (aCons (sCst (.int 1)) aNil))) aNil)))) (LS sc (sT s1) wT (some (.lst st, .own)) none none none none none none none none none none) = some (.v (.tup [.str "at", .str "Z", e, .tup [.int 0, .int 1]]), LS sc (sT s3) wT (some (.lst st, .own)) none none none none none none none none none none) := tup_at (ts := [.str "at", .str "Z", e, .tup [.int 0, .int 1]]) (ac_at (f := sCst (.str "at")) (x := .v (.str "at")) rfl (ac_at (f := sCst (.str "Z")) (x := .v (.str "Z")) rfl (ac_at c (ac_at (show sTup (aCons (sCst (.int 0)) (aCons (sCst (.int 1)) aNil)) _ = _ from zz) a_nil)))) (by exact (by decide : 4 ≤ 1000))
    have ap := mut_at (i := 3) (kd := T.isLst) (k := gAppend) (ts := [.tup [.str "at", .str "Z", e, .tup [.int 0, .int 1]]]) (t := .lst st) (fl := .own) rfl rfl (.inl rfl) (ac_at tp a_nil) rfl (app_lst (by
      have b1 : (100 : Nat) < sizeLine := by decide
      omega))
    refine ⟨s3, st ++ [.tup [.str "at", .str "Z", e, .tup [.int 0, .int 1]]], by simp, by simp; omega, fun t ht => ?_, (mSeq_nx (exp_at ap)).trans rfl⟩
    rcases List.mem_append.mp ht with ht | ht
    · exact hs t ht
    · simp only [List.mem_cons, List.not_mem_nil, or_false] at ht
      refine ⟨_, ht, by simp, by simp, fun y hy => ?_⟩
      simp only [List.mem_cons, List.not_mem_nil, or_false] at hy
      rcases hy with rfl | rfl | rfl | rfl
      · exact str_en _ (by decide +kernel) (by decide +kernel)
      · exact str_en _ (by decide +kernel) (by decide +kernel)
      · exact en
      · exact two_en _ _ (by decide) (by decide)
  · rw [decide_eq_false h0] at tt
    rw [mIf_f tt]
    exact ⟨s1, st, Nat.le_refl _, by omega, hs, rfl⟩
def bT : Stm := (mSeq (mSet 3 (sCall [.M, .S] F__law_bent (aCons (sVar 1) (aCons (sVar 3) aNil)))) mNil)
theorem bent_turn {sc : T} {s : Int} {st : List T} {fl : Fl} {b : Nat} {x4 : Option (T × Fl)} (hf : fl = .own ∨ fl = .shr) (h0 : 0 < st.length) (hz : st.length ≤ 400) (hb : b ≤ 20) (hs : ∀ t ∈ st, StepB b t) :
    ∃ (s' : Int) (st' : List T) (fl' : Fl), (fl' = .own ∨ fl' = .shr) ∧ 0 < st'.length ∧ st'.length ≤ 2 * st.length + 1 ∧ (∀ t ∈ st', StepB (2 * b + 1) t) ∧
      bT (LS sc (sT s) wT (some (.lst st, fl)) x4 none none none none none none none none none) = some (.nx (LS sc (sT s') wT (some (.lst st', fl')) x4 none none none none none none none none none)) := by
  obtain ⟨s', st', b', g1, g2, g3, ge⟩ := p__law_bent (s := s) h0 hz hb hs
  have c : sCall [.M, .S] F__law_bent (aCons (sVar 1) (aCons (sVar 3) aNil)) (LS sc (sT s) wT (some (.lst st, fl)) x4 none none none none none none none none none) = some (fr (.lst st') b', LS sc (sT s') wT (some (.lst st, .shr)) x4 none none none none none none none none none) := by
    rcases hf with rfl | rfl
    · exact sCall_at (ms := [.M, .S]) (F := F__law_bent) (xs := [.s 1, .s 3]) (js := [1]) rfl (ts := [.lst [.int s], .lst st]) (τ2 := LS sc (sT s) wT (some (.lst st, .shr)) x4 none none none none none none none none none) rfl rfl ge rfl
    · exact sCall_at (ms := [.M, .S]) (F := F__law_bent) (xs := [.s 1, .v (.lst st)]) (js := [1]) rfl (ts := [.lst [.int s], .lst st]) (τ2 := LS sc (sT s) wT (some (.lst st, .shr)) x4 none none none none none none none none none) rfl rfl ge rfl
  cases b' with
  | true => exact ⟨s', st', .own, .inl rfl, g1, g2, g3, (mSeq_nx (set_f c)).trans rfl⟩
  | false => exact ⟨s', st', .shr, .inr rfl, g1, g2, g3, (mSeq_nx (set_v c)).trans rfl⟩
def w5 : Stm := mFor (srcRange1 (sIx (sLst (aCons (sCst (.int 0)) (aCons (sCst (.int 1)) (aCons (sCst (.int 1)) (aCons (sCst (.int 2)) aNil))))) (sCall [.M, .S] F__law_take (aCons (sVar 1) (aCons (sCst (.int 4)) aNil))))) (tgt1 4) bT
theorem seg5 {sc : T} {s : Int} {st : List T} (h0 : 0 < st.length) (hz : st.length ≤ 9) (hs : ∀ t ∈ st, StepB 8 t) :
    ∃ (s' : Int) (st' : List T) (fl' : Fl) (x4 : Option (T × Fl)), (fl' = .own ∨ fl' = .shr) ∧ st'.length ≤ 100 ∧ (∀ t ∈ st', StepT t) ∧
      w5 (LS sc (sT s) wT (some (.lst st, .own)) none none none none none none none none none none) = some (.nx (LS sc (sT s') wT (some (.lst st', fl')) x4 none none none none none none none none none)) := by
  obtain ⟨k1, s1, a1, b1, t1⟩ := take_1 (τ := LS sc (sT s) wT (some (.lst st, .own)) none none none none none none none none none none) (s := s) (m := 4) rfl (by decide) (by decide)
  have l4 : sLst (aCons (sCst (.int 0)) (aCons (sCst (.int 1)) (aCons (sCst (.int 1)) (aCons (sCst (.int 2)) aNil)))) (LS sc (sT s) wT (some (.lst st, .own)) none none none none none none none none none none) = some (.f (.lst [.int 0, .int 1, .int 1, .int 2]), LS sc (sT s) wT (some (.lst st, .own)) none none none none none none none none none none) := eo_lst (ts := [.int 0, .int 1, .int 1, .int 2]) (a_cons ev_cst (a_cons ev_cst (a_cons ev_cst (a_cons ev_cst a_nil)))) (by decide)
  have ix : ∀ c : Int, ixT (.lst [.int 0, .int 1, .int 1, .int 2]) (.int k1) = some (.int c) → sIx (sLst (aCons (sCst (.int 0)) (aCons (sCst (.int 1)) (aCons (sCst (.int 1)) (aCons (sCst (.int 2)) aNil))))) (sCall [.M, .S] F__law_take (aCons (sVar 1) (aCons (sCst (.int 4)) aNil))) (LS sc (sT s) wT (some (.lst st, .own)) none none none none none none none none none none) = some (.v (.int c), LS sc (sT s1) wT (some (.lst st, .own)) none none none none none none none none none none) := fun c h =>
    s2_at l4 t1 rfl rfl (by rw [h]; rfl)
  have src : ∀ n : Nat, n ≤ 2 → ixT (.lst [.int 0, .int 1, .int 1, .int 2]) (.int k1) = some (.int (n : Int)) → srcRange1 (sIx (sLst (aCons (sCst (.int 0)) (aCons (sCst (.int 1)) (aCons (sCst (.int 1)) (aCons (sCst (.int 2)) aNil))))) (sCall [.M, .S] F__law_take (aCons (sVar 1) (aCons (sCst (.int 4)) aNil)))) (LS sc (sT s) wT (some (.lst st, .own)) none none none none none none none none none none) = some (plc 0 n, LS sc (sT s1) wT (some (.lst st, .own)) none none none none none none none none none none) := fun n hn h => by
    rw [← plc_zero]
    exact src_range_at (ix n h) (r62_small (by omega) (by omega))
  obtain ⟨s2, st2, f2, g1, g2, g3, g4, e2⟩ := bent_turn (sc := sc) (s := s1) (x4 := some (.int (0 + ((0 : Nat) : Int)), .shr)) (.inl rfl) h0 (by omega) (by decide) hs
  obtain ⟨s3, st3, f3, k1', k2', k3', k4', e3⟩ := bent_turn (sc := sc) (s := s2) (x4 := some (.int (0 + ((1 : Nat) : Int)), .shr)) g1 g2 (by omega) (by decide) g4
  have w1 : walk (tgt1 4) bT (plc 0 1) (LS sc (sT s1) wT (some (.lst st, .own)) none none none none none none none none none none) = some (.nx (LS sc (sT s2) wT (some (.lst st2, f2)) (some (.int (0 + ((0 : Nat) : Int)), .shr)) none none none none none none none none none)) := by
    show (match bT (LS sc (sT s1) wT (some (.lst st, .own)) (some (.int (0 + ((0 : Nat) : Int)), .shr)) none none none none none none none none none) with
      | some (.nx τ2) => walk (tgt1 4) bT [] τ2
      | some (.ct τ2) => walk (tgt1 4) bT [] τ2
      | some (.br τ2) => some (.nx τ2)
      | o => o) = _
    rw [e2]
    rfl
  have w2 : walk (tgt1 4) bT (plc 0 2) (LS sc (sT s1) wT (some (.lst st, .own)) none none none none none none none none none none) = some (.nx (LS sc (sT s3) wT (some (.lst st3, f3)) (some (.int (0 + ((1 : Nat) : Int)), .shr)) none none none none none none none none none)) := by
    show (match bT (LS sc (sT s1) wT (some (.lst st, .own)) (some (.int (0 + ((0 : Nat) : Int)), .shr)) none none none none none none none none none) with
      | some (.nx τ2) => walk (tgt1 4) bT [.int (0 + ((1 : Nat) : Int))] τ2
      | some (.ct τ2) => walk (tgt1 4) bT [.int (0 + ((1 : Nat) : Int))] τ2
      | some (.br τ2) => some (.nx τ2)
      | o => o) = _
    rw [e2]
    show (match bT (LS sc (sT s2) wT (some (.lst st2, f2)) (some (.int (0 + ((1 : Nat) : Int)), .shr)) none none none none none none none none none) with
      | some (.nx τ2) => walk (tgt1 4) bT [] τ2
      | some (.ct τ2) => walk (tgt1 4) bT [] τ2
      | some (.br τ2) => some (.nx τ2)
      | o => o) = _
    rw [e3]
    rfl
  have one : ixT (.lst [.int 0, .int 1, .int 1, .int 2]) (.int k1) = some (.int 1) → ∃ (s' : Int) (st' : List T) (fl' : Fl) (x4 : Option (T × Fl)), (fl' = .own ∨ fl' = .shr) ∧ st'.length ≤ 100 ∧ (∀ t ∈ st', StepT t) ∧
      w5 (LS sc (sT s) wT (some (.lst st, .own)) none none none none none none none none none none) = some (.nx (LS sc (sT s') wT (some (.lst st', fl')) x4 none none none none none none none none none)) := fun h => by
    exact ⟨s2, st2, f2, _, g1, by omega, fun t ht => (g4 t ht).t (by decide), for_at (src 1 (by decide) h) w1⟩
  rcases (show k1 = 0 ∨ k1 = 1 ∨ k1 = 2 ∨ k1 = 3 by omega) with rfl | rfl | rfl | rfl
  · exact ⟨s1, st, .own, none, .inl rfl, by omega, fun t ht => (hs t ht).t (by decide), for_at (src 0 (by decide) rfl) rfl⟩
  · exact one rfl
  · exact one rfl
  · exact ⟨s3, st3, f3, _, k1', by omega, fun t ht => (k4' t ht).t (by decide), for_at (src 2 (by decide) rfl) w2⟩
end K4
set_option maxHeartbeats 4000000
/-! K4p37: law: the answers. -/
namespace K4
open PySem Dt
theorem told_call {τ τ1 : Sl} {a : Sems} {xs : List Od} {l : List T} (h1 : a τ = some (xs, τ1)) {τ2 : Sl} (h2 : argsT τ1 [.S] xs = some ([.lst l], [], τ2)) (hl : ∀ t ∈ l, StepT t) (hz : l.length ≤ 100) : sCall [.S] F__law_told a τ = some (.v (toldT (chk l 0 [] [] 0)), τ2) :=
  sCall_at h1 h2 (by simp [Sl.muts, nodupN]) (p__law_told hl hz) rfl
theorem fault_call {τ τ1 : Sl} {a : Sems} {xs : List Od} {l : List T} (h1 : a τ = some (xs, τ1)) {τ2 : Sl} (h2 : argsT τ1 [.S] xs = some ([.lst l], [], τ2)) (hl : ∀ t ∈ l, StepT t) (hz : l.length ≤ 100) : sCall [.S] F__law_fault a τ = some (.v (toldT (chk l 0 [] [] 0)), τ2) :=
  sCall_at h1 h2 (by simp [Sl.muts, nodupN]) (p__law_fault hl hz) rfl
def w8 : Stm := (mIf (tOrS (tstOf (sCmp .NotEq (sVar 6) (sCall [.S] F__law_fault (aCons (sVar 3) aNil)))) (tstOf (sCmp .NotEq (sVar 5) (sVar 3)))) (mSeq (mRet (sCst (.bl false))) mNil) mNil)
def w6 : Stm := mSet 5 (sBi gList (aCons (sVar 3) aNil))
def w7 : Stm := mSet 6 (sCall [.S] F__law_told (aCons (sVar 5) aNil))
theorem seg6 {sc : T} {s : Int} {st : List T} {fl : Fl} {x4 : Option (T × Fl)} (hf : fl = .own ∨ fl = .shr) : w6 (LS sc (sT s) wT (some (.lst st, fl)) x4 none none none none none none none none none) = some (.nx (LS sc (sT s) wT (some (.lst st, fl)) x4 (some (.lst st, .own)) none none none none none none none none)) := by
  rcases hf with rfl | rfl
  · exact set_f (list_eo (eo_var (i := 3) rfl))
  · exact set_f (list_eo (eo_var (i := 3) rfl))
theorem seg7 {sc : T} {s : Int} {st : List T} {fl : Fl} {x4 : Option (T × Fl)} (hl : ∀ t ∈ st, StepT t) (hz : st.length ≤ 100) : w7 (LS sc (sT s) wT (some (.lst st, fl)) x4 (some (.lst st, .own)) none none none none none none none none) = some (.nx (LS sc (sT s) wT (some (.lst st, fl)) x4 (some (.lst st, .shr)) (some (toldT (chk st 0 [] [] 0), .shr)) none none none none none none none)) :=
  set_v (told_call (xs := [.s 5]) (τ := LS sc (sT s) wT (some (.lst st, fl)) x4 (some (.lst st, .own)) none none none none none none none none) (τ2 := LS sc (sT s) wT (some (.lst st, fl)) x4 (some (.lst st, .shr)) none none none none none none none none) rfl rfl hl hz)
theorem or_at {c d : Tst} {τ τ1 τ2 : Sl} (h1 : c τ = some (false, τ1)) {b : Bool} (h2 : d τ1 = some (b, τ2)) : tOrS c d τ = some (b, τ2) := by
  unfold tOrS
  rw [h1]
  exact h2
theorem seg8 {sc : T} {s : Int} {st : List T} {fl : Fl} {x4 : Option (T × Fl)} (hf : fl = .own ∨ fl = .shr) (hl : ∀ t ∈ st, StepT t) (hz : st.length ≤ 100) : w8 (LS sc (sT s) wT (some (.lst st, fl)) x4 (some (.lst st, .shr)) (some (toldT (chk st 0 [] [] 0), .shr)) none none none none none none none) =
    some (.nx (LS sc (sT s) wT (some (.lst st, .shr)) x4 (some (.lst st, .shr)) (some (toldT (chk st 0 [] [] 0), .shr)) none none none none none none none)) := by
  have c : sCall [.S] F__law_fault (aCons (sVar 3) aNil) (LS sc (sT s) wT (some (.lst st, fl)) x4 (some (.lst st, .shr)) (some (toldT (chk st 0 [] [] 0), .shr)) none none none none none none none) = some (.v (toldT (chk st 0 [] [] 0)), LS sc (sT s) wT (some (.lst st, .shr)) x4 (some (.lst st, .shr)) (some (toldT (chk st 0 [] [] 0), .shr)) none none none none none none none) := by
    rcases hf with rfl | rfl
    · exact fault_call (xs := [.s 3]) rfl rfl hl hz
    · exact fault_call (xs := [.v (.lst st)]) rfl rfl hl hz
  have v6 : sVar 6 (LS sc (sT s) wT (some (.lst st, fl)) x4 (some (.lst st, .shr)) (some (toldT (chk st 0 [] [] 0), .shr)) none none none none none none none) = some (.v (toldT (chk st 0 [] [] 0)), LS sc (sT s) wT (some (.lst st, fl)) x4 (some (.lst st, .shr)) (some (toldT (chk st 0 [] [] 0), .shr)) none none none none none none none) := rfl
  have t1 := cmp_at (op := .NotEq) v6 c rfl rfl (ne_self (told_ok2 hl) (told_nd _))
  have v5 : sVar 5 (LS sc (sT s) wT (some (.lst st, .shr)) x4 (some (.lst st, .shr)) (some (toldT (chk st 0 [] [] 0), .shr)) none none none none none none none) = some (.v (.lst st), LS sc (sT s) wT (some (.lst st, .shr)) x4 (some (.lst st, .shr)) (some (toldT (chk st 0 [] [] 0), .shr)) none none none none none none none) := rfl
  have v3 : sVar 3 (LS sc (sT s) wT (some (.lst st, .shr)) x4 (some (.lst st, .shr)) (some (toldT (chk st 0 [] [] 0), .shr)) none none none none none none none) = some (.v (.lst st), LS sc (sT s) wT (some (.lst st, .shr)) x4 (some (.lst st, .shr)) (some (toldT (chk st 0 [] [] 0), .shr)) none none none none none none none) := rfl
  have t2 := cmp_at (op := .NotEq) v5 v3 rfl rfl (ne_self (steps_ok hl) (nd_lst fun t ht => stepT_nd (hl t ht)))
  exact (mIf_f (or_at t1 t2)).trans rfl
/-! rows of many points -/
theorem en_A : En (.str "A") := str_en _ (by decide +kernel) (by decide +kernel)
theorem en_B : En (.str "B") := str_en _ (by decide +kernel) (by decide +kernel)
def w9 : Stm := mSet 7 (sBin .Add (sCst (.int 22)) (sCall [.M, .S] F__law_take (aCons (sVar 1) (aCons (sCst (.int 5)) aNil))))
theorem step_of (l : List T) (h1 : l.length ≤ 50) (h2 : ∀ x ∈ l, En x) : StepT (.tup l) := ⟨l, .inl rfl, h1, h2⟩
theorem ab_en {x : T} {l : List T} (h : x ∈ l) (hl : ∀ y ∈ l, En y) : En x := hl x h
def mN (s : Str) (t : T) : T := match t with
  | .int i => .str (s ++ ((toString i : String) : Str))
  | _ => .non
theorem str_num {τ : Sl} {f : Dt.Sem} {s : Str} {j : Nat} (h : Ev τ f (.int (0 + (j : Int)))) (hj : j < 30) (hs : s.length ≤ 1) : Ev τ (sBin .Add (sCst (.str s)) (sBi gStr (aCons f aNil))) (mN s (.int (0 + (j : Int)))) := by
  have q : ∀ j : Nat, j < 30 → (((0 : Int) + (j : Int)).natAbs.log2 < 1920 ∧ ((toString ((0 : Int) + (j : Int)) : String) : Str).length ≤ 1000) := by decide +kernel
  obtain ⟨q1, q2⟩ := q j hj
  have b1 : (1001 : Nat) ≤ sizeLine := by decide
  have g : Ev τ (sBi gStr (aCons f aNil)) (.str ((toString ((0 : Int) + (j : Int)) : String) : Str)) := ev_bi1 h.o (by
    show (if ((0 : Int) + (j : Int)).natAbs.log2 < 1920 then some (T.str ((toString ((0 : Int) + (j : Int)) : String) : Str), false) else none) = _
    rw [if_pos q1])
  exact ev_bin ev_cst.o g.o (by
    show (if s.length + ((toString ((0 : Int) + (j : Int)) : String) : Str).length ≤ sizeLine then some (T.str (s ++ ((toString ((0 : Int) + (j : Int)) : String) : Str)), false) else none) = _
    rw [if_pos (by omega)]
    rfl)
theorem plc_get {x : T} {p n : Nat} (h : x ∈ plc p n) : ∃ j : Nat, p ≤ j ∧ j < p + n ∧ x = .int (0 + (j : Int)) := by
  unfold plc at h
  obtain ⟨j, hj, rfl⟩ := List.mem_map.mp h
  rw [List.mem_range'_1] at hj
  exact ⟨j, hj.1, hj.2, rfl⟩
theorem plc_length (p n : Nat) : (plc p n).length = n := by simp [plc]
def wideF (t : T) : T := .tup [.str "middle", mN "M" t, .str "A", .str "B"]
def w10 : Stm := mSet 8 (sBin .Add (sLst (aCons (sTup (aCons (sCst (.str "free")) (aCons (sCst (.str "A")) aNil))) (aCons (sTup (aCons (sCst (.str "free")) (aCons (sCst (.str "B")) aNil))) aNil))) (sLc (srcRange1 (sVar 7)) (tgt1 13) [13] tYesS (sTup (aCons (sCst (.str "middle")) (aCons (sBin .Add (sCst (.str "M")) (sBi gStr (aCons (sVar 13) aNil))) (aCons (sCst (.str "A")) (aCons (sCst (.str "B")) aNil)))))))
abbrev LT (sc : T) (s : Int) (st : List T) (x4 : Option (T × Fl)) (o : T) (x7 x8 x9 x10 x11 x12 : Option (T × Fl)) : Sl := LS sc (sT s) wT (some (.lst st, .shr)) x4 (some (.lst st, .shr)) (some (o, .shr)) x7 x8 x9 x10 x11 x12 none
theorem seg9 {sc : T} {s : Int} {st : List T} {x4 : Option (T × Fl)} {o : T} : ∃ (s' : Int) (n : Nat), n < 5 ∧ w9 (LT sc s st x4 o none none none none none none) = some (.nx (LT sc s' st x4 o (some (.int ((22 + n : Nat) : Int), .shr)) none none none none none)) := by
  obtain ⟨k1, s1, a1, b1, t1⟩ := take_1 (τ := LT sc s st x4 o none none none none none none) (s := s) (m := 5) rfl (by decide) (by decide)
  obtain ⟨n, rfl⟩ := Int.eq_ofNat_of_zero_le a1
  have d := bin_at (f := sCst (.int 22)) (x := .v (.int 22)) (t := .int 22) (op := .Add) (v := .int ((22 + n : Nat) : Int)) rfl t1 rfl rfl (by
    show some (T.int (22 + (n : Int)), false) = _
    rw [show (22 : Int) + (n : Int) = ((22 + n : Nat) : Int) by omega])
  exact ⟨s1, n, by omega, (set_v d).trans rfl⟩
def AB : List T := [.tup [.str "free", .str "A"], .tup [.str "free", .str "B"]]
theorem seg10 {sc : T} {s : Int} {st : List T} {x4 : Option (T × Fl)} {o : T} {n : Nat} (hn : n ≤ 27) :
    w10 (LT sc s st x4 o (some (.int (n : Int), .shr)) none none none none none) = some (.nx (LT sc s st x4 o (some (.int (n : Int), .shr)) (some (.lst (AB ++ (plc 0 n).map wideF), .own)) none none none none)) := by
  have src : srcRange1 (sVar 7) (LT sc s st x4 o (some (.int (n : Int), .shr)) none none none none none) = some (plc 0 n, LT sc s st x4 o (some (.int (n : Int), .shr)) none none none none none) := by
    rw [← plc_zero]
    exact src_range1 (ev_var (i := 7) rfl) (r62_small (by omega) (by omega))
  have lc := lc_map (i := 13) (h := wideF) (e := sTup (aCons (sCst (.str "middle")) (aCons (sBin .Add (sCst (.str "M")) (sBi gStr (aCons (sVar 13) aNil))) (aCons (sCst (.str "A")) (aCons (sCst (.str "B")) aNil))))) (by exact (by decide : 13 < 14)) rfl src (fun x hx => by
    obtain ⟨j, _, hj, rfl⟩ := plc_get hx
    exact ev_tup (ts := [.str "middle", mN "M" (.int (0 + (j : Int))), .str "A", .str "B"]) (a_cons ev_cst (a_cons (str_num (ev_var (i := 13) rfl) (by omega) (by decide +kernel)) (a_cons ev_cst (a_cons ev_cst a_nil)))) (by exact (by decide : 4 ≤ sizeLine))) (by
      rw [plc_length]
      have : (27 : Nat) ≤ sizeLine := by decide
      omega)
  have ab : sLst (aCons (sTup (aCons (sCst (.str "free")) (aCons (sCst (.str "A")) aNil))) (aCons (sTup (aCons (sCst (.str "free")) (aCons (sCst (.str "B")) aNil))) aNil)) (LT sc s st x4 o (some (.int (n : Int), .shr)) none none none none none) = some (.f (.lst AB), LT sc s st x4 o (some (.int (n : Int), .shr)) none none none none none) :=
    eo_lst (ts := AB) (a_cons (ev_tup (ts := [.str "free", .str "A"]) (a_cons ev_cst (a_cons ev_cst a_nil)) (by decide)) (a_cons (ev_tup (ts := [.str "free", .str "B"]) (a_cons ev_cst (a_cons ev_cst a_nil)) (by decide)) a_nil)) (by decide)
  have ad := binF_at (op := .Add) ab lc (t := .lst AB) (u := .lst ((plc 0 n).map wideF)) rfl rfl (lst_add (by
    rw [List.length_map, plc_length]
    show 2 + n ≤ 1000
    omega))
  exact (set_f ad).trans rfl
theorem wide_step {n : Nat} (hn : n ≤ 27) : ∀ t ∈ AB ++ (plc 0 n).map wideF, StepT t := fun t ht => by
  rcases List.mem_append.mp ht with ht | ht
  · simp only [AB, List.mem_cons, List.not_mem_nil, or_false] at ht
    rcases ht with rfl | rfl
    · refine step_of _ (by simp) fun x hx => ?_
      simp only [List.mem_cons, List.not_mem_nil, or_false] at hx
      rcases hx with rfl | rfl
      · exact str_en _ (by decide +kernel) (by decide +kernel)
      · exact en_A
    · refine step_of _ (by simp) fun x hx => ?_
      simp only [List.mem_cons, List.not_mem_nil, or_false] at hx
      rcases hx with rfl | rfl
      · exact str_en _ (by decide +kernel) (by decide +kernel)
      · exact en_B
  · obtain ⟨x, hx, rfl⟩ := List.mem_map.mp ht
    obtain ⟨j, _, hj, rfl⟩ := plc_get hx
    refine step_of _ (by simp) fun x hx => ?_
    simp only [List.mem_cons, List.not_mem_nil, or_false] at hx
    rcases hx with rfl | rfl | rfl | rfl
    · exact str_en _ (by decide +kernel) (by decide +kernel)
    · exact m_name j (by omega)
    · exact en_A
    · exact en_B
def w11 : Stm := mSet 9 (sBin .Add (sLc (srcRange1 (sCst (.int 6))) (tgt1 13) [13] tYesS (sTup (aCons (sCst (.str "free")) (aCons (sCall [.S] F__law_name (aCons (sVar 13) aNil)) aNil)))) (sLc (srcRange1 (sBin .Add (sCst (.int 3)) (sCall [.M, .S] F__law_take (aCons (sVar 1) (aCons (sCst (.int 4)) aNil))))) (tgt1 13) [13] tYesS (sTup (aCons (sCst (.str "on")) (aCons (sBin .Add (sCst (.str "P")) (sBi gStr (aCons (sVar 13) aNil))) (aCons (sCst (.str "A")) (aCons (sCst (.str "B")) (aCons (sBin .Add (sCst (.str "n")) (sBi gStr (aCons (sVar 13) aNil))) aNil))))))))
def onF (t : T) : T := .tup [.str "on", mN "P" t, .str "A", .str "B", mN "n" t]
def lawN (t : T) : T := match F__law_name [t] with
  | some (.ret r _ _) => r
  | _ => .non
def freeF (t : T) : T := .tup [.str "free", lawN t]
theorem law_nm {j : Nat} (hj : j < 26) : En (lawN (.int (0 + (j : Int)))) ∧ F__law_name [.int (0 + (j : Int))] = some (.ret (lawN (.int (0 + (j : Int)))) false []) := by
  obtain ⟨c, hc, e⟩ := p__law_name (k := 0 + (j : Int)) (by omega) (by omega)
  obtain ⟨o1, o2⟩ := num_name (upper_lt hc) (.inl rfl)
  have q : lawN (.int (0 + (j : Int))) = .str (⟨#[c]⟩ ++ "") := by
    unfold lawN
    rw [e]
  rw [q]
  exact ⟨⟨o1, o2⟩, e⟩
theorem seg11 {sc : T} {s : Int} {st : List T} {x4 x7 : Option (T × Fl)} {o w : T} : ∃ (s' : Int) (n : Nat), n < 7 ∧ w11 (LT sc s st x4 o x7 (some (w, .own)) none none none none) = some (.nx (LT sc s' st x4 o x7 (some (w, .own)) (some (.lst ((plc 0 6).map freeF ++ (plc 0 n).map onF), .own)) none none none)) := by
  have s1 : srcRange1 (sCst (.int 6)) (LT sc s st x4 o x7 (some (w, .own)) none none none none) = some (plc 0 6, LT sc s st x4 o x7 (some (w, .own)) none none none none) := by
    rw [← plc_zero]
    exact src_range1 ev_cst (r62_small (by decide) (by decide))
  have l1 := lc_map (i := 13) (h := freeF) (e := sTup (aCons (sCst (.str "free")) (aCons (sCall [.S] F__law_name (aCons (sVar 13) aNil)) aNil))) (by exact (by decide : 13 < 14)) rfl s1 (fun x hx => by
    obtain ⟨j, _, hj, rfl⟩ := plc_get hx
    exact ev_tup (ts := [.str "free", lawN (.int (0 + (j : Int)))]) (a_cons ev_cst (a_cons (ev_call (xs := [.v (.int (0 + (j : Int)))]) rfl rfl (law_nm (by omega)).2) a_nil)) (by exact (by decide : 2 ≤ sizeLine))) (by
      rw [plc_length]
      decide)
  obtain ⟨k1, s', a1, b1, t1⟩ := take_1 (τ := LT sc s st x4 o x7 (some (w, .own)) none none none none) (s := s) (m := 4) rfl (by decide) (by decide)
  obtain ⟨n, rfl⟩ := Int.eq_ofNat_of_zero_le a1
  have d : sBin .Add (sCst (.int 3)) (sCall [.M, .S] F__law_take (aCons (sVar 1) (aCons (sCst (.int 4)) aNil))) (LT sc s st x4 o x7 (some (w, .own)) none none none none) = some (.v (.int ((3 + n : Nat) : Int)), LT sc s' st x4 o x7 (some (w, .own)) none none none none) := bin_at (x := .v (.int 3)) (t := .int 3) rfl t1 rfl rfl (by
    show some (T.int (3 + (n : Int)), false) = _
    rw [show (3 : Int) + (n : Int) = ((3 + n : Nat) : Int) by omega])
  have s2 : srcRange1 (sBin .Add (sCst (.int 3)) (sCall [.M, .S] F__law_take (aCons (sVar 1) (aCons (sCst (.int 4)) aNil)))) (LT sc s st x4 o x7 (some (w, .own)) none none none none) = some (plc 0 (3 + n), LT sc s' st x4 o x7 (some (w, .own)) none none none none) := by
    rw [← plc_zero]
    exact src_range_at d (r62_small (by omega) (by omega))
  have l2 := lc_map (i := 13) (h := onF) (e := sTup (aCons (sCst (.str "on")) (aCons (sBin .Add (sCst (.str "P")) (sBi gStr (aCons (sVar 13) aNil))) (aCons (sCst (.str "A")) (aCons (sCst (.str "B")) (aCons (sBin .Add (sCst (.str "n")) (sBi gStr (aCons (sVar 13) aNil))) aNil)))))) (by exact (by decide : 13 < 14)) rfl s2 (fun x hx => by
    obtain ⟨j, _, hj, rfl⟩ := plc_get hx
    exact ev_tup (ts := [.str "on", mN "P" (.int (0 + (j : Int))), .str "A", .str "B", mN "n" (.int (0 + (j : Int)))]) (a_cons ev_cst (a_cons (str_num (ev_var (i := 13) rfl) (by omega) (by decide +kernel)) (a_cons ev_cst (a_cons ev_cst (a_cons (str_num (ev_var (i := 13) rfl) (by omega) (by decide +kernel)) a_nil))))) (by exact (by decide : 5 ≤ sizeLine))) (by
      rw [plc_length]
      have : (27 : Nat) ≤ sizeLine := by decide
      omega)
  have ad := binF_at (op := .Add) l1 l2 (t := .lst ((plc 0 6).map freeF)) (u := .lst ((plc 0 (3 + n)).map onF)) rfl rfl (lst_add (by
    rw [List.length_map, plc_length, List.length_map, plc_length]
    omega))
  exact ⟨s', 3 + n, by omega, (set_f ad).trans rfl⟩
theorem many_step {n : Nat} (hn : n < 7) : ∀ t ∈ (plc 0 6).map freeF ++ (plc 0 n).map onF, StepT t := fun t ht => by
  rcases List.mem_append.mp ht with ht | ht
  · obtain ⟨x, hx, rfl⟩ := List.mem_map.mp ht
    obtain ⟨j, _, hj, rfl⟩ := plc_get hx
    refine step_of _ (by simp) fun x hx => ?_
    simp only [List.mem_cons, List.not_mem_nil, or_false] at hx
    rcases hx with rfl | rfl
    · exact str_en _ (by decide +kernel) (by decide +kernel)
    · exact (law_nm (by omega)).1
  · obtain ⟨x, hx, rfl⟩ := List.mem_map.mp ht
    obtain ⟨j, _, hj, rfl⟩ := plc_get hx
    refine step_of _ (by simp) fun x hx => ?_
    simp only [List.mem_cons, List.not_mem_nil, or_false] at hx
    rcases hx with rfl | rfl | rfl | rfl | rfl
    · exact str_en _ (by decide +kernel) (by decide +kernel)
    · exact p_name' j (by omega)
    · exact en_A
    · exact en_B
    · exact n_name j (by omega)
end K4
set_option maxHeartbeats 4000000
/-! K4p38: law_pure. -/
namespace K4
open PySem Dt
theorem list_of' {τ : Sl} {i : Nat} {l : List T} (h : τ[i]? = some (some (.lst l, .shr))) : sBi gList (aCons (sVar i) aNil) τ = some (.f (.lst l), τ) := list_eo (ev_var h).o
def rB : Stm := (mSeq (mIf (tstOf (sCmp .NotEq (sCall [.S] F__law_told (aCons (sBi gList (aCons (sVar 10) aNil)) aNil)) (sCall [.S] F__law_fault (aCons (sVar 10) aNil)))) (mSeq (mRet (sCst (.bl false))) mNil) mNil) mNil)
def w12 : Stm := mFor (srcOf (sLst (aCons (sVar 8) (aCons (sVar 9) (aCons (sLst aNil) (aCons (sLst (aCons (sTup (aCons (sCst (.str "free")) (aCons (sCst (.str "A")) aNil))) (aCons (sTup (aCons (sCst (.str "free")) (aCons (sCst (.str "A")) aNil))) aNil))) aNil)))))) (tgt1 10) rB
abbrev LR (sc : T) (s : Int) (st : List T) (x4 : Option (T × Fl)) (o : T) (x7 : Option (T × Fl)) (a b : T) (x10 x11 x12 : Option (T × Fl)) : Sl := LT sc s st x4 o x7 (some (a, .shr)) (some (b, .shr)) x10 x11 x12
theorem row_turn {sc : T} {s : Int} {st : List T} {x4 x7 x11 x12 : Option (T × Fl)} {o a b : T} {l : List T} (hl : ∀ t ∈ l, StepT t) (hz : l.length ≤ 100) : rB (LR sc s st x4 o x7 a b (some (.lst l, .shr)) x11 x12) = some (.nx (LR sc s st x4 o x7 a b (some (.lst l, .shr)) x11 x12)) := by
  have g := list_of' (τ := LR sc s st x4 o x7 a b (some (.lst l, .shr)) x11 x12) (i := 10) (l := l) rfl
  have c1 := told_call (xs := [.v (.lst l)]) (ac_at g a_nil) (τ2 := LR sc s st x4 o x7 a b (some (.lst l, .shr)) x11 x12) rfl hl hz
  have c2 := fault_call (τ := LR sc s st x4 o x7 a b (some (.lst l, .shr)) x11 x12) (a := aCons (sVar 10) aNil) (xs := [.v (.lst l)]) rfl (τ2 := LR sc s st x4 o x7 a b (some (.lst l, .shr)) x11 x12) rfl hl hz
  have t := cmp_at (op := .NotEq) c1 c2 rfl rfl (ne_self (told_ok2 hl) (told_nd _))
  exact (mSeq_nx ((mIf_f t).trans rfl)).trans rfl
theorem row_walk {sc : T} {s : Int} {st : List T} {x4 x7 x11 x12 : Option (T × Fl)} {o a b : T} : ∀ (rows : List T) (x10 : Option (T × Fl)), (∀ r ∈ rows, ∃ l, r = .lst l ∧ (∀ t ∈ l, StepT t) ∧ l.length ≤ 100) →
    ∃ y10, walk (tgt1 10) rB rows (LR sc s st x4 o x7 a b x10 x11 x12) = some (.nx (LR sc s st x4 o x7 a b y10 x11 x12))
  | [], x10, _ => ⟨x10, rfl⟩
  | r :: rows, x10, h => by
    obtain ⟨l, rfl, h1, h2⟩ := h r (List.mem_cons_self ..)
    have e := row_turn (sc := sc) (s := s) (st := st) (x4 := x4) (x7 := x7) (x11 := x11) (x12 := x12) (o := o) (a := a) (b := b) h1 h2
    have st : walk (tgt1 10) rB (.lst l :: rows) (LR sc s st x4 o x7 a b x10 x11 x12) = (match rB (LR sc s st x4 o x7 a b (some (.lst l, .shr)) x11 x12) with
        | some (.nx τ2) => walk (tgt1 10) rB rows τ2
        | some (.ct τ2) => walk (tgt1 10) rB rows τ2
        | some (.br τ2) => some (.nx τ2)
        | o => o) := rfl
    rw [st, e]
    exact row_walk rows (some (.lst l, .shr)) fun r hr => h r (List.mem_cons_of_mem _ hr)
def AA : List T := [.tup [.str "free", .str "A"], .tup [.str "free", .str "A"]]
theorem seg12 {sc : T} {s : Int} {st : List T} {x4 x7 : Option (T × Fl)} {o : T} {wd mn : List T} (h1 : ∀ t ∈ wd, StepT t) (z1 : wd.length ≤ 100) (h2 : ∀ t ∈ mn, StepT t) (z2 : mn.length ≤ 100) :
    ∃ y10, w12 (LT sc s st x4 o x7 (some (.lst wd, .own)) (some (.lst mn, .own)) none none none) = some (.nx (LR sc s st x4 o x7 (.lst wd) (.lst mn) y10 none none)) := by
  have faa : ∀ τ : Sl, sLst (aCons (sTup (aCons (sCst (.str "free")) (aCons (sCst (.str "A")) aNil))) (aCons (sTup (aCons (sCst (.str "free")) (aCons (sCst (.str "A")) aNil))) aNil)) τ = some (.f (.lst AA), τ) := fun τ =>
    eo_lst (ts := AA) (a_cons (ev_tup (ts := [.str "free", .str "A"]) (a_cons ev_cst (a_cons ev_cst a_nil)) (by decide)) (a_cons (ev_tup (ts := [.str "free", .str "A"]) (a_cons ev_cst (a_cons ev_cst a_nil)) (by decide)) a_nil)) (by decide)
  have ar : aCons (sVar 8) (aCons (sVar 9) (aCons (sLst aNil) (aCons (sLst (aCons (sTup (aCons (sCst (.str "free")) (aCons (sCst (.str "A")) aNil))) (aCons (sTup (aCons (sCst (.str "free")) (aCons (sCst (.str "A")) aNil))) aNil))) aNil))) (LT sc s st x4 o x7 (some (.lst wd, .own)) (some (.lst mn, .own)) none none none) = some ([.s 8, .s 9, .v (.lst []), .v (.lst AA)], LT sc s st x4 o x7 (some (.lst wd, .own)) (some (.lst mn, .own)) none none none) :=
    ac_at (x := .s 8) rfl (ac_at (x := .s 9) rfl (ac_at (x := .f (.lst [])) (by simp [sLst, aNil, Sl.escs]) (ac_at (faa _) a_nil)))
  have es : Sl.escs (LT sc s st x4 o x7 (some (.lst wd, .own)) (some (.lst mn, .own)) none none none) [.s 8, .s 9, .v (.lst []), .v (.lst AA)] = some ([.lst wd, .lst mn, .lst [], .lst AA], LR sc s st x4 o x7 (.lst wd) (.lst mn) none none none) := rfl
  have l4 : sLst (aCons (sVar 8) (aCons (sVar 9) (aCons (sLst aNil) (aCons (sLst (aCons (sTup (aCons (sCst (.str "free")) (aCons (sCst (.str "A")) aNil))) (aCons (sTup (aCons (sCst (.str "free")) (aCons (sCst (.str "A")) aNil))) aNil))) aNil)))) (LT sc s st x4 o x7 (some (.lst wd, .own)) (some (.lst mn, .own)) none none none) = some (.f (.lst [.lst wd, .lst mn, .lst [], .lst AA]), LR sc s st x4 o x7 (.lst wd) (.lst mn) none none none) := by
    unfold sLst at ar ⊢
    rw [ar]
    dsimp only
    rw [es]
    dsimp only
    rw [if_pos (show ([T.lst wd, T.lst mn, T.lst [], T.lst AA] : List T).length ≤ sizeLine from (by decide : 4 ≤ sizeLine))]
  obtain ⟨y, w⟩ := row_walk (sc := sc) (s := s) (st := st) (x4 := x4) (x7 := x7) (x11 := none) (x12 := none) (o := o) (a := .lst wd) (b := .lst mn) [.lst wd, .lst mn, .lst [], .lst AA] none (fun r hr => by
    simp only [List.mem_cons, List.not_mem_nil, or_false] at hr
    rcases hr with rfl | rfl | rfl | rfl
    · exact ⟨_, rfl, h1, z1⟩
    · exact ⟨_, rfl, h2, z2⟩
    · exact ⟨_, rfl, fun t ht => (by cases ht), by simp⟩
    · refine ⟨_, rfl, fun t ht => ?_, by simp [AA]⟩
      simp only [AA, List.mem_cons, List.not_mem_nil, or_false] at ht
      rcases ht with rfl | rfl <;>
      · refine step_of _ (by simp) fun x hx => ?_
        simp only [List.mem_cons, List.not_mem_nil, or_false] at hx
        rcases hx with rfl | rfl
        · exact str_en _ (by decide +kernel) (by decide +kernel)
        · exact en_A)
  exact ⟨y, for_at (src_f l4 rfl) w⟩
/-! points_of -/
def dB : Stm := (mSeq (mSet 12 (sIf (tstOf (sCmp .In (sIx (sVar 11) (sCst (.int 0))) (sLst (aCons (sCst (.str "free")) (aCons (sCst (.str "at")) aNil))))) (sLst aNil) (sBi gList (aCons (sIf (tstOf (sCmp .In (sIx (sVar 11) (sCst (.int 0))) (sLst (aCons (sCst (.str "on")) (aCons (sCst (.str "circle")) aNil))))) (sSl (sVar 11) (some (sCst (.int 2))) (some (sCst (.int 4)))) (sSl (sVar 11) (some (sCst (.int 2))) none)) aNil)))) (mSeq (mIf (tOrS (tNotS (tstOf (sIsi "list" (sCall [.S] F_points_of (aCons (sVar 11) aNil))))) (tstOf (sCmp .NotEq (sCall [.S] F_points_of (aCons (sVar 11) aNil)) (sVar 12)))) (mSeq (mRet (sCst (.bl false))) mNil) mNil) mNil))
theorem strs_fa : Strs [.str "free", .str "at"] := fun z hz => by
  simp only [List.mem_cons, List.not_mem_nil, or_false] at hz
  rcases hz with rfl | rfl
  · exact ⟨_, rfl, by decide +kernel⟩
  · exact ⟨_, rfl, by decide +kernel⟩
theorem mem_fa (w : Str) : memB (.str w) [.str "free", .str "at"] = (decide (w = "free") || decide (w = "at")) := by
  show (eqT (.str "free") (.str w) || (eqT (.str "at") (.str w) || false)) = _
  rw [eq_strs, eq_strs, Bool.or_false]
  congr 1 <;> simp only [eq_comm]
theorem due_test {τ : Sl} {w : Str} {x : T} {r : List T} {n : Int} {m : Str} (v11 : Ev τ (sVar 11) (.tup (.str w :: x :: r))) (hk : kindF w = some (n, m)) (hr : (r.length : Int) = n + m.length) :
    sIf (tstOf (sCmp .In (sIx (sVar 11) (sCst (.int 0))) (sLst (aCons (sCst (.str "free")) (aCons (sCst (.str "at")) aNil))))) (sLst aNil) (sBi gList (aCons (sIf (tstOf (sCmp .In (sIx (sVar 11) (sCst (.int 0))) (sLst (aCons (sCst (.str "on")) (aCons (sCst (.str "circle")) aNil))))) (sSl (sVar 11) (some (sCst (.int 2))) (some (sCst (.int 4)))) (sSl (sVar 11) (some (sCst (.int 2))) none)) aNil)) τ = some (.f (.lst (r.take n.toNat)), τ) := by
  have x0 : Ev τ (sIx (sVar 11) (sCst (.int 0))) (.str w) := ev_ix v11.o ev_cst.o (ix_at (k := 0) rfl)
  have t1 : Et τ (tstOf (sCmp .In (sIx (sVar 11) (sCst (.int 0))) (sLst (aCons (sCst (.str "free")) (aCons (sCst (.str "at")) aNil))))) (memB (.str w) [.str "free", .str "at"]) :=
    et_of (ev_cmp (op := .In) x0.o ⟨_, eo_lst (ts := [.str "free", .str "at"]) (a_cons ev_cst (a_cons ev_cst a_nil)) (by decide), rfl⟩ (in_strs (x := .str w) rfl strs_fa)).o
  rw [mem_fa] at t1
  have t2 := et_on x0
  rcases kind_cases hk with ⟨rfl, rfl, rfl⟩ | ⟨rfl, rfl, rfl⟩ | ⟨hw, rfl, rfl⟩ | ⟨h1, h2, h3, h4, rfl⟩
  · rw [sIf_tt (t1.to (by decide +kernel))]
    exact eo_lst (ts := []) a_nil (Nat.zero_le _)
  · rw [sIf_tt (t1.to (by decide +kernel))]
    exact eo_lst (ts := []) a_nil (Nat.zero_le _)
  · have t3 := t1.to (show (decide (w = "free") || decide (w = "at")) = false by rcases hw with rfl | rfl <;> decide +kernel)
    have t4 := t2.to (show isOn w = true by rw [isOn_eq]; rcases hw with rfl | rfl <;> decide +kernel)
    rw [sIf_ff t3]
    have e : Ev τ (sIf (tstOf (sCmp .In (sIx (sVar 11) (sCst (.int 0))) (sLst (aCons (sCst (.str "on")) (aCons (sCst (.str "circle")) aNil))))) (sSl (sVar 11) (some (sCst (.int 2))) (some (sCst (.int 4)))) (sSl (sVar 11) (some (sCst (.int 2))) none)) (.tup (cutT (.str w :: x :: r) (some 2) (some (2 + 2)))) := (sIf_tt t4).trans (ev_slT2 v11 ev_cst)
    rw [points_at hk hr] at e
    exact list_of e
  · have t3 := t1.to (show (decide (w = "free") || decide (w = "at")) = false by rw [decide_eq_false h1, decide_eq_false h2]; rfl)
    have t4 := t2.to (show isOn w = false by rw [isOn_eq, decide_eq_false h3, decide_eq_false h4]; rfl)
    rw [sIf_ff t3]
    have e : Ev τ (sIf (tstOf (sCmp .In (sIx (sVar 11) (sCst (.int 0))) (sLst (aCons (sCst (.str "on")) (aCons (sCst (.str "circle")) aNil))))) (sSl (sVar 11) (some (sCst (.int 2))) (some (sCst (.int 4)))) (sSl (sVar 11) (some (sCst (.int 2))) none)) (.tup (cutT (.str w :: x :: r) (some 2) none)) := (sIf_ff t4).trans (ev_slTn v11)
    have hl : (("" : Str).length : Int) = 0 := by kernel_rfl
    have e2 : cutT (.str w :: x :: r) (some 2) none = r.take n.toNat := by
      have := cut_from (l := .str w :: x :: r) 2
      rw [List.take_of_length_le (by omega)]
      exact this
    rw [e2] at e
    exact list_of e
theorem due_turn {sc : T} {s : Int} {st : List T} {x4 x7 x10 x12 : Option (T × Fl)} {o a b t : T} {ns : List T} (ht : StepT t) (hr : reasonS t ns = none) : ∃ y12, dB (LR sc s st x4 o x7 a b x10 (some (t, .shr)) x12) = some (.nx (LR sc s st x4 o x7 a b x10 (some (t, .shr)) y12)) := by
  obtain ⟨w, x, r, n, m, v⟩ := valid_of hr
  obtain ⟨en, hrl⟩ := v.ens ht
  have e := v.eq
  subst e
  have d := due_test (τ := LR sc s st x4 o x7 a b x10 (some (.tup (.str w :: x :: r), .shr)) x12) (ev_var (i := 11) rfl) v.kind v.len
  generalize hp : r.take n.toNat = pts at d
  have po : F_points_of [.tup (.str w :: x :: r)] = some (.ret (.lst pts) true []) := by rw [p_points_of v.kind, points_at v.kind v.len, hp]
  have v11 : Ev (LR sc s st x4 o x7 a b x10 (some (.tup (.str w :: x :: r), .shr)) (some (.lst pts, .own))) (sVar 11) (.tup (.str w :: x :: r)) := ev_var (i := 11) rfl
  have pc := callF_at (ms := [.S]) (F := F_points_of) (xs := [.v (.tup (.str w :: x :: r))]) (a_cons v11 a_nil) rfl po
  have t1 := et_not (et_of (ev_isi (n := "list") (show Eo _ (sCall [.S] F_points_of (aCons (sVar 11) aNil)) (.lst pts) from ⟨_, pc, rfl⟩)).o)
  have pen : ∀ y ∈ pts, En y := fun y hy => en y (List.mem_of_mem_take (by rw [hp]; exact hy))
  have t2 : Et (LR sc s st x4 o x7 a b x10 (some (.tup (.str w :: x :: r), .shr)) (some (.lst pts, .own))) (tstOf (sCmp .NotEq (sCall [.S] F_points_of (aCons (sVar 11) aNil)) (sVar 12))) false := et_of (ev_cmp (show Eo _ (sCall [.S] F_points_of (aCons (sVar 11) aNil)) (.lst pts) from ⟨_, pc, rfl⟩) (eo_var (i := 12) rfl) (ne_self ((okD_lst (n := 1) fun y hy => en_ok (pen y hy)).e (by decide)) (nd_lst fun y hy => nd_en (pen y hy)))).o
  refine ⟨some (.lst pts, .own), ?_⟩
  exact (mSeq_nx (set_f d)).trans ((mSeq_nx ((mIf_ff (et_or (b2 := false) t1 (fun _ => t2) fun h => by cases h)).trans rfl)).trans rfl)
theorem due_walk {sc : T} {s : Int} {st : List T} {x4 x7 x10 : Option (T × Fl)} {o a b : T} : ∀ (l : List T) (x11 x12 : Option (T × Fl)), (∀ t ∈ l, StepT t ∧ ∃ ns, reasonS t ns = none) →
    ∃ y11 y12, walk (tgt1 11) dB l (LR sc s st x4 o x7 a b x10 x11 x12) = some (.nx (LR sc s st x4 o x7 a b x10 y11 y12))
  | [], x11, x12, _ => ⟨x11, x12, rfl⟩
  | t :: l, x11, x12, h => by
    obtain ⟨h1, ns, h2⟩ := h t (List.mem_cons_self ..)
    obtain ⟨y12, e⟩ := due_turn (sc := sc) (s := s) (st := st) (x4 := x4) (x7 := x7) (x10 := x10) (x12 := x12) (o := o) (a := a) (b := b) h1 h2
    have st : walk (tgt1 11) dB (t :: l) (LR sc s st x4 o x7 a b x10 x11 x12) = (match dB (LR sc s st x4 o x7 a b x10 (some (t, .shr)) x12) with
        | some (.nx τ2) => walk (tgt1 11) dB l τ2
        | some (.ct τ2) => walk (tgt1 11) dB l τ2
        | some (.br τ2) => some (.nx τ2)
        | o => o) := rfl
    rw [st, e]
    exact due_walk l _ _ fun r hr => h r (List.mem_cons_of_mem _ hr)
def w13 : Stm := (mIf (tstOf (sCmp .Eq (sVar 6) (sCst (.str "fine")))) (mSeq (mFor (srcOf (sVar 3)) (tgt1 11) dB) mNil) mNil)
theorem told_fine {l : List T} (hl : ∀ t ∈ l, StepT t) : cmpT .Eq (toldT (chk l 0 [] [] 0)) (.str "fine") = some (decide (chk l 0 [] [] 0 = none)) := by
  have h1 := told_ok2 hl
  have h2 : okE (.str "fine") = true := by decide +kernel
  simp only [cmpT, h1, h2, Bool.and_self, if_true]
  cases chk l 0 [] [] 0 with
  | none =>
    show some (eqT (.str "fine") (.str "fine")) = _
    rw [eq_strs]
    simp
  | some z =>
    show some (eqT (.tup _) (.str _)) = _
    simp [eqT, T.pd, PyData.eqv]
theorem seg13 {sc : T} {s : Int} {st : List T} {x4 x7 x10 : Option (T × Fl)} {a b : T} (hl : ∀ t ∈ st, StepT t) :
    ∃ y11 y12, w13 (LR sc s st x4 (toldT (chk st 0 [] [] 0)) x7 a b x10 none none) = some (.nx (LR sc s st x4 (toldT (chk st 0 [] [] 0)) x7 a b x10 y11 y12)) := by
  have t : Et (LR sc s st x4 (toldT (chk st 0 [] [] 0)) x7 a b x10 none none) (tstOf (sCmp .Eq (sVar 6) (sCst (.str "fine")))) (decide (chk st 0 [] [] 0 = none)) := et_of (ev_cmp (ev_var (i := 6) rfl).o ev_cst.o (told_fine hl)).o
  unfold w13
  by_cases h : chk st 0 [] [] 0 = none
  · obtain ⟨y11, y12, w⟩ := due_walk (sc := sc) (s := s) (st := st) (x4 := x4) (x7 := x7) (x10 := x10) (o := toldT (chk st 0 [] [] 0)) (a := a) (b := b) st none none (fun t ht => ⟨hl t ht, chk_valid st 0 [] [] 0 h t ht⟩)
    refine ⟨y11, y12, ?_⟩
    rw [mIf_tt (t.to (decide_eq_true h))]
    exact (mSeq_nx (for_at (src_of (t := .lst st) (ev_var (i := 3) rfl) rfl) w)).trans rfl
  · refine ⟨none, none, ?_⟩
    rw [mIf_ff (t.to (decide_eq_false h))]
    rfl
def w1 : Stm := mSet 1 (sCall [.B, .S, .S] F__law_big (aCons (sVar 0) (aCons (sCst (.int 0)) (aCons (sCst (.int 60)) aNil))))
def w2 : Stm := mSet 2 (sLst (aCons (sCst (.str "on")) (aCons (sCst (.str "middle")) (aCons (sCst (.str "corner")) (aCons (sCst (.str "mirror")) (aCons (sCst (.str "square")) (aCons (sCst (.str "meet")) (aCons (sCst (.str "foot")) (aCons (sCst (.str "fold")) (aCons (sCst (.str "centre")) (aCons (sCst (.str "second")) (aCons (sCst (.str "inverse")) (aCons (sCst (.str "circle")) (aCons (sCst (.str "like")) aNil))))))))))))))
theorem m_law_eq : m_law = mSeq w1 (mSeq w2 (mSeq w3 (mSeq w4 (mSeq w5 (mSeq w6 (mSeq w7 (mSeq w8 (mSeq w9 (mSeq w10 (mSeq w11 (mSeq w12 (mSeq w13 (mSeq (mRet (sCst (.bl true))) mNil))))))))))))) := rfl
theorem law_pure (ns : List Int) (hl : ns.length ≤ 63) : ∃ b, F_law [.lst (ns.map T.int)] = some (.ret (.bl true) b []) := by
  refine ⟨false, ?_⟩
  have r : F_law [.lst (ns.map T.int)] = finF [.B] (m_law (LS (.lst (ns.map T.int)) none none none none none none none none none none none none none)) := runF_at rfl
  rw [r]
  obtain ⟨s, e1⟩ := p__law_big (ns := ns) (at_ := 0) (n := 60) (by decide) (r62_small (by decide) (by decide))
  have g1 : w1 (LS (.lst (ns.map T.int)) none none none none none none none none none none none none none) = some (.nx (LS (.lst (ns.map T.int)) (sT s) none none none none none none none none none none none none)) := set_f (callF_at (xs := [.s 0, .v (.int 0), .v (.int 60)]) rfl rfl e1)
  have g2 : w2 (LS (.lst (ns.map T.int)) (sT s) none none none none none none none none none none none none) = some (.nx (LS (.lst (ns.map T.int)) (sT s) (some (.lst words, .own)) none none none none none none none none none none none)) :=
    (set_f (eo_lst (ts := words) (a_cons ev_cst (a_cons ev_cst (a_cons ev_cst (a_cons ev_cst (a_cons ev_cst (a_cons ev_cst (a_cons ev_cst (a_cons ev_cst (a_cons ev_cst (a_cons ev_cst (a_cons ev_cst (a_cons ev_cst (a_cons ev_cst a_nil))))))))))))) (by decide))).trans rfl
  obtain ⟨s3, st3, l3, z3, h3, g3⟩ := seg3 (sc := .lst (ns.map T.int)) (s := s)
  obtain ⟨s4, st4, l4, z4, h4, g4⟩ := seg4 (sc := .lst (ns.map T.int)) (s := s3) z3 h3
  obtain ⟨s5, st, fl, x4, hf, z5, h5, g5⟩ := seg5 (sc := .lst (ns.map T.int)) (s := s4) (by omega) z4 (fun t ht => (h4 t ht).b)
  have g6 := seg6 (sc := .lst (ns.map T.int)) (s := s5) (st := st) (x4 := x4) hf
  have g7 := seg7 (sc := .lst (ns.map T.int)) (s := s5) (st := st) (x4 := x4) (fl := fl) h5 z5
  have g8 := seg8 (sc := .lst (ns.map T.int)) (s := s5) (st := st) (x4 := x4) hf h5 z5
  obtain ⟨s9, n9, b9, g9⟩ := seg9 (sc := .lst (ns.map T.int)) (s := s5) (st := st) (x4 := x4) (o := toldT (chk st 0 [] [] 0))
  have g10 := seg10 (sc := .lst (ns.map T.int)) (s := s9) (st := st) (x4 := x4) (o := toldT (chk st 0 [] [] 0)) (n := 22 + n9) (by omega)
  obtain ⟨s11, n11, b11, g11⟩ := seg11 (sc := .lst (ns.map T.int)) (s := s9) (st := st) (x4 := x4) (x7 := some (.int ((22 + n9 : Nat) : Int), .shr)) (o := toldT (chk st 0 [] [] 0)) (w := .lst (AB ++ (plc 0 (22 + n9)).map wideF))
  obtain ⟨y10, g12⟩ := seg12 (sc := .lst (ns.map T.int)) (s := s11) (st := st) (x4 := x4) (x7 := some (.int ((22 + n9 : Nat) : Int), .shr)) (o := toldT (chk st 0 [] [] 0)) (wide_step (n := 22 + n9) (by omega)) (by
    rw [List.length_append, List.length_map, plc_length]
    show 2 + (22 + n9) ≤ 100
    omega) (many_step b11) (by
    rw [List.length_append, List.length_map, plc_length, List.length_map, plc_length]
    omega)
  obtain ⟨y11, y12, g13⟩ := seg13 (sc := .lst (ns.map T.int)) (s := s11) (st := st) (x4 := x4) (x7 := some (.int ((22 + n9 : Nat) : Int), .shr)) (x10 := y10) (a := .lst (AB ++ (plc 0 (22 + n9)).map wideF)) (b := .lst ((plc 0 6).map freeF ++ (plc 0 n11).map onF)) h5
  rw [m_law_eq, mSeq_nx g1, mSeq_nx g2, mSeq_nx g3, mSeq_nx g4, mSeq_nx g5, mSeq_nx g6, mSeq_nx g7, mSeq_nx g8, mSeq_nx g9, mSeq_nx g10, mSeq_nx g11, mSeq_nx g12, mSeq_nx g13, mSeq_rt (mRet_v ev_cst)]
  rfl
end K4
set_option maxHeartbeats 0
/-! K4q: the head's facts of law_k04, with the class InvalidStep. -/
namespace K4
open PySem PySem.Spec PyProof.Rows L2 Dt
/-- what a function is, the names of its closure alone -/
abbrev FnI : Type := Option (Str × Str × Arguments × FuncBody × Scope × Addr × List Str × Addr)
def fnI (K : PySem.W.Frag) (a : Addr) : FnI := match K.lookup a with
  | some ⟨_, _, .func fd, _⟩ => some (fd.name, fd.qualname, fd.params, fd.body, fd.scope, fd.globals, fd.closure.map (·.1), fd.builtins)
  | _ => none
def clsOf (a : Addr) (g : Addr → Option Obj) : List Addr := match g a with
  | some ⟨_, _, .func fd, _⟩ => fd.closure.map (·.2)
  | _ => []
def asI (g : Addr → Option Obj) : List Addr := He.asD g 4 ++ (He.asD g 4).flatMap (fun a => clsOf a g) ++ [cStatics]
def kI (g : Addr → Option Obj) : PySem.W.Frag := He.frT g (asI g)
def iC (K : PySem.W.Frag) : Addr := He.ga K "InvalidStep"
def iF (K : PySem.W.Frag) : Addr := He.ma K (iC K) "__init__"
def iCC (K : PySem.W.Frag) : Addr := match K.lookup (iF K) with
  | some ⟨_, _, .func fd, _⟩ => (match fd.closure with
    | [(_, c)] => c
    | _ => 0)
  | _ => 0
def exoB (K : PySem.W.Frag) (C : Addr) : Bool := match K.lookup C with
  | some ⟨.type "type", _, .cls cd, sl⟩ => (match cd.mro, sl.toList with
    | .ref C' :: bm, [_, _, _, _, some (.builtin n), _] => decide (C' = C) && (decide (n = "ValueError.__new__") && (!cd.hasDel && (PySem.HandSPX.refsVE bm && cd.hasDict)))
    | _, _ => false)
  | _ => false
def codeB (K : PySem.W.Frag) (f : Addr) : Bool := match K.lookup f with
  | some ⟨_, _, .func fd, _⟩ => PySem.W.codeIn K fd.code fd.qualname && ((match fd.defaults with | .none => true | _ => false) && match fd.code with
    | .ref cda => (match K.lookup cda with
      | some ⟨_, _, .fields vs, _⟩ => (match vs[2]? with
        | some (Value.str file _) => ((R.prog.main.file : Str) == file)
        | _ => false)
      | _ => false)
    | _ => false)
  | _ => false
def cellB (K : PySem.W.Frag) (c C : Addr) : Bool := match K.lookup c with
  | some ⟨_, _, .cell (some (.ref D)), _⟩ => decide (D = C)
  | _ => false
def i1B (K : PySem.W.Frag) : Bool := exoB K (iC K) && (He.eqO (PySem.W.findIn K (.ref (iC K)) "__setattr__") (some (some (.builtin "object.__setattr__"))) && (decide (PySem.W.subIn K (.ref (iC K)) (.type "BaseException") = some true) &&
  (decide (PySem.W.typeIn K (.ref (iC K)) = some (.type "type")) && PySem.W.keepIn K (.ref (iC K)))))
def i2B (K : PySem.W.Frag) : Bool := codeB K (iF K) && (cellB K (iCC K) (iC K) && (decide (PySem.W.subIn K (.ref (iC K)) (.type "ValueError") = some true) && (decide (PySem.W.mroIn K (iC K) (.ref (iC K)) = some true) &&
  (He.eqO (PySem.W.nsIn K cStatics "thirdparty.any") (some none) && (He.eqO (PySem.W.ks_superIn K (iC K) (iC K) "__init__") (some (some (.builtin "ValueError.__init__"))) && (He.eqO (PySem.W.findIn K (.ref (iC K)) "place") (some none) && He.eqO (PySem.W.findIn K (.ref (iC K)) "reason") (some none)))))))
def i3B (K : PySem.W.Frag) : Bool := He.eqO (PySem.W.findIn K (.ref (iC K)) "__init__") (some (some (.ref (iF K)))) && (decide (PySem.W.typeIn K (.ref (iF K)) = some (.type "function")) && (xfB K (iC K) && (He.eqO (PySem.W.findIn K (.ref (iC K)) "__class__") (some (some (.builtin "object.__class__"))) &&
  (He.eqO (PySem.W.specialIn K (.builtin "object.__class__") "__get__") (some (some (.builtin "getset_descriptor.__get__"))) && (decide (PySem.W.takesIn K (.builtin "object.__class__") = some true) && (decide (PySem.W.mroIn K (iC K) (.type "object") = some true) &&
  (decide (PySem.W.kitOne K (.ref (iC K)) (.ref (He.ga K "DrawnError")) = some true) && decide (PySem.W.exmOne K (.ref (iC K)) (.ref (iC K)) = some true))))))))
def initDef : Stmt := match top 2 with
  | .ClassDef (body := s :: _) .. => s
  | _ => .Pass ⟨0, 0, 0, 0⟩
def iVal : FnI := some ("__init__", "InvalidStep.__init__", defArgs initDef, .stmts (defBody initDef), defScope initDef, mainGlobals, ["__class__"], builtinsNs)
abbrev AlI : Type := He.AlT × Bool × FnI
def obsI (g : Addr → Option Obj) : AlI := (He.obsT fa fn ts (kI g), ex (kI g) && (i1B (kI g) && (i2B (kI g) && i3B (kI g))), fnI (kI g) (iF (kI g)))
def valI (w : World) : AlI := (He.valT fn ts w, true, iVal)
/-- what the head tells -/
structure SaysI (w : World) (h : Heap) (K : PySem.W.Frag) : Prop where
  x : He.SaysX fa fn ts [] ex w h K
  i1 : i1B K = true
  i2 : i2B K = true
  i3 : i3B K = true
  f : fnI K (iF K) = iVal
theorem saysI_of {w : World} {h : Heap} (e : obsI h.get? = valI w) : SaysI w h (kI h.get?) := by
  have e1 : He.obsT fa fn ts (kI h.get?) = He.valT fn ts w := congrArg (fun z : AlI => z.1) e
  have e2 : (ex (kI h.get?) && (i1B (kI h.get?) && (i2B (kI h.get?) && i3B (kI h.get?)))) = true := congrArg (fun z : AlI => z.2.1) e
  have e3 : fnI (kI h.get?) (iF (kI h.get?)) = iVal := congrArg (fun z : AlI => z.2.2) e
  simp only [Bool.and_eq_true] at e2
  exact ⟨⟨e1, e2.1, (fun p hp => nomatch hp), (fun p hp => nomatch hp), (fun p hp => nomatch hp)⟩, e2.2.1, e2.2.2.1, e2.2.2.2, e3⟩
def hk : PySem.W.Hook where
  α := AlI
  obs := fun s => obsI s.heap.get?
  val := fun w => valI w
  says := fun w h => ∃ K : PySem.W.Frag, K.In h ∧ SaysI w h K
  of := fun _ _ e => ⟨_, He.frT_in, saysI_of e⟩
  keeps := fun _ _ _ ⟨K, hK, c⟩ k => ⟨K, PySem.W.Frag.In.keeps hK k, ⟨⟨c.x.t, c.x.more, c.x.hd, c.x.out, (fun p hp => nomatch hp)⟩, c.i1, c.i2, c.i3, c.f⟩⟩
def ob (s : PySem.W.SharedT) : AlI := obsI (HandSHeadRun.getT s)
theorem ob_eq (s : PySem.W.SharedT) : ob s = hk.obs s.abs := by
  have e : HandSHeadRun.getT s = s.abs.heap.get? := funext (HandSHeadRun.getT_eq s)
  show obsI (HandSHeadRun.getT s) = obsI s.abs.heap.get?
  rw [e]
end K4
set_option maxHeartbeats 0
/-! K4r: the head of law_k04, run. -/
namespace K4
open PySem PySem.Spec PyProof.Rows L2 Dt
theorem run (w : World) : HandSHeadRun.RunEq R (PySem.W.view R.prog [41]) hk ob 3000 loose w :=
  PySem.W.byRow2 "special-get-raises" (P := fun w => HandSHeadRun.RunEq R (PySem.W.view R.prog [41]) hk ob 3000 loose w) (fun w => by intro os; kernel_rfl) (fun w => by intro os; kernel_rfl) w
end K4
set_option maxHeartbeats 4000000
/-! K4t: what is known of InvalidStep; check_steps. -/
namespace K4
open PySem PySem.Spec PyProof.Rows L2 Dt
section
variable {P : Program} {w : World} {K : PySem.W.Frag} {h : Heap} {mg : Str → Option Value} {base : Heap}
theorem exo_ok {C : Addr} (e : exoB K C = true) : ∃ nm q N bs bm sn sub ab col dd k0 k1 k2 k3 k5, K.lookup C = some (excClassObj nm q C N bs bm true sn sub ab col dd k0 k1 k2 k3 k5 "ValueError.__new__") ∧ PySem.HandSPX.refsVE bm = true := by
  unfold exoB at e
  split at e
  · rename_i dd cd sl ho
    split at e
    · rename_i C' bm k0 k1 k2 k3 n k5 hm hs
      simp only [Bool.and_eq_true, decide_eq_true_eq, Bool.not_eq_true'] at e
      obtain ⟨rfl, rfl, hdel, hv, hd⟩ := e
      obtain ⟨nm, bs, mro, ns, qn, hdd, sn, sub, ab, col, del⟩ := cd
      dsimp only at hm hdel hd
      subst hm hdel hd
      obtain ⟨l⟩ := sl
      simp only at hs
      subst hs
      exact ⟨nm, qn, ns, bs, bm, sn, sub, ab, col, dd, k0, k1, k2, k3, k5, ho, hv⟩
    · cases e
  · cases e
theorem oexC (c : SaysI w h K) : OexC K (iC K) := by
  have e := c.i1
  unfold i1B at e
  simp only [Bool.and_eq_true, decide_eq_true_eq] at e
  obtain ⟨e1, e2, e3, e4, e5⟩ := e
  exact ⟨exo_ok e1, He.eqO_ok e2, e3, e4, e5⟩
theorem cellB_ok {a C : Addr} (e : cellB K a C = true) : ∃ (cl : Value) (cld : Option Addr) (csl : Array (Option Value)), K.lookup a = some ⟨cl, cld, .cell (some (.ref C)), csl⟩ := by
  unfold cellB at e
  split at e
  · rename_i cl cld D csl ho
    have := of_decide_eq_true e
    subst this
    exact ⟨cl, cld, csl, ho⟩
  · cases e
theorem initK (c : SaysI w h K) (hP : P.main.file = R.prog.main.file) : ∃ fd, InitK P K (iC K) (iF K) (iCC K) "InvalidStep.__init__" (defArgs initDef) (defBody initDef) (defScope initDef) fd := by
  have e := c.i2
  unfold i2B at e
  simp only [Bool.and_eq_true, decide_eq_true_eq] at e
  obtain ⟨e1, e2, e3, e4, e5, e6, e7, e8⟩ := e
  have f := c.f
  unfold fnI at f
  cases q : K.lookup (iF K) with
  | none => rw [q] at f; cases f
  | some o =>
    obtain ⟨oc, od, dt, osl⟩ := o
    rw [q] at f
    cases dt with
    | func fd =>
      have f' := Option.some.inj f
      simp only [Prod.mk.injEq] at f'
      obtain ⟨f1, f2, f3, f4, f5, f6, f7, f8⟩ := f'
      unfold codeB at e1
      rw [q] at e1
      simp only [Bool.and_eq_true] at e1
      obtain ⟨g1, g0, g2⟩ := e1
      have hd : fd.defaults = .none := by
        cases hq : fd.defaults with
        | none => rfl
        | _ => rw [hq] at g0; cases g0
      cases hc : fd.code with
      | ref cda =>
        rw [hc] at g1 g2
        dsimp only at g2
        split at g2
        · rename_i ccl cdd vs ccs lc
          split at g2
          · rename_i file tf hv
            have hcl : fd.closure = [(("__class__" : Str), iCC K)] := by
              match hcc : fd.closure, f7 with
              | [(x, a)], f7 =>
                have hx : x = "__class__" := by simpa using f7
                have ha : iCC K = a := by
                  unfold iCC
                  rw [q]
                  dsimp only
                  rw [hcc]
                rw [hx, ha]
              | [], f7 => simp at f7
              | _ :: _ :: _, f7 => simp at f7
            refine ⟨fd, oexC c, ⟨oc, od, fd.kwdefaults, fd.doc, fd.pyModule, fd.annotations, cda, fd.closureTuple, osl, ?_, q, by rw [← f2]; exact g1, ccl, cdd, vs, ccs, file, tf, lc, hv, by rw [hP]; exact g2⟩, cellB_ok e2, e3, e4, He.eqO_ok e5, He.eqO_ok e6, He.eqO_ok e7, He.eqO_ok e8⟩
            obtain ⟨name, qualname, params, body, scope, globals, closure, defaults, kwdefaults, doc, pyModule, annotations, code, closureTuple, builtins⟩ := fd
            dsimp only at f1 f2 f3 f4 f5 f6 f8 hc hcl hd
            subst f1 f2 f3 f4 f5 f6 f8 hc hcl hd
            rfl
          · cases g2
        · cases g2
      | _ => rw [hc] at g2; cases g2
    | _ => cases f
theorem seenC (c : SaysI w h K) : SeenC K (iC K) ∧ PySem.W.findIn K (.ref (iC K)) "__init__" = some (some (.ref (iF K))) ∧ PySem.W.typeIn K (.ref (iF K)) = some (.type "function") ∧ PySem.W.kitOne K (.ref (iC K)) (.ref (He.ga K "DrawnError")) = some true ∧ PySem.W.exmOne K (.ref (iC K)) (.ref (iC K)) = some true := by
  have e := c.i3
  unfold i3B at e
  simp only [Bool.and_eq_true, decide_eq_true_eq] at e
  obtain ⟨e1, e2, e3, e4, e5, e6, e7, e8, e9⟩ := e
  obtain ⟨nm, q, N, bs, bm, sn, sub, ab, col, dd, k0, k1, k2, k3, k5, hC, hbm⟩ := (oexC c).cls
  exact ⟨⟨xfB_ok e3, by unfold PySem.W.clsIn; rw [hC]; rfl, He.eqO_ok e4, He.eqO_ok e5, e6, e7⟩, He.eqO_ok e1, e2, e8, e9⟩
theorem init_fn (c : SaysI w h K) (X : K.In h) (Gh : h.Ns mainGlobals mg) (hP : P.main.file = R.prog.main.file) (hT : (P.main.scope.names.lookup ("super" : Str)).isSome = false) : ∃ fd, FnOk P w K mg base CX0 1 (iF K) fd selfN (spI (iC K)) ∧ Binds K fd selfN [] := by
  obtain ⟨fd, F⟩ := initK (P := P) c hP
  refine ⟨fd, init_ok (k := 0) (ar := ⟨"self", none, ⟨6, 17, 6, 21⟩⟩) F (by kernel_rfl) (fr' c.x X Gh 46) hT (by kernel_rfl) rfl (by kernel_rfl), ?_⟩
  obtain ⟨oc, od, kV, doc, pm, an, cda, ct, osl, rfl, _⟩ := F.fn
  exact .all fun us hl => match us, hl with
    | [_, _, _], _ => by kernel_rfl
end
end K4
set_option maxHeartbeats 4000000
/-! K4u: _law_told. -/
namespace K4
open PySem PySem.Spec PyProof.Rows L2 Dt
def chkG : Gm := { G13 with exs := fun x => decide (x = "InvalidStep") }
section
variable {P : Program} {w : World} {K : PySem.W.Frag} {h : Heap} {mg : Str → Option Value} {base : Heap}
abbrev spC (K : PySem.W.Frag) (w : World) : Sp := spF K w (fun c ws C d _ H' => evI (iC K) c ws C d H') [.S] F_check_steps
theorem chk_fn (c : SaysI w h K) (X : K.In h) (Gh : h.Ns mainGlobals mg) (hP : P.main.file = R.prog.main.file) (hT : (P.main.scope.names.lookup ("super" : Str)).isSome = false) :
    ∃ fd, FnOk P w K mg base (L2.CX P w) 14 (He.ga K "check_steps") fd ["steps"] (spC K w) ∧ PySem.W.keepIn K (.ref (He.ga K "check_steps")) = true ∧ Binds K fd ["steps"] [] := by
  obtain ⟨fi, F1, hb⟩ := init_fn (P := P) (base := base) c X Gh hP hT
  obtain ⟨sC, iC', tI, _, _⟩ := seenC c
  obtain ⟨fd, F⟩ := c.x.t.d.def_ 13 (d := d_check_steps) rfl
  have M := modd13 (P := P) (base := base) c.x X Gh
  have M' : Modd chkG P w K mg base 13 := ⟨M.fn, M.ks, M.bl⟩
  have hx := raise_ps (G := chkG) (sc := defScope (top 23)) (k := 13) (by decide) (oexC c) iC' tI F1 hb (fun x e => of_decide_eq_true e) (gl c.x X Gh (x := "InvalidStep") 33)
  exact ⟨fd, def_okDX M' F sc_check_steps rfl (by decide) hx c_check_steps, F.kp, FunD.bindsN F fun _ _ _ _ _ _ us hl => match us, hl with | [_], _ => rfl⟩
end
/-! its text -/
def tTry : Expr := .IfExp (.Compare (.Call (.Name "check_steps" ⟨206, 25, 206, 36⟩) [.Name "steps" ⟨206, 37, 206, 42⟩] [] ⟨206, 25, 206, 43⟩) [.Is] [.Constant .none 0 ⟨206, 47, 206, 51⟩] ⟨206, 25, 206, 51⟩) (.Constant (.str "fine") 0 ⟨206, 15, 206, 21⟩) (.Constant (.str "odd") 0 ⟨206, 57, 206, 62⟩) ⟨206, 15, 206, 62⟩
def tGot : Expr := .IfExp (.BoolOp .And [.Call (.Name "isinstance" ⟨208, 38, 208, 48⟩) [.Name "e" ⟨208, 49, 208, 50⟩, .Name "DrawnError" ⟨208, 52, 208, 62⟩] [] ⟨208, 38, 208, 63⟩,
    .UnaryOp .Not (.Call (.Name "isinstance" ⟨208, 73, 208, 83⟩) [.Attribute (.Name "e" ⟨208, 84, 208, 85⟩) "place" ⟨208, 84, 208, 91⟩, .Name "bool" ⟨208, 93, 208, 97⟩] [] ⟨208, 73, 208, 98⟩) ⟨208, 69, 208, 98⟩] ⟨208, 38, 208, 99⟩)
  (.Tuple [.Attribute (.Name "e" ⟨208, 16, 208, 17⟩) "place" ⟨208, 16, 208, 23⟩, .Attribute (.Name "e" ⟨208, 25, 208, 26⟩) "reason" ⟨208, 25, 208, 33⟩] 0 ⟨208, 15, 208, 34⟩)
  (.Tuple [.Constant (.str "odd") 0 ⟨208, 106, 208, 111⟩, .Constant (.str "") 0 ⟨208, 113, 208, 115⟩] 0 ⟨208, 105, 208, 116⟩) ⟨208, 15, 208, 116⟩
def tStm : Stmt := .Try [.Return (some tTry) ⟨206, 8, 206, 62⟩] [.ExceptHandler (some (.Name "InvalidStep" ⟨207, 11, 207, 22⟩)) (some "e") [.Return (some tGot) ⟨208, 8, 208, 116⟩] ⟨207, 4, 208, 116⟩] [] [] ⟨205, 4, 208, 116⟩
theorem told_text : defBody (top 39) = [tStm] := by kernel_rfl
def tN : List Str := ["steps", "e"]
theorem sc_told : FnScope tN ["steps"] (defScope (top 39)) := ⟨rfl, rfl, rfl, by decide +kernel, rfl, by decide +kernel, by decide +kernel⟩
/-- the readings -/
def rdT (K : PySem.W.Frag) (w : World) (W : WX) : TS := tRet (tIf (tTest (tOp rIsN (tCallS (spC K w) (WE W) (tCons (tVar 0) tNil)) (tC .non))) (tC (.str "fine")) (tC (.str "odd")))
def rdG (K : PySem.W.Frag) (dd : Addr) (a : Addr) (cls : Value) (d : Option Addr) : TS := tRet (tIf (tAnd (tB (tCB (rIsD K (iC K) dd a) (tCons (tVar 1) (tCons (tC (.ref (He.ga K "DrawnError"))) tNil)))) (tNot (tB (tCB (rIsi K) (tCons (tXf a cls d (iC K) "place" (tVar 1)) (tCons (tC (.ty "bool")) tNil))))))
  (tTup (tCons (tXf a cls d (iC K) "place" (tVar 1)) (tCons (tXf a cls d (iC K) "reason" (tVar 1)) tNil))) (tTup (tCons (tC (.str "odd")) (tCons (tC (.str "")) tNil))))
/-- .. of an exception of this class with a dict; of others nothing -/
def rdS (K : PySem.W.Frag) (a : Addr) (cls : Value) (d : Option Addr) : TS := fun D σ H => ∃ dd, cls = .ref (iC K) ∧ d = some dd ∧ rdG K dd a cls d D σ H
section
variable {X : Cx} {mg : Str → Option Value}
theorem ps_try {W : WX} {k : Nat} {fd : FuncData} (hN : X.N = tN) (hs : X.env.scope = defScope (top 39)) (F : FnOk X.prog X.w X.K X.mg X.base (L2.CX X.prog X.w) k (He.ga X.K "check_steps") fd ["steps"] (spC X.K X.w)) (room : Room k X.A) (hm : X.mg "check_steps" = some (.ref (He.ga X.K "check_steps")))
    (hk : PySem.W.keepIn X.K (.ref (He.ga X.K "check_steps")) = true) (hb : Binds X.K fd ["steps"] []) (tk : Takes X W) : PSs X [.Return (some tTry) ⟨206, 8, 206, 62⟩] (tSeq (rdT X.K X.w W) tNext) := by
  have v0 : PE X (.Name "steps" ⟨206, 37, 206, 42⟩) (tVar 0) := pe_var (by rw [hN]; rfl) (.inl (by rw [hs]; kernel_rfl))
  have call := pe_callS (X := X) (E := WE W) F room (glob_ok hs (by decide +kernel)) hm hk hb (fun σ => passAt tk σ) (pa_cons v0 pa_nil) (p := ⟨206, 25, 206, 36⟩) (pos := ⟨206, 25, 206, 43⟩)
  exact pss_cons (ps_ret (pe_ifExp (pt_cmpR op_isN1 call pe_non rfl) pe_str pe_str)) pss_nil
theorem ps_got {a dd : Addr} {oe : Obj} {pn : List (Addr × Obj)} (hN : X.N = tN) (hs : X.env.scope = defScope (top 39)) (S : SeenC X.K (iC X.K)) (n1 : PySem.W.findIn X.K (.ref (iC X.K)) "place" = some none) (n2 : PySem.W.findIn X.K (.ref (iC X.K)) "reason" = some none)
    (hz : Zc (.ref (iC X.K)) (some dd) oe) (hf : ∃ vs, oe.data = .fields vs) (m1 : X.mg "isinstance" = none) (m2 : X.mg "bool" = none) (m3 : X.mg "DrawnError" = some (.ref (He.ga X.K "DrawnError"))) :
    PS (X.suite a ((a, oe) :: pn)) (.Return (some tGot) ⟨208, 8, 208, 116⟩) (rdG X.K dd a (.ref (iC X.K)) (some dd)) := by
  have v1 : ∀ pos, PE (X.suite a ((a, oe) :: pn)) (.Name "e" pos) (tVar 1) := fun pos => pe_var (show X.N[1]? = some ("e" : Str) by rw [hN]; rfl) (.inl (show X.env.scope.names.lookup ("e" : Str) = some .local by rw [hs]; kernel_rfl))
  have gI : Gl (X.suite a ((a, oe) :: pn)) "isinstance" := glob_ok (X := X.suite a ((a, oe) :: pn)) hs (by decide +kernel)
  have gB : Gl (X.suite a ((a, oe) :: pn)) "bool" := glob_ok (X := X.suite a ((a, oe) :: pn)) hs (by decide +kernel)
  have gD : Gl (X.suite a ((a, oe) :: pn)) "DrawnError" := glob_ok (X := X.suite a ((a, oe) :: pn)) hs (by decide +kernel)
  have f1 : ∀ p q, PE (X.suite a ((a, oe) :: pn)) (.Attribute (.Name "e" p) "place" q) (tXf a (.ref (iC X.K)) (some dd) (iC X.K) "place" (tVar 1)) := fun p q => pe_xf S.xf n1 hz hf (v1 p)
  have f2 : ∀ p q, PE (X.suite a ((a, oe) :: pn)) (.Attribute (.Name "e" p) "reason" q) (tXf a (.ref (iC X.K)) (some dd) (iC X.K) "reason" (tVar 1)) := fun p q => pe_xf S.xf n2 hz hf (v1 p)
  have i1 := pe_callB (X := X.suite a ((a, oe) :: pn)) (p := ⟨208, 38, 208, 48⟩) (pos := ⟨208, 38, 208, 63⟩) (call_isD S hz hf) gI m1 (by rfl) (pa_cons (v1 ⟨208, 49, 208, 50⟩) (pa_cons (pe_glob (pos := ⟨208, 52, 208, 62⟩) gD m3 (v := .ref (He.ga X.K "DrawnError")) rfl) pa_nil))
  have i2 := pe_callB (X := X.suite a ((a, oe) :: pn)) (p := ⟨208, 73, 208, 83⟩) (pos := ⟨208, 73, 208, 98⟩) call_isi gI m1 (by rfl) (pa_cons (f1 ⟨208, 84, 208, 85⟩ ⟨208, 84, 208, 91⟩) (pa_cons (pe_bltn (pos := ⟨208, 93, 208, 97⟩) gB m2 (v := .ty "bool") (u := .type "bool") (by rfl) rfl) pa_nil))
  exact ps_ret (pe_ifExp (pw_and (pt_val i1) (pw_and1 (pt_not (pt_val i2)))).pt (pe_tup (pa_cons (f1 _ _) (pa_cons (f2 _ _) pa_nil))) (pe_tup (pa_cons pe_str (pa_cons pe_str pa_nil))))
end
end K4
set_option maxHeartbeats 4000000
/-! K4v: _law_told keeps its promise. -/
namespace K4
open PySem PySem.Spec PyProof.Rows L2 Dt
section
variable {P : Program} {w : World} {K : PySem.W.Frag} {h : Heap} {mg : Str → Option Value} {base : Heap}
theorem not_non {H : Hp} {A : Av} {t : T} {v : V} (h : Rep K w H A t v) (hn : t ≠ .non) : v ≠ .non := by
  cases t with
  | non => exact absurd rfl hn
  | bl b => simp only [Rep] at h; rw [h]; exact fun z => nomatch z
  | int b => simp only [Rep] at h; rw [h]; exact fun z => nomatch z
  | str b => simp only [Rep] at h; rw [h]; exact fun z => nomatch z
  | tup l => simp only [Rep] at h; obtain ⟨a, vs, rfl, _⟩ := h; exact fun z => nomatch z
  | lst l => simp only [Rep] at h; obtain ⟨a, vs, rfl, _⟩ := h; exact fun z => nomatch z
  | dct l => simp only [Rep] at h; obtain ⟨a, vs, rfl, _⟩ := h; exact fun z => nomatch z
/-- what the suite tells -/
theorem got_ok (c : SaysI w h K) {H : Hp} {a dd : Addr} {p : Int} {z : Str} {σ : L2.St} {D : Ends} (hσ : σ[1]? = some (some (.ref a))) (hd : H dd = some (.xd [("reason", .str z), ("place", .int p)])) (q : ∀ b, H b = none → D.rt (.ref b) (upd H b (.tup [.int p, .str z]))) :
    rdG K dd a (.ref (iC K)) (some dd) D σ H := by
  obtain ⟨_, _, _, e1, _⟩ := seenC c
  have lp : ([(("reason" : Str), V.str z), ("place", .int p)] : List (Str × V)).lookup ("place" : Str) = some (V.int p) := by kernel_rfl
  have lr : ([(("reason" : Str), V.str z), ("place", .int p)] : List (Str × V)).lookup ("reason" : Str) = some (V.str z) := by kernel_rfl
  have kb : PySem.W.kitOne K (.type "int") (.type "bool") = some false := kit_ty (by decide +kernel)
  have big : (2 : Nat) ≤ sizeLine := by decide
  refine ⟨.ref a, hσ, .ref (He.ga K "DrawnError"), .ref (He.ga K "DrawnError"), true, _, rfl, fun u r => r, hd, e1, true, rfl, ?_⟩
  refine iteT ?_
  refine ⟨.ref a, hσ, rfl, rfl, dd, _, .int p, rfl, hd, lp, .int p, .ty "bool", .type "int", .type "bool", false, rfl, .ty "bool", .base (.int p), kb, false, rfl, ?_⟩
  refine iteT ?_
  exact ⟨.ref a, hσ, rfl, rfl, dd, _, .int p, rfl, hd, lp, .ref a, hσ, rfl, rfl, dd, _, .str z, rfl, hd, lr, big, q⟩
theorem told_read (c : SaysI w h K) {H : Hp} {vs : List V} {Q : VK} {E : XK} (hsp : spF K w (fun _ _ _ _ _ _ => False) [.S] F__law_told vs H Q E) :
    rdT K w (wAs K (.ref (iC K)) 1 (rdS K) (fun _ _ _ _ => False) { nx := fun _ H' => Q .non H', rt := Q }) { nx := fun _ H' => Q .non H', rt := Q } (start tN vs) H := by
  obtain ⟨A, ts, r, ar, e, q⟩ := hsp
  obtain ⟨v, rfl⟩ : ∃ v, vs = [v] := by
    have := ar.l2
    match vs, this with
    | [v], _ => exact ⟨v, rfl⟩
  have out : ∀ H', OutsOk K w H' A [.S] [v] [] := fun H' => rfl
  have tail : ∀ (rc : Res), F_check_steps ts = some rc → (match rc with
      | .ret t false outs => ∀ v' H', (∀ a o, ¬ Mset [.S] [v] a → H a = some o → H' a = some o) → (∀ a o, H a = some o → ∃ o', H' a = some o') → OutsOk K w H' A [.S] [v] outs → Rep K w H' A t v' → (v' = .non → Q (.str "fine") H') ∧ (v' ≠ .non → Q (.str "odd") H')
      | .ret t true outs => ∀ p H', (∀ a o, ¬ Mset [.S] [v] a → H a = some o → H' a = some o) → (∀ a o, H a = some o → ∃ o', H' a = some o') → H p = none → OutsOk K w H' (fun b => A b ∨ b = p) [.S] [v] outs → Root K w H' (fun b => A b ∨ b = p) p t → Q (.str "odd") H'
      | .exn c args => ∀ C d H' ws, (∀ a o, H a = some o → H' a = some o) → Reps K w H' A args ws → evI (iC K) c ws C d H' → wAs K (.ref (iC K)) 1 (rdS K) (fun _ _ _ _ => False) { nx := fun _ H' => Q .non H', rt := Q } C d (start tN [v]) H') →
      rdT K w (wAs K (.ref (iC K)) 1 (rdS K) (fun _ _ _ _ => False) { nx := fun _ H' => Q .non H', rt := Q }) { nx := fun _ H' => Q .non H', rt := Q } (start tN [v]) H := fun rc hrc hq => by
    refine ⟨v, rfl, A, ts, rc, ar, hrc, ?_⟩
    have fin : ∀ (x : V) (H1 : Hp), (x = .non → Q (.str "fine") H1) → (x ≠ .non → Q (.str "odd") H1) → rIsN x .non H1 (fun z H' => ∃ k, z = .bl k ∧ (if k = true then tC (.str "fine") (start tN [v]) H' Q else tC (.str "odd") (start tN [v]) H' Q)) := fun x H1 g1 g2 => by
      refine ⟨rfl, decide (x = .non), rfl, ?_⟩
      by_cases hx : x = .non
      · rw [if_pos (decide_eq_true hx)]
        exact g1 hx
      · rw [if_neg (by rw [decide_eq_false hx]; decide)]
        exact g2 hx
    cases rc with
    | ret t b outs =>
      cases b with
      | false =>
        intro v' H' k1 k2 k3 k4
        obtain ⟨g1, g2⟩ := hq v' H' k1 k2 k3 k4
        exact fin v' H' g1 g2
      | true =>
        intro p H' k1 k2 k3 k4 k5
        exact fin (.ref p) H' (fun z => nomatch z) fun _ => hq p H' k1 k2 k3 k4 k5
    | exn c args =>
      intro C d H' ws k1 k2 k3
      exact hq C d H' ws k1 k2 k3
  unfold F__law_told at e
  split at e
  · rename_i b outs hF
    cases e
    refine tail _ hF ?_
    cases b with
    | false =>
      intro v' H' k1 k2 k3 k4
      simp only [Rep] at k4
      exact ⟨fun _ => q (.str "fine") H' k1 k2 (out H') (by simp only [Rep]), fun n => absurd k4 n⟩
    | true =>
      intro p H' k1 k2 k3 k4 k5
      exact k5.elim
  · rename_i t b outs hn hF
    cases e
    have hn' : t ≠ .non := fun z => hn z
    refine tail _ hF ?_
    cases b with
    | false =>
      intro v' H' k1 k2 k3 k4
      exact ⟨fun z => absurd z (not_non k4 hn'), fun _ => q (.str "odd") H' k1 k2 (out H') (by simp only [Rep])⟩
    | true =>
      intro p H' k1 k2 k3 k4 k5
      exact q (.str "odd") H' k1 k2 (out H') (by simp only [Rep])
  · rename_i cn p rr hF
    cases e
    refine tail _ hF ?_
    intro C d H' ws k1 k2 k3
    obtain ⟨rfl, dd, p', z, _, rfl, rfl, hd⟩ := k3
    obtain ⟨_, _, _, _, ex⟩ := seenC c
    refine ⟨true, ex, fun _ a ha => ⟨dd, rfl, rfl, got_ok c rfl hd fun b hb => ?_⟩, fun z => by cases z⟩
    refine q (.ref b) _ (fun x o _ hx => ?_) (fun x o hx => ⟨o, ?_⟩) (out _) ?_
    · have := k1 x o hx
      rw [upd_ne (ne_of_none this hb)]
      exact this
    · have := k1 x o hx
      rw [upd_ne (ne_of_none this hb)]
      exact this
    · have nA : ¬ A b := fun z => by
        obtain ⟨o, hx⟩ := ar.dom b z
        rw [k1 b o hx] at hb
        cases hb
      have kp := Reps.keep (H' := upd H' b (.tup [.int p', .str z])) (A' := A) (fun x o _ hx => by rw [upd_ne (ne_of_none hx hb)]; exact hx) (fun _ z => .inl z) _ _ k2
      simp only [Rep]
      exact ⟨b, [.int p', .str z], rfl, .inl ⟨nA, .inl upd_same⟩, kp⟩
  · cases e
end
end K4
set_option maxHeartbeats 4000000
/-! K4x: _law_told, whole, keeps its promise. -/
namespace K4
open PySem PySem.Spec PyProof.Rows L2 Dt
section
variable {P : Program} {w : World} {K : PySem.W.Frag} {h : Heap} {mg : Str → Option Value} {base : Heap}
theorem told_ok (c : SaysI w h K) (X : K.In h) (Gh : h.Ns mainGlobals mg) (hP : P.main.file = R.prog.main.file) (hT : (P.main.scope.names.lookup ("super" : Str)).isSome = false) : ToldOk P w K mg base := by
  obtain ⟨fc, Fc, kc, bc⟩ := chk_fn (P := P) (base := base) c X Gh hP hT
  obtain ⟨sC, _, _, _, ex⟩ := seenC c
  obtain ⟨fi, FI⟩ := initK (P := P) c hP
  obtain ⟨fd, F⟩ := c.x.t.d.def_ 28 (d := d__law_told) rfl
  refine ⟨fun _ _ _ _ _ _ => False, fd, ?_, F.kp, FunD.bindsN F fun _ _ _ _ _ _ us hl => match us, hl with | [_], _ => rfl⟩
  refine F.ok (k := 27) sc_told (fun vs H Q E q => sp_len q) fun cdv A outer s H vs Q E room hsp => ?_
  have st := ps_try_as (X := cxOf CX0 P w K mg base tN "_law_told" (defScope (top 39)) (He.ga K "_law_told") cdv A outer s H E) (x := "InvalidStep") (n := "e") (c := .ref (iC K)) (i := 1) (tb := fun W => tSeq (rdT K w W) tNext) (ts := rdS K) (Wout := fun _ _ _ _ => False)
    (body := [.Return (some tTry) ⟨206, 8, 206, 62⟩]) (b₀ := .Return (some tGot) ⟨208, 8, 208, 116⟩) (suite := []) (np := ⟨207, 11, 207, 22⟩) (pos' := ⟨207, 4, 208, 116⟩) (pos := ⟨205, 4, 208, 116⟩) rfl rfl (show tN.Nodup by decide +kernel) rfl (by kernel_rfl)
    ⟨glob_ok (sc := defScope (top 39)) rfl (by decide +kernel), by decide, .inl (gl c.x X Gh (x := "InvalidStep") 33)⟩ (fun u s' ⟨_, _, _, _, _, _, _, _, _, _, _, _, _, _, _, _, z⟩ => z.elim)
    (fun W pn xe tk pa => ps_try (X := (cxOf CX0 P w K mg base tN "_law_told" (defScope (top 39)) (He.ga K "_law_told") cdv A outer s H E).tr pn xe) rfl rfl Fc (room.mono (by decide)) (gl c.x X Gh (x := "check_steps") 13) kc bc tk)
    (fun a oe cls d pn hz hf => ⟨fun pins s1 σ H1 D I ⟨dd, e1, e2, q⟩ => by
      subst e1; subst e2
      exact (pss_cons (ps_got (X := cxOf CX0 P w K mg base tN "_law_told" (defScope (top 39)) (He.ga K "_law_told") cdv A outer s H E) rfl rfl sC FI.n1 FI.n2 hz hf (fr' c.x X Gh (x := "isinstance") 42) (fr' c.x X Gh (x := "bool") 45) (gl c.x X Gh (x := "DrawnError") 34)) pss_nil).run pins s1 σ H1 D I q⟩)
  have all := pss_cons st pss_nil
  have all2 : PSs (cxOf CX0 P w K mg base tN "_law_told" (defScope (top 39)) (He.ga K "_law_told") cdv A outer s H E) (defBody (top 39)) _ := told_text ▸ all
  exact ⟨_, all2, told_read c hsp⟩
end
end K4
set_option maxHeartbeats 0
/-! K4z: the end of law_k04. -/
namespace K4
open PySem PySem.Spec PyProof.Rows L2 Dt
theorem reps_ints {K : PySem.W.Frag} {w : World} {H : Hp} {A : Av} : ∀ ns : List Int, Reps K w H A (ns.map T.int) (ns.map V.int)
  | [] => by simp only [List.map_nil, Reps]
  | n :: r => by
    simp only [List.map_cons, Reps]
    exact ⟨_, _, rfl, rp_int, reps_ints r⟩
theorem law_sp {K : PySem.W.Frag} {w : World} {H : Hp} {a : Addr} {ns : List Int} (hL : ∀ {a : Addr} {o : Obj}, K.lookup a = some o → o.cls ≠ .type "list") (hS : SqL K H a (ns.map V.int)) (hF : ∃ b, F_law [.lst (ns.map T.int)] = some (.ret (.bl true) b [])) :
    spF K w (fun _ _ _ _ _ _ => False) [.B] F_law [.ref a] H (fun v _ => v = .bl true) (fun _ _ _ => False) := by
  obtain ⟨b, hF⟩ := hF
  have rd : Rd H a (.lst (ns.map V.int)) := by
    rcases hS with h | ⟨o, its, n, e, c, _⟩
    · exact h
    · exact absurd c (hL e)
  have nm : ∀ x, ¬ Mset [.B] [V.ref a] x := fun x ⟨i, e, _⟩ => by
    cases i with
    | zero => cases e
    | succ i => simp at e
  refine ⟨fun _ => False, [.lst (ns.map T.int)], _, ⟨rfl, rfl, fun i t v e => ?_, fun i t v e1 e2 e3 => ?_, fun i t v e => ?_, fun i j a e => ?_, fun x z => z.elim⟩, hF, ?_⟩
  · cases i with
    | zero => cases e
    | succ i => simp at e
  · cases i with
    | zero =>
      simp at e2 e3
      subst e2; subst e3
      exact ⟨a, ns.map V.int, rfl, ⟨nm a, rd⟩, reps_ints ns⟩
    | succ i => simp at e1
  · cases i with
    | zero => cases e
    | succ i => simp at e
  · cases i with
    | zero => cases e
    | succ i => simp at e
  · cases b with
    | false => intro v H' _ _ _ r; simpa only [Rep] using r
    | true => intro p H' _ _ _ _ r; exact r.elim
end K4
open PySem PySem.W PySem.Calls PyProof.Rows
theorem PySem.Challenge.cw_drawntrue_k04_plans_are_checked_holds : PySem.Challenge.rw_drawntrue_k04_plans_are_checked.Holds := by
  w_on; o_law
  refine HandSHeadRun.head_any (r := OpenLaw.row PySem.Challenge.rw_drawntrue_k04_plans_are_checked) (q := view (OpenLaw.row PySem.Challenge.rw_drawntrue_k04_plans_are_checked).prog [41]) (H := K4.hk) (ob := K4.ob) (M := 3000) (loose := K4.loose) (d := HandSHeadRun.topDef (OpenLaw.row PySem.Challenge.rw_drawntrue_k04_plans_are_checked).prog 41) (kwd := []) K4.ob_eq
    (by kernel_rfl) (fun s => by kernel_rfl) K4.run (by kernel_rfl) (by kernel_rfl) (by kernel_rfl) (by rfl) (by first | assumption | decide +kernel) (by decide +kernel) ⟨rfl, rfl, rfl, rfl, rfl, by decide +kernel⟩ ?hw ?hc
  case hw => w_witness2
  case hc =>
    refine L2.walk_ofE (l := PySem.Challenge.rw_drawntrue_k04_plans_are_checked) (n := 63) (k := 30) (x := "script") (CX := L2.CX0) rfl (by decide) (by kernel_rfl) ⟨rfl, by decide, by decide⟩ ?F (fun _ _ _ _ z => z)
    intro w mg fa h Y G hmg0
    obtain ⟨K, KX, c⟩ := Y
    have hmg : mg ("law" : PySem.Str) = some (.ref fa) := by
      have e : (HandSHeadRun.topDef (OpenLaw.row PySem.Challenge.rw_drawntrue_k04_plans_are_checked).prog 41).name = ("law" : PySem.Str) := by kernel_rfl
      rw [← e]
      exact hmg0
    have e := hmg.symm.trans (K4.gl c.x KX G (x := "law") 30)
    cases e
    obtain ⟨fd0, hb, hF⟩ := K4.ok_law (P := (PySem.Challenge.rw_drawntrue_k04_plans_are_checked).prog) c.x KX G fun base => K4.told_ok c KX G (by kernel_rfl) (by kernel_rfl)
    exact ⟨K, fd0, _, KX, hb, fun H a ns hl _ hS => K4.law_sp (K4.nolist c.x) hS (K4.law_pure ns hl), fun base _ _ => hF base⟩
