import PyProof.Rows.All
import Wide.All
import OpenK.AllK
import Wide.FinOn
import HandS.ForMost
import HandS.ForExc
import HandS.Codes
import HandS.CallSlots
import HandS.IsInst
import HandS.HeadHook1
import HandS.Flow
import HandS.TupAny
import HandS.TupMul
import HandS.RaiseMore
import KE.KUnpackStar
import HandS.HeadHook2
import HandS.Zip
import HandS.More
import HandS.HotCalls
import HandS.ExcIs
import HandS.HeadHook3
import HandS.HeadHook4
import HandS.Head0
import HandS.Head1
import HandS.Head2
import HandS.HeadEnd
import HandS.Text
import PySem.Challenge.RW_latchgrove_k86_programs_written_and_read
/-! Data, mutable objects, and what a Python text means over them. Plain Lean. -/
set_option linter.all false
namespace G
/-- a text by its code points -/
abbrev T := List Nat
def tx (s : String) : T := s.toList.map Char.toNat
/-- what a value is worth: data; a mutable object by its place; a thing of the module by its name; a built-in class; a caught error -/
inductive D where
  | non | bl (b : Bool) | int (i : Int) | str (s : T)
  | lst (xs : List D) | tup (xs : List D)
  | frz (xs : List D)
  | ref (n : Nat) | glo (x : String) | ty (n : String)
  | err (c : String) (a : Option D)
  | emp
  deriving Inhabited
/-- a mutable object -/
inductive O where
  | lst (xs : List D)
  | ins (C : String) (fs : List (String × D))
  deriving Inhabited
abbrev Mh := List O
structure Er where
  cls : String
  arg : Option D
/-- an end: a value, an error, or nothing is claimed -/
inductive Out (α : Type) where
  | ok (a : α) (M : Mh) | exc (x : Er) (M : Mh) | stk
abbrev R (α : Type) := Mh → Out α
namespace Out
variable {α β : Type}
def bind (o : Out α) (k : α → R β) : Out β := match o with
  | .ok a M => k a M
  | .exc x M => .exc x M
  | .stk => .stk
end Out
namespace R
variable {α β : Type}
def pure (a : α) : R α := fun M => .ok a M
def bind (m : R α) (k : α → R β) : R β := fun M => (m M).bind k
def stk : R α := fun _ => .stk
def fail (c : String) (a : Option D := none) : R α := fun M => .exc ⟨c, a⟩ M
instance : Monad R where
  pure := R.pure
  bind := R.bind
end R
/-- a value that must be there -/
def get? {α : Type} (o : Option α) : R α := fun M => match o with
  | some a => .ok a M
  | none => .stk
def need (b : Bool) : R Unit := fun M => match b with
  | true => .ok () M
  | false => .stk
abbrev En := List (Option D)
abbrev ME := En → R D
abbrev MT := En → R Bool
abbrev MA := En → R (List D)
/-! ### reading an object -/
def seqL (M : Mh) : D → Option (List D)
  | .lst xs => some xs
  | .frz xs => some xs
  | .ref n => match M[n]? with
    | some (.lst xs) => some xs
    | _ => none
  | _ => none
/-- a list of this law's own making -/
def seqO (M : Mh) : D → Option (List D)
  | .lst xs => some xs
  | .ref n => match M[n]? with
    | some (.lst xs) => some xs
    | _ => none
  | _ => none
def seqT : D → Option (List D)
  | .tup xs => some xs
  | _ => none
/-- a list or a tuple -/
def seqA (M : Mh) (d : D) : Option (List D) := match seqT d with
  | some xs => some xs
  | none => seqL M d
/-- the type's name -/
def tyOf (M : Mh) : D → Option String
  | .non => some "NoneType"
  | .bl _ => some "bool"
  | .int _ => some "int"
  | .str _ => some "str"
  | .lst _ => some "list"
  | .frz _ => some "list"
  | .tup _ => some "tuple"
  | .emp => some "dict"
  | .ref n => match M[n]? with
    | some (.lst _) => some "list"
    | _ => none
  | _ => none
/-! ### equality -/
mutual
def eqD : D → D → Bool
  | .non, .non => true
  | .bl a, .bl b => a == b
  | .bl a, .int j => (if a then 1 else 0) == j
  | .int i, .bl b => i == (if b then 1 else 0)
  | .int i, .int j => i == j
  | .str x, .str y => x == y
  | .lst xs, .lst ys => eqDs xs ys
  | .tup xs, .tup ys => eqDs xs ys
  | _, _ => false
def eqDs : List D → List D → Bool
  | [], [] => true
  | x :: xs, y :: ys => eqD x y && eqDs xs ys
  | _, _ => false
end
/-! data that == can be asked of: how deep, at most -/
mutual
def dep : D → Option Nat
  | .non => some 0
  | .bl _ => some 0
  | .int _ => some 0
  | .str _ => some 0
  | .lst xs => (deps xs).map (· + 1)
  | .tup xs => (deps xs).map (· + 1)
  | _ => none
def deps : List D → Option Nat
  | [] => some 0
  | x :: xs => match dep x, deps xs with
    | some a, some b => some (max a b)
    | _, _ => none
end
def flatOk (d : D) : Bool := match dep d with
  | some n => decide (n ≤ 64)
  | none => false
/-- an own list as it stands -/
def res (M : Mh) (d : D) : D := match seqO M d with
  | some xs => .lst xs
  | none => d
/-! ### steps on data -/
def sizeLim : Nat := 16777216
def dAdd (x y : D) : R D := fun M => match x, y with
  | .int i, .int j => .ok (.int (i + j)) M
  | .str a, .str b => if a.length + b.length ≤ sizeLim then .ok (.str (a ++ b)) M else .stk
  | .tup a, .tup b => if a.length + b.length ≤ sizeLim then .ok (.tup (a ++ b)) M else .stk
  | x, y => match seqO M x, seqO M y with
    | some a, some b => if a.length + b.length ≤ sizeLim then .ok (.lst (a ++ b)) M else .stk
    | _, _ => .stk
def dSub (x y : D) : R D := fun M => match x, y with
  | .int i, .int j => .ok (.int (i - j)) M
  | _, _ => .stk
def small64 (i : Int) : Bool := decide (-(2 ^ 64) < i) && decide (i < 2 ^ 64)
def dMul (x y : D) : R D := fun M => match x, y with
  | .int i, .int j => if small64 i || small64 j then .ok (.int (i * j)) M else .stk
  | .tup a, .int j => if !a.isEmpty && decide (2 ≤ j) && decide (j ≤ 1000) && decide (a.length ≤ 1000) then .ok (.tup (List.replicate j.toNat a).flatten) M else .stk
  | _, _ => .stk
def dDiv (x y : D) : R D := fun M => match x, y with
  | .int i, .int j => if decide (0 < j) && decide (j < 1073741824) then .ok (.int (i / j)) M else .stk
  | _, _ => .stk
def dMod (x y : D) : R D := fun M => match x, y with
  | .int i, .int j => if decide (0 < j) then .ok (.int (i % j)) M else .stk
  | _, _ => .stk
/-- powers: of small ones; (10 ** 60) ** 10 -/
def dPow (x y : D) : R D := fun M => match x, y with
  | .int i, .int j => if decide (0 ≤ j) && decide (j ≤ 1000) && (decide (i.natAbs < 2 ^ 64) || decide (i = 10 ^ 60)) then .ok (.int (i ^ j.toNat)) M else .stk
  | _, _ => .stk
def dNeg (x : D) : R D := fun M => match x with
  | .int i => .ok (.int (-i)) M
  | _ => .stk
def dEq (x y : D) : R D := fun M => if flatOk (res M x) && flatOk (res M y) then .ok (.bl (eqD (res M x) (res M y))) M else .stk
def dNe (x y : D) : R D := fun M => if flatOk (res M x) && flatOk (res M y) then .ok (.bl (!eqD (res M x) (res M y))) M else .stk
def dCmp (f : Int → Int → Bool) (x y : D) : R D := fun M => match x, y with
  | .int i, .int j => .ok (.bl (f i j)) M
  | _, _ => .stk
abbrev dLt : D → D → R D := dCmp fun i j => decide (i < j)
abbrev dLe : D → D → R D := dCmp fun i j => decide (i ≤ j)
abbrev dGt : D → D → R D := dCmp fun i j => decide (j < i)
abbrev dGe : D → D → R D := dCmp fun i j => decide (j ≤ i)
def dIsN (x y : D) : R D := fun M => match x, y with
  | .non, .non => .ok (.bl true) M
  | .ref _, .non => .ok (.bl false) M
  | .bl _, .non => .ok (.bl false) M
  | .int _, .non => .ok (.bl false) M
  | .str _, .non => .ok (.bl false) M
  | .lst _, .non => .ok (.bl false) M
  | .frz _, .non => .ok (.bl false) M
  | .tup _, .non => .ok (.bl false) M
  | _, _ => .stk
def dIsNN (x y : D) : R D := fun M => match dIsN x y M with
  | .ok (.bl b) M => .ok (.bl (!b)) M
  | _ => .stk
/-- flat data: what «in» is asked of -/
def flatD : D → Bool
  | .non => true
  | .bl _ => true
  | .int _ => true
  | .str _ => true
  | _ => false
def dIn (x y : D) : R D := fun M => match x, y with
  | .str [c], .str b => .ok (.bl (decide (c ∈ b))) M
  | x, y => match seqA M y with
    | some xs => if flatD x && xs.all flatD then .ok (.bl (xs.any fun z => eqD z x)) M else .stk
    | none => .stk
def dNotIn (x y : D) : R D := fun M => match dIn x y M with
  | .ok (.bl b) M => .ok (.bl (!b)) M
  | _ => .stk
/-- the place of an index -/
def ixAt (n : Nat) (i : Int) : Option Nat := if 0 ≤ i then (if i < n then some i.toNat else none) else if 0 ≤ i + n then some (i + n).toNat else none
def atD (xs : List D) (i : Int) : Option D := (ixAt xs.length i).bind fun k => xs[k]?
def dIx (x y : D) : R D := fun M => match y with
  | .int i => match x with
    | .str s => match (ixAt s.length i).bind fun k => s[k]? with
      | some c => if s.length ≤ sizeLim then .ok (.str [c]) M else .stk
      | none => .stk
    | x => match seqA M x with
      | some xs => match atD xs i with
        | some d => .ok d M
        | none => .stk
      | none => .stk
  | _ => .stk
/-- where a slice begins, ends -/
def clamp (n : Nat) (i : Int) : Nat := if i < 0 then (i + n).toNat else min i.toNat n
def cutD {α : Type} (xs : List α) (lo hi : Option Int) : List α :=
  let a := match lo with
    | some i => clamp xs.length i
    | none => 0
  let b := match hi with
    | some i => clamp xs.length i
    | none => xs.length
  (xs.drop a).take (b - a)
def dCut (x : D) (lo hi : Option Int) : R D := fun M => match x with
  | .tup xs => .ok (.tup (cutD xs lo hi)) M
  | .str s => if s.length ≤ sizeLim then .ok (.str (cutD s lo hi)) M else .stk
  | x => match seqL M x with
    | some xs => .ok (.lst (cutD xs lo hi)) M
    | none => .stk
/-- truth -/
def dTru (x : D) : R Bool := fun M => match x with
  | .non => .ok false M
  | .bl b => .ok b M
  | .int i => .ok (i != 0) M
  | .str s => if s.length ≤ sizeLim then .ok (!s.isEmpty) M else .stk
  | x => match seqA M x with
    | some xs => .ok (!xs.isEmpty) M
    | none => .stk
def dBool (x : D) : R Bool := fun M => match x with
  | .bl b => .ok b M
  | _ => .stk
/-! ### built-in functions -/
def fLen (ds : List D) : R D := fun M => match ds with
  | [.str s] => if s.length ≤ sizeLim then .ok (.int s.length) M else .stk
  | [x] => match seqA M x with
    | some xs => .ok (.int xs.length) M
    | none => .stk
  | _ => .stk
def allB : List D → Option (List Bool)
  | [] => some []
  | .bl b :: r => (allB r).map (b :: ·)
  | _ => none
def allI : List D → Option (List Int)
  | [] => some []
  | .int b :: r => (allI r).map (b :: ·)
  | _ => none
def allS : List D → Option (List T)
  | [] => some []
  | .str b :: r => (allS r).map (b :: ·)
  | _ => none
def fAll (ds : List D) : R D := fun M => match ds with
  | [x] => match (seqL M x).bind allB with
    | some bs => .ok (.bl (bs.all id)) M
    | none => .stk
  | _ => .stk
def fAny (ds : List D) : R D := fun M => match ds with
  | [x] => match (seqL M x).bind allB with
    | some bs => .ok (.bl (bs.any id)) M
    | none => .stk
  | _ => .stk
def fAbs (ds : List D) : R D := fun M => match ds with
  | [.int i] => .ok (.int (if i < 0 then -i else i)) M
  | _ => .stk
def fMax2 (ds : List D) : R D := fun M => match ds with
  | [.int i, .int j] => .ok (.int (if i < j then j else i)) M
  | _ => .stk
def fMin2 (ds : List D) : R D := fun M => match ds with
  | [.int i, .int j] => .ok (.int (if j < i then j else i)) M
  | _ => .stk
/-- the codes of a number's figures -/
def numT (n : Nat) : T := (Nat.toDigits 10 n).map Char.toNat
def fStr (ds : List D) : R D := fun M => match ds with
  | [.int i] => if decide (0 ≤ i) && decide (i < 10 ^ 60) then .ok (.str (numT i.toNat)) M else .stk
  | [.str s] => .ok (.str s) M
  | _ => .stk
def isDig (c : Nat) : Bool := decide (48 ≤ c) && decide (c ≤ 57)
def digVal (s : T) : Nat := s.foldl (fun a c => a * 10 + (c - 48)) 0
def fInt (ds : List D) : R D := fun M => match ds with
  | [.int i] => .ok (.int i) M
  | [.bl b] => .ok (.int (if b then 1 else 0)) M
  | [.str s] => if !s.isEmpty && s.all isDig && decide (s.length ≤ 640) then .ok (.int (digVal s)) M else .stk
  | _ => .stk
/-- isinstance of built-in classes -/
def kinds : List String := ["NoneType", "bool", "int", "str", "list", "tuple", "dict"]
def kindIs (t n : String) : Bool := t == n || (t == "bool" && n == "int")
def allTy : List D → Option (List String)
  | [] => some []
  | .ty n :: r => (allTy r).map (n :: ·)
  | _ => none
def fIsi (ds : List D) : R D := fun M => match ds with
  | [x, .ty n] => match tyOf M x with
    | some t => if kinds.contains t && kinds.contains n then .ok (.bl (kindIs t n)) M else .stk
    | none => .stk
  | [x, .tup ys] => match tyOf M x, allTy ys with
    | some t, some ns => if kinds.contains t && ns.all kinds.contains then .ok (.bl (ns.any (kindIs t))) M else .stk
    | _, _ => .stk
  | _ => .stk
/-- errors of the classes cs, asked of the classes xs: only its own and ValueError -/
def isOf (cs xs : List String) (c x : String) : Option Bool := if c ∈ cs ∧ x ∈ xs then some (decide (x = c) || decide (x = "ValueError")) else none
/-- isinstance of a caught error: isB tells what its class is -/
def clsAns (isB : String → String → Option Bool) (c : String) : D → Option Bool
  | .glo x => if x = "ValueError" then none else isB c x
  | .ty n => if n = "ValueError" then isB c n else none
  | _ => none
def clsAll (isB : String → String → Option Bool) (c : String) : List D → Option (List Bool)
  | [] => some []
  | d :: r => match clsAns isB c d, clsAll isB c r with
    | some b, some bs => some (b :: bs)
    | _, _ => none
def fIsE (isB : String → String → Option Bool) (ds : List D) : R D := fun M => match ds with
  | [.err c none, .tup (y :: ys)] => match clsAll isB c (y :: ys) with
    | some bs => .ok (.bl (bs.any id)) M
    | none => .stk
  | [.err c none, y] => match clsAns isB c y with
    | some b => .ok (.bl b) M
    | none => .stk
  | _ => .stk
def fTuple (ds : List D) : R D := fun M => match ds with
  | [x] => match seqA M x with
    | some xs => .ok (.tup xs) M
    | none => .stk
  | _ => .stk
def fList (ds : List D) : R D := fun M => match ds with
  | [x] => match seqA M x with
    | some xs => .ok (.lst xs) M
    | none => .stk
  | _ => .stk
/-! ### methods of texts and lists -/
def joinT (s : T) : List T → T
  | [] => []
  | [p] => p
  | p :: q :: r => p ++ (s ++ joinT s (q :: r))
def mJoin (x : D) (ds : List D) : R D := fun M => match x, ds with
  | .str s, [y] => match (seqA M y).bind allS with
    | some ps => if (ps.map (·.length)).sum + ps.length * s.length ≤ sizeLim then .ok (.str (joinT s ps)) M else .stk
    | none => .stk
  | _, _ => .stk
/-- splitting, sign by sign: k signs to pass, the piece so far -/
def preT (s l : T) : Bool := l.take s.length == s
def splT (s : T) : Nat → T → T → List T
  | _, acc, [] => [acc]
  | 0, acc, c :: r => if preT s (c :: r) then acc :: splT s (s.length - 1) [] r else splT s 0 (acc ++ [c]) r
  | k + 1, acc, _ :: r => splT s k acc r
def mSplit (x : D) (ds : List D) : R D := fun M => match x, ds with
  | .str a, [.str b] => if !b.isEmpty && b.all (decide <| · < 256) && decide (a.length + 2 ≤ sizeLim) then .ok (.lst ((splT b 0 [] a).map .str)) M else .stk
  | _, _ => .stk
def mCount (x : D) (ds : List D) : R D := fun M => match ds with
  | [y] => match seqL M x with
    | some xs => if flatD y && xs.all flatD then .ok (.int (xs.countP fun z => eqD z y)) M else .stk
    | none => .stk
  | _ => .stk
def mIndex (x : D) (ds : List D) : R D := fun M => match ds with
  | [y] => match seqL M x with
    | some xs => if flatD y && xs.all flatD then (match xs.findIdx? fun z => eqD z y with
      | some k => .ok (.int k) M
      | none => .stk) else .stk
    | none => .stk
  | _ => .stk
/-! ### expressions -/
def xVar (i : Nat) : ME := fun e M => match e[i]? with
  | some (some d) => .ok d M
  | _ => .stk
def xC (d : D) : ME := fun _ M => .ok d M
def xUn (f : D → R D) (a : ME) : ME := fun e M => (a e M).bind f
def xBin (f : D → D → R D) (a b : ME) : ME := fun e M => (a e M).bind fun x M => (b e M).bind fun y M => f x y M
def aNil : MA := fun _ M => .ok [] M
def aCons (a : ME) (r : MA) : MA := fun e M => (a e M).bind fun x M => (r e M).bind fun xs M => .ok (x :: xs) M
def xTup (a : MA) : ME := fun e M => (a e M).bind fun xs M => if xs.length ≤ sizeLim then .ok (.tup xs) M else .stk
def xLst (a : MA) : ME := fun e M => (a e M).bind fun xs M => if xs.length ≤ sizeLim then .ok (.lst xs) M else .stk
/-- a new list of one's own -/
def xNew (a : MA) : ME := fun e M => (a e M).bind fun xs M => if xs.length ≤ sizeLim then .ok (.ref M.length) (M ++ [.lst xs]) else .stk
/-- {} -/
def xEmp : ME := fun _ M => .ok .emp M
def xCall (f : List D → R D) (a : MA) : ME := fun e M => (a e M).bind f
def xMeth (ty : String) (f : D → List D → R D) (o : ME) (a : MA) : ME := fun e M => (o e M).bind fun x M => if tyOf M x = some ty then (a e M).bind fun ds M => f x ds M else .stk
def tVal (a : ME) : MT := fun e M => (a e M).bind dBool
def tTru (a : ME) : MT := fun e M => (a e M).bind dTru
def tAnd (a b : MT) : MT := fun e M => (a e M).bind fun c M => if c then b e M else .ok false M
def tOr (a b : MT) : MT := fun e M => (a e M).bind fun c M => if c then .ok true M else b e M
def tNot (a : MT) : MT := fun e M => (a e M).bind fun c M => .ok (!c) M
def xIf (t : MT) (a b : ME) : ME := fun e M => (t e M).bind fun c M => if c then a e M else b e M
/-- and, or of truths, as values -/
def xAnd (a b : ME) : ME := fun e M => (a e M).bind fun x M => match x with
  | .bl true => b e M
  | .bl false => .ok (.bl false) M
  | _ => .stk
def xOr (a b : ME) : ME := fun e M => (a e M).bind fun x M => match x with
  | .bl true => .ok (.bl true) M
  | .bl false => b e M
  | _ => .stk
def xNot (a : ME) : ME := fun e M => (a e M).bind fun x M => match x with
  | .bl b => .ok (.bl (!b)) M
  | _ => .stk
/-- x or y by truth -/
def xOrT (a b : ME) : ME := fun e M => (a e M).bind fun x M => (dTru x M).bind fun k M => if k then .ok x M else b e M
/-- a < b <= c -/
def xChain (f g : D → D → R D) (a b c : ME) : ME := fun e M => (a e M).bind fun x M => (b e M).bind fun y M => (f x y M).bind fun z M => match z with
  | .bl true => (c e M).bind fun w M => g y w M
  | .bl false => .ok (.bl false) M
  | _ => .stk
def oNone : En → R (Option Int) := fun _ M => .ok none M
def oSome (a : ME) : En → R (Option Int) := fun e M => (a e M).bind fun x M => match x with
  | .int i => .ok (some i) M
  | _ => .stk
def xCut (a : ME) (lo hi : En → R (Option Int)) : ME := fun e M => (a e M).bind fun x M => (lo e M).bind fun l M => (hi e M).bind fun h M => dCut x l h M
/-! ### what is walked: so many turns; each item is read as its turn comes -/
inductive Src where
  | seq (d : D) (n : Nat)
  | rng (lo : Int) (n : Nat)
  | zip (a b : D) (n : Nat)
  | enm (a : D) (n : Nat)
  | txt (s : T)
abbrev MI := En → R Src
def Src.len : Src → Nat
  | .seq _ n => n
  | .rng _ n => n
  | .zip _ _ n => n
  | .enm _ n => n
  | .txt s => s.length
def Src.item (M : Mh) (i : Nat) : Src → Option D
  | .seq d _ => (seqA M d).bind fun xs => xs[i]?
  | .rng lo n => if i < n then some (.int (lo + i)) else none
  | .zip a b _ => match (seqA M a).bind fun xs => xs[i]?, (seqA M b).bind fun xs => xs[i]? with
    | some x, some y => some (.tup [x, y])
    | _, _ => none
  | .enm a _ => match (seqA M a).bind fun xs => xs[i]? with
    | some x => some (.tup [.int i, x])
    | none => none
  | .txt s => match s[i]? with
    | some c => some (.str [c])
    | none => none
/-- no item is left -/
def Src.over (M : Mh) (i : Nat) : Src → Bool
  | .seq d _ => match seqA M d with
    | some xs => decide (xs.length ≤ i)
    | none => false
  | .rng _ n => decide (n ≤ i)
  | .zip a b _ => match seqA M a, seqA M b with
    | some xs, some ys => decide (min xs.length ys.length ≤ i)
    | _, _ => false
  | .enm a _ => match seqA M a with
    | some xs => decide (xs.length ≤ i)
    | none => false
  | .txt s => decide (s.length ≤ i)
def iSeq (a : ME) : MI := fun e M => (a e M).bind fun x M => match seqA M x with
  | some xs => .ok (.seq x xs.length) M
  | none => .stk
def iRng1 (a : MA) : MI := fun e M => (a e M).bind fun ds M => match ds with
  | [.int n] => if decide (-4611686018427387904 ≤ n) && decide (n < 4611686018427387904) then .ok (.rng 0 n.toNat) M else .stk
  | _ => .stk
def iZip (a : MA) : MI := fun e M => (a e M).bind fun ds M => match ds with
  | [x, y] => match seqA M x, seqA M y with
    | some xs, some ys => match seqT x, seqT y with
      | some _, some _ => .ok (.zip x y (min xs.length ys.length)) M
      | none, none => .ok (.zip x y (min xs.length ys.length)) M
      | _, _ => .stk
    | _, _ => .stk
  | _ => .stk
def iTxt (a : ME) : MI := fun e M => (a e M).bind fun x M => match x with
  | .str s => .ok (.txt s) M
  | _ => .stk
def noExc {α : Type} (o : Out α) : Out α := match o with
  | .exc _ _ => .stk
  | o => o
/-! ### targets -/
abbrev MG := D → En → R En
def gVar (i : Nat) : MG := fun d e M => .ok (e.set i (some d)) M
def gAll : List MG → List D → En → R En
  | [], [], e => fun M => .ok e M
  | g :: gs, d :: ds, e => fun M => (g d e M).bind fun e M => gAll gs ds e M
  | _, _, _ => fun _ => .stk
def gTup (gs : List MG) : MG := fun d e M => match d with
  | .tup xs => if xs.length = gs.length then gAll gs xs e M else .stk
  | _ => .stk
/-! ### comprehensions -/
def wipeE (e : En) : List Nat → En
  | [] => e
  | i :: r => (wipeE e r).set i none
/-- from the i-th item on: what it gives, in order -/
def lcFrom (src : Src) (g : MG) (t : MT) (x : ME) (e : En) : Nat → Nat → R (List D)
  | i, 0 => fun M => if src.over M i then .ok [] M else .stk
  | i, n + 1 => fun M => match src.item M i with
    | none => .stk
    | some d => (g d e M).bind fun e1 M => (t e1 M).bind fun c M =>
      if c then (x e1 M).bind fun y M => (lcFrom src g t x e (i + 1) n M).bind fun ys M => .ok (y :: ys) M
      else lcFrom src g t x e (i + 1) n M
def tYes : MT := fun _ M => .ok true M
def xLc (i : MI) (g : MG) (t : MT) (x : ME) (own : List Nat) : ME := fun e M => (i e M).bind fun src M =>
  if src.len ≤ 1000000 then noExc ((lcFrom src g t x (wipeE e own) 0 src.len M).bind fun ys M => .ok (.lst ys) M) else .stk
/-! ### a dict of the module: texts to defs -/
def findT (t : List (String × String)) (s : T) : Option String := (t.find? fun p => tx p.1 == s).map (·.2)
def dInT (x : String) (t : List (String × String)) (a b : D) : R D := fun M => match a, b with
  | .str s, .glo y => if y = x then .ok (.bl (findT t s).isSome) M else .stk
  | _, _ => .stk
def xCallT (t : List (String × String)) (fs : String → List D → R D) (mk : ME) (mr : MA) : ME := fun e M => (mk e M).bind fun x M => match x with
  | .str s => match findT t s with
    | some f => (mr e M).bind fun ds M => fs f ds M
    | none => .stk
  | _ => .stk
/-! ### statements -/
inductive SO where
  | nx (e : En) (M : Mh) | rt (d : D) (M : Mh) | bk (e : En) (M : Mh) | ct (e : En) (M : Mh) | exc (x : Er) (e : En) (M : Mh) | stk
abbrev MS := En → Mh → SO
def lift {α : Type} (o : Out α) (e : En) (k : α → Mh → SO) : SO := match o with
  | .ok a M => k a M
  | .exc x M => .exc x e M
  | .stk => .stk
def SO.seq (o : SO) (k : MS) : SO := match o with
  | .nx e M => k e M
  | o => o
def sNil : MS := fun e M => .nx e M
def sSeq (a b : MS) : MS := fun e M => (a e M).seq b
def sAsg (x : ME) (g : MG) : MS := fun e M => lift (x e M) e fun d M => lift (noExc (g d e M)) e fun e M => .nx e M
def sDrop (x : ME) : MS := fun e M => lift (x e M) e fun _ M => .nx e M
def sRet (x : ME) : MS := fun e M => lift (x e M) e fun d M => .rt d M
def sRetN : MS := fun _ M => .rt .non M
def sIf (t : MT) (a b : MS) : MS := fun e M => lift (t e M) e fun c M => if c then a e M else b e M
def sBrk : MS := fun e M => .bk e M
def sCnt : MS := fun e M => .ct e M
/-- try: x; except ..: return f(e): what f answers for an error of that class -/
def sTry1 (x : ME) (i : Nat) (fw : String → Option T) : MS := fun e M => match x e M with
  | .ok _ M => .nx e M
  | .exc x M => match x.arg, fw x.cls with
    | none, some z => if i < e.length then .rt (.str z) M else .stk
    | _, _ => .stk
  | .stk => .stk
def sRaise (c : String) : MS := fun e M => .exc ⟨c, none⟩ e M
/-- x[i] = v, x a list of one's own -/
def setL (x i v : D) : R Unit := fun M => match x, i with
  | .ref n, .int j => match M[n]? with
    | some (.lst xs) => match ixAt xs.length j with
      | some k => .ok () (M.set n (.lst (xs.set k v)))
      | none => .stk
    | _ => .stk
  | _, _ => .stk
def gSubL (o i : ME) : MG := fun d e M => (o e M).bind fun x M => (i e M).bind fun j M => (setL x j d M).bind fun _ M => .ok e M
/-- a, b, *c = d: the first ones, then a new list of the rest -/
def gStar (gs : List MG) (g : MG) : MG := fun d e M => match seqA M d with
  | some xs => if decide (gs.length ≤ xs.length) && decide (xs.length ≤ 16000) then gAll (gs ++ [g]) (xs.take gs.length ++ [.lst (xs.drop gs.length)]) e M else .stk
  | none => .stk
def mAppend (x : D) (ds : List D) : R D := fun M => match x, ds with
  | .ref n, [v] => match M[n]? with
    | some (.lst xs) => if xs.length < 1000000 then .ok .non (M.set n (.lst (xs ++ [v]))) else .stk
    | _ => .stk
  | _, _ => .stk
/-- from the i-th item on -/
def forFrom (src : Src) (g : MG) (b : MS) : Nat → Nat → MS
  | i, 0 => fun e M => if src.over M i then .nx e M else .stk
  | i, n + 1 => fun e M => match src.item M i with
    | none => .stk
    | some d => lift (noExc (g d e M)) e fun e M => match b e M with
      | .nx e M => forFrom src g b (i + 1) n e M
      | .ct e M => forFrom src g b (i + 1) n e M
      | .bk e M => .nx e M
      | o => o
def sFor (i : MI) (g : MG) (b : MS) : MS := fun e M => lift (i e M) e fun src M => forFrom src g b 0 src.len e M
/-- while, at most so many turns -/
def sWhile (t : MT) (b : MS) : Nat → MS
  | 0 => fun _ _ => .stk
  | n + 1 => fun e M => lift (t e M) e fun c M => if c then (match b e M with
      | .nx e M => sWhile t b n e M
      | .ct e M => sWhile t b n e M
      | .bk e M => .nx e M
      | o => o) else .nx e M
/-! ### a def -/
def startE (n : Nat) (ds : List D) : En := ds.map some ++ List.replicate (n - ds.length) none
def run (n : Nat) (b : MS) (ds : List D) : R D := fun M => match b (startE n ds) M with
  | .nx _ M => .ok .non M
  | .rt d M => .ok d M
  | .exc x _ M => .exc x M
  | _ => .stk
/-! ### what is left of an end, the garbage let go -/
mutual
/-- above all places that it names -/
def bd : D → Nat
  | .lst xs => bds xs
  | .tup xs => bds xs
  | .frz xs => bds xs
  | .ref n => n + 1
  | .err _ (some d) => bd d
  | _ => 0
def bds : List D → Nat
  | [] => 0
  | x :: xs => max (bd x) (bds xs)
end
def bdF : List (String × D) → Nat
  | [] => 0
  | p :: r => max (bd p.2) (bdF r)
def bdO : O → Nat
  | .lst xs => bds xs
  | .ins _ fs => bdF fs
def bdM : Mh → Nat
  | [] => 0
  | o :: r => max (bdO o) (bdM r)
/-- the same end but for objects that nobody names any more -/
inductive Less (n : Nat) : Out D → Out D → Prop where
  | no {o : Out D} : Less n .stk o
  | same {o : Out D} : Less n o o
  | drop {d : D} {M g : Mh} : n ≤ M.length → bd d ≤ M.length → bdM M ≤ M.length → Less n (.ok d M) (.ok d (M ++ g))
  | dropE {x : Er} {M g : Mh} : x.arg = none → n ≤ M.length → bdM M ≤ M.length → Less n (.exc x M) (.exc x (M ++ g))
end G
set_option Elab.async false
set_option linter.all false
set_option maxRecDepth 100000
/-! How data stand in the abstract heap; ends; the transformers of mirrors. -/
namespace G
open PySem PySem.Spec PyProof.Rows L2
/-- the written part; errors that are pinned -/
structure Kt where
  K : PySem.W.Frag
  pz : List (Addr × Obj)
abbrev sOf (l : T) : Str := SX.S l
def good (l : T) : Bool := l.all fun c => decide (c < 0x110000)
mutual
inductive Rep (C : Kt) (F : Hp) (ρ : List Addr) : V → D → Prop where
  | non : Rep C F ρ .non .non
  | bl (b : Bool) : Rep C F ρ (.bl b) (.bl b)
  | int (i : Int) : Rep C F ρ (.int i) (.int i)
  | str {l : T} (h : good l = true) : Rep C F ρ (.str (sOf l)) (.str l)
  | lst {a : Addr} {vs : List V} {ds : List D} : F a = some (.lst vs) → Reps C F ρ vs ds → Rep C F ρ (.ref a) (.lst ds)
  | frz {a : Addr} {vs : List V} {ds : List D} : SqL C.K F a vs → Reps C F ρ vs ds → Rep C F ρ (.ref a) (.frz ds)
  | tup {a : Addr} {vs : List V} {ds : List D} : F a = some (.tup vs) → Reps C F ρ vs ds → Rep C F ρ (.ref a) (.tup ds)
  | ref {n : Nat} {a : Addr} : ρ[n]? = some a → Rep C F ρ (.ref a) (.ref n)
  | glo (x : String) : Rep C F ρ (.ref (He.ga C.K x)) (.glo x)
  | ty (n : String) : Rep C F ρ (.ty n) (.ty n)
  | errP {a : Addr} {oe : Obj} {c : String} : (a, oe) ∈ C.pz → Zc (.ref (He.ga C.K c)) none oe → (∃ us, oe.data = .fields us) → Rep C F ρ (.ref a) (.err c none)
  | emp {a : Addr} : F a = some (.dK []) → Rep C F ρ (.ref a) .emp
inductive Reps (C : Kt) (F : Hp) (ρ : List Addr) : List V → List D → Prop where
  | nil : Reps C F ρ [] []
  | cons {v : V} {vs : List V} {d : D} {ds : List D} : Rep C F ρ v d → Reps C F ρ vs ds → Reps C F ρ (v :: vs) (d :: ds)
end
def FIn (F F' : Hp) : Prop := ∀ a o, F a = some o → F' a = some o
def RIn (ρ ρ' : List Addr) : Prop := ∀ (n : Nat) (a : Addr), ρ[n]? = some a → ρ'[n]? = some a
section
variable {C : Kt} {F F' : Hp} {ρ ρ' : List Addr} {v : V} {d : D} {vs : List V} {ds : List D}
theorem FIn.rd {a : Addr} {u : HO} (f : FIn F F') (h : Rd F a u) : Rd F' a u := by
  rcases h with h | ⟨o, h⟩
  · exact .inl (f _ _ h)
  · exact .inr ⟨o, f _ _ h⟩
theorem FIn.sql {K : PySem.W.Frag} {a : Addr} (f : FIn F F') (h : SqL K F a vs) : SqL K F' a vs := h.imp f.rd id
theorem FIn.sqt {K : PySem.W.Frag} {a : Addr} (f : FIn F F') (h : SqT K F a vs) : SqT K F' a vs := h.imp f.rd id
mutual
theorem Rep.mono (f : FIn F F') (r : RIn ρ ρ') : ∀ {v d}, Rep C F ρ v d → Rep C F' ρ' v d
  | _, _, .non => .non
  | _, _, .bl b => .bl b
  | _, _, .int i => .int i
  | _, _, .str h => .str h
  | _, _, .lst h q => .lst (f _ _ h) (Reps.mono f r q)
  | _, _, .frz h q => .frz (f.sql h) (Reps.mono f r q)
  | _, _, .tup h q => .tup (f _ _ h) (Reps.mono f r q)
  | _, _, .ref h => .ref (r _ _ h)
  | _, _, .glo x => .glo x
  | _, _, .ty n => .ty n
  | _, _, .errP h z u => .errP h z u
  | _, _, .emp h => .emp (f _ _ h)
theorem Reps.mono (f : FIn F F') (r : RIn ρ ρ') : ∀ {vs ds}, Reps C F ρ vs ds → Reps C F' ρ' vs ds
  | _, _, .nil => .nil
  | _, _, .cons h q => .cons (Rep.mono f r h) (Reps.mono f r q)
end
theorem Reps.length : ∀ {vs : List V} {ds : List D}, Reps C F ρ vs ds → vs.length = ds.length
  | _, _, .nil => rfl
  | _, _, .cons _ q => congrArg (· + 1) q.length
theorem Reps.get : ∀ {vs : List V} {ds : List D} {i : Nat} {d : D}, Reps C F ρ vs ds → ds[i]? = some d → ∃ v, vs[i]? = some v ∧ Rep C F ρ v d
  | _, _, _, _, .nil, e => by simp at e
  | _, _, 0, _, .cons h _, e => by
    cases Option.some.inj e
    exact ⟨_, rfl, h⟩
  | _, _, i + 1, _, .cons _ q, e => q.get (i := i) e
theorem Reps.append : ∀ {vs ws : List V} {ds es : List D}, Reps C F ρ vs ds → Reps C F ρ ws es → Reps C F ρ (vs ++ ws) (ds ++ es)
  | _, _, _, _, .nil, q => q
  | _, _, _, _, .cons h t, q => .cons h (t.append q)
theorem Reps.take (n : Nat) : ∀ {vs : List V} {ds : List D} , Reps C F ρ vs ds → Reps C F ρ (vs.take n) (ds.take n) := by
  induction n with
  | zero => intro _ _ _; exact .nil
  | succ n ih =>
    intro vs ds h
    cases h with
    | nil => exact .nil
    | cons h t => exact .cons h (ih t)
theorem Reps.drop (n : Nat) : ∀ {vs : List V} {ds : List D} , Reps C F ρ vs ds → Reps C F ρ (vs.drop n) (ds.drop n) := by
  induction n with
  | zero => intro _ _ h; exact h
  | succ n ih =>
    intro vs ds h
    cases h with
    | nil => exact .nil
    | cons h t => exact ih t
theorem Reps.set {v : V} {d : D} (r : Rep C F ρ v d) : ∀ (n : Nat) {vs : List V} {ds : List D} , Reps C F ρ vs ds → Reps C F ρ (vs.set n v) (ds.set n d)
  | _, _, _, .nil => .nil
  | 0, _, _, .cons _ t => .cons r t
  | n + 1, _, _, .cons h t => .cons h (t.set r n)
theorem Reps.one (h : Rep C F ρ v d) : Reps C F ρ [v] [d] := .cons h .nil
end
/-- an object as it stands -/
def RepO (C : Kt) (F : Hp) (ρ : List Addr) : HO → O → Prop
  | .lst vs, .lst ds => Reps C F ρ vs ds
  | .ins c _ fs, .ins x gs => c = He.ga C.K x ∧ Paired (fun (p : Str × V) (q : String × D) => p.1 = Str.ofString q.1 ∧ Rep C F ρ p.2 q.2) fs gs
  | _, _ => False
theorem RepO.mono {C : Kt} {F F' : Hp} {ρ ρ' : List Addr} (f : FIn F F') (r : RIn ρ ρ') : ∀ {ho : HO} {o : O}, RepO C F ρ ho o → RepO C F' ρ' ho o := by
  intro ho o h
  cases ho <;> cases o <;> first | exact h.elim | skip
  · exact Reps.mono (vs := _) (ds := _) f r h
  · exact ⟨h.1, Paired.mapP h.2 fun _ _ z => ⟨z.1, z.2.mono f r⟩⟩
structure RelM (C : Kt) (F : Hp) (ρ : List Addr) (H : Hp) (M : Mh) : Prop where
  sub : FIn F H
  len : ρ.length = M.length
  nd : ρ.Nodup
  obj : ∀ (n : Nat) (a : Addr) (o : O), ρ[n]? = some a → M[n]? = some o → F a = none ∧ ∃ ho, H a = some ho ∧ RepO C F ρ ho o
/-- from one state on to a later one -/
structure Stp (H F : Hp) (ρ : List Addr) (H' F' : Hp) (ρ' : List Addr) : Prop where
  f : FIn F F'
  r : RIn ρ ρ'
  keep : ∀ a o, H a = some o → a ∉ ρ → H' a = some o
  nf : ∀ a o, F' a = some o → F a = some o ∨ H a = none
  nr : ∀ a, a ∈ ρ' → a ∈ ρ ∨ H a = none
  there : ∀ a, H' a = none → H a = none
section
variable {C : Kt} {H F H1 F1 H2 F2 H' F' : Hp} {ρ ρ1 ρ2 ρ' : List Addr} {M M' : Mh}
theorem RIn.mem (r : RIn ρ ρ') {a : Addr} (h : a ∈ ρ) : a ∈ ρ' := by
  obtain ⟨n, hn, e⟩ := List.mem_iff_getElem.mp h
  exact List.mem_of_getElem? (r n a (by rw [List.getElem?_eq_getElem hn, e]))
theorem FIn.refl : FIn F F := fun _ _ h => h
theorem RIn.refl : RIn ρ ρ := fun _ _ h => h
theorem Stp.refl : Stp H F ρ H F ρ := ⟨.refl, .refl, fun _ _ h _ => h, fun _ _ h => .inl h, fun _ h => .inl h, fun _ h => h⟩
theorem Stp.trans (a : Stp H F ρ H1 F1 ρ1) (b : Stp H1 F1 ρ1 H2 F2 ρ2) : Stp H F ρ H2 F2 ρ2 where
  f := fun x o h => b.f x o (a.f x o h)
  r := fun n x h => b.r n x (a.r n x h)
  keep := fun x o h hn => b.keep x o (a.keep x o h hn) fun hm => (a.nr x hm).elim hn fun z => by rw [z] at h; cases h
  nf := fun x o h => (b.nf x o h).elim (a.nf x o) fun z => .inr (a.there x z)
  nr := fun x h => (b.nr x h).elim (a.nr x) fun z => .inr (a.there x z)
  there := fun x h => a.there x (b.there x h)
theorem Stp.new {p : Addr} {o : HO} (h : H p = none) (hf : F p = none) : Stp H F ρ (upd H p o) (upd F p o) ρ where
  f := fun a u e => by rw [upd_ne (ne_of_none e hf)]; exact e
  r := .refl
  keep := fun a u e _ => by rw [upd_ne (ne_of_none e h)]; exact e
  nf := fun a u e => by
    by_cases q : a = p
    · subst q; exact .inr h
    · rw [upd_ne q] at e; exact .inl e
  nr := fun a h => .inl h
  there := fun a e => by
    by_cases q : a = p
    · subst q; exact h
    · rw [upd_ne q] at e; exact e
theorem RelM.freeF (m : RelM C F ρ H M) {p : Addr} (h : H p = none) : F p = none := by
  cases e : F p with
  | none => rfl
  | some o => rw [m.sub _ _ e] at h; cases h
theorem RelM.at (m : RelM C F ρ H M) {n : Nat} {o : O} (h : M[n]? = some o) : ∃ a ho, ρ[n]? = some a ∧ F a = none ∧ H a = some ho ∧ RepO C F ρ ho o := by
  have hn : n < ρ.length := by rw [m.len]; exact (List.getElem?_eq_some_iff.mp h).1
  obtain ⟨f, ho, e, r⟩ := m.obj n _ o (List.getElem?_eq_getElem hn) h
  exact ⟨_, ho, List.getElem?_eq_getElem hn, f, e, r⟩
theorem RelM.notin (m : RelM C F ρ H M) {p : Addr} (h : H p = none) : p ∉ ρ := fun hm => by
  obtain ⟨n, hn, e⟩ := List.mem_iff_getElem.mp hm
  obtain ⟨a, ho, e1, _, e2, _⟩ := m.at (List.getElem?_eq_getElem (show n < M.length by rw [← m.len]; exact hn))
  rw [List.getElem?_eq_getElem hn, e] at e1
  cases e1
  rw [h] at e2; cases e2
/-- an object untracked so far is tracked, as data -/
theorem RelM.new (m : RelM C F ρ H M) {p : Addr} {o : HO} (h : H p = none) : RelM C (upd F p o) ρ (upd H p o) M where
  sub := fun a u e => by
    by_cases q : a = p
    · subst q; rw [upd_same] at e ⊢; exact e
    · rw [upd_ne q] at e ⊢; exact m.sub a u e
  len := m.len
  nd := m.nd
  obj := fun n a u e1 e2 => by
    obtain ⟨f, ho, e, r⟩ := m.obj n a u e1 e2
    have q := ne_of_none e h
    exact ⟨by rw [upd_ne q]; exact f, ho, by rw [upd_ne q]; exact e, r.mono (fun b u z => by rw [upd_ne (ne_of_none z (m.freeF h))]; exact z) .refl⟩
/-- .. as an object of one's own -/
theorem RelM.own (m : RelM C F ρ H M) {p : Addr} {ho : HO} {o : O} (h : H p = none) (r : RepO C F ρ ho o) : RelM C F (ρ ++ [p]) (upd H p ho) (M ++ [o]) where
  sub := fun a u e => by rw [upd_ne (ne_of_none (m.sub a u e) h)]; exact m.sub a u e
  len := by simp [m.len]
  nd := List.nodup_append.mpr ⟨m.nd, by simp, fun a ha b hb => by
    have e : b = p := by simpa using hb
    subst e
    intro q; subst q
    exact m.notin h ha⟩
  obj := fun n a u e1 e2 => by
    have rin : RIn ρ (ρ ++ [p]) := fun k b z => by rw [List.getElem?_append_left (List.getElem?_eq_some_iff.mp z).1]; exact z
    by_cases hn : n < ρ.length
    · rw [List.getElem?_append_left hn] at e1
      rw [List.getElem?_append_left (by rw [← m.len]; exact hn)] at e2
      obtain ⟨f, ho', e, r'⟩ := m.obj n a u e1 e2
      exact ⟨f, ho', by rw [upd_ne (ne_of_none e h)]; exact e, r'.mono .refl rin⟩
    · have hl : n < (ρ ++ [p]).length := (List.getElem?_eq_some_iff.mp e1).1
      have e : n = ρ.length := by simp at hl; omega
      subst e
      rw [List.getElem?_append_right (Nat.le_refl _)] at e1
      rw [m.len, List.getElem?_append_right (Nat.le_refl _)] at e2
      simp at e1 e2
      subst e1 e2
      exact ⟨m.freeF h, ho, upd_same, r.mono .refl rin⟩
theorem Stp.own {p : Addr} {ho : HO} (h : H p = none) : Stp H F ρ (upd H p ho) F (ρ ++ [p]) where
  f := .refl
  r := fun n a e => by rw [List.getElem?_append_left (List.getElem?_eq_some_iff.mp e).1]; exact e
  keep := fun a u e _ => by rw [upd_ne (ne_of_none e h)]; exact e
  nf := fun a u e => .inl e
  nr := fun a e => by
    rcases List.mem_append.mp e with e | e
    · exact .inl e
    · have q : a = p := by simpa using e
      subst q; exact .inr h
  there := fun a e => by
    by_cases q : a = p
    · subst q; exact h
    · rw [upd_ne q] at e; exact e
/-- an object of one's own is changed -/
theorem RelM.put (m : RelM C F ρ H M) {n : Nat} {a : Addr} {ho : HO} {o : O} (h : ρ[n]? = some a) (r : RepO C F ρ ho o) : RelM C F ρ (upd H a ho) (M.set n o) where
  sub := fun b u e => by
    have hn : n < M.length := by rw [← m.len]; exact (List.getElem?_eq_some_iff.mp h).1
    obtain ⟨f, _⟩ := m.obj n a _ h (List.getElem?_eq_getElem hn)
    rw [upd_ne fun q => by subst q; rw [f] at e; cases e]
    exact m.sub b u e
  len := by rw [List.length_set]; exact m.len
  nd := m.nd
  obj := fun k b u e1 e2 => by
    have hn : n < M.length := by rw [← m.len]; exact (List.getElem?_eq_some_iff.mp h).1
    by_cases q : k = n
    · subst q
      rw [h] at e1; cases e1
      rw [List.getElem?_set_self hn] at e2; cases e2
      obtain ⟨f, _⟩ := m.obj k a _ h (List.getElem?_eq_getElem hn)
      exact ⟨f, ho, upd_same, r⟩
    · rw [List.getElem?_set_ne (Ne.symm q)] at e2
      obtain ⟨f, ho', e, r'⟩ := m.obj k b u e1 e2
      refine ⟨f, ho', ?_, r'⟩
      rw [upd_ne fun z => q (by
        subst z
        obtain ⟨h1, i1⟩ := List.getElem?_eq_some_iff.mp e1
        obtain ⟨h2, i2⟩ := List.getElem?_eq_some_iff.mp h
        exact (List.getElem_inj m.nd).mp (i1.trans i2.symm))]
      exact e
theorem Stp.put {n : Nat} {a : Addr} {ho : HO} (h : ρ[n]? = some a) (hm : H a ≠ none) : Stp H F ρ (upd H a ho) F ρ where
  f := .refl
  r := .refl
  keep := fun b u e hb => by rw [upd_ne fun q => hb (by subst q; exact List.mem_of_getElem? h)]; exact e
  nf := fun b u e => .inl e
  nr := fun b e => .inl e
  there := fun b e => by
    by_cases q : b = a
    · subst q; rw [upd_same] at e; cases e
    · rw [upd_ne q] at e; exact e
end
/-- an error on its way -/
def ErRep (C : Kt) (F : Hp) (ρ : List Addr) (H : Hp) (cls : Value) (dd : Option Addr) (x : Er) : Prop :=
  cls = .ref (He.ga C.K x.cls) ∧ match x.arg with
    | none => dd = none
    | some d => ∃ a v, dd = some a ∧ H a = some (.xd [("row", v)]) ∧ Rep C F ρ v d
/-- what must hold of an end, so that Q (or the wish about errors) holds behind it -/
def PostG {α β : Type} (C : Kt) (W : WX) (σ : L2.St) (H F : Hp) (ρ : List Addr) (Rp : Hp → List Addr → β → α → Prop) (o : Out α) (Q : β → Hp → Prop) : Prop := match o with
  | .ok a M => ∀ b H' F' ρ', Stp H F ρ H' F' ρ' → RelM C F' ρ' H' M → Rp F' ρ' b a → Q b H'
  | .exc x M => ∀ cls dd H' F' ρ', Stp H F ρ H' F' ρ' → RelM C F' ρ' H' M → ErRep C F' ρ' H' cls dd x → W cls dd σ H'
  | .stk => False
section
variable {α β γ δ : Type} {C : Kt} {W : WX} {σ : L2.St} {H F : Hp} {ρ : List Addr} {Rp : Hp → List Addr → β → α → Prop} {Rq : Hp → List Addr → δ → γ → Prop} {o : Out α} {Q Q' : β → Hp → Prop}
theorem PostG.imp (h : PostG C W σ H F ρ Rp o Q) (hq : ∀ b H', Q b H' → Q' b H') : PostG C W σ H F ρ Rp o Q' := by
  cases o with
  | ok a M => exact fun b H' F' ρ' s m r => hq b H' (h b H' F' ρ' s m r)
  | exc x M => exact h
  | stk => exact h
/-- behind a later state -/
theorem PostG.later {H1 F1 : Hp} {ρ1 : List Addr} (h : PostG C W σ H F ρ Rp o Q) (s : Stp H F ρ H1 F1 ρ1) : PostG C W σ H1 F1 ρ1 Rp o Q := by
  cases o with
  | ok a M => exact fun b H' F' ρ' s1 m r => h b H' F' ρ' (s.trans s1) m r
  | exc x M => exact fun c d H' F' ρ' s1 m r => h c d H' F' ρ' (s.trans s1) m r
  | stk => exact h
theorem PostG.bind {k : α → R γ} {Z : δ → Hp → Prop} (h : PostG C W σ H F ρ Rq (o.bind k) Z) :
    PostG C W σ H F ρ Rp o fun b H' => ∃ a F' ρ' M, Stp H F ρ H' F' ρ' ∧ RelM C F' ρ' H' M ∧ Rp F' ρ' b a ∧ PostG C W σ H' F' ρ' Rq (k a M) Z := by
  cases o with
  | ok a M => exact fun b H' F' ρ' s m r => ⟨a, F', ρ', M, s, m, r, PostG.later (o := k a M) h s⟩
  | exc x M => exact h
  | stk => exact h
/-- .. with the end itself -/
theorem PostG.bindE {k : α → R γ} {Z : δ → Hp → Prop} (h : PostG C W σ H F ρ Rq (o.bind k) Z) :
    PostG C W σ H F ρ Rp o fun b H' => ∃ a F' ρ' M, o = .ok a M ∧ Stp H F ρ H' F' ρ' ∧ RelM C F' ρ' H' M ∧ Rp F' ρ' b a ∧ PostG C W σ H' F' ρ' Rq (k a M) Z := by
  cases o with
  | ok a M => exact fun b H' F' ρ' s m r => ⟨a, F', ρ', M, rfl, s, m, r, PostG.later (o := k a M) h s⟩
  | exc x M => exact h
  | stk => exact h
theorem PostG.ok {a : α} {M : Mh} {b : β} (h : PostG C W σ H F ρ Rp (.ok a M) Q) (m : RelM C F ρ H M) (r : Rp F ρ b a) : Q b H := h b H F ρ .refl m r
end
abbrev PostD (C : Kt) (W : WX) (σ : L2.St) (H F : Hp) (ρ : List Addr) (o : Out D) (Q : VK) : Prop := PostG C W σ H F ρ (Rep C) o Q
abbrev PostB (C : Kt) (W : WX) (σ : L2.St) (H F : Hp) (ρ : List Addr) (o : Out Bool) (Q : Bool → Hp → Prop) : Prop := PostG C W σ H F ρ (fun _ _ b a => b = a) o Q
abbrev PostA (C : Kt) (W : WX) (σ : L2.St) (H F : Hp) (ρ : List Addr) (o : Out (List D)) (Q : List V → Hp → Prop) : Prop := PostG C W σ H F ρ (Reps C) o Q
structure RelE (C : Kt) (F : Hp) (ρ : List Addr) (σ : L2.St) (e : En) : Prop where
  len : e.length = σ.length
  at_ : ∀ (i : Nat) (d : D), e[i]? = some (some d) → ∃ v, σ[i]? = some (some v) ∧ Rep C F ρ v d
section
variable {C : Kt} {W : WX} {H F H' F' : Hp} {ρ ρ' : List Addr} {σ : L2.St} {e : En}
theorem RelE.step (h : RelE C F ρ σ e) (s : Stp H F ρ H' F' ρ') : RelE C F' ρ' σ e := ⟨h.len, fun i d q => let ⟨v, a, b⟩ := h.at_ i d q; ⟨v, a, b.mono s.f s.r⟩⟩
theorem RelE.set {v : V} {d : D} (h : RelE C F ρ σ e) (i : Nat) (r : Rep C F ρ v d) : RelE C F ρ (σ.set i (some v)) (e.set i (some d)) := by
  refine ⟨by simp [h.len], fun j y q => ?_⟩
  by_cases hj : i = j
  · subst hj
    have hi : i < e.length := by
      have := (List.getElem?_eq_some_iff.mp q).1
      simpa using this
    rw [List.getElem?_set_self hi] at q
    cases q
    exact ⟨v, by rw [List.getElem?_set_self (by rw [← h.len]; exact hi)], r⟩
  · rw [List.getElem?_set_ne hj] at q
    obtain ⟨w, a, b⟩ := h.at_ j y q
    exact ⟨w, by rw [List.getElem?_set_ne hj]; exact a, b⟩
theorem RelE.clear (h : RelE C F ρ σ e) (i : Nat) : RelE C F ρ (σ.set i none) (e.set i none) := by
  refine ⟨by simp [h.len], fun j y q => ?_⟩
  by_cases hj : i = j
  · subst hj
    have hi : i < e.length := by
      have := (List.getElem?_eq_some_iff.mp q).1
      simpa using this
    rw [List.getElem?_set_self hi] at q
    cases q
  · rw [List.getElem?_set_ne hj] at q
    obtain ⟨w, a, b⟩ := h.at_ j y q
    exact ⟨w, by rw [List.getElem?_set_ne hj]; exact a, b⟩
end
/-! ### the transformers -/
def tE (C : Kt) (W : WX) (m : ME) : TE := fun σ H Q => ∃ F ρ e M, RelE C F ρ σ e ∧ RelM C F ρ H M ∧ PostD C W σ H F ρ (m e M) Q
def tT (C : Kt) (W : WX) (m : MT) : TT := fun σ H Q => ∃ F ρ e M, RelE C F ρ σ e ∧ RelM C F ρ H M ∧ PostB C W σ H F ρ (m e M) Q
def tA (C : Kt) (W : WX) (m : MA) : TA := fun σ H Q => ∃ F ρ e M, RelE C F ρ σ e ∧ RelM C F ρ H M ∧ PostA C W σ H F ρ (m e M) Q
abbrev DE (X : Cx) (C : Kt) (W : WX) (e : Expr) (m : ME) : Prop := PE X e (tE C W m)
abbrev DT (X : Cx) (C : Kt) (W : WX) (e : Expr) (m : MT) : Prop := PT X e (tT C W m)
abbrev DA (X : Cx) (C : Kt) (W : WX) (es : List Expr) (m : MA) : Prop := PA X es (tA C W m)
/-- what must hold of a statement's end -/
def PostS (C : Kt) (W : WX) (H F : Hp) (ρ : List Addr) (o : SO) (D : Ends) : Prop := match o with
  | .nx e M => ∀ σ' H' F' ρ', Stp H F ρ H' F' ρ' → RelM C F' ρ' H' M → RelE C F' ρ' σ' e → D.nx σ' H'
  | .rt d M => ∀ v H' F' ρ', Stp H F ρ H' F' ρ' → RelM C F' ρ' H' M → Rep C F' ρ' v d → D.rt v H'
  | .bk e M => ∀ σ' H' F' ρ', Stp H F ρ H' F' ρ' → RelM C F' ρ' H' M → RelE C F' ρ' σ' e → D.bk σ' H'
  | .ct e M => ∀ σ' H' F' ρ', Stp H F ρ H' F' ρ' → RelM C F' ρ' H' M → RelE C F' ρ' σ' e → D.ct σ' H'
  | .exc x e M => ∀ cls dd σ' H' F' ρ', Stp H F ρ H' F' ρ' → RelM C F' ρ' H' M → RelE C F' ρ' σ' e → ErRep C F' ρ' H' cls dd x → W cls dd σ' H'
  | .stk => False
def tS (C : Kt) (W : WX) (m : MS) : TS := fun D σ H => ∃ F ρ e M, RelE C F ρ σ e ∧ RelM C F ρ H M ∧ PostS C W H F ρ (m e M) D
abbrev DS (X : Cx) (C : Kt) (W : WX) (s : Stmt) (m : MS) : Prop := PS X s (tS C W m)
abbrev DB (X : Cx) (C : Kt) (W : WX) (s : List Stmt) (m : MS) : Prop := PSs X s (tS C W m)
section
variable {α β : Type} {C : Kt} {W : WX} {H F H1 F1 : Hp} {ρ ρ1 : List Addr} {σ : L2.St} {e : En} {o : SO} {D : Ends} {Rp : Hp → List Addr → β → α → Prop}
theorem PostS.later (h : PostS C W H F ρ o D) (s : Stp H F ρ H1 F1 ρ1) : PostS C W H1 F1 ρ1 o D := by
  cases o with
  | nx e M => exact fun σ' H' F' ρ' s1 m r => h σ' H' F' ρ' (s.trans s1) m r
  | rt d M => exact fun σ' H' F' ρ' s1 m r => h σ' H' F' ρ' (s.trans s1) m r
  | bk e M => exact fun σ' H' F' ρ' s1 m r => h σ' H' F' ρ' (s.trans s1) m r
  | ct e M => exact fun σ' H' F' ρ' s1 m r => h σ' H' F' ρ' (s.trans s1) m r
  | exc x e M => exact fun a b σ' H' F' ρ' s1 m r => h a b σ' H' F' ρ' (s.trans s1) m r
  | stk => exact h
/-- an expression's end within a statement -/
theorem PostS.lift {x : Out α} {k : α → Mh → SO} (h : PostS C W H F ρ (lift x e k) D) (he : RelE C F ρ σ e) :
    PostG C W σ H F ρ Rp x fun b H' => ∃ a F' ρ' M, Stp H F ρ H' F' ρ' ∧ RelM C F' ρ' H' M ∧ RelE C F' ρ' σ e ∧ Rp F' ρ' b a ∧ PostS C W H' F' ρ' (k a M) D := by
  cases x with
  | ok a M => exact fun b H' F' ρ' s m r => ⟨a, F', ρ', M, s, m, he.step s, r, PostS.later (o := k a M) h s⟩
  | exc x M => exact fun c d H' F' ρ' s m r => h c d σ H' F' ρ' s m (he.step s) r
  | stk => exact h
theorem PostS.seq {k : MS} (h : PostS C W H F ρ (o.seq k) D) : PostS C W H F ρ o { D with nx := tS C W k D } := by
  cases o with
  | nx e M => exact fun σ' H' F' ρ' s m r => ⟨F', ρ', e, M, r, m, PostS.later (o := k e M) h s⟩
  | rt d M => exact h
  | bk e M => exact h
  | ct e M => exact h
  | exc x e M => exact h
  | stk => exact h
end
section
variable {X : Cx}
theorem peMono {e : Expr} {t t' : TE} (h : PE X e t) (f : ∀ σ H Q, t' σ H Q → t σ H Q) : PE X e t' := ⟨fun pins s σ H Q I q => h.run pins s σ H Q I (f σ H Q q)⟩
theorem ptMono {e : Expr} {t t' : TT} (h : PT X e t) (f : ∀ σ H Q, t' σ H Q → t σ H Q) : PT X e t' := ⟨fun pins s σ H Q I q => h.run pins s σ H Q I (f σ H Q q)⟩
theorem pwMono {e : Expr} {t t' : TT} (h : PW X e t) (f : ∀ σ H Q, t' σ H Q → t σ H Q) : PW X e t' := ⟨fun wh pins s σ H Q I q => h.run wh pins s σ H Q I (f σ H Q q)⟩
theorem paMono {e : List Expr} {t t' : TA} (h : PA X e t) (f : ∀ σ H Q, t' σ H Q → t σ H Q) : PA X e t' := ⟨fun pos pins s σ H Q I q => h.run pos pins s σ H Q I (f σ H Q q)⟩
theorem psMono {s : Stmt} {t t' : TS} (h : PS X s t) (f : ∀ D σ H, t' D σ H → t D σ H) : PS X s t' := ⟨fun pins s σ H D I q => h.run pins s σ H D I (f D σ H q)⟩
theorem pssMono {s : List Stmt} {t t' : TS} (h : PSs X s t) (f : ∀ D σ H, t' D σ H → t D σ H) : PSs X s t' := ⟨fun pins s σ H D I q => h.run pins s σ H D I (f D σ H q)⟩
theorem pgMono {g : Expr} {t t' : TG} (h : PG X g t) (f : ∀ v σ H Q, t' v σ H Q → t v σ H Q) : PG X g t' := ⟨fun pins s σ H v u Q I r q => h.run pins s σ H v u Q I r (f v σ H Q q)⟩
end
end G
set_option Elab.async false
set_option linter.all false
set_option maxRecDepth 100000
/-! Rules of expressions. -/
namespace G
open PySem PySem.Spec PyProof.Rows L2
/-! ### texts -/
theorem good_tx (s : String) : good (tx s) = true := by
  unfold good tx
  rw [List.all_map, List.all_eq_true]
  intro c _
  have h := c.valid
  simp only [Function.comp, decide_eq_true_eq]
  show c.val.toNat < 1114112
  rcases h with h | ⟨_, h⟩ <;> simp at h ⊢ <;> omega
theorem ofString_tx (s : String) : Str.ofString s = sOf (tx s) := TL.ext_tl (TL.tl_ofString s)
theorem good_append {a b : T} (h : good a = true) (h' : good b = true) : good (a ++ b) = true := by
  unfold good at *
  rw [List.all_append, h, h']; rfl
theorem good_mem {a b : T} (h : good a = true) (hs : ∀ c ∈ b, c ∈ a) : good b = true := List.all_eq_true.mpr fun c hc => List.all_eq_true.mp h c (hs c hc)
theorem Rep.strC {C : Kt} {F : Hp} {ρ : List Addr} (s : String) : Rep C F ρ (.str (Str.ofString s)) (.str (tx s)) := by
  rw [ofString_tx]; exact .str (good_tx s)
/-! ### reading data off the heap -/
section
variable {C : Kt} {H F : Hp} {ρ : List Addr} {M : Mh} {v : V} {d : D} {xs : List D}
theorem seqL_rep (m : RelM C F ρ H M) (r : Rep C F ρ v d) (h : seqL M d = some xs) : ∃ a vs, v = .ref a ∧ SqL C.K H a vs ∧ Reps C F ρ vs xs := by
  cases r with
  | lst q1 q2 =>
    cases h
    exact ⟨_, _, rfl, SqL.of (m.sub _ _ q1), q2⟩
  | frz q1 q2 =>
    cases h
    exact ⟨_, _, rfl, m.sub.sql q1, q2⟩
  | @ref n a q =>
    dsimp only [seqL] at h
    split at h
    · rename_i ys e
      cases h
      obtain ⟨b, ho, e1, e2, e3, e4⟩ := m.at e
      rw [q] at e1; cases e1
      cases ho <;> first | exact e4.elim | skip
      exact ⟨a, _, rfl, SqL.of e3, e4⟩
    · cases h
  | _ => cases h
theorem seqO_rep (m : RelM C F ρ H M) (r : Rep C F ρ v d) (h : seqO M d = some xs) : ∃ a vs, v = .ref a ∧ H a = some (.lst vs) ∧ Reps C F ρ vs xs := by
  cases r with
  | lst q1 q2 =>
    cases h
    exact ⟨_, _, rfl, m.sub _ _ q1, q2⟩
  | @ref n a q =>
    dsimp only [seqO] at h
    split at h
    · rename_i ys e
      cases h
      obtain ⟨b, ho, e1, e2, e3, e4⟩ := m.at e
      rw [q] at e1; cases e1
      cases ho <;> first | exact e4.elim | skip
      exact ⟨a, _, rfl, e3, e4⟩
    · cases h
  | _ => cases h
theorem seqT_rep (m : RelM C F ρ H M) (r : Rep C F ρ v d) (h : seqT d = some xs) : ∃ a vs, v = .ref a ∧ H a = some (.tup vs) ∧ F a = some (.tup vs) ∧ Reps C F ρ vs xs := by
  cases r with
  | tup q1 q2 =>
    cases h
    exact ⟨_, _, rfl, m.sub _ _ q1, q1, q2⟩
  | _ => cases h
theorem seqA_rep (m : RelM C F ρ H M) (r : Rep C F ρ v d) (h : seqA M d = some xs) : ∃ a vs, v = .ref a ∧ (SqL C.K H a vs ∨ SqT C.K H a vs) ∧ Reps C F ρ vs xs := by
  unfold seqA at h
  split at h
  · rename_i ys e
    cases h
    obtain ⟨a, vs, e1, e2, _, e3⟩ := seqT_rep m r e
    exact ⟨a, vs, e1, .inr (SqT.of e2), e3⟩
  · obtain ⟨a, vs, e1, e2, e3⟩ := seqL_rep m r h
    exact ⟨a, vs, e1, .inl e2, e3⟩
end
/-! ### data for == -/
mutual
def toPy : D → PyData
  | .non => .none
  | .bl b => .bool b
  | .int i => .int i
  | .str s => .str (sOf s)
  | .lst xs => .list (toPys xs)
  | .tup xs => .tuple (toPys xs)
  | _ => .none
def toPys : List D → List PyData
  | [] => []
  | x :: xs => toPy x :: toPys xs
end
theorem strOk_good {l : T} (h : good l = true) : PyData.strOk (sOf l) = true := by
  unfold PyData.strOk
  rw [← Array.all_toList]
  exact h
section
variable {C : Kt} {H : Hp} {ρ : List Addr}
mutual
theorem dp_of : ∀ {v : V} {d : D} {n : Nat}, Rep C H ρ v d → dep d = some n → Dp C.K H v (toPy d) ∧ (toPy d).canLay0 = true ∧ (toPy d).depth = n
  | _, _, _, .non, e => by cases e; exact ⟨by rw [toPy]; exact .non, by simp [toPy, PyData.canLay0], by simp [toPy, PyData.depth]⟩
  | _, _, _, .bl b, e => by cases e; exact ⟨by rw [toPy]; exact .bl b, by simp [toPy, PyData.canLay0], by simp [toPy, PyData.depth]⟩
  | _, _, _, .int i, e => by cases e; exact ⟨by rw [toPy]; exact .int i, by simp [toPy, PyData.canLay0], by simp [toPy, PyData.depth]⟩
  | _, _, _, .str h, e => by cases e; exact ⟨by rw [toPy]; exact .str _, by simpa [toPy, PyData.canLay0] using strOk_good h, by simp [toPy, PyData.depth]⟩
  | _, .lst ds, n, .lst q1 q2, e => by
    rw [dep] at e
    obtain ⟨k, e1, e2⟩ := Option.map_eq_some_iff.mp e
    obtain ⟨a, b, c⟩ := dps_of q2 e1
    exact ⟨by rw [toPy]; exact .lst (SqL.of q1) a, by simpa [toPy, PyData.canLay0] using b, by rw [toPy, PyData.depth, c]; exact e2⟩
  | _, .tup ds, n, .tup q1 q2, e => by
    rw [dep] at e
    obtain ⟨k, e1, e2⟩ := Option.map_eq_some_iff.mp e
    obtain ⟨a, b, c⟩ := dps_of q2 e1
    exact ⟨by rw [toPy]; exact .tup (SqT.of q1) a, by simpa [toPy, PyData.canLay0] using b, by rw [toPy, PyData.depth, c]; exact e2⟩
  | _, _, _, .frz _ _, e => by simp [dep] at e
  | _, _, _, .ref _, e => by simp [dep] at e
  | _, _, _, .glo _, e => by simp [dep] at e
  | _, _, _, .ty _, e => by simp [dep] at e
  | _, _, _, .errP _ _ _, e => by simp [dep] at e
theorem dps_of : ∀ {vs : List V} {ds : List D} {n : Nat}, Reps C H ρ vs ds → deps ds = some n → DpAll C.K H vs (toPys ds) ∧ PyData.canLayAll0 (toPys ds) = true ∧ PyData.depthAll (toPys ds) = n
  | _, _, _, .nil, e => by cases e; exact ⟨by rw [toPys]; exact .nil, by simp [toPys, PyData.canLayAll0], by simp [toPys, PyData.depthAll]⟩
  | _, d :: ds, n, .cons h t, e => by
    rw [deps] at e
    split at e
    · rename_i a b e1 e2
      cases e
      obtain ⟨p1, p2, p3⟩ := dp_of h e1
      obtain ⟨q1, q2, q3⟩ := dps_of t e2
      exact ⟨by rw [toPys]; exact .cons p1 q1, by simp [toPys, PyData.canLayAll0, p2, q2], by rw [toPys, PyData.depthAll, p3, q3]⟩
    · cases e
end
end
theorem sOf_beq (a b : T) : (sOf a == sOf b) = (a == b) := SX.S_beq a b
mutual
theorem eqD_py : ∀ (d e : D) {m n : Nat}, dep d = some m → dep e = some n → eqD d e = PyData.eqv (toPy d) (toPy e)
  | .lst xs, .lst ys, _, _, h1, h2 => by
    rw [dep] at h1 h2
    obtain ⟨_, a, _⟩ := Option.map_eq_some_iff.mp h1
    obtain ⟨_, b, _⟩ := Option.map_eq_some_iff.mp h2
    simp only [eqD, toPy, PyData.eqv]
    exact eqDs_py xs ys a b
  | .tup xs, .tup ys, _, _, h1, h2 => by
    rw [dep] at h1 h2
    obtain ⟨_, a, _⟩ := Option.map_eq_some_iff.mp h1
    obtain ⟨_, b, _⟩ := Option.map_eq_some_iff.mp h2
    simp only [eqD, toPy, PyData.eqv]
    exact eqDs_py xs ys a b
  | .str a, .str b, _, _, _, _ => by simp only [eqD, toPy, PyData.eqv, sOf_beq]
  | .non, e, _, _, _, h2 => by cases e <;> first | (simp only [eqD, toPy, PyData.eqv]; done) | (simp [dep] at h2; done)
  | .bl a, e, _, _, _, h2 => by cases e <;> first | (simp only [eqD, toPy, PyData.eqv]; done) | (simp [dep] at h2; done)
  | .int a, e, _, _, _, h2 => by cases e <;> first | (simp only [eqD, toPy, PyData.eqv]; done) | (simp [dep] at h2; done)
  | .str a, .non, _, _, _, _ => by simp only [eqD, toPy, PyData.eqv]
  | .str a, .bl _, _, _, _, _ => by simp only [eqD, toPy, PyData.eqv]
  | .str a, .int _, _, _, _, _ => by simp only [eqD, toPy, PyData.eqv]
  | .str a, .lst _, _, _, _, _ => by simp only [eqD, toPy, PyData.eqv]
  | .str a, .tup _, _, _, _, _ => by simp only [eqD, toPy, PyData.eqv]
  | .lst a, .non, _, _, _, _ => by simp only [eqD, toPy, PyData.eqv]
  | .lst a, .bl _, _, _, _, _ => by simp only [eqD, toPy, PyData.eqv]
  | .lst a, .int _, _, _, _, _ => by simp only [eqD, toPy, PyData.eqv]
  | .lst a, .str _, _, _, _, _ => by simp only [eqD, toPy, PyData.eqv]
  | .lst a, .tup _, _, _, _, _ => by simp only [eqD, toPy, PyData.eqv]
  | .tup a, .non, _, _, _, _ => by simp only [eqD, toPy, PyData.eqv]
  | .tup a, .bl _, _, _, _, _ => by simp only [eqD, toPy, PyData.eqv]
  | .tup a, .int _, _, _, _, _ => by simp only [eqD, toPy, PyData.eqv]
  | .tup a, .str _, _, _, _, _ => by simp only [eqD, toPy, PyData.eqv]
  | .tup a, .lst _, _, _, _, _ => by simp only [eqD, toPy, PyData.eqv]
  | .str _, .frz _, _, _, _, h => by simp [dep] at h
  | .str _, .ref _, _, _, _, h => by simp [dep] at h
  | .str _, .glo _, _, _, _, h => by simp [dep] at h
  | .str _, .ty _, _, _, _, h => by simp [dep] at h
  | .str _, .err _ _, _, _, _, h => by simp [dep] at h
  | .lst _, .frz _, _, _, _, h => by simp [dep] at h
  | .lst _, .ref _, _, _, _, h => by simp [dep] at h
  | .lst _, .glo _, _, _, _, h => by simp [dep] at h
  | .lst _, .ty _, _, _, _, h => by simp [dep] at h
  | .lst _, .err _ _, _, _, _, h => by simp [dep] at h
  | .tup _, .frz _, _, _, _, h => by simp [dep] at h
  | .tup _, .ref _, _, _, _, h => by simp [dep] at h
  | .tup _, .glo _, _, _, _, h => by simp [dep] at h
  | .tup _, .ty _, _, _, _, h => by simp [dep] at h
  | .tup _, .err _ _, _, _, _, h => by simp [dep] at h
  | .frz _, _, _, _, h, _ => by simp [dep] at h
  | .ref _, _, _, _, h, _ => by simp [dep] at h
  | .glo _, _, _, _, h, _ => by simp [dep] at h
  | .ty _, _, _, _, h, _ => by simp [dep] at h
  | .err _ _, _, _, _, h, _ => by simp [dep] at h
theorem eqDs_py : ∀ (d e : List D) {m n : Nat}, deps d = some m → deps e = some n → eqDs d e = PyData.eqvAll (toPys d) (toPys e)
  | [], [], _, _, _, _ => by simp only [eqDs, toPys, PyData.eqvAll]
  | [], _ :: _, _, _, _, _ => by simp only [eqDs, toPys, PyData.eqvAll]
  | _ :: _, [], _, _, _, _ => by simp only [eqDs, toPys, PyData.eqvAll]
  | x :: xs, y :: ys, _, _, h1, h2 => by
    rw [deps] at h1 h2
    split at h1
    · rename_i a b e1 e2
      split at h2
      · rename_i a' b' e1' e2'
        simp only [eqDs, toPys, PyData.eqvAll]
        rw [eqD_py x y e1 e1', eqDs_py xs ys e2 e2']
      · cases h2
    · cases h1
end
section
variable {C : Kt} {H F : Hp} {ρ : List Addr} {M : Mh} {v : V} {d : D}
theorem res_rep (m : RelM C F ρ H M) (r : Rep C F ρ v d) : Rep C H ρ v (res M d) := by
  unfold res
  split
  · rename_i xs e
    obtain ⟨a, vs, rfl, e2, e3⟩ := seqO_rep m r e
    exact .lst e2 (e3.mono m.sub .refl)
  · exact r.mono m.sub .refl
theorem flat_py (m : RelM C F ρ H M) (r : Rep C F ρ v d) (h : flatOk (res M d) = true) : Dp C.K H v (toPy (res M d)) ∧ SeqAt.shaped (toPy (res M d)) = true ∧ ∃ n, dep (res M d) = some n := by
  unfold flatOk at h
  split at h
  · rename_i n e
    obtain ⟨a, b, c⟩ := dp_of (res_rep m r) e
    refine ⟨a, ?_, n, e⟩
    unfold SeqAt.shaped
    rw [b, c]
    simpa using h
  · cases h
end
/-! ### a two-place operation by data -/
def OpD (C : Kt) (r : R2) (f : D → D → R D) : Prop := ∀ (W : WX) (σ : L2.St) (H F : Hp) (ρ : List Addr) (M : Mh) (x y : V) (a b : D) (Q : VK), RelM C F ρ H M → Rep C F ρ x a → Rep C F ρ y b → PostD C W σ H F ρ (f a b M) Q → r x y H Q
section
variable {X : Cx} {C : Kt} {W : WX} {a b c : Expr} {ma mb mc : ME} {pos : Pos} {f g : D → D → R D} {r r' : R2}
theorem tOp_of {σ : L2.St} {H : Hp} {Q : VK} (hd : OpD C r f) (h : tE C W (xBin f ma mb) σ H Q) : tOp r (tE C W ma) (tE C W mb) σ H Q := by
  obtain ⟨F, ρ, e, M, he, hm, hp⟩ := h
  exact ⟨F, ρ, e, M, he, hm, (PostG.bind hp).imp fun x H1 ⟨d, F1, ρ1, M1, s1, m1, r1, p1⟩ => ⟨F1, ρ1, e, M1, he.step s1, m1, (PostG.bind p1).imp fun y H2 ⟨d2, F2, ρ2, M2, s2, m2, r2, p2⟩ =>
    hd W σ H2 F2 ρ2 M2 x y d d2 Q m2 (r1.mono s2.f s2.r) r2 p2⟩⟩
theorem de_bin {op : Operator} (ho : OpR X (binaryOp op) r) (hd : OpD C r f) (ha : DE X C W a ma) (hb : DE X C W b mb) : DE X C W (.BinOp a op b pos) (xBin f ma mb) :=
  peMono (pe_op ho ha hb) fun _ _ _ h => tOp_of hd h
theorem de_cmp {op : CmpOp} (ho : OpR X (compareOp op) r) (hd : OpD C r f) (ha : DE X C W a ma) (hb : DE X C W b mb) (hm : behindInMarks op b = false) : DE X C W (.Compare a [op] [b] pos) (xBin f ma mb) :=
  peMono (pe_cmpR ho ha hb hm) fun _ _ _ h => tOp_of hd h
theorem dt_val (h : DE X C W a ma) (he : ∀ whole, isTrue a X.env whole = (do let v ← whole; standAt a.pos; holding [v] (truthy v)) := by intro _; rfl) : DT X C W a (tVal ma) := by
  refine ptMono (pt_val h he) fun σ H Q h => ?_
  obtain ⟨F, ρ, e, M, he, hm, hp⟩ := h
  refine ⟨F, ρ, e, M, he, hm, (PostG.bind hp).imp fun x H1 ⟨d, F1, ρ1, M1, s1, m1, r1, p1⟩ => ?_⟩
  cases r1 <;> first | exact p1.elim | exact ⟨_, rfl, PostG.ok p1 m1 rfl⟩
theorem dt_cmp {op : CmpOp} (ho : OpR X (compareOp op) r) (hd : OpD C r f) (ha : DE X C W a ma) (hb : DE X C W b mb) (hm : behindInMarks op b = false) : DT X C W (.Compare a [op] [b] pos) (tVal (xBin f ma mb)) := by
  refine ptMono (pt_cmpR ho ha hb hm) fun σ H Q h => ?_
  obtain ⟨F, ρ, e, M, he, hm, hp⟩ := h
  have q : tE C W (xBin f ma mb) σ H fun x H' => ∃ k, x = .bl k ∧ Q k H' := ⟨F, ρ, e, M, he, hm, (PostG.bind hp).imp fun x H1 ⟨d, F1, ρ1, M1, s1, m1, r1, p1⟩ => by
    cases r1 <;> first | exact p1.elim | exact ⟨_, rfl, PostG.ok p1 m1 rfl⟩⟩
  exact tOp_of hd q
theorem chain_of (hd : OpD C r f) (hd' : OpD C r' g) {σ : L2.St} {H : Hp} {Q : VK} (h : tE C W (xChain f g ma mb mc) σ H Q) : tChain r r' (tE C W ma) (tE C W mb) (tE C W mc) σ H Q := by
  obtain ⟨F, ρ, e, M, he, hm, hp⟩ := h
  refine ⟨F, ρ, e, M, he, hm, (PostG.bind hp).imp fun x H1 ⟨d, F1, ρ1, M1, s1, m1, r1, p1⟩ => ⟨F1, ρ1, e, M1, he.step s1, m1, (PostG.bind p1).imp fun y H2 ⟨d2, F2, ρ2, M2, s2, m2, r2, p2⟩ =>
    hd W σ H2 F2 ρ2 M2 x y d d2 _ m2 (r1.mono s2.f s2.r) r2 ((PostG.bind p2).imp fun z H3 ⟨d3, F3, ρ3, M3, s3, m3, r3, p3⟩ => ?_)⟩⟩
  cases r3 with
  | bl k =>
    refine ⟨k, rfl, ?_⟩
    cases k with
    | true =>
      rw [if_pos rfl]
      exact ⟨F3, ρ3, e, M3, (he.step (s1.trans s2)).step s3, m3, (PostG.bind p3).imp fun w H4 ⟨d4, F4, ρ4, M4, s4, m4, r4, p4⟩ => hd' W σ H4 F4 ρ4 M4 y w d2 d4 Q m4 (r2.mono (s3.trans s4).f (s3.trans s4).r) r4 p4⟩
    | false =>
      rw [if_neg (by decide)]
      exact PostG.ok p3 m3 (.bl false)
  | _ => exact p3.elim
theorem de_chain {op op' : CmpOp} (ho : OpR X (compareOp op) r) (hd : OpD C r f) (ho' : OpR X (compareOp op') r') (hd' : OpD C r' g) (ha : DE X C W a ma) (hb : DE X C W b mb) (hc : DE X C W c mc)
    (hm : lastMarks [op, op'] [b, c] = false) : DE X C W (.Compare a [op, op'] [b, c] pos) (xChain f g ma mb mc) := peMono (pe_chain ho ho' ha hb hc hm) fun σ H Q h => chain_of hd hd' h
theorem dt_chain {op op' : CmpOp} (ho : OpR X (compareOp op) r) (hd : OpD C r f) (ho' : OpR X (compareOp op') r') (hd' : OpD C r' g) (ha : DE X C W a ma) (hb : DE X C W b mb) (hc : DE X C W c mc)
    (hm : lastMarks [op, op'] [b, c] = false) : DT X C W (.Compare a [op, op'] [b, c] pos) (tVal (xChain f g ma mb mc)) := by
  refine ptMono (pt_chain ho ho' ha hb hc hm) fun σ H Q h => ?_
  obtain ⟨F, ρ, e, M, he, hm, hp⟩ := h
  have q : tE C W (xChain f g ma mb mc) σ H fun x H' => ∃ k, x = .bl k ∧ Q k H' := ⟨F, ρ, e, M, he, hm, (PostG.bind hp).imp fun x H1 ⟨d, F1, ρ1, M1, s1, m1, r1, p1⟩ => by
    cases r1 <;> first | exact p1.elim | exact ⟨_, rfl, PostG.ok p1 m1 rfl⟩⟩
  exact chain_of hd hd' q
theorem dt_of {e : Expr} {m : ME} (h : DE X C W e m) (he : ∀ whole, isTrue e X.env whole = (do let v ← whole; standAt e.pos; holding [v] (truthy v)) := by intro _; rfl) : DT X C W e (tVal m) := dt_val h he
end
/-! ### ints -/
section
variable {X : Cx} {C : Kt} {g : Int → Int → Int} {p : Int → Int → Bool}
theorem opd_sub : OpD C (rI0 fun i j => .int (i - j)) dSub := fun W σ H F ρ M x y a b Q m ra rb h => by
  cases ra <;> first | exact h.elim | (cases rb <;> first | exact h.elim | exact ⟨_, _, rfl, rfl, PostG.ok h m (.int _)⟩)
theorem opd_cmp : OpD C (rI0 fun i j => .bl (p i j)) (dCmp p) := fun W σ H F ρ M x y a b Q m ra rb h => by
  cases ra <;> first | exact h.elim | (cases rb <;> first | exact h.elim | exact ⟨_, _, rfl, rfl, PostG.ok h m (.bl _)⟩)
theorem opd_div : OpD C (rI CDiv fun i j => .int (i / j)) dDiv := fun W σ H F ρ M x y a b Q m ra rb h => by
  cases ra <;> first | exact h.elim | (cases rb <;> first | exact h.elim | skip)
  unfold dDiv at h
  dsimp only at h
  split at h
  · rename_i q
    rw [Bool.and_eq_true, decide_eq_true_eq, decide_eq_true_eq] at q
    exact ⟨_, _, rfl, rfl, q, PostG.ok h m (.int _)⟩
  · exact h.elim
theorem opd_mod : OpD C (rI (fun _ j => 0 < j) fun i j => .int (i % j)) dMod := fun W σ H F ρ M x y a b Q m ra rb h => by
  cases ra <;> first | exact h.elim | (cases rb <;> first | exact h.elim | skip)
  unfold dMod at h
  dsimp only at h
  split at h
  · rename_i q
    exact ⟨_, _, rfl, rfl, of_decide_eq_true q, PostG.ok h m (.int _)⟩
  · exact h.elim
/-- powers: of ints below 2 ^ 64, and of 10 ^ 60 -/
theorem op_powB : OpR X (binaryOp .Pow) (rI (fun i j => 0 ≤ j ∧ j ≤ 1000 ∧ (i.natAbs < 2 ^ 64 ∨ i = 10 ^ 60)) fun i j => .int (i ^ j.toNat)) := opI fun i j _ _ _ _ _ hc q => by
  obtain ⟨h0, h1, h2 | h2⟩ := hc
  · exact pow_int_small h0 (by omega) h2 q
  · subst h2
    refine pow_int h0 ?_ q
    have e : (Builtin.Int.intBits (10 ^ 60) : Int) = 200 := by decide +kernel
    rw [e]
    omega
theorem opd_pow : OpD C (rI (fun i j => 0 ≤ j ∧ j ≤ 1000 ∧ (i.natAbs < 2 ^ 64 ∨ i = 10 ^ 60)) fun i j => .int (i ^ j.toNat)) dPow := fun W σ H F ρ M x y a b Q m ra rb h => by
  cases ra <;> first | exact h.elim | (cases rb <;> first | exact h.elim | skip)
  unfold dPow at h
  dsimp only at h
  split at h
  · rename_i q
    rw [Bool.and_eq_true, Bool.and_eq_true, Bool.or_eq_true, decide_eq_true_eq, decide_eq_true_eq, decide_eq_true_eq, decide_eq_true_eq] at q
    exact ⟨_, _, rfl, rfl, ⟨q.1.1, q.1.2, q.2⟩, PostG.ok h m (.int _)⟩
  · exact h.elim
end
/-! ### +, * of any kind -/
section
variable {X : Cx} {C : Kt}
def rAddX (K : PySem.W.Frag) : R2 := fun x y H Q => (∃ i j, x = .int i ∧ y = .int j ∧ Q (.int (i + j)) H) ∨ (∃ i j, x = .str i ∧ y = .str j ∧ i.length + j.length ≤ sizeLine ∧ Q (.str (i ++ j)) H) ∨ rCatA K x y H Q ∨ rCat x y H Q
theorem op_addX : OpR X (binaryOp .Add) (rAddX X.K) := op_add.or (op_add_str.or (op_catA.or op_cat))
theorem lim_eq : sizeLim = sizeLine := by rw [sizeLine_eq]; rfl
theorem sOf_app (a b : T) : sOf a ++ sOf b = sOf (a ++ b) := SX.S_cat a b
theorem sOf_len (a : T) : (sOf a).length = a.length := SX.S_len a
theorem opd_add : OpD C (rAddX C.K) dAdd := fun W σ H F ρ M x y a b Q m ra rb h => by
  unfold dAdd at h
  split at h
  · rename_i i j
    cases ra; cases rb
    exact .inl ⟨_, _, rfl, rfl, PostG.ok h m (.int _)⟩
  · rename_i s t
    cases ra with
    | str g1 =>
      cases rb with
      | str g2 =>
        split at h
        · rename_i hz
          refine .inr (.inl ⟨_, _, rfl, rfl, by rw [sOf_len, sOf_len, ← lim_eq]; exact hz, ?_⟩)
          rw [sOf_app]
          exact PostG.ok h m (.str (good_append g1 g2))
        · exact h.elim
  · rename_i xs ys
    split at h
    · rename_i hz
      obtain ⟨p, vs, rfl, e1, e1', e2⟩ := seqT_rep m ra (d := .tup xs) rfl
      obtain ⟨q, ws, rfl, e3, e3', e4⟩ := seqT_rep m rb (d := .tup ys) rfl
      refine .inr (.inr (.inl ⟨p, q, vs, ws, rfl, rfl, SqT.of e1, SqT.of e3, by rw [e2.length, e4.length, ← lim_eq]; exact hz, fun z => ?_, fun z1 z2 => ?_, fun _ _ l hl => ?_⟩))
      · subst z
        cases e2
        exact PostG.ok h m (by rw [List.nil_append]; exact rb)
      · subst z2
        cases e4
        exact PostG.ok h m (by rw [List.append_nil]; exact ra)
      · have hf := m.freeF hl
        exact h _ _ _ _ (Stp.new hl hf) (m.new hl) (.tup upd_same ((e2.append e4).mono (Stp.new (ρ := ρ) hl hf).f .refl))
    · exact h.elim
  · split at h
    · rename_i xs ys e1 e2
      split at h
      · rename_i hz
        obtain ⟨p, vs, rfl, e1, e2'⟩ := seqO_rep m ra e1
        obtain ⟨q, ws, rfl, e3, e4⟩ := seqO_rep m rb e2
        refine .inr (.inr (.inr ⟨p, q, vs, ws, rfl, rfl, e1, e3, by rw [e2'.length, e4.length, ← lim_eq]; exact hz, fun l hl => ?_⟩))
        have hf := m.freeF hl
        exact h _ _ _ _ (Stp.new hl hf) (m.new hl) (.lst upd_same ((e2'.append e4).mono (Stp.new (ρ := ρ) hl hf).f .refl))
      · exact h.elim
    · exact h.elim
def rMulX (K : PySem.W.Frag) : R2 := fun x y H Q => rI CMul (fun i j => .int (i * j)) x y H Q ∨ rRepT K x y H Q
theorem op_mulX : OpR X (binaryOp .Mult) (rMulX X.K) := op_mul.or op_repT
end
/-! ### comparisons of data -/
section
variable {X : Cx} {C : Kt} {neg : Bool}
theorem opd_eq : OpD C (rEqD C.K) dEq := fun W σ H F ρ M x y a b Q m ra rb h => by
  unfold dEq at h
  split at h
  · rename_i q
    obtain ⟨q1, q2⟩ := Bool.and_eq_true_iff.mp q
    obtain ⟨a1, a2, n1, e1⟩ := flat_py m ra q1
    obtain ⟨b1, b2, n2, e2⟩ := flat_py m rb q2
    refine ⟨_, _, a1, b1, a2, b2, ?_⟩
    rw [← eqD_py _ _ e1 e2]
    exact PostG.ok h m (.bl _)
  · exact h.elim
theorem opd_ne : OpD C (rNeD C.K) dNe := fun W σ H F ρ M x y a b Q m ra rb h => by
  unfold dNe at h
  split at h
  · rename_i q
    obtain ⟨q1, q2⟩ := Bool.and_eq_true_iff.mp q
    obtain ⟨a1, a2, n1, e1⟩ := flat_py m ra q1
    obtain ⟨b1, b2, n2, e2⟩ := flat_py m rb q2
    refine ⟨_, _, a1, b1, a2, b2, ?_⟩
    rw [← eqD_py _ _ e1 e2]
    exact PostG.ok h m (.bl _)
  · exact h.elim
theorem flatV_rep {F : Hp} {ρ : List Addr} {v : V} {d : D} (r : Rep C F ρ v d) (h : flatD d = true) : flatV v = true := by
  cases r <;> first | rfl | cases h
theorem flatVs_rep {F : Hp} {ρ : List Addr} : ∀ {vs : List V} {ds : List D}, Reps C F ρ vs ds → ds.all flatD = true → vs.all flatV = true
  | _, _, .nil, _ => rfl
  | _, _, .cons h t, q => by
    rw [List.all_cons, Bool.and_eq_true] at q ⊢
    exact ⟨flatV_rep h q.1, flatVs_rep t q.2⟩
theorem eqV_rep {F : Hp} {ρ : List Addr} {v w : V} {d e : D} (r : Rep C F ρ v d) (r' : Rep C F ρ w e) (h : flatD d = true) (h' : flatD e = true) : eqV v w = eqD d e := by
  cases r <;> first | (cases h; done) | skip
  all_goals (cases r' <;> first | (cases h'; done) | skip)
  all_goals first | (simp only [eqD, eqV]; done) | skip
  all_goals (simp only [eqD, eqV]; first | rfl | exact sOf_beq _ _ | (rw [sOf_beq]))
theorem inV_rep {F : Hp} {ρ : List Addr} {v : V} {d : D} (r : Rep C F ρ v d) (h : flatD d = true) : ∀ {vs : List V} {ds : List D}, Reps C F ρ vs ds → ds.all flatD = true → inV v vs = ds.any fun z => eqD z d
  | _, _, .nil, _ => rfl
  | _, _, .cons p t, q => by
    rw [List.all_cons, Bool.and_eq_true] at q
    have ih := inV_rep r h t q.2
    unfold inV at ih ⊢
    rw [List.any_cons, List.any_cons, ih, eqV_rep p r q.1 h]
def rInX (K : PySem.W.Frag) : R2 := fun x y H Q => (∃ i j, x = .str i ∧ y = .str j ∧ Q (.bl (!(Builtin.Str.occurrences j i 0 j.length 1).isEmpty)) H) ∨ rIn K false x y H Q
def rNotInX (K : PySem.W.Frag) : R2 := fun x y H Q => (∃ i j, x = .str i ∧ y = .str j ∧ Q (.bl (!(!(Builtin.Str.occurrences j i 0 j.length 1).isEmpty))) H) ∨ rIn K true x y H Q
theorem op_inX : OpR X (compareOp .In) (rInX X.K) := op_in_str.or op_in_seq
theorem op_notInX : OpR X (compareOp .NotIn) (rNotInX X.K) := op_notIn_str.or op_notIn_seq
theorem opd_in : OpD C (rInX C.K) dIn := fun W σ H F ρ M x y a b Q m ra rb h => by
  unfold dIn at h
  split at h
  · rename_i c s
    cases ra with
    | str g1 =>
      cases rb with
      | str g2 =>
        refine .inl ⟨_, _, rfl, rfl, ?_⟩
        rw [SX.in_one]
        exact PostG.ok h m (.bl _)
  · split at h
    · rename_i xs e
      split at h
      · rename_i q
        obtain ⟨q1, q2⟩ := Bool.and_eq_true_iff.mp q
        obtain ⟨p, vs, rfl, e1, e2⟩ := seqA_rep m rb e
        refine .inr ⟨p, vs, rfl, e1, flatV_rep ra q1, flatVs_rep e2 q2, ?_⟩
        rw [if_neg (by decide), inV_rep ra q1 e2 q2]
        exact PostG.ok h m (.bl _)
      · exact h.elim
    · exact h.elim
theorem opd_notIn : OpD C (rNotInX C.K) dNotIn := fun W σ H F ρ M x y a b Q m ra rb h => by
  unfold dNotIn at h
  split at h
  · rename_i k M' e
    unfold dIn at e
    split at e
    · rename_i c s
      cases e
      cases ra with
      | str g1 =>
        cases rb with
        | str g2 =>
          refine .inl ⟨_, _, rfl, rfl, ?_⟩
          rw [SX.in_one]
          exact PostG.ok h m (.bl _)
    · split at e
      · rename_i xs e'
        split at e
        · rename_i q
          cases e
          obtain ⟨q1, q2⟩ := Bool.and_eq_true_iff.mp q
          obtain ⟨p, vs, rfl, e1, e2⟩ := seqA_rep m rb e'
          refine .inr ⟨p, vs, rfl, e1, flatV_rep ra q1, flatVs_rep e2 q2, ?_⟩
          rw [if_pos rfl, inV_rep ra q1 e2 q2]
          exact PostG.ok h m (.bl _)
        · cases e
      · cases e
  · exact h.elim
def rIsNone : R2 := fun x y H Q => y = .non ∧ Q (.bl (decide (x = .non))) H
theorem opd_isN : OpD C (fun x y H Q => y = .non ∧ Q (.bl (decide (x = .non))) H) dIsN := fun W σ H F ρ M x y a b Q m ra rb h => by
  cases rb with
  | non => cases ra <;> first | exact h.elim | exact ⟨rfl, PostG.ok h m (.bl _)⟩
  | _ => cases ra <;> exact h.elim
theorem opd_notN : OpD C (fun x y H Q => y = .non ∧ Q (.bl (!decide (x = .non))) H) dIsNN := fun W σ H F ρ M x y a b Q m ra rb h => by
  cases rb with
  | non => cases ra <;> first | exact h.elim | exact ⟨rfl, PostG.ok h m (.bl _)⟩
  | _ => cases ra <;> exact h.elim
end
end G
set_option Elab.async false
set_option linter.all false
set_option maxRecDepth 100000
/-! Rules of expressions: names, displays, calls, methods, subscripts, truths. -/
namespace G
open PySem PySem.Spec PyProof.Rows L2
section
variable {X : Cx} {C : Kt} {W : WX} {a b c e : Expr} {es rest : List Expr} {ma mb mc m : ME} {mr : MA} {ta tb tc : MT} {pos p : Pos} {x : Str}
theorem de_var {i : Nat} (h : PE X a (tVar i)) : DE X C W a (xVar i) := by
  refine peMono h fun σ H Q h => ?_
  obtain ⟨F, ρ, en, M, he, hm, hp⟩ := h
  unfold xVar at hp
  split at hp
  · rename_i d q
    obtain ⟨v, h1, h2⟩ := he.at_ i d q
    exact ⟨v, h1, PostG.ok hp hm h2⟩
  · exact hp.elim
theorem de_c {v : V} {d : D} (h : PE X a (tC v)) (r : ∀ F ρ, Rep C F ρ v d) : DE X C W a (xC d) := by
  refine peMono h fun σ H Q h => ?_
  obtain ⟨F, ρ, en, M, he, hm, hp⟩ := h
  exact PostG.ok hp hm (r F ρ)
theorem de_int {i : Int} {j : Nat} : DE X C W (.Constant (.int i) j pos) (xC (.int i)) := de_c pe_int fun _ _ => .int i
theorem de_bl {i : Bool} {j : Nat} : DE X C W (.Constant (.bool i) j pos) (xC (.bl i)) := de_c pe_bl fun _ _ => .bl i
theorem de_non {j : Nat} : DE X C W (.Constant .none j pos) (xC .non) := de_c pe_non fun _ _ => .non
theorem de_str {s : String} {j : Nat} : DE X C W (.Constant (.str (Str.ofString s)) j pos) (xC (.str (tx s))) := de_c pe_str fun _ _ => .strC s
/-- a class or a def of the module -/
theorem de_glo {s : String} (hK : X.K = C.K) (hg : Gl X (Str.ofString s)) (hm : X.mg (Str.ofString s) = some (.ref (He.ga X.K (Str.ofString s)))) (hd : (Str.ofString s == ("__debug__" : Str)) = false) : DE X C W (.Name (Str.ofString s) pos) (xC (.glo s)) :=
  de_c (pe_glob hg hm (v := .ref (He.ga X.K (Str.ofString s))) rfl hd) fun _ _ => by rw [hK]; exact .glo s
/-- a number, a text of the module -/
theorem de_gint {i : Int} {t : Tok} (hg : Gl X x) (hm : X.mg x = some (.int i t)) (hd : (x == ("__debug__" : Str)) = false) : DE X C W (.Name x pos) (xC (.int i)) :=
  de_c (pe_glob hg hm (v := .int i) ⟨t, rfl⟩ hd) fun _ _ => .int i
theorem de_gstr {s : String} {t : Tok} (hg : Gl X x) (hm : X.mg x = some (.str (Str.ofString s) t)) (hd : (x == ("__debug__" : Str)) = false) : DE X C W (.Name x pos) (xC (.str (tx s))) :=
  de_c (pe_glob hg hm (v := .str (Str.ofString s)) ⟨t, rfl⟩ hd) fun _ _ => .strC s
/-- a built-in class as a value -/
theorem de_ty {n : String} (hg : Gl X x) (hm : X.mg x = none) (hv : bootBuiltins x = some (.type n)) (hn : x ≠ "__name__") (hd : (x == ("__debug__" : Str)) = false) : DE X C W (.Name x pos) (xC (.ty n)) :=
  de_c (pe_bltn hg hm hv (v := .ty n) rfl hn hd) fun _ _ => .ty n
/-! ### arguments, displays -/
theorem da_nil : DA X C W [] aNil := by
  refine paMono pa_nil fun σ H Q h => ?_
  obtain ⟨F, ρ, en, M, he, hm, hp⟩ := h
  exact PostG.ok hp hm .nil
theorem da_cons (ha : DE X C W e ma) (hr : DA X C W es mr) (hs : starEach (e :: es) X.env = (false, eval e X.env) :: starEach es X.env := by rfl) : DA X C W (e :: es) (aCons ma mr) := by
  refine paMono (pa_cons ha hr hs) fun σ H Q h => ?_
  obtain ⟨F, ρ, en, M, he, hm, hp⟩ := h
  exact ⟨F, ρ, en, M, he, hm, (PostG.bind hp).imp fun x H1 ⟨d, F1, ρ1, M1, s1, m1, r1, p1⟩ => ⟨F1, ρ1, en, M1, he.step s1, m1, (PostG.bind p1).imp fun xs H2 ⟨ds, F2, ρ2, M2, s2, m2, r2, p2⟩ =>
    PostG.ok p2 m2 (.cons (r1.mono s2.f s2.r) r2)⟩⟩
/-- a fresh tuple, a fresh list, of data -/
theorem post_tup {σ : L2.St} {H F : Hp} {ρ : List Addr} {M : Mh} {ds : List D} {vs : List V} {Q : VK} (h : PostD C W σ H F ρ (.ok (.tup ds) M) Q) (m : RelM C F ρ H M) (r : Reps C F ρ vs ds) : ∀ p, H p = none → Q (.ref p) (upd H p (.tup vs)) := fun p hp =>
  have hf := m.freeF hp
  h _ _ _ _ (Stp.new hp hf) (m.new hp) (.tup upd_same (r.mono (Stp.new (ρ := ρ) hp hf).f .refl))
theorem post_lst {σ : L2.St} {H F : Hp} {ρ : List Addr} {M : Mh} {ds : List D} {vs : List V} {Q : VK} (h : PostD C W σ H F ρ (.ok (.lst ds) M) Q) (m : RelM C F ρ H M) (r : Reps C F ρ vs ds) : ∀ p, H p = none → Q (.ref p) (upd H p (.lst vs)) := fun p hp =>
  have hf := m.freeF hp
  h _ _ _ _ (Stp.new hp hf) (m.new hp) (.lst upd_same (r.mono (Stp.new (ρ := ρ) hp hf).f .refl))
theorem post_own {σ : L2.St} {H F : Hp} {ρ : List Addr} {M : Mh} {ds : List D} {vs : List V} {Q : VK} (h : PostD C W σ H F ρ (.ok (.ref M.length) (M ++ [.lst ds])) Q) (m : RelM C F ρ H M) (r : Reps C F ρ vs ds) : ∀ p, H p = none → Q (.ref p) (upd H p (.lst vs)) := fun p hp => by
  refine h _ _ _ _ (Stp.own hp) (m.own hp r) (.ref ?_)
  rw [← m.len, List.getElem?_append_right (Nat.le_refl _)]
  simp
theorem de_tup {x1 : Nat} (h : DA X C W es mr) : DE X C W (.Tuple es x1 pos) (xTup mr) := by
  refine peMono (pe_tup h) fun σ H Q h => ?_
  obtain ⟨F, ρ, en, M, he, hm, hp⟩ := h
  refine ⟨F, ρ, en, M, he, hm, (PostG.bind hp).imp fun xs H1 ⟨ds, F1, ρ1, M1, s1, m1, r1, p1⟩ => ?_⟩
  split at p1
  · rename_i hz
    exact ⟨by rw [r1.length, ← lim_eq]; exact hz, post_tup p1 m1 r1⟩
  · exact p1.elim
theorem de_lst (h : DA X C W es mr) : DE X C W (.List es pos) (xLst mr) := by
  refine peMono (pe_lst h) fun σ H Q h => ?_
  obtain ⟨F, ρ, en, M, he, hm, hp⟩ := h
  refine ⟨F, ρ, en, M, he, hm, (PostG.bind hp).imp fun xs H1 ⟨ds, F1, ρ1, M1, s1, m1, r1, p1⟩ => ?_⟩
  split at p1
  · rename_i hz
    exact ⟨by rw [r1.length, ← lim_eq]; exact hz, post_lst p1 m1 r1⟩
  · exact p1.elim
/-- a display that becomes a list of one's own -/
theorem de_new (h : DA X C W es mr) : DE X C W (.List es pos) (xNew mr) := by
  refine peMono (pe_lst h) fun σ H Q h => ?_
  obtain ⟨F, ρ, en, M, he, hm, hp⟩ := h
  refine ⟨F, ρ, en, M, he, hm, (PostG.bind hp).imp fun xs H1 ⟨ds, F1, ρ1, M1, s1, m1, r1, p1⟩ => ?_⟩
  split at p1
  · rename_i hz
    exact ⟨by rw [r1.length, ← lim_eq]; exact hz, post_own p1 m1 r1⟩
  · exact p1.elim
/-! ### built-in functions -/
def CalD (C : Kt) (r : List V → Hp → VK → Prop) (f : List D → R D) : Prop := ∀ (W : WX) (σ : L2.St) (H F : Hp) (ρ : List Addr) (M : Mh) (vs : List V) (ds : List D) (Q : VK), RelM C F ρ H M → Reps C F ρ vs ds → PostD C W σ H F ρ (f ds M) Q → r vs H Q
variable {id T : String} {r : List V → Hp → VK → Prop} {f : List D → R D}
theorem tCB_of {σ : L2.St} {H : Hp} {Q : VK} (hd : CalD C r f) (h : tE C W (xCall f mr) σ H Q) : tCB r (tA C W mr) σ H Q := by
  obtain ⟨F, ρ, en, M, he, hm, hp⟩ := h
  exact ⟨F, ρ, en, M, he, hm, (PostG.bind hp).imp fun xs H1 ⟨ds, F1, ρ1, M1, s1, m1, r1, p1⟩ => hd W σ H1 F1 ρ1 M1 xs ds Q m1 r1 p1⟩
theorem de_fn (hc : CallR X (.builtin id) r) (hd : CalD C r f) (hg : Gl X x) (hm : X.mg x = none) (hv : bootBuiltins x = some (.builtin id)) (ha : DA X C W (e :: es) mr) (hn : x ≠ "__name__") (hdb : (x == ("__debug__" : Str)) = false)
    (he : starEach (e :: es) X.env = (false, eval e X.env) :: starEach es X.env := by rfl) (hpl : (backTo pos (starEach es X.env)).any (·.1) = false := by rfl) : DE X C W (.Call (.Name x p) (e :: es) [] pos) (xCall f mr) :=
  peMono (pe_callB hc hg hm hv ha hn hdb he hpl) fun _ _ _ h => tCB_of hd h
theorem de_cls (hc : CallR X (.type T) r) (hd : CalD C r f) (hg : Gl X x) (hm : X.mg x = none) (hv : bootBuiltins x = some (.type T)) (ha : DA X C W (e :: es) mr) (hn : x ≠ "__name__") (hdb : (x == ("__debug__" : Str)) = false)
    (he : starEach (e :: es) X.env = (false, eval e X.env) :: starEach es X.env := by rfl) (hpl : (backTo pos (starEach es X.env)).any (·.1) = false := by rfl) : DE X C W (.Call (.Name x p) (e :: es) [] pos) (xCall f mr) :=
  peMono (pe_callTy hc hg hm hv ha hn hdb he hpl) fun _ _ _ h => tCB_of hd h
end
section
variable {X : Cx} {C : Kt}
def rLenX (K : PySem.W.Frag) : List V → Hp → VK → Prop := fun xs H Q => (∃ p ys, xs = [.ref p] ∧ (SqL K H p ys ∨ SqT K H p ys) ∧ Q (.int ys.length) H) ∨ ∃ z, xs = [.str z] ∧ z.length ≤ sizeLine ∧ Q (.int z.length) H
theorem call_lenX : CallR X (.builtin "len") (rLenX X.K) := call_len_seq.or call_len_str
theorem cal_len : CalD C (rLenX C.K) fLen := fun W σ H F ρ M vs ds Q m r h => by
  unfold fLen at h
  split at h
  · rename_i s
    cases r with
    | cons r1 r2 =>
      cases r2
      cases r1 with
      | str g =>
        split at h
        · rename_i hz
          refine .inr ⟨_, rfl, by rw [sOf_len, ← lim_eq]; exact hz, ?_⟩
          rw [sOf_len]
          exact PostG.ok h m (.int _)
        · exact h.elim
  · rename_i d _
    split at h
    · rename_i xs e
      cases r with
      | cons r1 r2 =>
        cases r2
        obtain ⟨p, ws, rfl, e1, e2⟩ := seqA_rep m r1 e
        refine .inl ⟨p, ws, rfl, e1, ?_⟩
        rw [e2.length]
        exact PostG.ok h m (.int _)
    · exact h.elim
  · exact h.elim
theorem bools_rep {F : Hp} {ρ : List Addr} : ∀ {vs : List V} {ds : List D} {bs : List Bool}, Reps C F ρ vs ds → allB ds = some bs → vs = bs.map V.bl
  | _, _, _, .nil, e => by cases e; rfl
  | _, _, _, .cons h t, e => by
    cases h <;> first | (simp [allB] at e; done) | skip
    obtain ⟨k, e1, e2⟩ := Option.map_eq_some_iff.mp e
    subst e2
    rw [List.map_cons, ← bools_rep t e1]
theorem ints_rep {F : Hp} {ρ : List Addr} : ∀ {vs : List V} {ds : List D} {bs : List Int}, Reps C F ρ vs ds → allI ds = some bs → vs = bs.map V.int
  | _, _, _, .nil, e => by cases e; rfl
  | _, _, _, .cons h t, e => by
    cases h <;> first | (simp [allI] at e; done) | skip
    obtain ⟨k, e1, e2⟩ := Option.map_eq_some_iff.mp e
    subst e2
    rw [List.map_cons, ← ints_rep t e1]
theorem strs_rep {F : Hp} {ρ : List Addr} : ∀ {vs : List V} {ds : List D} {bs : List T}, Reps C F ρ vs ds → allS ds = some bs → vs = (bs.map sOf).map V.str ∧ ∀ b ∈ bs, good b = true
  | _, _, _, .nil, e => by cases e; exact ⟨rfl, fun _ h => by cases h⟩
  | _, _, _, .cons h t, e => by
    cases h with
    | str g =>
      obtain ⟨k, e1, e2⟩ := Option.map_eq_some_iff.mp e
      subst e2
      obtain ⟨q1, q2⟩ := strs_rep t e1
      refine ⟨by rw [List.map_cons, List.map_cons, ← q1], fun b hb => ?_⟩
      rcases List.mem_cons.mp hb with rfl | hb
      · exact g
      · exact q2 b hb
    | _ => simp [allS] at e
theorem cal_all : CalD C (rAll C.K) fAll := fun W σ H F ρ M vs ds Q m r h => by
  unfold fAll at h
  split at h
  · split at h
    · rename_i d bs e
      obtain ⟨xs, e1, e2⟩ := Option.bind_eq_some_iff.mp e
      cases r with
      | cons r1 r2 =>
        cases r2
        obtain ⟨p, ws, rfl, q1, q2⟩ := seqL_rep m r1 e1
        refine ⟨p, bs, rfl, by rw [← bools_rep q2 e2]; exact q1, PostG.ok h m (.bl _)⟩
    · exact h.elim
  · exact h.elim
theorem cal_any : CalD C (rAny C.K) fAny := fun W σ H F ρ M vs ds Q m r h => by
  unfold fAny at h
  split at h
  · split at h
    · rename_i d bs e
      obtain ⟨xs, e1, e2⟩ := Option.bind_eq_some_iff.mp e
      cases r with
      | cons r1 r2 =>
        cases r2
        obtain ⟨p, ws, rfl, q1, q2⟩ := seqL_rep m r1 e1
        refine ⟨p, bs, rfl, by rw [← bools_rep q2 e2]; exact q1, PostG.ok h m (.bl _)⟩
    · exact h.elim
  · exact h.elim
theorem cal_abs : CalD C (fun xs H Q => ∃ i, xs = [.int i] ∧ Q (.int (if i < 0 then -i else i)) H) fAbs := fun W σ H F ρ M vs ds Q m r h => by
  unfold fAbs at h
  split at h
  · cases r with
    | cons r1 r2 =>
      cases r2; cases r1
      exact ⟨_, rfl, PostG.ok h m (.int _)⟩
  · exact h.elim
theorem cal_max2 : CalD C (fun xs H Q => ∃ i j, xs = [.int i, .int j] ∧ Q (.int (if j > i then j else i)) H) fMax2 := fun W σ H F ρ M vs ds Q m r h => by
  unfold fMax2 at h
  split at h
  · cases r with
    | cons r1 r2 =>
      cases r2 with
      | cons r2 r3 =>
        cases r3; cases r1; cases r2
        exact ⟨_, _, rfl, PostG.ok h m (.int _)⟩
  · exact h.elim
theorem cal_min2 : CalD C (fun xs H Q => ∃ i j, xs = [.int i, .int j] ∧ Q (.int (if j < i then j else i)) H) fMin2 := fun W σ H F ρ M vs ds Q m r h => by
  unfold fMin2 at h
  split at h
  · cases r with
    | cons r1 r2 =>
      cases r2 with
      | cons r2 r3 =>
        cases r3; cases r1; cases r2
        exact ⟨_, _, rfl, PostG.ok h m (.int _)⟩
  · exact h.elim
def rStrX : List V → Hp → VK → Prop := fun xs H Q => (∃ i, xs = [.int i] ∧ i.natAbs.log2 < 1920 ∧ Q (.str (toString i)) H) ∨ ∃ a, xs = [.str a] ∧ Q (.str a) H
theorem call_strX : CallR X (.type "str") rStrX := call_str_int.or SkE.call_str_str
theorem numT_eq (n : Nat) : numT n = TL.numL n := rfl
theorem good_num (n : Nat) : good (numT n) = true := by
  refine List.all_eq_true.mpr fun c hc => ?_
  by_cases q : c < 48 ∨ 57 < c
  · exact absurd hc (TL.numL_free q)
  · simp; omega
theorem cal_str : CalD C rStrX fStr := fun W σ H F ρ M vs ds Q m r h => by
  unfold fStr at h
  split at h
  · rename_i i
    cases r with
    | cons r1 r2 =>
      cases r2; cases r1
      split at h
      · rename_i q
        rw [Bool.and_eq_true, decide_eq_true_eq, decide_eq_true_eq] at q
        obtain ⟨n, rfl⟩ := Int.eq_ofNat_of_zero_le q.1
        refine .inl ⟨_, rfl, ?_, ?_⟩
        · have e : ((n : Nat) : Int).natAbs = n := Int.natAbs_natCast n
          rw [e]
          by_cases h0 : n = 0
          · subst h0; decide
          · rw [Nat.log2_lt h0]
            have h1 : (n : Int) < 10 ^ 60 := q.2
            have h2 : n < 10 ^ 60 := by exact_mod_cast h1
            exact Nat.lt_trans h2 (by decide +kernel)
        · have e := SX.num_S n
          rw [show ((toString ((n : Nat) : Int) : String) : Str) = sOf (numT n) from e]
          exact PostG.ok h m (.str (good_num _))
      · exact h.elim
  · cases r with
    | cons r1 r2 =>
      cases r2
      cases r1 with
      | str g => exact .inr ⟨_, rfl, PostG.ok h m (.str g)⟩
  · exact h.elim
def rIntX : List V → Hp → VK → Prop := fun xs H Q => ((∃ i, xs = [.int i] ∧ Q (.int i) H) ∨ ∃ k, xs = [.bl k] ∧ Q (.int (if k then 1 else 0)) H) ∨ ∃ a n, xs = [.str a] ∧ PySem.intText? a = some n ∧ a.length ≤ 640 ∧ Q (.int n) H
theorem call_intX : CallR X (.type "int") rIntX := call_int1.or call_int_str
theorem cal_int : CalD C rIntX fInt := fun W σ H F ρ M vs ds Q m r h => by
  unfold fInt at h
  split at h
  · cases r with
    | cons r1 r2 =>
      cases r2; cases r1
      exact .inl (.inl ⟨_, rfl, PostG.ok h m (.int _)⟩)
  · cases r with
    | cons r1 r2 =>
      cases r2; cases r1
      exact .inl (.inr ⟨_, rfl, PostG.ok h m (.int _)⟩)
  · rename_i s
    cases r with
    | cons r1 r2 =>
      cases r2
      cases r1 with
      | str g =>
        split at h
        · rename_i q
          rw [Bool.and_eq_true, Bool.and_eq_true, decide_eq_true_eq] at q
          obtain ⟨⟨q1, q2⟩, q3⟩ := q
          have hne : s ≠ [] := by intro z; subst z; simp at q1
          have e := SX.int_S (a := s) q2 hne (by omega)
          exact .inr ⟨_, _, rfl, e, by rw [sOf_len]; exact q3, PostG.ok h m (.int _)⟩
        · exact h.elim
  · exact h.elim
theorem cal_tuple : CalD C (fun xs H Q => ∃ p ys, xs = [.ref p] ∧ ((SqL C.K H p ys ∧ ∀ l, H l = none → Q (.ref l) (upd H l (.tup ys))) ∨ (SqT C.K H p ys ∧ Q (.ref p) H))) fTuple := fun W σ H F ρ M vs ds Q m r h => by
  unfold fTuple at h
  split at h
  · split at h
    · rename_i d xs e
      cases r with
      | cons r1 r2 =>
        cases r2
        unfold seqA at e
        split at e
        · rename_i ys q
          cases e
          obtain ⟨p, ws, rfl, e1, e1', e2⟩ := seqT_rep m r1 q
          exact ⟨p, ws, rfl, .inr ⟨SqT.of e1, PostG.ok h m (.tup e1' e2)⟩⟩
        · obtain ⟨p, ws, rfl, e1, e2⟩ := seqL_rep m r1 e
          exact ⟨p, ws, rfl, .inl ⟨e1, post_tup h m e2⟩⟩
    · exact h.elim
  · exact h.elim
theorem cal_list : CalD C (fun xs H Q => ∃ p ys, xs = [.ref p] ∧ (SqL C.K H p ys ∨ SqT C.K H p ys) ∧ ∀ l, H l = none → Q (.ref l) (upd H l (.lst ys))) fList := fun W σ H F ρ M vs ds Q m r h => by
  unfold fList at h
  split at h
  · split at h
    · rename_i d xs e
      cases r with
      | cons r1 r2 =>
        cases r2
        obtain ⟨p, ws, rfl, e1, e2⟩ := seqA_rep m r1 e
        exact ⟨p, ws, rfl, e1, post_lst h m e2⟩
    · exact h.elim
  · exact h.elim
/-! ### isinstance -/
theorem tyX_rep {H F : Hp} {ρ : List Addr} {M : Mh} {v : V} {d : D} {t : String} (m : RelM C F ρ H M) (r : Rep C F ρ v d) (h : tyOf M d = some t) : TyX C.K H v (.type t) := by
  cases r with
  | non => cases h; exact .base .non
  | bl b => cases h; exact .base (.bl b)
  | int i => cases h; exact .base (.int i)
  | str g => cases h; exact .base (.str _)
  | lst q _ => cases h; exact .base (.lst (m.sub _ _ q))
  | frz q _ =>
    cases h
    rcases m.sub.sql q with (z | ⟨o, z⟩) | ⟨o, its, n, z1, z2, _⟩
    · exact .base (.lst z)
    · exact .base (.frz z)
    · exact .kList z1 z2
  | tup q _ => cases h; exact .base (.tup (m.sub _ _ q))
  | emp q => cases h; exact .base (.dK (m.sub _ _ q))
  | @ref n a q =>
    dsimp only [tyOf] at h
    split at h
    · rename_i xs e
      cases h
      obtain ⟨b, ho, e1, e2, e3, e4⟩ := m.at e
      rw [q] at e1; cases e1
      cases ho <;> first | exact e4.elim | skip
      exact .base (.lst e3)
    · cases h
  | _ => cases h
theorem kit_tab {t n : String} (h1 : kinds.contains t = true) (h2 : kinds.contains n = true) : PySem.W.kitOne C.K (.type t) (.type n) = some (kindIs t n) := by
  refine kit_ty ?_
  have key : kinds.all (fun t => kinds.all fun n => decide (kitB t n = some (kindIs t n))) = true := by decide +kernel
  have k1 := List.all_eq_true.mp key t (by simpa using h1)
  exact of_decide_eq_true (List.all_eq_true.mp k1 n (by simpa using h2))
def rIsX (K : PySem.W.Frag) : List V → Hp → VK → Prop := fun xs H Q => rIsi K xs H Q ∨ rIsiT K xs H Q
theorem call_isX : CallR X (.builtin "isinstance") (rIsX X.K) := call_isi.or call_isiT
theorem tys_rep {F : Hp} {ρ : List Addr} {t : String} (h1 : kinds.contains t = true) : ∀ {vs : List V} {ds : List D} {ns : List String}, Reps C F ρ vs ds → allTy ds = some ns → ns.all kinds.contains = true →
    ∃ us, Paired ClsV vs us ∧ PySem.W.kitAny C.K (.type t) us = some (ns.any (kindIs t))
  | _, _, _, .nil, e, _ => by cases e; exact ⟨[], .nil, kitAny_nil⟩
  | _, _, _, .cons h q, e, k => by
    cases h with
    | ty n =>
      obtain ⟨ns, e1, e2⟩ := Option.map_eq_some_iff.mp e
      subst e2
      rw [List.all_cons, Bool.and_eq_true] at k
      obtain ⟨us, p1, p2⟩ := tys_rep h1 q e1 k.2
      refine ⟨_, .cons (.ty n) p1, ?_⟩
      rw [List.any_cons]
      exact kitAny_cons (kit_tab h1 k.1) (fun z => by rw [z, Bool.false_or]; exact p2) fun z => by rw [z]; rfl
    | _ => simp [allTy] at e
theorem cal_isi : CalD C (rIsX C.K) fIsi := fun W σ H F ρ M vs ds Q m r h => by
  unfold fIsi at h
  split at h
  · split at h
    · rename_i d n _ t e
      split at h
      · rename_i q
        rw [Bool.and_eq_true] at q
        cases r with
        | cons r1 r2 =>
          cases r2 with
          | cons r2 r3 =>
            cases r3; cases r2
            exact .inl ⟨_, _, _, _, _, rfl, .ty n, tyX_rep m r1 e, kit_tab q.1 q.2, PostG.ok h m (.bl _)⟩
      · exact h.elim
    · exact h.elim
  · split at h
    · rename_i d ys _ _ t ns e1 e2
      split at h
      · rename_i q
        rw [Bool.and_eq_true] at q
        cases r with
        | cons r1 r2 =>
          cases r2 with
          | cons r2 r3 =>
            cases r3
            cases r2 with
            | tup z1 z2 =>
              obtain ⟨us, p1, p2⟩ := tys_rep q.1 z2 e2 q.2
              exact .inr ⟨_, _, _, _, us, _, rfl, m.sub _ _ z1, p1, tyX_rep m r1 e1, p2, PostG.ok h m (.bl _)⟩
      · exact h.elim
    · exact h.elim
  · exact h.elim
end
/-! ### methods -/
section
variable {X : Cx} {C : Kt} {W : WX} {o e : Expr} {es : List Expr} {mo : ME} {mr : MA} {name : Str} {apos cpos : Pos} {TY id : String} {r : V → List V → Hp → VK → Prop} {f : D → List D → R D}
def MetD (C : Kt) (r : V → List V → Hp → VK → Prop) (f : D → List D → R D) : Prop := ∀ (W : WX) (σ : L2.St) (H F : Hp) (ρ : List Addr) (M : Mh) (x : V) (d : D) (vs : List V) (ds : List D) (Q : VK), RelM C F ρ H M → Rep C F ρ x d → Reps C F ρ vs ds → PostD C W σ H F ρ (f d ds M) Q → r x vs H Q
theorem tyV_rep {H F : Hp} {ρ : List Addr} {M : Mh} {v : V} {d : D} {t : String} (ht : t = "str" ∨ t = "list") (m : RelM C F ρ H M) (r : Rep C F ρ v d) (h : tyOf M d = some t) : tyV C.K t v H := by
  cases r with
  | str g => cases h; exact rfl
  | lst q _ => cases h; exact .inl ⟨rfl, _, SqL.of (m.sub _ _ q)⟩
  | frz q _ => cases h; exact .inl ⟨rfl, _, m.sub.sql q⟩
  | @ref n a q =>
    dsimp only [tyOf] at h
    split at h
    · rename_i xs e
      cases h
      obtain ⟨b, ho, e1, e2, e3, e4⟩ := m.at e
      rw [q] at e1; cases e1
      cases ho <;> first | exact e4.elim | skip
      exact .inl ⟨rfl, _, SqL.of e3⟩
    · cases h
  | non => cases h; rcases ht with z | z <;> exact absurd z (by decide)
  | bl _ => cases h; rcases ht with z | z <;> exact absurd z (by decide)
  | int _ => cases h; rcases ht with z | z <;> exact absurd z (by decide)
  | tup _ _ => cases h; rcases ht with z | z <;> exact absurd z (by decide)
  | emp _ => cases h; rcases ht with z | z <;> exact absurd z (by decide)
  | _ => cases h
theorem tBM_of {σ : L2.St} {H : Hp} {Q : VK} (hK : C.K = X.K) (ht : TY = "str" ∨ TY = "list") (hd : MetD C r f) (h : tE C W (xMeth TY f mo mr) σ H Q) : tBM X.K TY r (tE C W mo) (tA C W mr) σ H Q := by
  obtain ⟨F, ρ, en, M, he, hm, hp⟩ := h
  refine ⟨F, ρ, en, M, he, hm, (PostG.bind hp).imp fun x H1 ⟨d, F1, ρ1, M1, s1, m1, r1, p1⟩ => ?_⟩
  split at p1
  · rename_i ety
    refine ⟨by rw [← hK]; exact tyV_rep ht m1 r1 ety, F1, ρ1, en, M1, he.step s1, m1, (PostG.bind p1).imp fun xs H2 ⟨ds, F2, ρ2, M2, s2, m2, r2, p2⟩ => ?_⟩
    exact hd W σ H2 F2 ρ2 M2 x d xs ds Q m2 (r1.mono s2.f s2.r) r2 p2
  · exact p1.elim
theorem de_meth (hK : C.K = X.K) (ht : TY = "str" ∨ TY = "list") (pa : PlainAttrs TY) (slot : Slot TY name id) (hty : typeOf (.builtin id) = pure (.type "method_descriptor")) (hm : MtR X id r) (hd : MetD C r f) (ho : DE X C W o mo) (ha : DA X C W (e :: es) mr)
    (hbase : attributeBase o name X.env (eval o X.env) = eval o X.env := by rfl)
    (hfew : ((backTo cpos (starEach (e :: es) X.env)).all (fun x => !x.1) && (backToKw cpos (keywordEach [] X.env)).all (fun x => x.1.isSome)
      && decide ((e :: es).length + ([] : List Keyword).length + (if ([] : List Keyword).isEmpty then 0 else 1) < 30)) = true := by rfl) (hline : (apos.endLine == cpos.line) = true := by rfl)
    (he : starEach (e :: es) X.env = (false, eval e X.env) :: starEach es X.env := by rfl) (hpl : (backTo cpos (starEach es X.env)).any (·.1) = false := by rfl) :
    DE X C W (.Call (.Attribute o name apos) (e :: es) [] cpos) (xMeth TY f mo mr) :=
  peMono (pe_bm pa slot hty hm ho ha hbase hfew hline he hpl) fun _ _ _ h => tBM_of hK ht hd h
theorem joinT_eq (s : T) : ∀ ps : List T, joinT s ps = TL.joinL s ps
  | [] => rfl
  | [_] => rfl
  | p :: q :: r => by
    show p ++ (s ++ joinT s (q :: r)) = p ++ (s ++ TL.joinL s (q :: r))
    rw [joinT_eq s (q :: r)]
theorem good_join {s : T} (hs : good s = true) : ∀ {ps : List T}, (∀ p ∈ ps, good p = true) → good (joinT s ps) = true
  | [], _ => rfl
  | [p], h => h p (List.mem_singleton.mpr rfl)
  | p :: q :: r, h => good_append (h p List.mem_cons_self) (good_append hs (good_join hs fun z hz => h z (List.mem_cons_of_mem _ hz)))
theorem met_join : MetD C (fun x xs H Q => ∃ a p, ∃ ys : List Str, x = .str a ∧ xs = [.ref p] ∧ (SqL C.K H p (ys.map V.str) ∨ SqT C.K H p (ys.map V.str)) ∧ (ys.map (·.length)).sum + ys.length * a.length ≤ 16777216 ∧ Q (.str (Txt.join a ys)) H) mJoin :=
  fun W σ H F ρ M x d vs ds Q m rx r h => by
    unfold mJoin at h
    split at h
    · rename_i s y
      split at h
      · rename_i ps e
        split at h
        · rename_i hz
          obtain ⟨xs, e1, e2⟩ := Option.bind_eq_some_iff.mp e
          cases r with
          | cons r1 r2 =>
            cases r2
            cases rx with
            | str g =>
              obtain ⟨p, ws, rfl, q1, q2⟩ := seqA_rep m r1 e1
              obtain ⟨z1, z2⟩ := strs_rep q2 e2
              subst z1
              refine ⟨_, p, ps.map sOf, rfl, rfl, q1, ?_, ?_⟩
              · rw [SX.lens, List.length_map, sOf_len]
                exact hz
              · rw [SX.join_S, ← joinT_eq]
                exact PostG.ok h m (.str (good_join g z2))
        · exact h.elim
      · exact h.elim
    · exact h.elim
theorem preT_eq (s l : T) : preT s l = TL.pre s l := rfl
theorem splT_eq (s : T) : ∀ (l : T) (k : Nat) (acc : T), splT s k acc l = TL.spl s k acc l
  | [], k, acc => by rw [TL.spl_nil]; cases k <;> rfl
  | c :: r, 0, acc => by
    rw [splT]
    by_cases q : preT s (c :: r) = true
    · rw [if_pos q, TL.spl_hit q, splT_eq s r]
    · rw [if_neg q, TL.spl_miss (by rw [← preT_eq]; exact Bool.eq_false_iff.mpr q), splT_eq s r]
  | c :: r, k + 1, acc => by
    rw [splT, splT_eq s r]
    rfl
theorem good_spl {s : T} : ∀ (l : T) (k : Nat) (acc : T), good acc = true → good l = true → ∀ p ∈ splT s k acc l, good p = true
  | [], k, acc, ha, _, p, hp => by
    have e : splT s k acc [] = [acc] := by cases k <;> rfl
    rw [e] at hp
    rw [List.mem_singleton.mp hp]; exact ha
  | c :: r, 0, acc, ha, hl, p, hp => by
    have hc : good [c] = true ∧ good r = true := by
      unfold good at hl ⊢
      rw [List.all_cons, Bool.and_eq_true] at hl
      exact ⟨by simpa using hl.1, hl.2⟩
    rw [splT] at hp
    split at hp
    · rcases List.mem_cons.mp hp with rfl | hp
      · exact ha
      · exact good_spl r _ [] rfl hc.2 p hp
    · exact good_spl r 0 _ (good_append ha hc.1) hc.2 p hp
  | c :: r, k + 1, acc, ha, hl, p, hp => by
    have hc : good r = true := by
      unfold good at hl ⊢
      rw [List.all_cons, Bool.and_eq_true] at hl
      exact hl.2
    rw [splT] at hp
    exact good_spl r k acc ha hc p hp
theorem strs_reps {F : Hp} {ρ : List Addr} : ∀ {ps : List T}, (∀ p ∈ ps, good p = true) → Reps C F ρ ((ps.map sOf).map V.str) (ps.map .str)
  | [], _ => .nil
  | p :: r, h => .cons (.str (h p List.mem_cons_self)) (strs_reps fun z hz => h z (List.mem_cons_of_mem _ hz))
theorem met_split : MetD C (fun x xs H Q => ∃ a b, x = .str a ∧ xs = [.str b] ∧ (b.length == 0) = false ∧ a.length + 2 ≤ sizeLine ∧ rNewStrs (Txt.split a b) H Q) mSplit := fun W σ H F ρ M x d vs ds Q m rx r h => by
  unfold mSplit at h
  split at h
  · rename_i a b
    split at h
    · rename_i q
      rw [Bool.and_eq_true, Bool.and_eq_true, decide_eq_true_eq] at q
      obtain ⟨⟨q1, q2⟩, q3⟩ := q
      have hne : b ≠ [] := by intro z; subst z; simp at q1
      cases r with
      | cons r1 r2 =>
        cases r2
        cases r1 with
        | str g1 =>
          cases rx with
          | str g2 =>
            refine ⟨_, _, rfl, rfl, ?_, by rw [sOf_len, ← lim_eq]; exact q3, fun p hp => ?_⟩
            · rw [sOf_len]
              cases b with
              | nil => exact absurd rfl hne
              | cons _ _ => rfl
            · rw [SX.split_S hne q2, ← splT_eq]
              exact post_lst h m (strs_reps (good_spl a 0 [] rfl g2)) p hp
    · exact h.elim
  · exact h.elim
/-- list.count of flat data -/
def rCntX (K : PySem.W.Frag) : V → List V → Hp → VK → Prop := fun x xs H Q => ∃ (p : Addr) (ys : List V) (y : V), x = .ref p ∧ xs = [y] ∧ SqL K H p ys ∧ flatV y = true ∧ ys.all flatV = true ∧ Q (.int (ys.countP fun z => eqV z y : Nat)) H
theorem countU {y : V} : ∀ {ys : List V} {us : List Value}, Vals ys us → ys.all flatV = true → us.countP (eqU y) = ys.countP fun z => eqV z y
  | _, _, .nil, _ => rfl
  | _, _, .cons r t, f => by
    rw [List.all_cons, Bool.and_eq_true] at f
    rw [List.countP_cons, List.countP_cons, countU t f.2, eqU_of r f.1]
theorem mt_cntX : MtR X "list.count" (rCntX X.K) := by
  intro pins s σ H x xs v us Q I rx rxs h
  obtain ⟨p, ys, y, rfl, rfl, hs, fy, fys, q⟩ := h
  cases rx
  cases rxs with
  | cons ry rt =>
    rename_i uy ut
    cases rt
    obtain ⟨its, rv, ⟨⟨cls, dd, data, sl⟩, n, ho, hc, hdn, hd⟩, hlen⟩ := I.list hs
    simp only at hc hd
    subst hc hd
    refine call_meets PySem.F.slot_list_count ⟨_, ho, rfl⟩ PySem.F.entry_list_count (PySem.F.args_list_count_2 _ _)
      (SeqAt.list_countAt p its.toArray n dd sl uy (eqU y)) ⟨ho, fun u hu => mem_eqAt ry fy rv fys u (by simpa using hu), ?_⟩
    refine ⟨.int _, H, I.tok _, ⟨s.toks, ?_⟩, q⟩
    show Value.int ((its.toArray.toList.countP (eqU y) : Nat) : Int) s.toks = _
    rw [List.toList_toArray, countU rv fys]
theorem countD {F : Hp} {ρ : List Addr} {v : V} {d : D} (r : Rep C F ρ v d) (h : flatD d = true) : ∀ {vs : List V} {ds : List D}, Reps C F ρ vs ds → ds.all flatD = true → (vs.countP fun z => eqV z v) = ds.countP fun z => eqD z d
  | _, _, .nil, _ => rfl
  | _, _, .cons p t, q => by
    rw [List.all_cons, Bool.and_eq_true] at q
    rw [List.countP_cons, List.countP_cons, countD r h t q.2, eqV_rep p r q.1 h]
theorem met_count : MetD C (rCntX C.K) mCount := fun W σ H F ρ M x d vs ds Q m rx r h => by
  unfold mCount at h
  split at h
  · split at h
    · rename_i y _ xs e
      split at h
      · rename_i q
        rw [Bool.and_eq_true] at q
        cases r with
        | cons r1 r2 =>
          cases r2
          obtain ⟨p, ws, rfl, q1, q2⟩ := seqL_rep m rx e
          refine ⟨p, ws, _, rfl, rfl, q1, flatV_rep r1 q.1, flatVs_rep q2 q.2, ?_⟩
          rw [countD r1 q.1 q2 q.2]
          exact PostG.ok h m (.int _)
      · exact h.elim
    · exact h.elim
  · exact h.elim
theorem met_index : MetD C (rIndex C.K) mIndex := fun W σ H F ρ M x d vs ds Q m rx r h => by
  unfold mIndex at h
  split at h
  · split at h
    · rename_i y _ xs e
      split at h
      · rename_i q
        rw [Bool.and_eq_true] at q
        split at h
        · rename_i k ek
          cases r with
          | cons r1 r2 =>
            cases r2
            obtain ⟨p, ws, rfl, q1, q2⟩ := seqL_rep m rx e
            obtain ⟨h1, h2, h3⟩ := List.findIdx?_eq_some_iff_getElem.mp ek
            obtain ⟨z, ez, rz⟩ := q2.get (List.getElem?_eq_getElem h1)
            have fk : flatD xs[k] = true := List.all_eq_true.mp q.2 _ (List.getElem_mem h1)
            refine ⟨p, ws, _, k, z, rfl, rfl, q1, flatV_rep r1 q.1, flatVs_rep q2 q.2, ez, by rw [eqV_rep rz r1 fk q.1]; exact h2, fun j z' hj ez' => ?_, PostG.ok h m (.int _)⟩
            obtain ⟨w, ew, rw'⟩ := q2.get (List.getElem?_eq_getElem (Nat.lt_trans hj h1))
            rw [ez'] at ew; cases ew
            have fj : flatD xs[j] = true := List.all_eq_true.mp q.2 _ (List.getElem_mem _)
            rw [eqV_rep rw' r1 fj q.1]
            simpa using h3 j hj
        · exact h.elim
      · exact h.elim
    · exact h.elim
  · exact h.elim
end
/-! ### subscripts -/
section
variable {X : Cx} {C : Kt} {W : WX} {a b : Expr} {ma mb : ME} {pos p2 : Pos} {lo hi : Option Expr} {ml mh : En → R (Option Int)}
theorem atD_rep {F : Hp} {ρ : List Addr} {vs : List V} {ds : List D} {i : Int} {d : D} (r : Reps C F ρ vs ds) (h : atD ds i = some d) : ∃ v, atI vs i = some v ∧ Rep C F ρ v d := by
  unfold atD at h
  obtain ⟨k, e1, e2⟩ := Option.bind_eq_some_iff.mp h
  obtain ⟨v, h1, h2⟩ := r.get e2
  refine ⟨v, ?_, h2⟩
  have e : ixN vs.length i = some k := by
    rw [r.length, ← e1]
    unfold ixN ixAt
    split
    · rfl
    · by_cases q : 0 ≤ i + (ds.length : Int)
      · rw [if_pos q, if_pos (by omega)]
      · rw [if_neg q, if_neg (by omega)]
  unfold atI
  rw [e]
  exact h1
theorem opd_ix : OpD C (rIx C.K) dIx := fun W σ H F ρ M x y a b Q m ra rb h => by
  unfold dIx at h
  split at h
  · rename_i i
    cases rb
    split at h
    · rename_i s
      split at h
      · rename_i c e
        split at h
        · rename_i hz
          cases ra with
          | str g =>
            refine .inr (.inr ⟨_, _, c, rfl, rfl, by rw [sOf_len, ← lim_eq]; exact hz, ?_, PostG.ok h m (.str ?_)⟩)
            · obtain ⟨k, e1, e2⟩ := Option.bind_eq_some_iff.mp e
              have q : ixN s.length i = some k := by
                rw [← e1]
                unfold ixN ixAt
                split
                · rfl
                · by_cases q : 0 ≤ i + (s.length : Int)
                  · rw [if_pos q, if_pos (by omega)]
                  · rw [if_neg q, if_neg (by omega)]
              unfold atI
              show (ixN s.length i).bind (fun j => s[j]?) = some c
              rw [q]
              exact e2
            · obtain ⟨k, e1, e2⟩ := Option.bind_eq_some_iff.mp e
              exact good_mem g fun z hz => by
                rw [List.mem_singleton.mp hz]
                exact List.mem_of_getElem? e2
        · exact h.elim
      · exact h.elim
    · split at h
      · rename_i xs e
        split at h
        · rename_i d ed
          obtain ⟨p, vs, rfl, e1, e2⟩ := seqA_rep m ra e
          obtain ⟨v, h1, h2⟩ := atD_rep e2 ed
          rcases e1 with e1 | e1
          · exact .inl ⟨p, vs, i, v, rfl, rfl, e1, h1, PostG.ok h m h2⟩
          · exact .inr (.inl ⟨p, vs, i, v, rfl, rfl, e1, h1, PostG.ok h m h2⟩)
        · exact h.elim
      · exact h.elim
  · exact h.elim
theorem de_ix (hK : C.K = X.K) (ha : DE X C W a ma) (hb : DE X C W b mb) (hs : PlainIx b := by exact fun _ _ => rfl) : DE X C W (.Subscript a b pos) (xBin dIx ma mb) := by
  have hr : IxR X (rIx C.K) := by rw [hK]; exact ix_seq
  exact peMono (pe_ix hr ha hb hs) fun _ _ _ h => tOp_of opd_ix h
def tO (C : Kt) (W : WX) (m : En → R (Option Int)) : TO := fun σ H Q => ∃ F ρ e M, RelE C F ρ σ e ∧ RelM C F ρ H M ∧ PostG C W σ H F ρ (fun _ _ b a => b = a) (m e M) Q
theorem do_none : PO X none (tO C W oNone) := ⟨fun pins s σ H Q I h => by
  obtain ⟨F, ρ, en, M, he, hm, hp⟩ := h
  exact po_none.run pins s σ H Q I (PostG.ok hp hm rfl)⟩
theorem do_some (ha : DE X C W a ma) : PO X (some a) (tO C W (oSome ma)) := ⟨fun pins s σ H Q I h => by
  obtain ⟨F, ρ, en, M, he, hm, hp⟩ := h
  refine (po_some ha).run pins s σ H Q I ⟨F, ρ, en, M, he, hm, (PostG.bind hp).imp fun x H1 ⟨d, F1, ρ1, M1, s1, m1, r1, p1⟩ => ?_⟩
  cases r1 <;> first | exact p1.elim | exact ⟨_, rfl, PostG.ok p1 m1 rfl⟩⟩
def rSlX (K : PySem.W.Frag) : V → Option Int → Option Int → Hp → VK → Prop := fun x lo hi H Q => rSlL K x lo hi H Q ∨ rSlA K x lo hi H Q ∨ rSlS x lo hi H Q
theorem sl_X : SlR X (rSlX X.K) := sl_list.or (sl_tupA.or sl_str)
theorem cut_eq {α : Type} (xs : List α) (lo hi : Option Int) : cutD xs lo hi = (xs.drop (HT.sIx xs.length 0 lo)).take (HT.sIx xs.length xs.length hi - HT.sIx xs.length 0 lo) := by
  unfold cutD
  cases lo <;> cases hi <;> rfl
theorem Reps.cut {F : Hp} {ρ : List Addr} {vs : List V} {ds : List D} (r : Reps C F ρ vs ds) (lo hi : Option Int) : Reps C F ρ (cutV vs lo hi) (cutD ds lo hi) := by
  rw [cut_eq]
  unfold cutV
  rw [r.length]
  exact (r.drop _).take _
theorem cutD_whole {α : Type} {xs : List α} {lo hi : Option Int} (h : HT.sIx xs.length 0 lo = 0 ∧ HT.sIx xs.length xs.length hi = xs.length) : cutD xs lo hi = xs := by
  rw [cut_eq, h.1, h.2]
  simp
theorem sl_of {σ : L2.St} {H F : Hp} {ρ : List Addr} {M : Mh} {x : V} {d : D} {l u : Option Int} {Q : VK} (m : RelM C F ρ H M) (r : Rep C F ρ x d) (h : PostD C W σ H F ρ (dCut d l u M) Q) : rSlX C.K x l u H Q := by
  unfold dCut at h
  split at h
  · cases r with
    | tup q1 q2 =>
      refine .inr (.inl ⟨_, _, rfl, SqT.of (m.sub _ _ q1), fun z => PostG.ok h m ?_, fun _ => post_tup h m (q2.cut l u)⟩)
      rw [q2.length] at z
      rw [cutD_whole z]
      exact .tup q1 q2
  · rename_i s
    split at h
    · rename_i hz
      cases r with
      | str g =>
        refine .inr (.inr ⟨_, rfl, by rw [sOf_len, ← lim_eq]; exact hz, ?_⟩)
        have e : cutS (sOf s) l u = sOf (cutD s l u) := by
          rw [cut_eq]
          unfold cutS
          rw [sOf_len]
        rw [e]
        refine PostG.ok h m (.str (good_mem g fun c hc => ?_))
        rw [cut_eq] at hc
        exact List.mem_of_mem_drop (List.mem_of_mem_take hc)
    · exact h.elim
  · split at h
    · rename_i xs e
      obtain ⟨p, vs, rfl, e1, e2⟩ := seqL_rep m r e
      exact .inl ⟨p, vs, rfl, e1, post_lst h m (e2.cut l u)⟩
    · exact h.elim
theorem de_cut (hK : C.K = X.K) (ha : DE X C W a ma) (hl : PO X lo (tO C W ml)) (hu : PO X hi (tO C W mh)) : DE X C W (.Subscript a (.Slice lo hi none p2) pos) (xCut ma ml mh) := by
  have hr : SlR X (rSlX C.K) := by rw [hK]; exact sl_X
  refine peMono (pe_slice hr ha hl hu) fun σ H Q h => ?_
  obtain ⟨F, ρ, en, M, he, hm, hp⟩ := h
  refine ⟨F, ρ, en, M, he, hm, (PostG.bind hp).imp fun x H1 ⟨d, F1, ρ1, M1, s1, m1, r1, p1⟩ => ⟨F1, ρ1, en, M1, he.step s1, m1, (PostG.bind p1).imp fun l H2 ⟨l', F2, ρ2, M2, s2, m2, r2, p2⟩ =>
    ⟨F2, ρ2, en, M2, (he.step s1).step s2, m2, (PostG.bind p2).imp fun u H3 ⟨u', F3, ρ3, M3, s3, m3, r3, p3⟩ => ?_⟩⟩⟩
  subst r2 r3
  exact sl_of m3 (r1.mono (s2.trans s3).f (s2.trans s3).r) p3
end
/-! ### truths -/
section
variable {X : Cx} {C : Kt} {W : WX} {a b c : Expr} {rest : List Expr} {ma mb : ME} {ta tb : MT} {pos : Pos}
abbrev DW (X : Cx) (C : Kt) (W : WX) (e : Expr) (m : MT) : Prop := PW X e (tT C W m)
theorem dt_of_w (h : DW X C W a ta) : DT X C W a ta := h.pt
theorem dw_and1 (ha : DT X C W a ta) : DW X C W (.BoolOp .And [a] pos) ta := pw_and1 ha
theorem dw_or1 (ha : DT X C W a ta) : DW X C W (.BoolOp .Or [a] pos) ta := pw_or1 ha
theorem dw_and (ha : DT X C W a ta) (hb : DW X C W (.BoolOp .And (b :: rest) pos) tb) : DW X C W (.BoolOp .And (a :: b :: rest) pos) (G.tAnd ta tb) := by
  refine pwMono (pw_and ha hb) fun σ H Q h => ?_
  obtain ⟨F, ρ, en, M, he, hm, hp⟩ := h
  refine ⟨F, ρ, en, M, he, hm, (PostG.bind hp).imp fun c H1 ⟨d, F1, ρ1, M1, s1, m1, r1, p1⟩ => ?_⟩
  subst r1
  cases c with
  | true =>
    rw [if_pos rfl] at p1 ⊢
    exact ⟨F1, ρ1, en, M1, he.step s1, m1, p1⟩
  | false =>
    rw [if_neg (by decide)] at p1 ⊢
    exact PostG.ok p1 m1 rfl
theorem dw_or (ha : DT X C W a ta) (hb : DW X C W (.BoolOp .Or (b :: rest) pos) tb) : DW X C W (.BoolOp .Or (a :: b :: rest) pos) (G.tOr ta tb) := by
  refine pwMono (pw_or ha hb) fun σ H Q h => ?_
  obtain ⟨F, ρ, en, M, he, hm, hp⟩ := h
  refine ⟨F, ρ, en, M, he, hm, (PostG.bind hp).imp fun c H1 ⟨d, F1, ρ1, M1, s1, m1, r1, p1⟩ => ?_⟩
  subst r1
  cases c with
  | true =>
    rw [if_pos rfl] at p1 ⊢
    exact PostG.ok p1 m1 rfl
  | false =>
    rw [if_neg (by decide)] at p1 ⊢
    exact ⟨F1, ρ1, en, M1, he.step s1, m1, p1⟩
theorem dt_not (ha : DT X C W a ta) : DT X C W (.UnaryOp .Not a pos) (G.tNot ta) := by
  refine ptMono (pt_not ha) fun σ H Q h => ?_
  obtain ⟨F, ρ, en, M, he, hm, hp⟩ := h
  refine ⟨F, ρ, en, M, he, hm, (PostG.bind hp).imp fun c H1 ⟨d, F1, ρ1, M1, s1, m1, r1, p1⟩ => ?_⟩
  subst r1
  exact PostG.ok p1 m1 rfl
theorem tru_rep {σ : L2.St} {H F : Hp} {ρ : List Addr} {M : Mh} {x : V} {d : D} {Q : Bool → Hp → Prop} (m : RelM C F ρ H M) (r : Rep C F ρ x d) (h : PostB C W σ H F ρ (dTru d M) Q) : ∃ k, TruV C.K x H k ∧ dTru d M = .ok k M ∧ Q k H := by
  unfold dTru at h ⊢
  split at h
  · cases r; exact ⟨_, rfl, rfl, PostG.ok h m rfl⟩
  · cases r; exact ⟨_, rfl, rfl, PostG.ok h m rfl⟩
  · cases r; exact ⟨_, rfl, rfl, PostG.ok h m rfl⟩
  · rename_i s
    split at h
    · rename_i hz
      cases r with
      | str g =>
        refine ⟨_, ⟨by rw [sOf_len, ← lim_eq]; exact hz, ?_⟩, by rw [if_pos hz], PostG.ok h m rfl⟩
        rw [sOf_len]
        cases s <;> simp
        omega
    · exact h.elim
  · split at h
    · rename_i xs e
      obtain ⟨p, vs, rfl, e1, e2⟩ := seqA_rep m r e
      refine ⟨!xs.isEmpty, ?_, by first | rfl | rw [e], PostG.ok h m rfl⟩
      have ee : (!xs.isEmpty) = !vs.isEmpty := by cases e2 <;> rfl
      rw [ee]
      rcases e1 with e1 | e1
      · exact .inl ⟨vs, e1, rfl⟩
      · exact .inr (.inl ⟨vs, e1, rfl⟩)
    · exact h.elim
theorem dt_tru (hK : C.K = X.K) (ha : DE X C W a ma) (he : ∀ whole, isTrue a X.env whole = (do let v ← whole; standAt a.pos; holding [v] (truthy v)) := by intro _; rfl) : DT X C W a (tTru ma) := by
  refine ptMono (pt_truth ha he) fun σ H Q h => ?_
  obtain ⟨F, ρ, en, M, he, hm, hp⟩ := h
  refine ⟨F, ρ, en, M, he, hm, (PostG.bind hp).imp fun x H1 ⟨d, F1, ρ1, M1, s1, m1, r1, p1⟩ => ?_⟩
  obtain ⟨k, h1, _, h2⟩ := tru_rep m1 r1 p1
  exact ⟨k, by rw [← hK]; exact h1, h2⟩
theorem de_if (hc : DT X C W c ta) (ha : DE X C W a ma) (hb : DE X C W b mb) : DE X C W (.IfExp c a b pos) (xIf ta ma mb) := by
  refine peMono (pe_ifExp hc ha hb) fun σ H Q h => ?_
  obtain ⟨F, ρ, en, M, he, hm, hp⟩ := h
  refine ⟨F, ρ, en, M, he, hm, (PostG.bind hp).imp fun k H1 ⟨d, F1, ρ1, M1, s1, m1, r1, p1⟩ => ?_⟩
  subst r1
  cases k with
  | true =>
    rw [if_pos rfl] at p1 ⊢
    exact ⟨F1, ρ1, en, M1, he.step s1, m1, p1⟩
  | false =>
    rw [if_neg (by decide)] at p1 ⊢
    exact ⟨F1, ρ1, en, M1, he.step s1, m1, p1⟩
theorem de_one {op : BoolOp} (h : DE X C W a ma) : DE X C W (.BoolOp op [a] pos) ma := pe_one h
theorem de_and (ha : DE X C W a ma) (hb : DE X C W (.BoolOp .And (b :: rest) pos) mb) : DE X C W (.BoolOp .And (a :: b :: rest) pos) (xAnd ma mb) := by
  refine peMono (pe_and ha hb) fun σ H Q h => ?_
  obtain ⟨F, ρ, en, M, he, hm, hp⟩ := h
  refine ⟨F, ρ, en, M, he, hm, (PostG.bind hp).imp fun k H1 ⟨d, F1, ρ1, M1, s1, m1, r1, p1⟩ => ?_⟩
  cases r1 with
  | bl k =>
    refine ⟨k, rfl, ?_⟩
    cases k with
    | true =>
      rw [if_pos rfl]
      exact ⟨F1, ρ1, en, M1, he.step s1, m1, p1⟩
    | false =>
      rw [if_neg (by decide)]
      exact PostG.ok p1 m1 (.bl false)
  | _ => exact p1.elim
theorem de_or (ha : DE X C W a ma) (hb : DE X C W (.BoolOp .Or (b :: rest) pos) mb) : DE X C W (.BoolOp .Or (a :: b :: rest) pos) (xOr ma mb) := by
  refine peMono (pe_or ha hb) fun σ H Q h => ?_
  obtain ⟨F, ρ, en, M, he, hm, hp⟩ := h
  refine ⟨F, ρ, en, M, he, hm, (PostG.bind hp).imp fun k H1 ⟨d, F1, ρ1, M1, s1, m1, r1, p1⟩ => ?_⟩
  cases r1 with
  | bl k =>
    refine ⟨k, rfl, ?_⟩
    cases k with
    | true =>
      rw [if_pos rfl]
      exact PostG.ok p1 m1 (.bl true)
    | false =>
      rw [if_neg (by decide)]
      exact ⟨F1, ρ1, en, M1, he.step s1, m1, p1⟩
  | _ => exact p1.elim
theorem de_orT (hK : C.K = X.K) (ha : DE X C W a ma) (hb : DE X C W (.BoolOp .Or (b :: rest) pos) mb) : DE X C W (.BoolOp .Or (a :: b :: rest) pos) (xOrT ma mb) := by
  refine peMono (pe_orT ha hb) fun σ H Q h => ?_
  obtain ⟨F, ρ, en, M, he, hm, hp⟩ := h
  refine ⟨F, ρ, en, M, he, hm, (PostG.bind hp).imp fun x H1 ⟨d, F1, ρ1, M1, s1, m1, r1, p1⟩ => ?_⟩
  obtain ⟨k, h1, _, k', F2, ρ2, M2, s2, m2, r2, p2⟩ := tru_rep m1 r1 (PostG.bind p1)
  refine ⟨k, by rw [← hK]; exact h1, ?_⟩
  subst r2
  cases k with
  | true =>
    rw [if_pos rfl] at p2 ⊢
    exact PostG.ok p2 m2 (r1.mono s2.f s2.r)
  | false =>
    rw [if_neg (by decide)] at p2 ⊢
    exact ⟨F2, ρ2, en, M2, (he.step s1).step s2, m2, p2⟩
theorem de_not (ha : DE X C W a ma) : DE X C W (.UnaryOp .Not a pos) (xNot ma) := by
  refine peMono (pe_not ha) fun σ H Q h => ?_
  obtain ⟨F, ρ, en, M, he, hm, hp⟩ := h
  refine ⟨F, ρ, en, M, he, hm, (PostG.bind hp).imp fun x H1 ⟨d, F1, ρ1, M1, s1, m1, r1, p1⟩ => ?_⟩
  cases r1 <;> first | exact p1.elim | exact ⟨_, rfl, PostG.ok p1 m1 (.bl _)⟩
theorem de_neg (ha : DE X C W a ma) : DE X C W (.UnaryOp .USub a pos) (xUn dNeg ma) := by
  refine peMono (pe_un un_neg ha) fun σ H Q h => ?_
  obtain ⟨F, ρ, en, M, he, hm, hp⟩ := h
  refine ⟨F, ρ, en, M, he, hm, (PostG.bind hp).imp fun x H1 ⟨d, F1, ρ1, M1, s1, m1, r1, p1⟩ => ?_⟩
  cases r1 <;> first | exact p1.elim | exact ⟨_, rfl, PostG.ok p1 m1 (.int _)⟩
end
end G
set_option Elab.async false
set_option linter.all false
set_option maxRecDepth 100000
/-! Statements, loops, comprehensions, defs. -/
namespace G
open PySem PySem.Spec PyProof.Rows L2
/-- no wish about errors -/
abbrev W0 : WX := fun _ _ _ _ => False
theorem PostG.calm {α β : Type} {C : Kt} {W : WX} {σ : L2.St} {H F : Hp} {ρ : List Addr} {Rp : Hp → List Addr → β → α → Prop} {o : Out α} {Q : β → Hp → Prop} (h : PostG C W σ H F ρ Rp (noExc o) Q) : PostG C W0 σ H F ρ Rp o Q := by
  cases o with
  | ok a M => exact h
  | exc x M => exact h.elim
  | stk => exact h
theorem PostG.any {α β : Type} {C : Kt} {W : WX} {σ σ' : L2.St} {H F : Hp} {ρ : List Addr} {Rp : Hp → List Addr → β → α → Prop} {o : Out α} {Q : β → Hp → Prop} (h : PostG C W0 σ H F ρ Rp o Q) : PostG C W σ' H F ρ Rp o Q := by
  cases o with
  | ok a M => exact h
  | exc x M => exact fun c d H' F' ρ' s m r => (h c d H' F' ρ' s m r).elim
  | stk => exact h
/-! ### targets -/
def tG (C : Kt) (m : MG) : TG := fun v σ H Q => ∃ F ρ e M d, RelE C F ρ σ e ∧ RelM C F ρ H M ∧ Rep C F ρ v d ∧ PostG C W0 σ H F ρ (RelE C) (m d e M) Q
def tGs (C : Kt) (ms : List MG) : TGs := fun vs σ H Q => ∃ F ρ e M ds, RelE C F ρ σ e ∧ RelM C F ρ H M ∧ Reps C F ρ vs ds ∧ PostG C W0 σ H F ρ (RelE C) (gAll ms ds e M) Q
abbrev DG (X : Cx) (C : Kt) (g : Expr) (m : MG) : Prop := PG X g (tG C m)
abbrev DGs (X : Cx) (C : Kt) (g : List Expr) (m : List MG) : Prop := PGs X g (tGs C m)
section
variable {X : Cx} {C : Kt} {W : WX} {a b c e tg o i : Expr} {es rest : List Expr} {ma mb mc m : ME} {mr : MA} {g : MG} {gs : List MG} {pos p : Pos} {x : Str}
theorem dg_var {i : Nat} (h : PG X a (gName i)) : DG X C a (gVar i) := by
  refine pgMono h fun v σ H Q h => ?_
  obtain ⟨F, ρ, en, M, d, he, hm, hr, hp⟩ := h
  exact PostG.ok hp hm (he.set i hr)
theorem dgs_nil : DGs X C [] [] := ⟨fun pins s σ H vs us Q I r h => by
  obtain ⟨F, ρ, en, M, ds, he, hm, hr, hp⟩ := h
  cases hr with
  | nil => exact pgs_nil.run pins s σ H [] us Q I r ⟨rfl, PostG.ok hp hm he⟩
  | cons _ _ => exact hp.elim⟩
theorem dgs_cons (h1 : DG X C e g) (h2 : DGs X C es gs) (hs : (assignEach (e :: es) X.env).map (·.2) = assign e X.env :: (assignEach es X.env).map (·.2) := by rfl) : DGs X C (e :: es) (g :: gs) := ⟨fun pins s σ H vs us Q I r h => by
  obtain ⟨F, ρ, en, M, ds, he, hm, hr, hp⟩ := h
  cases hr with
  | nil => exact hp.elim
  | @cons v vs d ds q1 q2 =>
    refine (pgs_cons h1 h2 hs).run pins s σ H _ us Q I r ⟨v, vs, rfl, F, ρ, en, M, d, he, hm, q1, (PostG.bind hp).imp fun σ1 H1 ⟨e1, F1, ρ1, M1, s1, m1, r1, p1⟩ => ?_⟩
    exact ⟨F1, ρ1, e1, M1, ds, r1, m1, q2.mono s1.f s1.r, p1.any⟩⟩
/-- *e -/
theorem dgs_star1 {p' : Pos} (h : DG X C e g) (hs : (assignEach [.Starred e p'] X.env).map (·.2) = (assignEach [e] X.env).map (·.2) := by rfl) (h1 : (assignEach [e] X.env).map (·.2) = assign e X.env :: (assignEach [] X.env).map (·.2) := by rfl) : DGs X C [.Starred e p'] [g] := ⟨fun pins s σ H vs us Q I r q => by
  rw [hs]
  exact (dgs_cons h dgs_nil h1).run pins s σ H vs us Q I r q⟩
theorem dg_tup {k : Nat} (hK : C.K = X.K) (hc : X.calm = true) (h : DGs X C es gs) (hl : gs.length = es.length := by rfl)
    (hn : (assignEach es X.env).length = es.length := by rfl) (hst : (assignEach es X.env).findIdx? (·.1) = none := by rfl) : DG X C (.Tuple es k pos) (gTup gs) := by
  refine pgMono (pg_tup hc h hn hst) fun v σ H Q h => ?_
  obtain ⟨F, ρ, en, M, d, he, hm, hr, hp⟩ := h
  unfold gTup at hp
  split at hp
  · split at hp
    · rename_i xs hz
      cases hr with
      | tup q1 q2 => exact ⟨_, _, rfl, SqT.of (hm.sub _ _ q1), by rw [q2.length, hz, hl], F, ρ, en, M, xs, he, hm, q2, hp⟩
    · exact hp.elim
  · exact hp.elim
/-- o[i] = v -/
theorem dg_sub (ho : DE X C W0 o ma) (hi : DE X C W0 i mb)
    (ha : ∀ v, assign (.Subscript o i pos) X.env v = (do
      let ov ← holding [v] (eval o X.env)
      let iv ← holding [v, ov] (eval i X.env)
      standAt pos
      holding [v, ov, iv] (setItem ov iv v)
      release [v, ov, iv] []) := by intro _; rfl) : DG X C (.Subscript o i pos) (gSubL ma mb) := by
  refine pgMono (pg_sub ho hi set_list ha) fun v σ H Q h => ?_
  obtain ⟨F, ρ, en, M, d, he, hm, hr, hp⟩ := h
  refine ⟨F, ρ, en, M, he, hm, (PostG.bind hp).imp fun x H1 ⟨d1, F1, ρ1, M1, s1, m1, r1, p1⟩ => ⟨F1, ρ1, en, M1, he.step s1, m1, (PostG.bind p1).imp fun j H2 ⟨d2, F2, ρ2, M2, s2, m2, r2, p2⟩ => ?_⟩⟩
  unfold setL at p2
  split at p2
  · rename_i n k _
    split at p2
    · rename_i xs e1
      split at p2
      · rename_i z e2
        cases r2
        have r1' := r1.mono s2.f s2.r
        cases r1' with
        | ref q =>
          obtain ⟨b, ho, f1, f2, f3, f4⟩ := m2.at e1
          rw [q] at f1; cases f1
          cases ho <;> first | exact f4.elim | skip
          rename_i vs
          have f5 : Reps C F2 ρ2 vs xs := f4
          refine ⟨_, vs, _, z, rfl, rfl, f3, ?_, ?_⟩
          · rw [f5.length, ← e2]
            unfold ixN ixAt
            split
            · rfl
            · by_cases w : 0 ≤ k + (xs.length : Int)
              · rw [if_pos w, if_pos (by omega)]
              · rw [if_neg w, if_neg (by omega)]
          · have st := s1.trans s2
            have hr2 := hr.mono st.f st.r
            exact p2 _ _ _ _ (Stp.put (H := H2) q (by rw [f3]; simp)) (m2.put (o := .lst (xs.set z d)) (ho := .lst (vs.set z v)) q (f5.set hr2 z)) (he.step st)
      · exact p2.elim
    · exact p2.elim
  · exact p2.elim
end
/-! ### a, *b = x -/
section
variable {prog : Program} {w : World} {A : Around} {E : Value → Shared → Prop} {s : Shared}
/-- unpacking with a star at the last place: the first ones, a new list of the rest -/
theorem star_last {l : Addr} {its : Array Value} {k : Nat} {Q : List Value → Shared → Prop} (hl : s.heap.IsList l its ∨ IsTup s.heap l its) (hh : A.handled = none) (hk : k ≤ its.size) (hz : its.size ≤ 16384)
    (h : ∀ (h' : Heap) (tk : Nat), (∀ b o, s.heap.get? b = some o → h'.get? b = some o) →
      Q (its.toList.take k ++ [.ref h'.objs.size]) { s with heap := h'.push { cls := .type "list", data := .seq (its.toList.drop k).toArray }, toks := tk }) :
    wpAny (model prog w) A (unpackItems (.ref l) (k + 1) (some k)) Q E s := by
  have lt : l < s.heap.objs.size := hl.elim (fun ⟨o, e, _⟩ => Heap.lt_size e) fun ⟨o, e, _⟩ => Heap.lt_size e
  have len : (its.toList.take k).length = k := by simp; omega
  have done : ∀ (h₂ : Heap) (tk : Nat), (∀ b o, b ≠ s.heap.objs.size → s.heap.get? b = some o → h₂.get? b = some o) → Q (its.toList.take k ++ [.ref h₂.objs.size]) { s with heap := h₂.push { cls := .type "list", data := .seq (its.toList.drop k).toArray }, toks := tk } :=
    fun h₂ tk hk2 => h h₂ tk fun b o e => hk2 b o (Nat.ne_of_lt (Heap.lt_size e)) e
  rcases hl with hl | hl
  · have ne : l ≠ s.heap.objs.size := Nat.ne_of_lt lt
    unfold unpackItems; refine wpAny_bind ?_; unfold notIterableAtAll
    refine wpAny_bind (wpAny_specialOf hl.typeIs slot_list_iter.lookup ?_); refine wpAny_pure ?_
    simp only [Bool.false_eq_true, if_false, ite_false]
    refine wpAny_bind (wpAny_holding (wpAny_pyIter_list hl (wpAny_bind (wpAny_holding (PySem.W.kun_draw ne k 0 _ _ ⟨_, Heap.get?_push_size _ rfl, rfl, rfl⟩ (hl.push _) (by omega) fun h₁ i₁ s₁ => ?_)))))
    have l₁ : h₁.IsList l its := (hl.push _).extBut s₁.extBut ne
    obtain ⟨o1, e1, _⟩ := id i₁
    obtain ⟨o2, e2, _⟩ := id l₁
    rw [Nat.zero_add] at i₁
    rw [List.drop_zero, if_neg (by rw [len]; omega)]
    refine wpAny_bind (wpAny_holding (PySem.W.kun_collect (s := { s with heap := h₁ }) (T := "list_iterator") (.inr (.inr (.inl rfl))) (Walks.list (A := A.in1) hh s.heap.objs.size l ne its) (fun _ _ st => st.1.typeIs) (k := k) hk ⟨i₁, l₁⟩
      (Heap.lt_size e1) (Heap.lt_size e2) (fun h₂ tk hk2 => ?_) (by rw [sizeLine_eq]; omega)))
    have nn : (its.toList.drop k).length - ((k + 1) - 1 - k) = (its.toList.drop k).length := by omega
    rw [if_neg (by omega), nn, List.take_of_length_le (Nat.le_refl _), List.drop_of_length_le (Nat.le_refl _)]
    refine wpAny_bind (wpAny_newList (wpAny_pure ?_) (by simp; rw [sizeLine_eq]; omega))
    rw [List.append_nil]
    exact done h₂ tk fun b o hb e => hk2 b o hb (s₁.extBut b o hb (Heap.get?_push_of_some _ e))
  · have ne : l ≠ s.heap.objs.size := Nat.ne_of_lt lt
    unfold unpackItems; refine wpAny_bind ?_; unfold notIterableAtAll
    refine wpAny_bind (wpAny_specialOf hl.typeIs slot_tuple_iter.lookup ?_); refine wpAny_pure ?_
    simp only [Bool.false_eq_true, if_false, ite_false]
    refine wpAny_bind (wpAny_holding (iter_tuple hl (wpAny_bind (wpAny_holding (draw_tuple ne k 0 _ _ ⟨_, Heap.get?_push_size _ rfl, rfl, rfl⟩ (hl.push _) (by omega) fun h₁ i₁ s₁ => ?_)))))
    have l₁ : IsTup h₁ l its := (hl.push _).extBut s₁.extBut ne
    obtain ⟨o1, e1, _⟩ := id i₁
    obtain ⟨o2, e2, _⟩ := id l₁
    rw [Nat.zero_add] at i₁
    rw [List.drop_zero, if_neg (by rw [len]; omega)]
    refine wpAny_bind (wpAny_holding (PySem.W.kun_collect (s := { s with heap := h₁ }) (T := "tuple_iterator") (.inr (.inr (.inr rfl))) (Walks.tuple (A := A.in1) hh s.heap.objs.size l ne its) (fun _ _ st => st.1.typeIs) (k := k) hk ⟨i₁, l₁⟩
      (Heap.lt_size e1) (Heap.lt_size e2) (fun h₂ tk hk2 => ?_) (by rw [sizeLine_eq]; omega)))
    have nn : (its.toList.drop k).length - ((k + 1) - 1 - k) = (its.toList.drop k).length := by omega
    rw [if_neg (by omega), nn, List.take_of_length_le (Nat.le_refl _), List.drop_of_length_le (Nat.le_refl _)]
    refine wpAny_bind (wpAny_newList (wpAny_pure ?_) (by simp; rw [sizeLine_eq]; omega))
    rw [List.append_nil]
    exact done h₂ tk fun b o hb e => hk2 b o hb (s₁.extBut b o hb (Heap.get?_push_of_some _ e))
end
section
variable {X : Cx} {C : Kt} {es : List Expr} {gs : List MG} {g : MG} {pos : Pos}
/-- a, b, *c = x: the targets, the starred one the last -/
theorem dg_star {k : Nat} (hK : C.K = X.K) (hc : X.calm = true) (h : DGs X C es (gs ++ [g])) (hl : (assignEach es X.env).length = gs.length + 1) (hst : (assignEach es X.env).findIdx? (·.1) = some gs.length) : DG X C (.Tuple es k pos) (gStar gs g) := ⟨fun pins s σ H v u Q I r q => by
  obtain ⟨F, ρ, en, M, d, he, hm, hr, hp⟩ := q
  unfold gStar at hp
  split at hp
  · rename_i xs ex
    split at hp
    · rename_i hz
      rw [Bool.and_eq_true, decide_eq_true_eq, decide_eq_true_eq] at hz
      obtain ⟨a, vs, rfl, e1, e2⟩ := seqA_rep hm hr ex
      cases r
      have hlen := e2.length
      have key : ∀ its : List Value, Vals vs its → (s.heap.IsList a its.toArray ∨ IsTup s.heap a its.toArray) →
          wpAny (model X.prog X.w) X.A (assign (.Tuple es k pos) X.env (.ref a)) (fun _ s' => ∃ σ' H', Inv X pins σ' H' s' ∧ Q σ' H') X.xe s := fun its rv hs => by
        have hl2 := rv.length
        rw [assign_Tuple]
        refine wpAny_bind (wpAny_standAt ?_)
        unfold unpack
        rw [hl, hst]
        refine wpAny_bind (wpAny_holding (star_last (k := gs.length) hs (I.ok.hd hc) (by rw [List.size_toArray]; omega) (by rw [List.size_toArray]; omega) fun h' tk hk => ?_))
        rw [List.toList_toArray]
        have I1 : Inv X pins σ H { s with heap := h', toks := tk } := I.kept (t' := tk) hk
        have I2 : Inv X pins σ (upd H h'.objs.size (.lst (vs.drop gs.length))) { s with heap := h'.push { cls := .type "list", data := .seq (its.drop gs.length).toArray }, toks := tk } :=
          I1.laid (a := h'.objs.size) (o := .lst (vs.drop gs.length)) (t' := tk) (fun b o e => Heap.get?_push_of_some _ e) (Nat.le_refl _) ⟨by rw [List.length_drop, sizeLine_eq]; omega, _, 0, rv.drop _, Heap.get?_push_size _ rfl⟩
        have hf : H h'.objs.size = none := I1.hok.fresh (Nat.le_refl _)
        have ff := hm.freeF hf
        have st : Stp H F ρ (upd H h'.objs.size (.lst (vs.drop gs.length))) (upd F h'.objs.size (.lst (vs.drop gs.length))) ρ := Stp.new hf ff
        refine h.run pins _ σ _ (vs.take gs.length ++ [.ref h'.objs.size]) _ Q I2 ((rv.take _).append (.cons (show RelV (V.ref h'.objs.size) _ from rfl) .nil)) ⟨_, ρ, en, M, _, he.step st, hm.new hf, ((e2.take _).mono st.f st.r).append (.one (.lst upd_same ((e2.drop _).mono st.f st.r))), PostG.later hp st⟩
      rcases e1 with e1 | e1
      · rw [hK] at e1
        obtain ⟨its, rv, pl, _⟩ := I.list e1
        exact key its rv (.inl pl.isList)
      · rw [hK] at e1
        obtain ⟨its, rv, pl, _⟩ := I.tuple e1
        exact key its rv (.inr pl)
    · exact hp.elim
  · exact hp.elim⟩
end
end G
set_option Elab.async false
set_option linter.all false
set_option maxRecDepth 100000
/-! What is walked; loops; comprehensions; statements; defs. -/
namespace G
open PySem PySem.Spec PyProof.Rows L2
/-! ### what is walked -/
/-- the model's walk is this one -/
def RpI (C : Kt) (F : Hp) (ρ : List Addr) (J : It) (src : Src) : Prop := ∀ (H F' : Hp) (ρ' : List Addr) (M : Mh), FIn F F' → RIn ρ ρ' → RelM C F' ρ' H M → ∀ i : Nat,
  (∀ d, src.item M i = some d → J.go i H ∧ ∀ x H', J.yld i H x H' → ∃ F2, Stp H F' ρ' H' F2 ρ' ∧ RelM C F2 ρ' H' M ∧ Rep C F2 ρ' x d) ∧ (src.over M i = true → J.stop i H)
theorem RpI.mono {C : Kt} {F F1 : Hp} {ρ ρ1 : List Addr} {J : It} {src : Src} (h : RpI C F ρ J src) (f : FIn F F1) (r : RIn ρ ρ1) : RpI C F1 ρ1 J src := fun H F' ρ' M f' r' => h H F' ρ' M (fun a o q => f' a o (f a o q)) fun n a q => r' n a (r n a q)
def tI (C : Kt) (W : WX) (m : MI) : TI := fun σ H R => ∃ F ρ e M, RelE C F ρ σ e ∧ RelM C F ρ H M ∧ PostG C W σ H F ρ (RpI C) (m e M) R
abbrev DI (X : Cx) (C : Kt) (W : WX) (tg e : Expr) (m : MI) : Prop := PI X tg e (tI C W m)
section
variable {X : Cx} {C : Kt} {W : WX} {tg e e2 : Expr} {es elts : List Expr} {ma : ME} {mr : MA} {p pos tpos : Pos} {kk : Nat}
theorem piMono {t t' : TI} (h : PI X tg e t) (f : ∀ σ H R, t' σ H R → t σ H R) : PI X tg e t' := ⟨fun pins s σ H R I q => h.run pins s σ H R I (f σ H R q)⟩
/-- a list or a tuple -/
def iBoth (K : PySem.W.Frag) (tl : TE) : TI := fun σ H R => tl σ H fun x H1 => ∃ a, x = .ref a ∧ (((∃ xs, SqL K H1 a xs) ∧ R (Itl K a) H1) ∨ ((∃ xs, SqT K H1 a xs) ∧ R (Itt K a) H1))
theorem pi_both {tl : TE} (hl : PE X e tl) : PI X tg e (iBoth X.K tl) := ⟨fun pins s σ H R I h => by
  refine thn (hl.run pins s σ H _ I h) fun v s1 ⟨x, H1, I1, r1, a, e0, q1⟩ => ?_
  subst e0; cases r1
  have fp : ∀ b ∈ [s1.heap.objs.size], FpOk X pins H1 b := fun b hb => by
    rw [List.mem_singleton.mp hb]
    exact I1.fpOk (Nat.le_refl _) (I1.hok.fresh (Nat.le_refl _))
  rcases q1 with ⟨⟨xs, hq⟩, q⟩ | ⟨⟨xs, hq⟩, q⟩
  · obtain ⟨its, rv, pl, hz⟩ := I1.list hq
    exact wpAny_pyIter_list pl.isList ⟨_, [s1.heap.objs.size], _, _, H1, rfl, I1.kept (t' := s1.toks) fun b o z => Heap.get?_push_of_some _ z, turn_list a _, ⟨_, Heap.get?_push_size _ rfl, rfl, rfl⟩, fp, q⟩
  · obtain ⟨its, rv, pl, hz⟩ := I1.tuple hq
    exact wpAny_pyIter_tuple (show s1.heap.IsTuple a its.toArray from pl) ⟨_, [s1.heap.objs.size], _, _, H1, rfl, I1.kept (t' := s1.toks) fun b o z => Heap.get?_push_of_some _ z, turn_tuple a _, ⟨_, Heap.get?_push_size _ rfl, rfl, rfl⟩, fp, q⟩⟩
/-- what stands at a list's place -/
theorem seqL_at {F : Hp} {ρ : List Addr} {H : Hp} {M : Mh} {d : D} {a : Addr} {xs : List D} (m : RelM C F ρ H M) (r : Rep C F ρ (.ref a) d) (h : seqL M d = some xs) : ∃ vs, SqL C.K H a vs ∧ Reps C F ρ vs xs := by
  obtain ⟨b, vs, e, q1, q2⟩ := seqL_rep m r h
  cases e
  exact ⟨vs, q1, q2⟩
theorem seqT_at {F : Hp} {ρ : List Addr} {H : Hp} {M : Mh} {d : D} {a : Addr} {xs : List D} (m : RelM C F ρ H M) (r : Rep C F ρ (.ref a) d) (h : seqT d = some xs) : ∃ vs, SqT C.K H a vs ∧ Reps C F ρ vs xs := by
  obtain ⟨b, vs, e, q1, _, q2⟩ := seqT_rep m r h
  cases e
  exact ⟨vs, SqT.of q1, q2⟩
theorem seqA_L {M : Mh} {d : D} (h : seqT d = none) : seqA M d = seqL M d := by unfold seqA; rw [h]
theorem seqA_T {M : Mh} {d : D} {ys : List D} (h : seqT d = some ys) : seqA M d = some ys := by unfold seqA; rw [h]
theorem item_seq {M : Mh} {i n : Nat} {d y : D} (h : (Src.seq d n).item M i = some y) : ∃ xs, seqA M d = some xs ∧ xs[i]? = some y := Option.bind_eq_some_iff.mp h
theorem rpi_list {F : Hp} {ρ : List Addr} {a : Addr} {d : D} {n : Nat} (r : Rep C F ρ (.ref a) d) (hd : seqT d = none) : RpI C F ρ (Itl C.K a) (.seq d n) := fun H F' ρ' M f' r' m i => by
  have r1 := r.mono f' r'
  refine ⟨fun y hy => ?_, fun ho => ?_⟩
  · obtain ⟨xs, e1, e2⟩ := item_seq hy
    rw [seqA_L hd] at e1
    obtain ⟨vs, q1, q2⟩ := seqL_at m r1 e1
    obtain ⟨v, q3, q4⟩ := q2.get e2
    exact ⟨⟨vs, v, q1, q3⟩, fun x H' ⟨h1, h2⟩ => by
      subst h1
      have := h2 vs q1
      rw [q3] at this; cases this
      exact ⟨F', .refl, m, q4⟩⟩
  · unfold Src.over at ho
    dsimp only at ho
    rw [seqA_L hd] at ho
    split at ho
    · rename_i xs e1
      obtain ⟨vs, q1, q2⟩ := seqL_at m r1 e1
      exact ⟨vs, q1, by rw [q2.length]; exact of_decide_eq_true ho⟩
    · cases ho
theorem rpi_tup {F : Hp} {ρ : List Addr} {a : Addr} {d : D} {ys : List D} {n : Nat} (r : Rep C F ρ (.ref a) d) (hd : seqT d = some ys) : RpI C F ρ (Itt C.K a) (.seq d n) := fun H F' ρ' M f' r' m i => by
  have r1 := r.mono f' r'
  obtain ⟨vs, q1, q2⟩ := seqT_at m r1 hd
  refine ⟨fun y hy => ?_, fun ho => ?_⟩
  · obtain ⟨xs, e1, e2⟩ := item_seq hy
    rw [seqA_T hd] at e1; cases e1
    obtain ⟨v, q3, q4⟩ := q2.get e2
    exact ⟨⟨vs, v, q1, q3⟩, fun x H' ⟨h1, h2⟩ => by
      subst h1
      have := h2 vs q1
      rw [q3] at this; cases this
      exact ⟨F', .refl, m, q4⟩⟩
  · unfold Src.over at ho
    dsimp only at ho
    rw [seqA_T hd] at ho
    exact ⟨vs, q1, by rw [q2.length]; exact of_decide_eq_true ho⟩
theorem di_seq (hK : C.K = X.K) (ha : DE X C W e ma) : DI X C W tg e (iSeq ma) := by
  refine piMono (pi_both ha) fun σ H R h => ?_
  obtain ⟨F, ρ, en, M, he, hm, hp⟩ := h
  refine ⟨F, ρ, en, M, he, hm, (PostG.bind hp).imp fun x H1 ⟨d, F1, ρ1, M1, s1, m1, r1, p1⟩ => ?_⟩
  split at p1
  · rename_i xs ex
    rw [← hK]
    cases hd : seqT d with
    | none =>
      rw [seqA_L hd] at ex
      obtain ⟨a, vs, rfl, q1, q2⟩ := seqL_rep m1 r1 ex
      exact ⟨a, rfl, .inl ⟨⟨vs, q1⟩, PostG.ok p1 m1 (rpi_list r1 hd)⟩⟩
    | some ys =>
      obtain ⟨a, vs, rfl, q1, _, q2⟩ := seqT_rep m1 r1 hd
      exact ⟨a, rfl, .inr ⟨⟨vs, SqT.of q1⟩, PostG.ok p1 m1 (rpi_tup r1 hd)⟩⟩
  · exact p1.elim
theorem rpi_rng {F : Hp} {ρ : List Addr} {lo : Int} {n : Nat} : RpI C F ρ (Itr lo n) (.rng lo n) := fun H F' ρ' M f' r' m i => by
  refine ⟨fun y hy => ?_, fun ho => (show n ≤ i from of_decide_eq_true ho)⟩
  unfold Src.item at hy
  dsimp only at hy
  split at hy
  · rename_i hi
    cases hy
    exact ⟨hi, fun x H' ⟨h1, h2⟩ => by
      subst h1 h2
      exact ⟨F', .refl, m, .int _⟩⟩
  · cases hy
theorem di_rng1 (hg : Gl X "range") (hm : X.mg "range" = none) (ha : DA X C W [e] mr) (hs : starEach [e] X.env = [(false, eval e X.env)] := by rfl) : DI X C W tg (.Call (.Name "range" p) [e] [] pos) (G.iRng1 mr) := by
  refine piMono (pi_range1 hg hm ha hs) fun σ H R h => ?_
  obtain ⟨F, ρ, en, M, he, hm, hp⟩ := h
  refine ⟨F, ρ, en, M, he, hm, (PostG.bind hp).imp fun x H1 ⟨d, F1, ρ1, M1, s1, m1, r1, p1⟩ => ?_⟩
  split at p1
  · split at p1
    · rename_i n q
      rw [Bool.and_eq_true, decide_eq_true_eq, decide_eq_true_eq] at q
      cases r1 with
      | cons r1 r2 =>
        cases r2; cases r1
        exact ⟨n, rfl, q.1, q.2, PostG.ok p1 m1 rpi_rng⟩
    · exact p1.elim
  · exact p1.elim
theorem di_txt (ha : DE X C W e ma) : DI X C W tg e (iTxt ma) := by
  refine piMono (pi_str ha) fun σ H R h => ?_
  obtain ⟨F, ρ, en, M, he, hm, hp⟩ := h
  refine ⟨F, ρ, en, M, he, hm, (PostG.bind hp).imp fun x H1 ⟨d, F1, ρ1, M1, s1, m1, r1, p1⟩ => ?_⟩
  split at p1
  · rename_i s
    cases r1 with
    | str g =>
      refine ⟨_, rfl, PostG.ok p1 m1 fun H F' ρ' M f' r' m i => ⟨fun y hy => ?_, fun ho => ?_⟩⟩
      · unfold Src.item at hy
        dsimp only at hy
        split at hy
        · rename_i c ec
          cases hy
          have hi := (List.getElem?_eq_some_iff.mp ec).1
          refine ⟨by show i < s.toArray.size; simpa using hi, fun x H' ⟨h1, c', h2, h3⟩ => ?_⟩
          subst h1 h3
          have e1 : s[i]? = some c' := by simpa using h2
          rw [ec] at e1; cases e1
          exact ⟨F', .refl, m, .str (good_mem g fun z hz => by rw [List.mem_singleton.mp hz]; exact List.mem_of_getElem? ec)⟩
        · cases hy
      · have q : s.length ≤ i := of_decide_eq_true ho
        show s.toArray.size ≤ i
        simpa using q
  · exact p1.elim
theorem pair_step {F : Hp} {ρ : List Addr} {H H' : Hp} {M : Mh} {x : V} {T : Addr} {v w : V} {d d' : D} (m : RelM C F ρ H M) (r1 : Rep C F ρ v d) (r2 : Rep C F ρ w d') (h1 : x = .ref T) (h2 : H T = none) (h3 : H' = upd H T (.tup [v, w])) :
    ∃ F2, Stp H F ρ H' F2 ρ ∧ RelM C F2 ρ H' M ∧ Rep C F2 ρ x (.tup [d, d']) := by
  subst h1 h3
  have ff := m.freeF h2
  exact ⟨_, Stp.new h2 ff, m.new h2, .tup upd_same ((Reps.cons r1 (.one r2)).mono (Stp.new (ρ := ρ) h2 ff).f .refl)⟩
theorem rpi_zipL {F : Hp} {ρ : List Addr} {a b : Addr} {d d' : D} {n : Nat} (ra : Rep C F ρ (.ref a) d) (rb : Rep C F ρ (.ref b) d') (ha : seqT d = none) (hb : seqT d' = none) : RpI C F ρ (Itz C.K a b) (.zip d d' n) := fun H F' ρ' M f' r' m i => by
  have r1 := ra.mono f' r'
  have r2 := rb.mono f' r'
  refine ⟨fun y hy => ?_, fun ho => ?_⟩
  · unfold Src.item at hy
    dsimp only at hy
    split at hy
    · rename_i y1 y2 e1 e2
      cases hy
      obtain ⟨xs, e1, e1'⟩ := Option.bind_eq_some_iff.mp e1
      obtain ⟨ys, e2, e2'⟩ := Option.bind_eq_some_iff.mp e2
      rw [seqA_L ha] at e1
      rw [seqA_L hb] at e2
      obtain ⟨vs, q1, q2⟩ := seqL_at m r1 e1
      obtain ⟨ws, z1, z2⟩ := seqL_at m r2 e2
      obtain ⟨v, q3, q4⟩ := q2.get e1'
      obtain ⟨w, z3, z4⟩ := z2.get e2'
      refine ⟨⟨vs, ws, v, w, q1, z1, q3, z3⟩, fun x H' ⟨T, v', w', h1, h2, h3, h4, h5⟩ => ?_⟩
      have := h4 vs q1
      rw [q3] at this; cases this
      have := h5 ws z1
      rw [z3] at this; cases this
      exact pair_step m q4 z4 h1 h2 h3
    · cases hy
  · unfold Src.over at ho
    dsimp only at ho
    rw [seqA_L ha, seqA_L hb] at ho
    split at ho
    · rename_i xs ys e1 e2
      obtain ⟨vs, q1, q2⟩ := seqL_at m r1 e1
      obtain ⟨ws, z1, z2⟩ := seqL_at m r2 e2
      have := of_decide_eq_true ho
      exact ⟨vs, ws, q1, z1, by rw [q2.length, z2.length]; omega⟩
    · cases ho
theorem rpi_zipT {F : Hp} {ρ : List Addr} {a b : Addr} {d d' : D} {xs ys : List D} {n : Nat} (ra : Rep C F ρ (.ref a) d) (rb : Rep C F ρ (.ref b) d') (ha : seqT d = some xs) (hb : seqT d' = some ys) : RpI C F ρ (RZ.ItzT C.K a b) (.zip d d' n) := fun H F' ρ' M f' r' m i => by
  have r1 := ra.mono f' r'
  have r2 := rb.mono f' r'
  obtain ⟨vs, q1, q2⟩ := seqT_at m r1 ha
  obtain ⟨ws, z1, z2⟩ := seqT_at m r2 hb
  refine ⟨fun y hy => ?_, fun ho => ?_⟩
  · unfold Src.item at hy
    dsimp only at hy
    rw [seqA_T ha, seqA_T hb] at hy
    split at hy
    · rename_i y1 y2 e1 e2
      cases hy
      obtain ⟨v, q3, q4⟩ := q2.get e1
      obtain ⟨w, z3, z4⟩ := z2.get e2
      refine ⟨⟨vs, ws, v, w, q1, z1, q3, z3⟩, fun x H' ⟨T, v', w', h1, h2, h3, h4, h5⟩ => ?_⟩
      have := h4 vs q1
      rw [q3] at this; cases this
      have := h5 ws z1
      rw [z3] at this; cases this
      exact pair_step m q4 z4 h1 h2 h3
    · cases hy
  · unfold Src.over at ho
    dsimp only at ho
    rw [seqA_T ha, seqA_T hb] at ho
    have := of_decide_eq_true ho
    exact ⟨vs, ws, q1, z1, by rw [q2.length, z2.length]; omega⟩
/-- zip of two lists, of two tuples -/
theorem di_zip (hK : C.K = X.K) (hg : Gl X "zip") (hm : X.mg "zip" = none) (ha : DA X C W [e, e2] mr)
    (hs : starEach [e, e2] X.env = (false, eval e X.env) :: starEach [e2] X.env := by rfl) (hpl : (backTo pos (starEach [e2] X.env)).any (·.1) = false := by rfl) : DI X C W (.Tuple elts kk tpos) (.Call (.Name "zip" p) [e, e2] [] pos) (G.iZip mr) := by
  refine piMono (RZ.pi_zipA hg hm ha hs hpl) fun σ H R h => ?_
  obtain ⟨F, ρ, en, M, he, hm, hp⟩ := h
  refine ⟨F, ρ, en, M, he, hm, (PostG.bind hp).imp fun x H1 ⟨ds, F1, ρ1, M1, s1, m1, r1, p1⟩ => ?_⟩
  rw [← hK]
  split at p1
  · rename_i d d'
    cases r1 with
    | cons r1 r2 =>
      cases r2 with
      | cons r2 r3 =>
        cases r3
        split at p1
        · rename_i xs ys e1 e2
          cases ha : seqT d with
          | none =>
            rw [seqA_L ha] at e1
            cases hb : seqT d' with
            | none =>
              rw [seqA_L hb] at e2
              rw [ha, hb] at p1
              obtain ⟨a, vs, rfl, q1, q2⟩ := seqL_rep m1 r1 e1
              obtain ⟨b, ws, rfl, z1, z2⟩ := seqL_rep m1 r2 e2
              exact ⟨a, b, vs, ws, rfl, .inl ⟨q1, z1, PostG.ok p1 m1 (rpi_zipL r1 r2 ha hb)⟩⟩
            | some _ => rw [ha, hb] at p1; exact p1.elim
          | some _ =>
            cases hb : seqT d' with
            | none => rw [ha, hb] at p1; exact p1.elim
            | some _ =>
              rw [ha, hb] at p1
              obtain ⟨a, vs, rfl, q1, _, q2⟩ := seqT_rep m1 r1 ha
              obtain ⟨b, ws, rfl, z1, _, z2⟩ := seqT_rep m1 r2 hb
              exact ⟨a, b, vs, ws, rfl, .inr ⟨SqT.of q1, SqT.of z1, PostG.ok p1 m1 (rpi_zipT r1 r2 ha hb)⟩⟩
        · exact p1.elim
  · exact p1.elim
end
end G
set_option Elab.async false
set_option linter.all false
set_option maxRecDepth 100000
/-! Statements, loops, comprehensions, defs. -/
namespace G
open PySem PySem.Spec PyProof.Rows L2
section
variable {X : Cx} {C : Kt} {W : WX} {a b c e tg o i : Expr} {es rest : List Expr} {st : Stmt} {sts body body2 : List Stmt} {m ma mb : ME} {t : MT} {g : MG} {ms ms2 : MS} {pos p : Pos} {x : Str}
/-! ### small statements -/
theorem db_nil : DB X C W [] sNil := by
  refine pssMono pss_nil fun D σ H h => ?_
  obtain ⟨F, ρ, en, M, he, hm, hp⟩ := h
  exact hp σ H F ρ .refl hm he
theorem db_cons (h1 : DS X C W st ms) (h2 : DB X C W sts ms2) : DB X C W (st :: sts) (sSeq ms ms2) := by
  refine pssMono (pss_cons h1 h2) fun D σ H h => ?_
  obtain ⟨F, ρ, en, M, he, hm, hp⟩ := h
  exact ⟨F, ρ, en, M, he, hm, PostS.seq hp⟩
theorem db_one (h1 : DS X C W st ms) : DB X C W [st] ms := pss_one h1
theorem ds_pass : DS X C W (.Pass pos) sNil := by
  refine psMono ps_pass fun D σ H h => ?_
  obtain ⟨F, ρ, en, M, he, hm, hp⟩ := h
  exact hp σ H F ρ .refl hm he
theorem ds_brk : DS X C W (.Break pos) sBrk := by
  refine psMono ps_break fun D σ H h => ?_
  obtain ⟨F, ρ, en, M, he, hm, hp⟩ := h
  exact hp σ H F ρ .refl hm he
theorem ds_cnt : DS X C W (.Continue pos) sCnt := by
  refine psMono ps_continue fun D σ H h => ?_
  obtain ⟨F, ρ, en, M, he, hm, hp⟩ := h
  exact hp σ H F ρ .refl hm he
theorem ds_drop (h : DE X C W e m) (hs : swapsWith e none pos.line X.env = pure false := by rfl) : DS X C W (.Expr e pos) (sDrop m) := by
  refine psMono (ps_expr h hs) fun D σ H h => ?_
  obtain ⟨F, ρ, en, M, he, hm, hp⟩ := h
  exact ⟨F, ρ, en, M, he, hm, (PostS.lift hp he).imp fun v H1 ⟨d, F1, ρ1, M1, s1, m1, e1, r1, p1⟩ => p1 σ H1 F1 ρ1 .refl m1 e1⟩
theorem ds_ret (h : DE X C W e m) : DS X C W (.Return (some e) pos) (sRet m) := by
  refine psMono (ps_ret h) fun D σ H h => ?_
  obtain ⟨F, ρ, en, M, he, hm, hp⟩ := h
  exact ⟨F, ρ, en, M, he, hm, (PostS.lift hp he).imp fun v H1 ⟨d, F1, ρ1, M1, s1, m1, e1, r1, p1⟩ => p1 v H1 F1 ρ1 .refl m1 r1⟩
theorem ds_retN : DS X C W (.Return none pos) sRetN := by
  refine psMono ps_retN fun D σ H h => ?_
  obtain ⟨F, ρ, en, M, he, hm, hp⟩ := h
  exact hp .non H F ρ .refl hm .non
theorem ds_if (ht : DT X C W c t) (h1 : DB X C W body ms) (h2 : DB X C W body2 ms2) : DS X C W (.If c body body2 pos) (sIf t ms ms2) := by
  refine psMono (ps_if ht h1 h2) fun D σ H h => ?_
  obtain ⟨F, ρ, en, M, he, hm, hp⟩ := h
  refine ⟨F, ρ, en, M, he, hm, (PostS.lift hp he).imp fun v H1 ⟨d, F1, ρ1, M1, s1, m1, e1, r1, p1⟩ => ?_⟩
  subst r1
  cases v with
  | true =>
    rw [if_pos rfl] at p1 ⊢
    exact ⟨F1, ρ1, en, M1, e1, m1, p1⟩
  | false =>
    rw [if_neg (by decide)] at p1 ⊢
    exact ⟨F1, ρ1, en, M1, e1, m1, p1⟩
theorem asg_of {D : Ends} {σ : L2.St} {H : Hp} {tg' : TG} (hg : ∀ v σ H Q, tG C g v σ H Q → tg' v σ H Q) (h : tS C W (sAsg m g) D σ H) : tAsg (tE C W m) tg' D σ H := by
  obtain ⟨F, ρ, en, M, he, hm, hp⟩ := h
  refine ⟨F, ρ, en, M, he, hm, (PostS.lift hp he).imp fun v H1 ⟨d, F1, ρ1, M1, s1, m1, e1, r1, p1⟩ => hg v σ H1 D.nx ⟨F1, ρ1, en, M1, d, e1, m1, r1, ?_⟩⟩
  have q := PostS.lift (Rp := RelE C) p1 e1
  exact (PostG.calm q).imp fun σ2 H2 ⟨en2, F2, ρ2, M2, s2, m2, _, e2, p2⟩ => p2 σ2 H2 F2 ρ2 .refl m2 e2
theorem ds_asg (h : DE X C W e m) (hg : DG X C tg g) (hs : swapsWithSole [tg] e pos.line X.env = pure false := by rfl) (hw : swappedStores [tg] e X.env = pure none := by rfl)
    (h1 : (assignEach [tg] X.env).map (·.2) = [assign tg X.env] := by rfl) : DS X C W (.Assign [tg] e pos) (sAsg m g) :=
  psMono (ps_asg h hg hs hw h1) fun _ _ _ h => asg_of (fun _ _ _ _ z => z) h
theorem gVar_of {j : Nat} {v : V} {σ : L2.St} {H : Hp} {Q : L2.St → Hp → Prop} (h : tG C (gVar j) v σ H Q) : gName j v σ H Q := by
  obtain ⟨F, ρ, en, M, d, he, hm, hr, hp⟩ := h
  exact PostG.ok hp hm (he.set j hr)
/-! ### while -/
theorem ds_while (n : Nat) (hp : PassesOwn (model X.prog X.w) X.A X.env X.xe) (ht : DT X C W c t) (hb : DB X C W body ms) : DS X C W (.While c body [] pos) (sWhile t ms n) := by
  refine psMono (ps_while hp ht hb) fun D σ H h => ?_
  obtain ⟨F, ρ, en, M, he, hm, hp⟩ := h
  refine ⟨fun k σ1 H1 => ∃ F1 ρ1 en1 M1, RelE C F1 ρ1 σ1 en1 ∧ RelM C F1 ρ1 H1 M1 ∧ PostS C W H1 F1 ρ1 (sWhile t ms k en1 M1) D, ⟨n, F, ρ, en, M, he, hm, hp⟩, ?_⟩
  rintro k σ1 H1 ⟨F1, ρ1, en1, M1, e1, m1, p1⟩
  cases k with
  | zero => exact p1.elim
  | succ k =>
    refine ⟨F1, ρ1, en1, M1, e1, m1, (PostS.lift p1 e1).imp fun v H2 ⟨d, F2, ρ2, M2, s2, m2, e2, r2, p2⟩ => ?_⟩
    subst r2
    cases v with
    | false =>
      rw [if_neg (by decide)] at p2 ⊢
      exact p2 σ1 H2 F2 ρ2 .refl m2 e2
    | true =>
      rw [if_pos rfl] at p2 ⊢
      refine ⟨fun σ3 H3 => ∃ F3 ρ3 en3 M3, RelE C F3 ρ3 σ3 en3 ∧ RelM C F3 ρ3 H3 M3 ∧ PostS C W H3 F3 ρ3 (sWhile t ms k en3 M3) D, fun σ3 H3 z => ⟨k, Nat.lt_succ_self k, z⟩, F2, ρ2, en1, M2, e2, m2, ?_⟩
      revert p2
      cases ms en1 M2 with
      | nx e3 M3 => exact fun p2 σ3 H3 F3 ρ3 s3 m3 e3' => ⟨F3, ρ3, e3, M3, e3', m3, PostS.later p2 s3⟩
      | ct e3 M3 => exact fun p2 σ3 H3 F3 ρ3 s3 m3 e3' => ⟨F3, ρ3, e3, M3, e3', m3, PostS.later p2 s3⟩
      | bk e3 M3 => exact fun p2 => p2
      | rt d M3 => exact fun p2 => p2
      | exc x e3 M3 => exact fun p2 => p2
      | stk => exact fun p2 => p2
/-! ### for -/
theorem ds_for {i : MI} {iter : Expr} (hp : PassesOwn (model X.prog X.w) X.A X.env X.xe) (hc : X.calm = true) (hi : DI X C W tg iter i) (hg : DG X C tg g) (hb : DB X C W body ms)
    (hs : ∀ x, foldedSetIterable iter X.env x = pure x := by intro _; rfl) : DS X C W (.For tg iter body [] pos) (sFor i g ms) := by
  refine psMono (ps_for hp hc hi hg hb hs) fun D σ H h => ?_
  obtain ⟨F, ρ, en, M, he, hm, hp⟩ := h
  refine ⟨F, ρ, en, M, he, hm, (PostS.lift hp he).imp fun J H1 ⟨src, F1, ρ1, M1, s1, m1, e1, r1, p1⟩ => ?_⟩
  refine ⟨fun j k σ2 H2 => ∃ F2 ρ2 en2 M2, FIn F1 F2 ∧ RIn ρ1 ρ2 ∧ RelE C F2 ρ2 σ2 en2 ∧ RelM C F2 ρ2 H2 M2 ∧ PostS C W H2 F2 ρ2 (forFrom src g ms j k en2 M2) D,
    ⟨src.len, F1, ρ1, en, M1, .refl, .refl, e1, m1, p1⟩, ?_⟩
  rintro j k σ2 H2 ⟨F2, ρ2, en2, M2, f2, q2, e2, m2, p2⟩
  obtain ⟨w1, w2⟩ := r1 H2 F2 ρ2 M2 f2 q2 m2 j
  cases k with
  | zero =>
    rw [forFrom] at p2
    dsimp only at p2
    split at p2
    · rename_i ho
      exact .inl ⟨w2 ho, p2 σ2 H2 F2 ρ2 .refl m2 e2⟩
    · exact p2.elim
  | succ k =>
    rw [forFrom] at p2
    dsimp only at p2
    split at p2
    · exact p2.elim
    · rename_i d ed
      obtain ⟨hgo, hy⟩ := w1 d ed
      refine .inr ⟨hgo, fun σ3 H3 => ∃ F3 ρ3 en3 M3, FIn F1 F3 ∧ RIn ρ1 ρ3 ∧ RelE C F3 ρ3 σ3 en3 ∧ RelM C F3 ρ3 H3 M3 ∧ PostS C W H3 F3 ρ3 (forFrom src g ms (j + 1) k en3 M3) D, fun σ3 H3 z => ⟨k, Nat.lt_succ_self k, z⟩, fun x H3 hx => ?_⟩
      obtain ⟨F3, s3, m3, r3⟩ := hy x H3 hx
      refine ⟨F3, ρ2, en2, M2, d, e2.step s3, m3, r3, (PostG.calm (PostS.lift (Rp := RelE C) (PostS.later p2 s3) (e2.step s3))).imp fun σ4 H4 ⟨en4, F4, ρ4, M4, s4, m4, _, e4, p4⟩ => ?_⟩
      refine ⟨F4, ρ4, en4, M4, e4, m4, ?_⟩
      have f4 : FIn F1 F4 := fun a o z => (s3.trans s4).f a o (f2 a o z)
      have q4 : RIn ρ1 ρ4 := fun n a z => (s3.trans s4).r n a (q2 n a z)
      revert p4
      cases ms en4 M4 with
      | nx e5 M5 => exact fun p4 σ5 H5 F5 ρ5 s5 m5 e5' => ⟨F5, ρ5, e5, M5, fun a o z => s5.f a o (f4 a o z), fun n a z => s5.r n a (q4 n a z), e5', m5, PostS.later p4 s5⟩
      | ct e5 M5 => exact fun p4 σ5 H5 F5 ρ5 s5 m5 e5' => ⟨F5, ρ5, e5, M5, fun a o z => s5.f a o (f4 a o z), fun n a z => s5.r n a (q4 n a z), e5', m5, PostS.later p4 s5⟩
      | bk e5 M5 => exact fun p4 => p4
      | rt d M5 => exact fun p4 => p4
      | exc x e5 M5 => exact fun p4 => p4
      | stk => exact fun p4 => p4
end
/-! ### comprehensions -/
section
variable {X : Cx} {C : Kt} {W : WX} {elt tg iter : Expr} {ifs : List Expr} {scope : Scope} {own : List (Str × Nat)} {pos py : Pos} {i : MI} {t : MT} {x : ME} {is : List Nat} {y : Str}
theorem wipe_set {σ : L2.St} {v : Option V} {i : Nat} : ∀ {vs : List Nat}, i ∈ vs → wipe (σ.set i v) vs = wipe σ vs
  | [], h => by cases h
  | j :: r, h => by
    show (wipe (σ.set i v) r).set j none = (wipe σ r).set j none
    by_cases q : i ∈ r
    · rw [wipe_set q]
    · have e : i = j := by
        rcases List.mem_cons.mp h with e | e
        · exact e
        · exact absurd e q
      subst e
      have hh : ∀ (l : List Nat) (τ : L2.St), i ∉ l → wipe (τ.set i v) l = (wipe τ l).set i v := by
        intro l
        induction l with
        | nil => intro _ _; rfl
        | cons k l ih =>
          intro τ hk
          have h1 : i ∉ l := fun z => hk (List.mem_cons_of_mem _ z)
          have h2 : i ≠ k := fun z => hk (by rw [z]; exact List.mem_cons_self)
          show (wipe (τ.set i v) l).set k none = ((wipe τ l).set k none).set i v
          rw [ih τ h1, List.set_comm _ _ h2]
      rw [hh r σ q, List.set_set]
theorem wipe_wipe {σ : L2.St} : ∀ (us vs : List Nat), (∀ j ∈ us, j ∈ vs) → wipe (wipe σ us) vs = wipe σ vs
  | [], _, _ => rfl
  | j :: r, vs, h => by
    show wipe ((wipe σ r).set j none) vs = wipe σ vs
    rw [wipe_set (h j List.mem_cons_self)]
    exact wipe_wipe r vs fun k hk => h k (List.mem_cons_of_mem _ hk)
theorem RelE.wipe {F : Hp} {ρ : List Addr} {σ : L2.St} {e : En} (h : RelE C F ρ σ e) : ∀ vs : List Nat, RelE C F ρ (L2.wipe σ vs) (wipeE e vs)
  | [] => h
  | j :: r => (RelE.wipe h r).clear j
/-- storing into slots -/
def setAll : List Nat → List V → L2.St → L2.St
  | j :: js, v :: vs, σ => setAll js vs (σ.set j (some v))
  | _, _, σ => σ
theorem wipe_setAll : ∀ (js : List Nat) (vs : List V) (σ : L2.St) (us : List Nat), (∀ j ∈ js, j ∈ us) → wipe (setAll js vs σ) us = wipe σ us
  | [], vs, σ, us, _ => by cases vs <;> rfl
  | j :: js, [], σ, us, _ => rfl
  | j :: js, v :: vs, σ, us, h => by
    show wipe (setAll js vs (σ.set j (some v))) us = _
    rw [wipe_setAll js vs _ us fun k hk => h k (List.mem_cons_of_mem _ hk), wipe_set (h j List.mem_cons_self)]
def gNames : List Nat → TGs
  | [] => gNil
  | j :: js => gCons (gName j) (gNames js)
theorem gNames_of : ∀ {js : List Nat} {vs : List V} {σ : L2.St} {H : Hp} {Q : L2.St → Hp → Prop}, vs.length = js.length → Q (setAll js vs σ) H → gNames js vs σ H Q
  | [], [], _, _, _, _, h => ⟨rfl, h⟩
  | j :: js, v :: vs, _, _, _, e, h => ⟨v, vs, rfl, gNames_of (by simpa using e) h⟩
theorem RelE.setAll {F : Hp} {ρ : List Addr} : ∀ {js : List Nat} {vs : List V} {ds : List D} {σ : L2.St} {e : En}, RelE C F ρ σ e → Reps C F ρ vs ds → ds.length = js.length →
    ∀ M, ∃ e', gAll (js.map gVar) ds e M = .ok e' M ∧ RelE C F ρ (G.setAll js vs σ) e'
  | [], _, _, σ, e, h, .nil, _, M => ⟨e, rfl, h⟩
  | j :: js, _, _, σ, e, h, .cons r q, el, M => by
    obtain ⟨e', h1, h2⟩ := RelE.setAll (js := js) (h.set j r) q (by simpa using el) M
    exact ⟨e', h1, h2⟩
/-- the target of a comprehension: one name, or a tuple of names -/
inductive Pat where
  | one (j : Nat) | many (js : List Nat)
def Pat.mg : Pat → MG
  | .one j => gVar j
  | .many js => gTup (js.map gVar)
def Pat.tgr (K : PySem.W.Frag) : Pat → TG
  | .one j => gName j
  | .many js => L2.gTup K js.length (gNames js)
def Pat.in_ (p : Pat) (us : List Nat) : Bool := match p with
  | .one j => us.contains j
  | .many js => js.all us.contains
theorem pat_of {F : Hp} {ρ : List Addr} {σ : L2.St} {e : En} {H : Hp} {M : Mh} {v : V} {d : D} {γ : Type} {us : List Nat} {pt : Pat} {Z : L2.St → Hp → Prop} {k : En → R γ} {P : Out γ → Prop} (hs : ¬ P .stk)
    (hin : pt.in_ us = true) (he : RelE C F ρ (wipe σ us) e) (hm : RelM C F ρ H M) (hr : Rep C F ρ v d) (hp : P ((pt.mg d e M).bind k))
    (h : ∀ σ2 e2, wipe σ2 us = wipe σ us → RelE C F ρ σ2 e2 → P (k e2 M) → Z σ2 H) : pt.tgr C.K v (wipe σ us) H Z := by
  cases pt with
  | one j =>
    have hj : j ∈ us := by simpa [Pat.in_] using hin
    exact h _ _ (by rw [wipe_set hj, wipe_wipe us us fun _ z => z]) (he.set j hr) hp
  | many js =>
    have hj : ∀ j ∈ js, j ∈ us := by simpa [Pat.in_] using hin
    unfold Pat.mg gTup at hp
    dsimp only at hp
    split at hp
    · split at hp
      · rename_i xs hz
        cases hr with
        | tup q1 q2 =>
          have hl : xs.length = js.length := by simpa using hz
          obtain ⟨e', h1, h2⟩ := RelE.setAll he q2 hl M
          refine ⟨_, _, rfl, SqT.of (hm.sub _ _ q1), by rw [q2.length, hl], gNames_of (by rw [q2.length, hl]) ?_⟩
          rw [h1] at hp
          exact h _ e' (by rw [wipe_setAll js _ _ us hj, wipe_wipe us us fun _ z => z]) h2 hp
      · exact (hs hp).elim
    · exact (hs hp).elim
theorem PostG.bindB {α β γ δ : Type} {τ σ : L2.St} {H1 F1 H3 F3 : Hp} {ρ1 ρ3 : List Addr} {Rp : Hp → List Addr → β → α → Prop} {Rq : Hp → List Addr → δ → γ → Prop} {o : Out α} {k : α → R γ} {Z : δ → Hp → Prop}
    (h : PostG C W0 τ H1 F1 ρ1 Rq (o.bind k) Z) (s : Stp H1 F1 ρ1 H3 F3 ρ3) :
    PostG C W0 σ H3 F3 ρ3 Rp o fun b H' => ∃ a F' ρ' M, Stp H3 F3 ρ3 H' F' ρ' ∧ RelM C F' ρ' H' M ∧ Rp F' ρ' b a ∧ PostG C W0 τ H1 F1 ρ1 Rq (k a M) Z := by
  cases o with
  | ok a M => exact fun b H' F' ρ' s1 m r => ⟨a, F', ρ', M, s1, m, r, h⟩
  | exc x M => exact fun c d H' F' ρ' s1 m r => h c d H' F' ρ' (s.trans s1) m r
  | stk => exact h
theorem bind_assoc' {α β γ : Type} (o : Out α) (f : α → R β) (g : β → R γ) : (o.bind f).bind g = o.bind fun a M => (f a M).bind g := by cases o <;> rfl
abbrev DTs (X : Cx) (C : Kt) (W : WX) (es : List Expr) (m : MT) : Prop := PTs X es (tT C W m)
theorem dts_nil : DTs X C W [] G.tYes := ⟨fun pins s σ H Q I h => by
  obtain ⟨F, ρ, en, M, he, hm, hp⟩ := h
  exact pts_nil.run pins s σ H Q I (PostG.ok hp hm rfl)⟩
theorem dts_one {c : Expr} (h : DT X C W c t) : DTs X C W [c] t := pts_one h
/-- an object that nobody knows is changed -/
theorem RelM.aside {F : Hp} {ρ : List Addr} {H : Hp} {M : Mh} {a : Addr} {o : HO} (m : RelM C F ρ H M) (h1 : F a = none) (h2 : a ∉ ρ) : RelM C F ρ (upd H a o) M where
  sub := fun b u z => by rw [upd_ne fun q => by rw [q, h1] at z; cases z]; exact m.sub b u z
  len := m.len
  nd := m.nd
  obj := fun n b u z1 z2 => by
    obtain ⟨f, ho, z3, z4⟩ := m.obj n b u z1 z2
    exact ⟨f, ho, by rw [upd_ne fun q => h2 (by rw [← q]; exact List.mem_of_getElem? z1)]; exact z3, z4⟩
theorem Stp.aside {H H' F F' : Hp} {ρ ρ' : List Addr} {a : Addr} {o : HO} (s : Stp H F ρ H' F' ρ') (h : H a = none) : Stp H F ρ (upd H' a o) F' ρ' where
  f := s.f
  r := s.r
  keep := fun b u z hb => by rw [upd_ne (ne_of_none z h)]; exact s.keep b u z hb
  nf := s.nf
  nr := s.nr
  there := fun b z => by
    by_cases q : b = a
    · subst q; exact h
    · rw [upd_ne q] at z; exact s.there b z
theorem Stp.unknown {H H' F F' : Hp} {ρ ρ' : List Addr} {a : Addr} {o : HO} (s : Stp H F ρ H' F' ρ') (h : H a = some o) (h1 : F a = none) (h2 : a ∉ ρ) : H' a = some o ∧ F' a = none ∧ a ∉ ρ' := by
  refine ⟨s.keep a o h h2, ?_, fun z => ?_⟩
  · cases e : F' a with
    | none => rfl
    | some u => rcases s.nf a u e with q | q <;> simp_all
  · rcases s.nr a z with q | q
    · exact h2 q
    · rw [h] at q; cases q
/-- what the walk and its turns ask of a comprehension -/
theorem lc_of {pt : Pat} {σ : L2.St} {H : Hp} {Q : VK} {us : List Nat} (hin : pt.in_ us = true) (h : tE C W (xLc i pt.mg t x us) σ H Q) : tLc (tI C W i) (pt.tgr C.K) (tT C W0 t) (tE C W0 x) us σ H Q := by
  obtain ⟨F, ρ, en, M, he, hm, hp⟩ := h
  refine ⟨F, ρ, en, M, he, hm, (PostG.bind hp).imp fun J H1 ⟨src, F1, ρ1, M1, s1, m1, r1, p1⟩ => ?_⟩
  split at p1
  rotate_left
  · exact p1.elim
  rename_i hlen
  intro Dd hD
  have e1 : RelE C F1 ρ1 (wipe σ us) (wipeE en us) := (he.step s1).wipe us
  have hDF := m1.freeF hD
  have hDρ := m1.notin hD
  have p1' : PostD C W0 (wipe σ us) H1 F1 ρ1 ((lcFrom src pt.mg t x (wipeE en us) 0 src.len M1).bind fun ys M => .ok (.lst ([] ++ ys)) M) Q := by simpa using PostG.any (σ' := wipe σ us) (W := W0) (PostG.calm (σ := σ) p1)
  -- between two turns: what is made stands at Dd, which nobody knows
  refine ⟨fun j k H2 => ∃ F2 ρ2 M2 acc dacc, Stp H1 F1 ρ1 H2 F2 ρ2 ∧ F2 Dd = none ∧ Dd ∉ ρ2 ∧ RelM C F2 ρ2 H2 M2 ∧ H2 Dd = some (.lst acc) ∧ Reps C F2 ρ2 acc dacc ∧ dacc.length ≤ j ∧ j + k ≤ 1000000 ∧
    PostD C W0 (wipe σ us) H1 F1 ρ1 ((lcFrom src pt.mg t x (wipeE en us) j k M2).bind fun ys M => .ok (.lst (dacc ++ ys)) M) Q, ⟨src.len, F1, ρ1, M1, [], [], Stp.refl.aside hD, hDF, hDρ, m1.aside hDF hDρ, upd_same, .nil, Nat.le_refl _, by omega, p1'⟩, ?_⟩
  rintro j k H2 ⟨F2, ρ2, M2, acc, dacc, s2, n2, nr2, m2, hacc, racc, hl, hjk, p2⟩
  obtain ⟨w1, w2⟩ := r1 H2 F2 ρ2 M2 s2.f s2.r m2 j
  cases k with
  | zero =>
    rw [lcFrom] at p2
    dsimp only at p2
    split at p2
    · rename_i ho
      refine .inl ⟨w2 ho, ?_⟩
      have p3 : PostD C W0 (wipe σ us) H1 F1 ρ1 (.ok (.lst (dacc ++ [])) M2) Q := p2
      rw [List.append_nil] at p3
      have ff : FIn F2 (upd F2 Dd (.lst acc)) := fun a o z => by rw [upd_ne fun q => by rw [q, n2] at z; cases z]; exact z
      refine p3 (.ref Dd) H2 (upd F2 Dd (.lst acc)) ρ2 ⟨fun a o z => ff a o (s2.f a o z), s2.r, s2.keep, fun a o z => ?_, s2.nr, s2.there⟩ ⟨fun a o z => ?_, m2.len, m2.nd, fun n a o z1 z2 => ?_⟩ (.lst upd_same (racc.mono ff .refl))
      · by_cases q : a = Dd
        · subst q; exact .inr hD
        · rw [upd_ne q] at z; exact s2.nf a o z
      · by_cases q : a = Dd
        · subst q; rw [upd_same] at z; cases z; exact hacc
        · rw [upd_ne q] at z; exact m2.sub a o z
      · obtain ⟨f, ho', z3, z4⟩ := m2.obj n a o z1 z2
        have q : a ≠ Dd := fun q => nr2 (by subst q; exact List.mem_of_getElem? z1)
        exact ⟨by rw [upd_ne q]; exact f, ho', z3, z4.mono ff .refl⟩
    · exact p2.elim
  | succ k =>
    rw [lcFrom] at p2
    dsimp only at p2
    split at p2
    · exact p2.elim
    · rename_i d ed
      obtain ⟨hgo, hy⟩ := w1 d ed
      refine .inr ⟨hgo, fun H3 => ∃ F2 ρ2 M2 acc dacc, Stp H1 F1 ρ1 H3 F2 ρ2 ∧ F2 Dd = none ∧ Dd ∉ ρ2 ∧ RelM C F2 ρ2 H3 M2 ∧ H3 Dd = some (.lst acc) ∧ Reps C F2 ρ2 acc dacc ∧ dacc.length ≤ j + 1 ∧ (j + 1) + k ≤ 1000000 ∧
        PostD C W0 (wipe σ us) H1 F1 ρ1 ((lcFrom src pt.mg t x (wipeE en us) (j + 1) k M2).bind fun ys M => .ok (.lst (dacc ++ ys)) M) Q, fun H3 z => ⟨k, Nat.lt_succ_self k, z⟩, fun v H3 hx => ?_⟩
      obtain ⟨F3, s3, m3, r3⟩ := hy v H3 hx
      obtain ⟨a3, n3, nr3⟩ := s3.unknown hacc n2 nr2
      have e3 : RelE C F3 ρ2 (wipe σ us) (wipeE en us) := (e1.step s2).step s3
      rw [bind_assoc'] at p2
      refine pat_of (P := fun o => PostD C W0 (wipe σ us) H1 F1 ρ1 o Q) (fun z => z) hin e3 m3 r3 p2 fun σ2 en2 hw e4 p4 => ⟨hw, F3, ρ2, en2, M2, e4, m3, ?_⟩
      rw [bind_assoc'] at p4
      refine (PostG.bindB p4 (s2.trans s3)).imp fun b H4 ⟨b', F4, ρ4, M4, s4, m4, r4, p5⟩ => ?_
      subst r4
      obtain ⟨a4, n4, nr4⟩ := s4.unknown a3 n3 nr3
      have s24 := (s2.trans s3).trans s4
      cases b with
      | false =>
        rw [if_neg (by decide)] at p5 ⊢
        exact ⟨F4, ρ4, M4, acc, dacc, s24, n4, nr4, m4, a4, (racc.mono s3.f s3.r).mono s4.f s4.r, by omega, by omega, p5⟩
      | true =>
        rw [if_pos rfl] at p5 ⊢
        rw [bind_assoc'] at p5
        refine ⟨F4, ρ4, en2, M4, e4.step s4, m4, (PostG.bindB p5 s24).imp fun y H5 ⟨y', F5, ρ5, M5, s5, m5, r5, p6⟩ => ?_⟩
        rw [bind_assoc'] at p6
        obtain ⟨a5, n5, nr5⟩ := s5.unknown a4 n4 nr4
        have ra := (((racc.mono s3.f s3.r).mono s4.f s4.r).mono s5.f s5.r).append (.one r5)
        refine ⟨acc, a5, by rw [racc.length, sizeLine_eq]; omega, F5, ρ5, M5, acc ++ [y], dacc ++ [y'], (s24.trans s5).aside hD, n5, nr5, m5.aside n5 nr5, upd_same, ra, by rw [List.length_append, List.length_singleton]; omega, by omega, ?_⟩
        have ee : (fun ys M => Out.ok (G.D.lst (dacc ++ [y'] ++ ys)) M) = fun (ys : List G.D) M => Out.ok (G.D.lst (dacc ++ (y' :: ys))) M := by funext ys M; rw [List.append_assoc]; rfl
        rw [ee]
        exact p6
/-- a comprehension -/
theorem de_lc {pt : Pat} (hK : C.K = X.K) (hc : X.calm = true) (hN : X.N.Nodup) (hi : DI X C W tg iter i) (ok : BlkOk X.N X.env.scope scope own) (hin : pt.in_ (own.map (·.2)) = true)
    (hg : ∀ (s : Shared) (H : Hp) (Ca : Addr) (cl : List (Str × Addr)) (fp : List Addr), PG (X.blk s H scope (compEnvC scope cl Ca X.env) fp) tg (pt.tgr C.K)) (ht : ∀ (s : Shared) (H : Hp) (Ca : Addr) (cl : List (Str × Addr)) (fp : List Addr), DTs (X.blk s H scope (compEnvC scope cl Ca X.env) fp) C W0 ifs t)
    (he : ∀ (s : Shared) (H : Hp) (Ca : Addr) (cl : List (Str × Addr)) (fp : List Addr), DE (X.blk s H scope (compEnvC scope cl Ca X.env) fp) C W0 elt x) (hs : ∀ z, foldedSetIterable iter X.env z = pure z := by intro _; rfl) :
    DE X C W (.ListComp elt [⟨tg, iter, ifs, 0⟩] scope pos) (xLc i pt.mg t x (own.map (·.2))) :=
  peMono (pe_lc hc hN hi ok hg ht he hs) fun _ _ _ h => lc_of hin h
end
end G
set_option Elab.async false
set_option linter.all false
set_option maxRecDepth 100000
/-! Defs, calls, raises. -/
namespace G
open PySem PySem.Spec PyProof.Rows L2
/-- a def's promise by data -/
def spD (K : PySem.W.Frag) (f : List D → R D) (n : Nat) : Sp := fun vs H Q E => vs.length = n ∧ ∃ F ρ M ds, RelM ⟨K, []⟩ F ρ H M ∧ Reps ⟨K, []⟩ F ρ vs ds ∧ PostD ⟨K, []⟩ (fun c d _ H' => E c d H') [] H F ρ (f ds M) Q
/-- the def of that name does what f says -/
structure Fd (P : Program) (w : World) (K : PySem.W.Frag) (mg : Str → Option Value) (base : Heap) (k : Nat) (x : String) (n : Nat) (f : List D → R D) : Prop where
  ex : ∃ (fd : FuncData) (ps : List Str), FnOk P w K mg base (L2.CX P w) k (He.ga K (Str.ofString x)) fd ps (spD K f n) ∧ Binds K fd ps []
  mg : mg (Str.ofString x) = some (.ref (He.ga K (Str.ofString x)))
  kp : PySem.W.keepIn K (.ref (He.ga K (Str.ofString x))) = true
theorem wishless {C : Kt} {W W' : WX} {σ σ' : L2.St} {H F : Hp} {ρ : List Addr} {o : Out D} {Q : VK} (hw : ∀ c d H, W c d σ H → W' c d σ' H) (h : PostD C W σ H F ρ o Q) : PostD C W' σ' H F ρ o Q := by
  cases o with
  | ok a M => exact h
  | exc x M => exact fun c d H' F' ρ' s m r => hw _ _ _ (h c d H' F' ρ' s m r)
  | stk => exact h
section
variable {X : Cx} {W : WX} {e : Expr} {es : List Expr} {mr : MA} {f : List D → R D} {j k n : Nat} {x : String} {p pos : Pos}
theorem de_call (h : Fd X.prog X.w X.K X.mg X.base k x n f) (hr : Room j X.A) (hk : k ≤ j) (hg : Gl X (Str.ofString x)) (tk : Takes X W) (ha : DA X ⟨X.K, []⟩ W (e :: es) mr) (hlen : (e :: es).length = n) (hdb : (Str.ofString x == ("__debug__" : Str)) = false)
    (hml : ∀ en M ds M', mr en M = .ok ds M' → ds.length = n) (he : starEach (e :: es) X.env = (false, eval e X.env) :: starEach es X.env := by rfl) (hpl : (backTo pos (starEach es X.env)).any (·.1) = false := by rfl) :
    DE X ⟨X.K, []⟩ W (.Call (.Name (Str.ofString x) p) (e :: es) [] pos) (xCall f mr) := by
  obtain ⟨fd, ps, G, b⟩ := h.ex
  refine peMono (pe_callS G (hr.mono hk) hg h.mg h.kp b (fun σ => passAt tk σ) ha hdb he hpl) fun σ H Q h => ?_
  obtain ⟨F, ρ, en, M, he, hm, hp⟩ := h
  refine ⟨F, ρ, en, M, he, hm, (PostG.bindE hp).imp fun vs H1 ⟨ds, F1, ρ1, M1, eo, s1, m1, r1, p1⟩ => ⟨?_, F1, ρ1, M1, ds, m1, r1, wishless (fun _ _ _ z => z) p1⟩⟩
  rw [r1.length]
  exact hml en M ds M1 eo
end
theorem aNil_len (en : En) (M : Mh) (ds : List D) (M' : Mh) (h : aNil en M = .ok ds M') : ds.length = 0 := by cases h; rfl
theorem aCons_len {a : ME} {r : MA} {n : Nat} (hr : ∀ en M ds M', r en M = .ok ds M' → ds.length = n) (en : En) (M : Mh) (ds : List D) (M' : Mh) (h : aCons a r en M = .ok ds M') : ds.length = n + 1 := by
  unfold aCons at h
  cases e1 : a en M with
  | ok x M1 =>
    rw [e1] at h
    have h : (r en M1).bind (fun xs M => Out.ok (x :: xs) M) = .ok ds M' := h
    cases e2 : r en M1 with
    | ok xs Mx =>
      rw [e2] at h
      have h : Out.ok (x :: xs) Mx = .ok ds M' := h
      have q := hr en M1 xs _ e2
      cases h
      rw [List.length_cons, q]
    | exc _ _ => rw [e2] at h; cases h
    | stk => rw [e2] at h; cases h
  | exc _ _ => rw [e1] at h; cases h
  | stk => rw [e1] at h; cases h
/-! ### a def's body -/
section
variable {P : Program} {w : World} {K : PySem.W.Frag} {mg : Str → Option Value} {base : Heap} {x : String} {params : Arguments} {body : List Stmt} {scope : Scope} {fd : FuncData} {N ps : List Str} {k : Nat} {mb : MS}
theorem relE_start {C : Kt} {F : Hp} {ρ : List Addr} {vs : List V} {ds : List D} (r : Reps C F ρ vs ds) (N : List Str) : RelE C F ρ (L2.start N vs) (startE N.length ds) := by
  refine ⟨by unfold L2.start startE; simp [r.length], fun i d h => ?_⟩
  unfold startE at h
  unfold L2.start
  by_cases hi : i < ds.length
  · rw [List.getElem?_append_left (by simpa using hi)] at h
    rw [List.getElem?_map] at h
    obtain ⟨d', e1, e2⟩ := Option.map_eq_some_iff.mp h
    cases e2
    obtain ⟨v, h1, h2⟩ := r.get e1
    refine ⟨v, ?_, h2⟩
    rw [List.getElem?_append_left (by simpa [r.length] using hi), List.getElem?_map, h1]
    rfl
  · rw [List.getElem?_append_right (by simpa using hi)] at h
    have := List.getElem?_eq_some_iff.mp h
    obtain ⟨h1, h2⟩ := this
    simp at h2
theorem fn_mk (F : FunD K (Str.ofString x) (Str.ofString x) params body scope [] [] (He.ga K (Str.ofString x)) fd) (S : FnScope N ps scope)
    (hbody : ∀ (cdv : Value) (A : Around) (outer : List Env) (s : Shared) (H : Hp) (E : XK), Room k (A.deeper (envOfC (Str.ofString x) scope s.heap.objs.size (He.ga K (Str.ofString x)) cdv)) →
      DB (cxOf (L2.CX P w) P w K mg base N (Str.ofString x) scope (He.ga K (Str.ofString x)) cdv A outer s H E) ⟨K, []⟩ (fun c d _ H' => E c d H') body mb) : FnOk P w K mg base (L2.CX P w) (k + 1) (He.ga K (Str.ofString x)) fd ps (spD K (run N.length mb) ps.length) := by
  refine F.ok S (fun vs H Q E h => h.1) fun cdv A outer s H vs Q E hr h => ⟨_, hbody cdv A outer s H E hr, ?_⟩
  obtain ⟨hl, F0, ρ, M, ds, m, r, p⟩ := h
  refine ⟨F0, ρ, startE N.length ds, M, relE_start r N, m, ?_⟩
  unfold run at p
  revert p
  cases mb (startE N.length ds) M with
  | nx e M1 => exact fun p σ' H' F' ρ' s m' e' => p .non H' F' ρ' s m' .non
  | rt d M1 => exact fun p v H' F' ρ' s m' r' => p v H' F' ρ' s m' r'
  | exc x e M1 => exact fun p cls dd σ' H' F' ρ' s m' _ r' => p cls dd H' F' ρ' s m' r'
  | bk e M1 => exact fun p => p.elim
  | ct e M1 => exact fun p => p.elim
  | stk => exact fun p => p
theorem fd_mk (F : FunD K (Str.ofString x) (Str.ofString x) params body scope [] [] (He.ga K (Str.ofString x)) fd) (hm : mg (Str.ofString x) = some (.ref (He.ga K (Str.ofString x)))) (S : FnScope N ps scope)
    (hb : ∀ (kV doc pm : Value) (an : Option Addr) (cdv ct : Value) (us : List Value), us.length = ps.length → bindArgs (PySem.W.fnOf (Str.ofString x) (Str.ofString x) params body scope .none kV doc pm an cdv ct) ⟨us, []⟩ = pure (ps.zip us))
    (hbody : ∀ (cdv : Value) (A : Around) (outer : List Env) (s : Shared) (H : Hp) (E : XK), Room k (A.deeper (envOfC (Str.ofString x) scope s.heap.objs.size (He.ga K (Str.ofString x)) cdv)) →
      DB (cxOf (L2.CX P w) P w K mg base N (Str.ofString x) scope (He.ga K (Str.ofString x)) cdv A outer s H E) ⟨K, []⟩ (fun c d _ H' => E c d H') body mb) : Fd P w K mg base (k + 1) x ps.length (run N.length mb) :=
  ⟨⟨fd, ps, fn_mk F S hbody, F.bindsN hb⟩, hm, F.kp⟩
end
/-! ### garbage -/
section
variable {C : Kt} {F H : Hp} {ρ : List Addr}
theorem take_at {n : Nat} {i : Nat} {a : Addr} (h : ρ[i]? = some a) (hi : i < n) : (ρ.take n)[i]? = some a := by rw [List.getElem?_take, if_pos hi]; exact h
mutual
theorem Rep.cut {n : Nat} : ∀ {v : V} {d : D}, Rep C F ρ v d → bd d ≤ n → Rep C F (ρ.take n) v d
  | _, _, .non, _ => .non
  | _, _, .bl b, _ => .bl b
  | _, _, .int i, _ => .int i
  | _, _, .str h, _ => .str h
  | _, _, .lst h q, e => .lst h (Reps.cutR q (by rw [bd] at e; exact e))
  | _, _, .frz h q, e => .frz h (Reps.cutR q (by rw [bd] at e; exact e))
  | _, _, .tup h q, e => .tup h (Reps.cutR q (by rw [bd] at e; exact e))
  | _, _, .ref h, e => .ref (take_at h (by rw [bd] at e; omega))
  | _, _, .glo x, _ => .glo x
  | _, _, .ty m, _ => .ty m
  | _, _, .errP h z u, _ => .errP h z u
  | _, _, .emp h, _ => .emp h
theorem Reps.cutR {n : Nat} : ∀ {vs : List V} {ds : List D}, Reps C F ρ vs ds → bds ds ≤ n → Reps C F (ρ.take n) vs ds
  | _, _, .nil, _ => .nil
  | _, _, .cons h q, e => by
    rw [bds] at e
    exact .cons (Rep.cut h (by omega)) (Reps.cutR q (by omega))
end
theorem bdF_mem : ∀ {gs : List (String × D)} {n : Nat}, bdF gs ≤ n → ∀ p ∈ gs, bd p.2 ≤ n
  | [], _, _, _, h => by cases h
  | q :: r, n, e, p, h => by
    rw [bdF] at e
    rcases List.mem_cons.mp h with rfl | h
    · omega
    · exact bdF_mem (by omega) p h
theorem pair_mem {α β : Type} {Fp G : α → β → Prop} : ∀ {l : List α} {l' : List β}, Paired Fp l l' → (∀ a b, b ∈ l' → Fp a b → G a b) → Paired G l l'
  | _, _, .nil, _ => .nil
  | _, _, .cons r t, f => .cons (f _ _ List.mem_cons_self r) (pair_mem t fun a b hb => f a b (List.mem_cons_of_mem _ hb))
theorem RepO.cut {n : Nat} {ho : HO} {o : O} (h : RepO C F ρ ho o) (e : bdO o ≤ n) : RepO C F (ρ.take n) ho o := by
  cases ho <;> cases o <;> first | exact h.elim | skip
  · exact Reps.cutR h (by rw [bdO] at e; exact e)
  · refine ⟨h.1, pair_mem h.2 fun p q hq z => ⟨z.1, z.2.cut ?_⟩⟩
    rw [bdO] at e
    exact bdF_mem e q hq
theorem bdM_mem : ∀ {M : Mh} {n : Nat}, bdM M ≤ n → ∀ o ∈ M, bdO o ≤ n
  | [], _, _, _, h => by cases h
  | q :: r, n, e, p, h => by
    rw [bdM] at e
    rcases List.mem_cons.mp h with rfl | h
    · omega
    · exact bdM_mem (by omega) p h
theorem RelM.cut {M g : Mh} (m : RelM C F ρ H (M ++ g)) (e : bdM M ≤ M.length) : RelM C F (ρ.take M.length) H M where
  sub := m.sub
  len := by rw [List.length_take, m.len, List.length_append]; omega
  nd := m.nd.sublist (List.take_sublist _ _)
  obj := fun n a o h1 h2 => by
    have hn := (List.getElem?_eq_some_iff.mp h2).1
    rw [List.getElem?_take, if_pos hn] at h1
    obtain ⟨f, ho, z1, z2⟩ := m.obj n a o h1 (by rw [List.getElem?_append_left hn]; exact h2)
    exact ⟨f, ho, z1, z2.cut (bdM_mem e o (List.mem_of_getElem? h2))⟩
theorem Stp.cut {H' F' : Hp} {ρ' : List Addr} {n : Nat} (s : Stp H F ρ H' F' ρ') (hn : ρ.length ≤ n) : Stp H F ρ H' F' (ρ'.take n) where
  f := s.f
  r := fun i a h => take_at (s.r i a h) (Nat.lt_of_lt_of_le (List.getElem?_eq_some_iff.mp h).1 hn)
  keep := s.keep
  nf := s.nf
  nr := fun a h => s.nr a (List.mem_of_mem_take h)
  there := s.there
theorem Less.post {W : WX} {σ : L2.St} {M0 : Mh} {o o' : Out D} {Q : VK} (l : Less M0.length o o') (m0 : RelM C F ρ H M0) (h : PostD C W σ H F ρ o Q) : PostD C W σ H F ρ o' Q := by
  cases l with
  | no => exact h.elim
  | same => exact h
  | drop h1 h2 h3 => exact fun v H' F' ρ' s m r => h v H' F' _ (s.cut (by rw [m0.len]; exact h1)) (m.cut h3) (r.cut h2)
  | dropE h1 h2 h3 =>
    refine fun c d H' F' ρ' s m r => h c d H' F' _ (s.cut (by rw [m0.len]; exact h2)) (m.cut h3) ⟨r.1, ?_⟩
    have q := r.2
    rw [h1] at q ⊢
    exact q
end
theorem Fd.imp {P : Program} {w : World} {K : PySem.W.Frag} {mg : Str → Option Value} {base : Heap} {k n : Nat} {x : String} {f g : List D → R D} (h : Fd P w K mg base k x n f) (l : ∀ ds M, ds.length = n → Less M.length (g ds M) (f ds M)) : Fd P w K mg base k x n g := by
  obtain ⟨fd, ps, G, b⟩ := h.ex
  refine ⟨⟨fd, ps, G.imp fun vs H Q E ⟨hl, F, ρ, M, ds, m, r, p⟩ => ⟨hl, F, ρ, M, ds, m, r, Less.post (l ds M (by rw [← r.length]; exact hl)) m p⟩, b⟩, h.mg, h.kp⟩
theorem Fd.mono {P : Program} {w : World} {K : PySem.W.Frag} {mg : Str → Option Value} {base : Heap} {j k n : Nat} {x : String} {f : List D → R D} (h : Fd P w K mg base k x n f) (e : k ≤ j) : Fd P w K mg base j x n f := by
  obtain ⟨fd, ps, G, b⟩ := h.ex
  exact ⟨⟨fd, ps, G.mono e, b⟩, h.mg, h.kp⟩
/-! ### raise -/
/-- what an own error class without __init__ has -/
structure ErC (K : PySem.W.Frag) (mg : Str → Option Value) (x : String) : Prop where
  mg : mg (Str.ofString x) = some (.ref (He.ga K (Str.ofString x)))
  ex : PySem.W.excIn K (He.ga K (Str.ofString x)) He.veBase "ValueError.__new__" = true
  kp : PySem.W.keepIn K (.ref (He.ga K (Str.ofString x))) = true
  sb : PySem.W.subIn K (.ref (He.ga K (Str.ofString x))) (.type "BaseException") = some true
  ty : PySem.W.typeIn K (.ref (He.ga K (Str.ofString x))) = some (.type "type")
theorem ds_raise {X : Cx} {C : Kt} {W : WX} {x : String} {m : Str} {j : Nat} {p p2 pos' pos : Pos} (hK : C.K = X.K) (hc : X.calm = true) (tk : Takes X W) (c : ErC X.K X.mg x) (hg : Gl X (Str.ofString x)) (hdb : (Str.ofString x == ("__debug__" : Str)) = false) :
    DS X C W (.Raise (some (.Call (.Name (Str.ofString x) p) [.Constant (.str m) j p2] [] pos')) none pos) (sRaise x) := by
  refine psMono (ps_raise hc tk (pmk_own PySem.F.excBase_ValueError c.ex c.mg c.kp (raises_own c.sb c.ty) hg hdb)) fun D σ H h => ?_
  obtain ⟨F, ρ, en, M, he, hm, hp⟩ := h
  exact hp _ none σ H F ρ .refl hm he ⟨by rw [hK], rfl⟩
end G
set_option Elab.async false
set_option linter.all false
set_option maxRecDepth 100000
/-! Small rules more; tables of defs. -/
namespace G
open PySem PySem.Spec PyProof.Rows L2
section
variable {X : Cx} {C : Kt} {W : WX} {a b c e : Expr} {es : List Expr} {pos p p2 : Pos} {x : Str}
theorem de_gintE {i : Int} (hg : Gl X x) (hm : ∃ t, X.mg x = some (.int i t)) (hd : (x == ("__debug__" : Str)) = false) : DE X C W (.Name x pos) (xC (.int i)) := hm.elim fun _ h => de_gint hg h hd
theorem de_gstrE {s : String} (hg : Gl X x) (hm : ∃ t, X.mg x = some (.str (Str.ofString s) t)) (hd : (x == ("__debug__" : Str)) = false) : DE X C W (.Name x pos) (xC (.str (tx s))) := hm.elim fun _ h => de_gstr hg h hd
theorem takes0 : Takes X W0 := fun _ _ ⟨_, _, _, _, _, _, _, _, _, _, _, _, _, _, _, _, w⟩ => w.elim
theorem pgn {i : Nat} (hN : X.N.Nodup) (hi : X.N[i]? = some x := by rfl) (hx : Loc X.env.scope x := by first | exact .inl rfl | exact .inr rfl) (hf : X.fn x = true ∨ X.env.scope.names.lookup x = some .local := by first | exact .inl rfl | exact .inr rfl) : PG X (.Name x pos) (gName i) := pg_name hN hi hx hf
theorem db_stk {body : List Stmt} : DB X C W body (fun _ _ => .stk) := ⟨fun pins s σ H D I h => by
  obtain ⟨F, ρ, en, M, _, _, hp⟩ := h
  exact hp.elim⟩
theorem de_emp : DE X C W (.Dict [] [] pos) xEmp := by
  refine peMono pe_dnewK fun σ H Q h => ?_
  obtain ⟨F, ρ, en, M, he, hm, hp⟩ := h
  intro l hl
  exact hp _ _ _ _ (Stp.new hl (hm.freeF hl)) (hm.new hl) (.emp upd_same)
theorem opd_mul : OpD C (rMulX C.K) dMul := fun W σ H F ρ M x y a b Q m ra rb h => by
  unfold dMul at h
  split at h
  · rename_i i j
    cases ra; cases rb
    split at h
    · rename_i q
      refine .inl ⟨i, j, rfl, rfl, ?_, PostG.ok h m (.int _)⟩
      unfold small64 at q
      simp only [Bool.or_eq_true, Bool.and_eq_true, decide_eq_true_eq] at q
      exact q
    · exact h.elim
  · rename_i xs j
    cases rb
    split at h
    · rename_i q
      simp only [Bool.and_eq_true, decide_eq_true_eq] at q
      obtain ⟨⟨⟨q0, q1⟩, q2⟩, q3⟩ := q
      cases ra with
      | @tup l vs _ e1 e2 =>
        refine .inr ⟨l, j, vs, rfl, rfl, SqT.of (m.sub _ _ e1), ?_, q1, q2, by rw [e2.length]; exact q3, fun z hz => ?_⟩
        · rintro rfl
          cases e2
          simp at q0
        · have hf := m.freeF hz
          refine h _ _ _ _ (Stp.new hz hf) (m.new hz) (.tup upd_same ?_)
          have e3 := e2.mono (Stp.new (ρ := ρ) (o := .tup (List.replicate j.toNat vs).flatten) hz hf).f .refl
          have key : ∀ n : Nat, Reps C (upd F z (.tup (List.replicate j.toNat vs).flatten)) ρ (List.replicate n vs).flatten (List.replicate n xs).flatten := fun n => by
            induction n with
            | zero => exact .nil
            | succ n ih => rw [List.replicate_succ, List.replicate_succ, List.flatten_cons, List.flatten_cons]; exact e3.append ih
          exact key j.toNat
    · exact h.elim
  · exact h.elim
theorem met_append : MetD C rAppend mAppend := fun W σ H F ρ M x d vs ds Q m rx r h => by
  unfold mAppend at h
  split at h
  · rename_i n v
    split at h
    · rename_i xs e
      split at h
      · rename_i hz
        cases rx with
        | ref q =>
          obtain ⟨b, ho, e1, e2, e3, e4⟩ := m.at e
          rw [q] at e1; cases e1
          cases ho <;> first | exact e4.elim | skip
          rename_i ys
          have e5 : Reps C F ρ ys xs := e4
          cases r with
          | @cons y _ _ _ r1 r2 =>
            cases r2
            refine ⟨_, ys, y, rfl, rfl, e3, by rw [e5.length, sizeLine_eq]; omega, ?_⟩
            exact h _ _ _ _ (Stp.put (H := H) q (by rw [e3]; simp)) (m.put (o := .lst (xs ++ [v])) (ho := .lst (ys ++ [y])) q (e5.append (.one r1))) .non
      · exact h.elim
    · exact h.elim
  · exact h.elim
/-- name = [..] on one line -/
theorem ds_setLc {pt : Pat} {i : Nat} {y : Str} {py : Pos} {elt tg iter : Expr} {ifs : List Expr} {scope : Scope} {own : List (Str × Nat)} {pos spos : Pos} {mi : MI} {t : MT} {z : ME} (hK : C.K = X.K) (hc : X.calm = true) (hN : X.N.Nodup) (hi : DI X C W tg iter mi) (ok : BlkOk X.N X.env.scope scope own) (hin : pt.in_ (own.map (·.2)) = true)
    (hg : ∀ (s : Shared) (H : Hp) (Ca : Addr) (cl : List (Str × Addr)) (fp : List Addr), PG (X.blk s H scope (compEnvC scope cl Ca X.env) fp) tg (pt.tgr C.K)) (ht : ∀ (s : Shared) (H : Hp) (Ca : Addr) (cl : List (Str × Addr)) (fp : List Addr), DTs (X.blk s H scope (compEnvC scope cl Ca X.env) fp) C W0 ifs t)
    (he : ∀ (s : Shared) (H : Hp) (Ca : Addr) (cl : List (Str × Addr)) (fp : List Addr), DE (X.blk s H scope (compEnvC scope cl Ca X.env) fp) C W0 elt z) (hy : X.N[i]? = some y := by rfl) (hyl : X.env.scope.names.lookup y = some .local := by rfl) (hk : X.env.scope.kind = .function := by rfl) (hl : (py.line == pos.line) = true := by rfl) (ha : (scope.names.any fun (n, k) => n == y && (k == .local || k == .cell)) = false := by rfl)
    (hs : ∀ z, foldedSetIterable iter X.env z = pure z := by intro _; rfl) :
    DS X C W (.Assign [.Name y py] (.ListComp elt [⟨tg, iter, ifs, 0⟩] scope pos) spos) (sAsg (xLc mi pt.mg t z (own.map (·.2))) (gVar i)) :=
  psMono (ps_setLc hc hN hy hyl (sw_true hk hyl hl ha) hi ok hg ht he hs) fun D σ H h => lc_of hin (asg_of (fun v σ H Q z => gVar_of z) h)
end
section
variable {P : Program} {w : World} {K : PySem.W.Frag} {mg : Str → Option Value} {base : Heap} {x : String} {params : Arguments} {body : List Stmt} {scope : Scope} {fd : FuncData} {N ps : List Str} {k : Nat}
theorem fd_stk (F : FunD K (Str.ofString x) (Str.ofString x) params body scope [] [] (He.ga K (Str.ofString x)) fd) (hm : mg (Str.ofString x) = some (.ref (He.ga K (Str.ofString x)))) (S : FnScope N ps scope)
    (hb : ∀ (kV doc pm : Value) (an : Option Addr) (cdv ct : Value) (us : List Value), us.length = ps.length → bindArgs (PySem.W.fnOf (Str.ofString x) (Str.ofString x) params body scope .none kV doc pm an cdv ct) ⟨us, []⟩ = pure (ps.zip us)) : Fd P w K mg base (k + 1) x ps.length (fun _ _ => .stk) :=
  (fd_mk F hm S hb fun cdv A outer s H E hr => db_stk).imp fun _ _ _ => .same
end
/-! ### a dict of the module: texts to defs -/
structure TabF (K : PySem.W.Frag) (w : World) (x : String) (t : List (String × String)) : Prop where
  kd : ∃ es n, KDict K w (He.ga K (Str.ofString x)) es n
  val : ∀ s f, findT t s = some f → KDct K w (He.ga K (Str.ofString x)) (sOf s) (.ref (He.ga K (Str.ofString f)))
  isin : ∀ s, ∃ r, PySem.W.nsIn K (He.ga K (Str.ofString x)) (sOf s) = some r ∧ r.isSome = (findT t s).isSome
section
variable {X : Cx} {W : WX} {e i : Expr} {es : List Expr} {mr : MA} {mk : ME} {j k n : Nat} {x : String} {p p2 p3 pos : Pos} {t : List (String × String)} {fs : String → List D → R D}
theorem de_inT {C : Kt} (hK : C.K = X.K) (T : TabF X.K X.w x t) (hg : Gl X (Str.ofString x)) (hm : X.mg (Str.ofString x) = some (.ref (He.ga X.K (Str.ofString x)))) (hd : (Str.ofString x == ("__debug__" : Str)) = false) (hk : DE X C W i mk) (hb : behindInMarks .In (.Name (Str.ofString x) p) = false := by rfl) :
    DE X C W (.Compare i [.In] [.Name (Str.ofString x) p] pos) (xBin (dInT x t) mk (xC (.glo x))) := by
  obtain ⟨es, n, D⟩ := T.kd
  refine de_cmp (op_in_kd D) (fun W σ H F ρ M v y a b Q m ra rb h => ?_) hk (de_glo hK.symm hg hm hd) hb
  unfold dInT at h
  split at h
  · rename_i s y
    split at h
    · rename_i ey
      subst ey
      cases ra; cases rb
      obtain ⟨r, e1, e2⟩ := T.isin s
      refine ⟨_, r, rfl, by rw [hK], e1, ?_⟩
      rw [e2]
      exact PostG.ok h m (.bl _)
    · exact h.elim
  · exact h.elim
theorem de_callT (T : TabF X.K X.w x t) (hF : ∀ q ∈ t, Fd X.prog X.w X.K X.mg X.base k q.2 n (fs q.2)) (hg : Gl X (Str.ofString x)) (hm : X.mg (Str.ofString x) = some (.ref (He.ga X.K (Str.ofString x)))) (hdb : (Str.ofString x == ("__debug__" : Str)) = false) (hr : Room j X.A) (hk : k ≤ j) (tk : Takes X W)
    (hi : DE X ⟨X.K, []⟩ W i mk) (ha : DA X ⟨X.K, []⟩ W (e :: es) mr) (hml : ∀ en M ds M', mr en M = .ok ds M' → ds.length = n) (hs : PlainIx i := by exact fun _ _ => rfl)
    (he : starEach (e :: es) X.env = (false, eval e X.env) :: starEach es X.env := by rfl) (hpl : (backTo pos (starEach es X.env)).any (·.1) = false := by rfl)
    (hce : eval (.Call (.Subscript (.Name (Str.ofString x) p) i p2) (e :: es) [] pos) X.env = (do callWith pos (← eval (.Subscript (.Name (Str.ofString x) p) i p2) X.env) [] (backTo pos (starEach (e :: es) X.env)) (backToKw pos (keywordEach [] X.env))) := by rfl) :
    DE X ⟨X.K, []⟩ W (.Call (.Subscript (.Name (Str.ofString x) p) i p2) (e :: es) [] pos) (xCallT t fs mk mr) := by
  refine ⟨fun pins s σ H Q I h => ?_⟩
  obtain ⟨F, ρ, en, M, hen, hm0, hp⟩ := h
  have ps : PE X (.Subscript (.Name (Str.ofString x) p) i p2) (tOp (rIxD X.K X.w) (tC (.ref (He.ga X.K (Str.ofString x)))) (tE ⟨X.K, []⟩ W mk)) := pe_ix ix_kdict (pe_glob hg hm (v := .ref (He.ga X.K (Str.ofString x))) rfl hdb) hi hs
  refine Call_ (thn (ps.run pins s σ H (fun v H1 => ∃ f, f ∈ t ∧ v = .ref (He.ga X.K (Str.ofString f.2)) ∧ tA ⟨X.K, []⟩ W mr σ H1 (fun vs H3 => spD X.K (fs f.2) n vs H3 Q fun c d H => W c d σ H)) I ?_) fun u s1 ⟨v, H1, I1, rv, f, hf, ev, q⟩ => ?_) hce
  · refine ⟨F, ρ, en, M, hen, hm0, (PostG.bind hp).imp fun y H1 ⟨d, F1, ρ1, M1, s1, m1, r1, p1⟩ => ?_⟩
    split at p1
    · rename_i z
      cases r1
      split at p1
      · rename_i f ef
        refine ⟨_, _, _, rfl, rfl, T.val z f ef, ?_⟩
        obtain ⟨q, e1, e2⟩ := Option.map_eq_some_iff.mp ef
        refine ⟨q, List.mem_of_find?_eq_some e1, by rw [e2], F1, ρ1, en, M1, hen.step s1, m1, (PostG.bindE p1).imp fun vs H2 ⟨ds, F2, ρ2, M2, eo, s2, m2, r2, p2⟩ => ⟨?_, F2, ρ2, M2, ds, m2, r2, ?_⟩⟩
        · rw [r2.length]
          exact hml en M1 ds M2 eo
        · rw [e2]
          exact wishless (fun _ _ _ z => z) p2
      · exact p1.elim
    · exact p1.elim
  · subst ev
    obtain rfl : u = Value.ref (He.ga X.K (Str.ofString f.2)) := rv
    have h := hF f hf
    obtain ⟨fd, ps2, G, b⟩ := h.ex
    refine PySem.W.callWith_K (h₀ := X.base) I1.ok.mod.kin h.kp (thn (ha.run pos pins s1 σ H1 _ I1 q) fun us s2 ⟨vs, H2, I2, r, q2⟩ => ⟨I2.kIn, ?_⟩) he hpl
    exact run_fnS (G.mono hk) hr b (passAt tk σ) I2 r q2
end
end G
set_option Elab.async false
set_option linter.all false
set_option maxRecDepth 100000
set_option maxHeartbeats 2000000
/-! A caught error: its isinstance, a def that is asked of it, try. -/
theorem L2H.RoomH.units {k : Nat} {A : PySem.Around} (r : L2H.RoomH k A) : A.units + 64 < PySem.cLine := by have := r.un; omega
namespace G
open PySem PySem.Spec PyProof.Rows L2

def nameV (K : PySem.W.Frag) (x : String) : Value := if x = "ValueError" then .type "ValueError" else .ref (He.ga K (Str.ofString x))
/-- what isinstance says of errors of these classes -/
structure KitB (K : PySem.W.Frag) (isB : String → String → Option Bool) : Prop where
  ex : ∀ c x b, isB c x = some b → ExcC K (He.ga K (Str.ofString c))
  kit : ∀ c x b, isB c x = some b → PySem.W.kitOne K (.ref (He.ga K (Str.ofString c))) (nameV K x) = some b
def rIsP (K : PySem.W.Frag) (pz : List (Addr × Obj)) : List V → Hp → VK → Prop := fun xs H Q => ∃ (a : Addr) (oe : Obj) (D : Addr) (b : Bool), (a, oe) ∈ pz ∧ ExcC K D ∧ Zc (.ref D) none oe ∧ (∃ vs, oe.data = .fields vs) ∧
  ((∃ (c : V) (cv : Value), xs = [.ref a, c] ∧ ClsV c cv ∧ PySem.W.kitOne K (.ref D) cv = some b) ∨ (∃ (tp : Addr) (cs : List V) (us : List Value), xs = [.ref a, .ref tp] ∧ H tp = some (.tup cs) ∧ Paired ClsV cs us ∧ PySem.W.kitAny K (.ref D) us = some b)) ∧ Q (.bl b) H
theorem call_isP {X : Cx} {pz : List (Addr × Obj)} (hp : ∀ q ∈ pz, q ∈ X.pn) : CallR X (.builtin "isinstance") (rIsP X.K pz) := by
  intro pins s σ H xs us Q I r h
  obtain ⟨a, oe, D, b, hm, C, hz, ⟨ws, hv⟩, h, q⟩ := h
  obtain ⟨hget, _⟩ := I.pin (a, oe) (List.mem_append.mpr (.inl (hp _ hm)))
  have J : PySem.W.InstAt s.heap a oe D none := by
    obtain ⟨oc, od, oda, osl⟩ := oe
    obtain ⟨h1, h2⟩ := hz
    dsimp only at h1 h2 hv
    subst h1 h2 hv
    exact ⟨hget, rfl, rfl, trivial⟩
  have Z := PySem.W.handS_kitx_exc (x := a) (ox := oe) C.hg C.hk C.hs C.hd C.ha C.hn C.ht C.hm
  rcases h with ⟨c, cv, rfl, k, e⟩ | ⟨tp, cs, ts, rfl, hT, k, e⟩
  · obtain ⟨u1, u2, rfl, r1, r2⟩ := vals2 r
    have e2 := k.eq r2
    subst e2
    cases (show u1 = Value.ref a from r1)
    exact PySem.W.kia_one Z I.kIn J e (fun z => nomatch z) fun tk => ⟨.bl b, H, I.tok tk, rfl, q⟩
  · obtain ⟨u1, u2, rfl, r1, r2⟩ := vals2 r
    cases (show u2 = Value.ref tp from r2)
    cases (show u1 = Value.ref a from r1)
    obtain ⟨_, its, rv, o, h1, h2, n, h3⟩ := (show ObjOk X.prog X.w H s.heap tp (.tup cs) from I.hok tp _ hT)
    have e3 := ClsV.all k rv
    subst e3
    obtain ⟨oc, od, dt, sl⟩ := o
    simp only at h2 h3
    subst h2 h3
    exact PySem.W.kia_tup Z I.kIn J h1 e (fun z => nomatch z) fun tk => ⟨.bl b, H, I.tok tk, rfl, q⟩
section
variable {C : Kt} {isB : String → String → Option Bool}
theorem cls_rep (hB : KitB C.K isB) {F : Hp} {ρ : List Addr} {v : V} {d : D} {c : String} {b : Bool} (r : Rep C F ρ v d) (h : clsAns isB c d = some b) : ∃ cv, ClsV v cv ∧ PySem.W.kitOne C.K (.ref (He.ga C.K (Str.ofString c))) cv = some b ∧ ExcC C.K (He.ga C.K (Str.ofString c)) := by
  cases r with
  | glo x =>
    simp only [clsAns] at h
    split at h
    · cases h
    · rename_i q
      have k := hB.kit c x b h
      unfold nameV at k
      rw [if_neg q] at k
      exact ⟨_, .own _, k, hB.ex c x b h⟩
  | ty n =>
    simp only [clsAns] at h
    split at h
    · rename_i q
      have k := hB.kit c n b h
      unfold nameV at k
      rw [if_pos q] at k
      subst q
      exact ⟨_, .ty _, k, hB.ex c _ b h⟩
    · cases h
  | _ => simp [clsAns] at h
theorem clss_rep (hB : KitB C.K isB) {F : Hp} {ρ : List Addr} {c : String} : ∀ {vs : List V} {ds : List D} {bs : List Bool}, Reps C F ρ vs ds → clsAll isB c ds = some bs → ∃ us, Paired ClsV vs us ∧ PySem.W.kitAny C.K (.ref (He.ga C.K (Str.ofString c))) us = some (bs.any id)
  | _, _, _, .nil, e => by cases e; exact ⟨[], .nil, rfl⟩
  | _, _, _, .cons h q, e => by
    unfold clsAll at e
    split at e
    · rename_i b bs e1 e2
      cases e
      obtain ⟨cv, k1, k2, _⟩ := cls_rep hB h e1
      obtain ⟨us, p1, p2⟩ := clss_rep hB q e2
      refine ⟨_, .cons k1 p1, ?_⟩
      unfold PySem.W.kitAny
      rw [k2]
      cases b with
      | true => rfl
      | false => rw [List.any_cons, id, Bool.false_or]; exact p2
    · cases e
theorem exc_of_all (hB : KitB C.K isB) {c : String} {F : Hp} {ρ : List Addr} : ∀ {ds : List D} {vs : List V} {bs : List Bool}, Reps C F ρ vs ds → clsAll isB c ds = some bs → ds ≠ [] → ExcC C.K (He.ga C.K (Str.ofString c))
  | _, _, _, .nil, _, n => absurd rfl n
  | _, _, _, .cons h q, e, _ => by
    unfold clsAll at e
    split at e
    · rename_i b bs e1 e2
      exact (cls_rep hB h e1).choose_spec.2.2
    · cases e
theorem cal_isE (hB : KitB C.K isB) : CalD C (rIsP C.K C.pz) (fIsE isB) := fun W σ H F ρ M vs ds Q m r h => by
  unfold fIsE at h
  split at h
  · rename_i c y ys
    split at h
    · rename_i bs e
      cases r with
      | cons r1 r2 =>
        cases r2 with
        | cons r2 r3 =>
          cases r3
          cases r2 with
          | tup z1 z2 =>
            cases r1 with
            | errP y1 y2 y3 =>
              obtain ⟨us, k1, k2⟩ := clss_rep hB z2 e
              exact ⟨_, _, _, _, y1, exc_of_all hB z2 e (List.cons_ne_nil _ _), y2, y3, .inr ⟨_, _, _, rfl, m.sub _ _ z1, k1, k2⟩, PostG.ok h m (.bl _)⟩
    · exact h.elim
  · rename_i c y _
    split at h
    · rename_i b e
      cases r with
      | cons r1 r2 =>
        cases r2 with
        | cons r2 r3 =>
          cases r3
          cases r1 with
          | errP y1 y2 y3 =>
            obtain ⟨cv, k1, k2, k3⟩ := cls_rep hB r2 e
            exact ⟨_, _, _, _, y1, k3, y2, y3, .inl ⟨_, _, rfl, k1, k2⟩, PostG.ok h m (.bl _)⟩
    · exact h.elim
  · exact h.elim
end
/-! ### a def that is asked of a caught error -/
structure FnE (P : Program) (w : World) (K : PySem.W.Frag) (mg : Str → Option Value) (base : Heap) (k : Nat) (f : Addr) (fd : FuncData) (ps : List Str) (sp : Addr × Obj → Sp) : Prop where
  len : ∀ p vs H Q E, sp p vs H Q E → vs.length = ps.length
  run : ∀ (A : Around) (outer : List Env) (s : Shared) (H : Hp) (args : Args) (us : List Value) (vs : List V) (Q : VK) (E : XK) (p : Addr × Obj), L2H.RoomH k A → L2H.PinOk outer H s p → Env0 P w K mg base A outer s H → BindsTo s fd args (ps.zip us) → Vals vs us → sp p vs H Q E →
    codeAny (model P w) A (.call (.ref f) args) (CR (L2.CX P w) outer P w H s Q E) s
theorem fnE_of {P : Program} {w : World} {K : PySem.W.Frag} {mg : Str → Option Value} {base : Heap} {k : Nat} {f : Addr} {x qual : Str} {params : Arguments} {body : List Stmt} {scope : Scope} {fd : FuncData} {N ps : List Str} {sp : Addr × Obj → Sp}
    (F : FunD K x qual params body scope [] [] f fd) (S : FnScope N ps scope) (len : ∀ p vs H Q E, sp p vs H Q E → vs.length = ps.length)
    (hbody : ∀ (cdv : Value) (A : Around) (outer : List Env) (s : Shared) (H : Hp) (vs : List V) (Q : VK) (E : XK) (p : Addr × Obj), L2H.RoomH k (A.deeper (envOfC qual scope s.heap.objs.size f cdv)) → sp p vs H Q E →
      ∃ t, PSs (L2H.cxH (L2.CX P w) P w K mg base N qual scope f cdv A outer s H E p) body t ∧ t { nx := fun _ H' => Q .non H', rt := Q } (L2.start N vs) H) :
    FnE P w K mg base (k + 1) f fd ps sp := by
  obtain ⟨oc, od, dV, kV, doc, pm, an, cdv, ct, osl, rfl, lk, hcd, _, _⟩ := F.ex
  refine ⟨len, fun A outer s H args us vs Q E p hr hpin e0 hb r hsp => ?_⟩
  have hl := len _ _ _ _ _ hsp
  have KX : K.In s.heap := e0.mod.kin.keeps fun b o e => (e0.bs b o e).1
  have lim : s.heap.NoLimit := e0.mod.nolimit.keeps fun b o e => (e0.bs b o e).1
  have hkind : ∀ y ∈ ps.zip us, scope.names.lookup y.1 = some .local ∨ (scope.names.lookup y.1 = some .cell ∧ ((cellsFrom (s.heap.objs.size + 1) scope.names []).lookup y.1).isSome = true) := fun ⟨n, v⟩ hy =>
    (S.par n (List.of_mem_zip hy).1).elim .inl fun q => .inr ⟨q, PySem.W.cellsFrom_some _ _ _ (.inl q)⟩
  refine codeAny_call_function hr.depth (KX _ _ lk) rfl S.co S.gen rfl (PySem.W.codeRec_of KX hcd) (hb _ _ _ _ ?_)
  refine wpAny_newFunctionEnv_cells S.kind hkind fun env he s1 xx => ?_
  subst he
  refine ⟨lim.keeps xx.toInCall.keep, codeAny_func ?_⟩
  obtain ⟨t, ht, hq⟩ := hbody cdv A outer s H vs Q E p (hr.deeper _) hsp
  have I := L2H.inv_startH (CX := L2.CX P w) (E := E) S hpin e0 hl r xx
  refine wpAny_mono (ht.run [] s1 (L2.start N vs) H _ I hq) (fun fl s' hs => ?_) fun e s' hs => hs
  cases fl with
  | ret u =>
    obtain ⟨v, σ', H', J, rv, q⟩ := hs
    exact ⟨v, H', J.os, J.bare, J.base, J.hok, rv, q⟩
  | next =>
    obtain ⟨σ', H', J, q⟩ := hs
    exact ⟨.non, H', J.os, J.bare, J.base, J.hok, rfl, q⟩
  | brk => exact hs.elim fun _ z => z.elim fun _ z => z.2.elim
  | cont => exact hs.elim fun _ z => z.elim fun _ z => z.2.elim
/-- later states -/
def Ext (H H' : Hp) : Prop := (∀ a o, H a = some o → H' a = some o) ∧ ∀ a, H' a = none → H a = none
/-- fw tells the text that it answers for an error of that class -/
def spW (K : PySem.W.Frag) (fw : String → Option T) (p : Addr × Obj) : Sp := fun vs H Q _ => ∃ c z, fw c = some z ∧ Zc (.ref (He.ga K (Str.ofString c))) none p.2 ∧ (∃ us, p.2.data = .fields us) ∧ vs = [.ref p.1] ∧ ∀ H', Ext H H' → Q (.str (sOf z)) H'
structure FdW (P : Program) (w : World) (K : PySem.W.Frag) (mg : Str → Option Value) (base : Heap) (k : Nat) (x : String) (fw : String → Option T) : Prop where
  ex : ∃ (fd : FuncData) (p : Str), FnE P w K mg base k (He.ga K (Str.ofString x)) fd [p] (spW K fw) ∧ Binds K fd [p] []
  mg : mg (Str.ofString x) = some (.ref (He.ga K (Str.ofString x)))
  kp : PySem.W.keepIn K (.ref (He.ga K (Str.ofString x))) = true
theorem fdW_mk {P : Program} {w : World} {K : PySem.W.Frag} {mg : Str → Option Value} {base : Heap} {x : String} {y : Str} {params : Arguments} {body : List Stmt} {scope : Scope} {fd : FuncData} {N : List Str} {k : Nat} {mb : MS} {fw : String → Option T}
    (F : FunD K (Str.ofString x) (Str.ofString x) params body scope [] [] (He.ga K (Str.ofString x)) fd) (hm : mg (Str.ofString x) = some (.ref (He.ga K (Str.ofString x)))) (S : FnScope N [y] scope)
    (hb : ∀ (kV doc pm : Value) (an : Option Addr) (cdv ct : Value) (us : List Value), us.length = [y].length → bindArgs (PySem.W.fnOf (Str.ofString x) (Str.ofString x) params body scope .none kV doc pm an cdv ct) ⟨us, []⟩ = pure ([y].zip us))
    (hbody : ∀ (cdv : Value) (A : Around) (outer : List Env) (s : Shared) (H : Hp) (E : XK) (p : Addr × Obj), L2H.RoomH k (A.deeper (envOfC (Str.ofString x) scope s.heap.objs.size (He.ga K (Str.ofString x)) cdv)) →
      DB (L2H.cxH (L2.CX P w) P w K mg base N (Str.ofString x) scope (He.ga K (Str.ofString x)) cdv A outer s H E p) ⟨K, [p]⟩ W0 body mb)
    (hfw : ∀ c z, fw c = some z → ∃ (M' : Mh), mb (startE N.length [.err c none]) [] = .rt (.str z) M') : FdW P w K mg base (k + 1) x fw := by
  refine ⟨⟨fd, y, fnE_of F S (fun p vs H Q E ⟨c, z, _, _, _, e, _⟩ => by rw [e]; rfl) fun cdv A outer s H vs Q E p hr h => ⟨_, hbody cdv A outer s H E p hr, ?_⟩, F.bindsN hb⟩, hm, F.kp⟩
  obtain ⟨c, z, h1, h2, h3, rfl, hq⟩ := h
  obtain ⟨M', e⟩ := hfw c z h1
  have rr : Reps ⟨K, [p]⟩ (fun _ => none) [] [.ref p.1] [.err c none] := .one (.errP (C := ⟨K, [p]⟩) (a := p.1) (oe := p.2) (by simp) h2 h3)
  refine ⟨fun _ => none, [], startE N.length [.err c none], [], relE_start rr N, ⟨(fun a o q => by cases q), rfl, List.nodup_nil, fun n a o q _ => by simp at q⟩, ?_⟩
  rw [e]
  intro v H' F' ρ' s1 m1 r1
  cases r1
  exact hq H' ⟨fun a o q => s1.keep a o q (by simp), s1.there⟩
section
variable {X : Cx} {k i : Nat} {x : String} {y : Str} {p1 q pos : Pos} {fw : String → Option T}
/-- f(e) in the except suite -/
theorem pe_callE {a : Addr} {oe : Obj} {pn : List (Addr × Obj)} (F : FdW X.prog X.w X.K X.mg X.base k x fw) (hr : L2H.RoomH k X.A) (hg : Gl X (Str.ofString x)) (hN : X.N[i]? = some y) (hv : Vis X.env.scope y) (hd : (y == ("__debug__" : Str)) = false) (hcd : (y == ("__classdict__" : Str)) = false) (hdb : (Str.ofString x == ("__debug__" : Str)) = false)
    (he : starEach [.Name y p1] X.env = (false, eval (.Name y p1) X.env) :: starEach [] X.env := by rfl) (hpl : (backTo pos (starEach [] X.env)).any (·.1) = false := by rfl) :
    PE (X.suite a ((a, oe) :: pn)) (.Call (.Name (Str.ofString x) q) [.Name y p1] [] pos) (fun σ H Q => ∃ c z, fw c = some z ∧ Zc (.ref (He.ga X.K (Str.ofString c))) none oe ∧ (∃ us, oe.data = .fields us) ∧ σ[i]? = some (some (.ref a)) ∧ ∀ H', Ext H H' → Q (.str (sOf z)) H') := by
  obtain ⟨fd, py, G, b⟩ := F.ex
  refine ⟨fun pins s σ H Q I h => ?_⟩
  obtain ⟨c, z, h1, h2, h3, h4, h5⟩ := h
  refine wpAny_Call_Name_kw (ld_glob I hg F.mg ?_ hdb)
  have ha : PA (X.suite a ((a, oe) :: pn)) [.Name y p1] (tCons (tVar i) tNil) := pa_cons (pe_var hN hv hd hcd) pa_nil he
  refine PySem.W.callWith_K (h₀ := X.base) I.ok.mod.kin F.kp (thn (ha.run pos pins s σ H (fun vs H' => vs = [.ref a] ∧ H' = H) I ⟨_, h4, rfl, rfl⟩) fun us s1 ⟨vs, H1, I1, r, e1, e2⟩ => ⟨I1.kIn, ?_⟩) he hpl
  subst e1 e2
  have hl : us.length = [py].length := by rw [← r.length]; rfl
  have bb := b s1 us I1.kIn (by rw [List.append_nil]; exact hl)
  rw [List.append_nil] at bb
  have P1 := I1.pin (a, oe) (List.mem_append_left _ List.mem_cons_self)
  have hpin : L2H.PinOk (X.suite a ((a, oe) :: pn)).stack H1 s1 (a, oe) := ⟨P1.1, P1.2.1, fun hm => (List.mem_cons.mp (I1.stkSub a hm)).elim P1.2.2.1 P1.2.2.2.1, P1.2.2.2.2⟩
  refine wpAny_call (codeAny_mono (G.run _ _ s1 H1 ⟨us, []⟩ us [.ref a] Q (fun _ _ _ => False) (a, oe) ⟨hr.dp, hr.un⟩ hpin I1.env0 bb r ⟨c, z, h1, h2, h3, rfl, h5⟩) fun r s' hq => ?_)
  cases r with
  | error e =>
    obtain ⟨_, _, _, _, _, _, _, _, _, _, _, _, w⟩ := hq
    exact w.elim
  | ok fl =>
    cases fl with
    | ret u => exact I1.after hq
    | next => exact False.elim hq
    | brk => exact False.elim hq
    | cont => exact False.elim hq
theorem RelM.ext {C : Kt} {F H H' : Hp} {ρ : List Addr} {M : Mh} (m : RelM C F ρ H M) (e : Ext H H') : RelM C F ρ H' M where
  sub := fun a o q => e.1 _ _ (m.sub a o q)
  len := m.len
  nd := m.nd
  obj := fun n a o h1 h2 => by
    obtain ⟨f, ho, z1, z2⟩ := m.obj n a o h1 h2
    exact ⟨f, ho, e.1 _ _ z1, z2⟩
theorem Stp.ext {H F H' F' H2 : Hp} {ρ ρ' : List Addr} (s : Stp H F ρ H' F' ρ') (e : Ext H' H2) : Stp H F ρ H2 F' ρ' where
  f := s.f
  r := s.r
  keep := fun a o h n => e.1 _ _ (s.keep a o h n)
  nf := s.nf
  nr := s.nr
  there := fun a h => s.there a (e.2 a h)
/-- try: e; except x as y: return f(y) -/
theorem ds_try1 {W : WX} {e : Expr} {m : ME} {g : String} {np p0 rp cp pos' : Pos} (hs : X.stack = X.env :: X.outer) (hf : X.env.frame = some X.env.locals) (hN : X.N.Nodup) (hi : X.N[i]? = some y) (hln : X.env.kindOf y = some .local) (hv : Vis X.env.scope y) (hd : (y == ("__debug__" : Str)) = false) (hcd : (y == ("__classdict__" : Str)) = false)
    (hgx : Gl X (Str.ofString g)) (hmx : X.mg (Str.ofString g) = some (.ref (He.ga X.K (Str.ofString g)))) (hdx : (Str.ofString g == ("__debug__" : Str)) = false) (tk : Takes X W) (F : FdW X.prog X.w X.K X.mg X.base k x fw) (hr : L2H.RoomH k X.A) (hg : Gl X (Str.ofString x)) (hdb : (Str.ofString x == ("__debug__" : Str)) = false)
    (hgz : ∀ c z, fw c = some z → good z = true) (hE : ∀ c z, fw c = some z → PySem.W.exmOne X.K (.ref (He.ga X.K (Str.ofString c))) (.ref (He.ga X.K (Str.ofString g))) = some true)
    (hb : ∀ (W' : WX) (pn : List (Addr × Obj)) (xe : Value → Shared → Prop), Takes (X.tr pn xe) W' → DE (X.tr pn xe) ⟨X.K, []⟩ W' e m)
    (hsw : swapsWith e none p0.line X.env = pure false := by rfl)
    (he : starEach [.Name y p1] X.env = (false, eval (.Name y p1) X.env) :: starEach [] X.env := by rfl) (hpl : (backTo cp (starEach [] X.env)).any (·.1) = false := by rfl) :
    DS X ⟨X.K, []⟩ W (.Try [.Expr e p0] [.ExceptHandler (some (.Name (Str.ofString g) np)) (some y) [.Return (some (.Call (.Name (Str.ofString x) q) [.Name y p1] [] cp)) rp] pos'] [] [] pos) (sTry1 m i fw) := by
  refine psMono (ps_try_as (c := .ref (He.ga X.K (Str.ofString g))) (tb := fun W' => tS ⟨X.K, []⟩ W' (sDrop m)) (ts := fun a cls d D σ H => ∃ c z, fw c = some z ∧ cls = .ref (He.ga X.K (Str.ofString c)) ∧ d = none ∧ σ[i]? = some (some (.ref a)) ∧ ∀ H', Ext H H' → D.rt (.str (sOf z)) H') hs hf hN hi hln ⟨hgx, hdx, .inl hmx⟩ tk
    (fun W' pn xe tk' _ => db_one (ds_drop (hb W' pn xe tk') hsw)) (fun a oe cls d pn hz hfl => ?_)) fun D σ H h => ?_
  · refine pss_one (psMono (ps_ret (pe_callE F hr hg hi hv hd hcd hdb he hpl)) fun D σ H h => ?_)
    obtain ⟨c, z, h1, rfl, rfl, h3, h4⟩ := h
    exact ⟨c, z, h1, hz, hfl, h3, h4⟩
  · obtain ⟨F0, ρ, en, M, hen, hm, hp⟩ := h
    refine ⟨F0, ρ, en, M, hen, hm, ?_⟩
    unfold sTry1 at hp
    unfold sDrop
    cases em : m en M with
    | ok d M1 =>
      rw [em] at hp
      exact hp
    | stk =>
      rw [em] at hp
      exact hp
    | exc xx M1 =>
      rw [em] at hp
      dsimp only at hp
      split at hp
      · rename_i z ea ez
        split at hp
        rotate_left
        · exact hp.elim
        rename_i hil
        intro cls dd σ' H' F' ρ' s1 m1 e1 r1
        obtain ⟨r2, r3⟩ := r1
        rw [ea] at r3
        refine ⟨true, ?_, fun _ a ha => ⟨xx.cls, z, ez, r2, r3, ?_, fun H2 hx => ?_⟩, fun q => by cases q⟩
        · rw [r2]
          exact hE _ _ ez
        · rw [List.getElem?_set_self (by rw [← e1.len]; exact hil)]
        · exact hp _ H2 F' ρ' (s1.ext hx) (m1.ext hx) (.str (hgz _ _ ez))
      · exact hp.elim
end
end G
set_option Elab.async false
set_option linter.all false
set_option maxRecDepth 100000
set_option maxHeartbeats 2000000
/-! The head's facts turned into the walk's. -/
namespace G
open PySem PySem.Spec PyProof.Rows L2
theorem find_tab : ∀ {l : List DictEntry} {P : Params} {ks : List Str}, l.map He.keyOf = He.keysIn P ks → ∀ z : Str, (l.find? (·.key.isStr z)).isSome = ks.any (· == z) ∧ l.any (·.refKey) = false
  | [], _, [], _, z => ⟨rfl, rfl⟩
  | [], _, _ :: _, h, _ => by cases h
  | _ :: _, _, [], h, _ => by cases h
  | e :: r, P, k :: ks, h, z => by
    have h1 : He.keyOf e :: r.map He.keyOf = some (k, PyData.keyHash P k) :: He.keysIn P ks := h
    injection h1 with h2 h3
    obtain ⟨q1, q2⟩ := find_tab h3 z
    unfold He.keyOf at h2
    split at h2
    · rename_i x t ek
      have h4 := Option.some.inj h2
      obtain ⟨h5, _⟩ := Prod.mk.inj h4
      subst h5
      refine ⟨?_, ?_⟩
      · rw [List.find?_cons, List.any_cons]
        have e1 : e.key.isStr z = (x == z) := by rw [ek]; rfl
        rw [e1]
        cases x == z with
        | true => rfl
        | false => rw [Bool.false_or]; exact q1
      · rw [List.any_cons, q2, Bool.or_false]
        unfold DictEntry.refKey
        rw [ek]
    · cases h2
theorem nsIn_tab {K : PySem.W.Frag} {w : World} {a : Addr} {ks : List Str} (h : He.dicW K a = some (He.keysIn w.params ks)) (z : Str) : ∃ r, PySem.W.nsIn K a z = some r ∧ r.isSome = ks.any (· == z) := by
  unfold He.dicW at h
  split at h
  · rename_i c es n sl ho
    split at h
    · obtain ⟨q1, q2⟩ := find_tab (Option.some.inj h) z
      unfold PySem.W.nsIn
      rw [ho]
      dsimp only
      split
      · rename_i e he
        rw [he] at q1
        exact ⟨_, rfl, q1⟩
      · rename_i he
        rw [he] at q1
        rw [q2]
        exact ⟨_, rfl, q1⟩
    · cases h
  · cases h
def kvT (t : List (String × String)) : List (Str × He.Dv) := t.map fun p => (Str.ofString p.1, He.Dv.glo (Str.ofString p.2))
theorem tabF_of {K : PySem.W.Frag} {w : World} {x : String} {t : List (String × String)} (h : He.dicW K (He.ga K (Str.ofString x)) = some (He.keysIn w.params (t.map fun p => Str.ofString p.1))) (hv : He.valsB K (He.ga K (Str.ofString x)) (kvT t) = true) : TabF K w x t where
  kd := He.dicW_ok h
  val := fun s f e => by
    obtain ⟨es, n, D⟩ := He.dicW_ok h
    obtain ⟨q, e1, e2⟩ := Option.map_eq_some_iff.mp e
    have hq := List.mem_of_find?_eq_some e1
    have ht := List.find?_some e1
    have e3 : tx q.1 = s := by simpa using ht
    obtain ⟨u, z1, z2⟩ := He.valsB_ok hv (q := (Str.ofString q.1, He.Dv.glo (Str.ofString q.2))) (List.mem_map.mpr ⟨q, hq, rfl⟩)
    refine ⟨es, n, u, D.at_, D.lit, ?_, ?_⟩
    · rw [← e3, ← ofString_tx]
      exact z1
    · rw [← e2]
      exact z2
  isin := fun s => by
    obtain ⟨r, q1, q2⟩ := nsIn_tab h (sOf s)
    refine ⟨r, q1, ?_⟩
    rw [q2]
    unfold findT
    rw [Option.isSome_map]
    clear q1 q2 h hv
    induction t with
    | nil => rfl
    | cons p t ih =>
      rw [List.map_cons, List.any_cons, List.find?_cons, ih]
      have e : (Str.ofString p.1 == sOf s) = (tx p.1 == s) := by
        rw [ofString_tx]
        by_cases z : tx p.1 = s
        · subst z; simp
        · rw [beq_eq_false_iff_ne.mpr z, beq_eq_false_iff_ne.mpr fun y => z (SX.S_inj y)]
      rw [e]
      cases tx p.1 == s <;> rfl
/-- ExcC, asked -/
def excCB (K : PySem.W.Frag) (x : Str) : Bool :=
  He.eqO (PySem.W.findIn K (.ref (He.ga K x)) "__getattribute__") (some (some (.builtin "BaseException.__getattribute__"))) && (He.eqO (PySem.W.findIn K (.ref (He.ga K x)) "__getattr__") (some none) && (decide (PySem.W.subIn K (.ref (He.ga K x)) (.type "BaseException") = some true) &&
  (PySem.W.hasDictIn K (He.ga K x) && (He.eqO (PySem.W.findIn K (.ref (He.ga K x)) "__class__") (some (some (.builtin "object.__class__"))) && (He.eqO (PySem.W.specialIn K (.builtin "object.__class__") "__get__") (some (some (.builtin "getset_descriptor.__get__"))) &&
  (decide (PySem.W.takesIn K (.builtin "object.__class__") = some true) && decide (PySem.W.mroIn K (He.ga K x) (.type "object") = some true)))))))
theorem excCB_ok {K : PySem.W.Frag} {x : Str} (h : excCB K x = true) : ExcC K (He.ga K x) := by
  obtain ⟨h1, h⟩ := He.ba h
  obtain ⟨h2, h⟩ := He.ba h
  obtain ⟨h3, h⟩ := He.ba h
  obtain ⟨h4, h⟩ := He.ba h
  obtain ⟨h5, h⟩ := He.ba h
  obtain ⟨h6, h⟩ := He.ba h
  obtain ⟨h7, h8⟩ := He.ba h
  exact ⟨He.eqO_ok h1, He.eqO_ok h2, of_decide_eq_true h3, h4, He.eqO_ok h5, He.eqO_ok h6, of_decide_eq_true h7, of_decide_eq_true h8⟩
def kitBB (K : PySem.W.Frag) (cs xs : List String) : Bool := cs.all fun c => excCB K (Str.ofString c) && xs.all fun x => decide (PySem.W.kitOne K (.ref (He.ga K (Str.ofString c))) (nameV K x) = some (decide (x = c) || decide (x = "ValueError")))
theorem kitB_ok {K : PySem.W.Frag} {cs xs : List String} (h : kitBB K cs xs = true) : KitB K (isOf cs xs) where
  ex := fun c x b e => by
    unfold isOf at e
    split at e
    · rename_i q
      exact excCB_ok (He.ba (List.all_eq_true.mp h c q.1)).1
    · cases e
  kit := fun c x b e => by
    unfold isOf at e
    split at e
    · rename_i q
      cases e
      exact of_decide_eq_true (List.all_eq_true.mp (He.ba (List.all_eq_true.mp h c q.1)).2 x q.2)
    · cases e
theorem erC_of {K : PySem.W.Frag} {h : Heap} {mg : Str → Option Value} {x : String} (X : K.In h) (G : h.Ns mainGlobals mg) (c1 : (He.Fa.glo (Str.ofString x)).ok K = true) (c2 : (He.Fa.exc (Str.ofString x)).ok K = true) : ErC K mg x :=
  ⟨He.glo_ok X G c1, (He.exc_ok c2).1, (He.exc_ok c2).2.1, (He.exc_ok c2).2.2.1, (He.exc_ok c2).2.2.2⟩
/-- what such a def may let out, in whatever world -/
def CXe (P : Program) : CXT := fun outer H s E e s' => ∃ w, L2.CX P w outer H s E e s'
theorem fn_any {P : Program} {w : World} {K : PySem.W.Frag} {mg : Str → Option Value} {base : Heap} {k : Nat} {f : Addr} {fd : FuncData} {ps : List Str} {sp : Sp} (F : FnOk P w K mg base (L2.CX P w) k f fd ps sp) : FnOk P w K mg base (CXe P) k f fd ps sp :=
  ⟨F.len, fun A outer s H args us vs Q E hr he hb r h => codeAny_mono (F.run A outer s H args us vs Q E hr he hb r h) fun r s' q => by
    cases r with
    | error e => exact ⟨w, q⟩
    | ok fl => cases fl <;> exact q⟩
theorem cxe_no {P : Program} (H : Hp) (s : Shared) (e : Value) (s' : Shared) (h : CXe P [] H s (fun _ _ _ => False) e s') : False := by
  obtain ⟨w, _, _, _, _, _, _, _, _, _, _, _, _, z⟩ := h
  exact z
/-- the law's end -/
theorem law_end {K : PySem.W.Frag} {f : List D → R D}
    (hf : ∀ ns : List Int, ns.length ≤ 63 → ∃ M, f [.frz (ns.map .int)] [] = .ok (.bl true) M) : ∀ (H : Hp) (a : Addr) (ns : List Int), ns.length ≤ 63 → Only H → SqL K H a (ns.map V.int) → spD K f 1 [.ref a] H (fun v _ => v = .bl true) fun _ _ _ => False := by
  intro H a ns hl hO hS
  have ri : ∀ l : List Int, Reps ⟨K, []⟩ H [] (l.map V.int) (l.map D.int) := fun l => by
    induction l with
    | nil => exact .nil
    | cons i l ih => exact .cons (.int i) ih
  refine ⟨rfl, H, [], [], [.frz (ns.map .int)], ⟨fun _ _ h => h, rfl, List.nodup_nil, fun n a o q _ => by simp at q⟩, .one (.frz hS (ri ns)), ?_⟩
  obtain ⟨M, e⟩ := hf ns hl
  rw [e]
  intro v H' F' ρ' s m r
  cases r
  rfl
end G
set_option Elab.async false
set_option linter.all false
set_option maxRecDepth 100000
set_option maxHeartbeats 2000000
namespace G.K86
def lawFw (c : String) : Option T := if c = "NoPrograms" then some (tx "programs") else none
abbrev isB : String → String → Option Bool := isOf ["NoPrograms"] ["NoRoom", "NoKey", "NoValue", "NoPage", "NoTree", "NoStretch", "NoDeed", "NoPairs", "TooMany", "NoNumber", "NoShape", "NoHand", "Waits", "Holds", "HoldsNot", "NoPlans", "TooWide", "NoPrograms", "NoRule", "NoRecords", "NoDisk", "NoEvent", "NoText", "NoCut", "ValueError"]
def m_is_whole : List D → R D := run 1 (sRet (xAnd (xCall fIsi (aCons (xVar 0) (aCons (xC (.ty "int")) aNil))) (xNot (xCall fIsi (aCons (xVar 0) (aCons (xC (.ty "bool")) aNil))))))
def m_is_within : List D → R D := run 3 (sRet (xAnd (xCall m_is_whole (aCons (xVar 0) aNil)) (xChain dLe dLe (xVar 1) (xVar 0) (xVar 2))))
def m_is_key : List D → R D := run 1 (sRet (xCall m_is_within (aCons (xVar 0) (aCons (xC (.int 0)) (aCons (xC (.int 1000000000)) aNil)))))
def m_is_value : List D → R D := run 1 (sRet (xCall m_is_within (aCons (xVar 0) (aCons (xC (.int 0)) (aCons (xC (.int 1000000000)) aNil)))))
def m_is_pair : List D → R D := run 1 (sRet (xAnd (xCall fIsi (aCons (xVar 0) (aCons (xC (.ty "tuple")) aNil))) (xAnd (xBin dEq (xCall fLen (aCons (xVar 0) aNil)) (xC (.int 2))) (xAnd (xCall m_is_key (aCons (xBin dIx (xVar 0) (xC (.int 0))) aNil)) (xCall m_is_value (aCons (xBin dIx (xVar 0) (xC (.int 1))) aNil))))))
def m_is_stretch : List D → R D := run 2 (sRet (xAnd (xCall m_is_key (aCons (xVar 0) aNil)) (xAnd (xCall m_is_whole (aCons (xVar 1) aNil)) (xChain dLt dLe (xVar 0) (xVar 1) (xBin dAdd (xC (.int 1000000000)) (xC (.int 1)))))))
def m_is_of_key : List D → R D := run 1 (sRet (xAnd (xBin dEq (xCall fLen (aCons (xVar 0) aNil)) (xC (.int 1))) (xCall m_is_key (aCons (xBin dIx (xVar 0) (xC (.int 0))) aNil))))
def m_is_of_pair : List D → R D := run 1 (sRet (xCall m_is_pair (aCons (xCall fTuple (aCons (xVar 0) aNil)) aNil)))
def m_is_of_stretch : List D → R D := run 1 (sRet (xAnd (xBin dEq (xCall fLen (aCons (xVar 0) aNil)) (xC (.int 2))) (xCall m_is_stretch (aCons (xBin dIx (xVar 0) (xC (.int 0))) (aCons (xBin dIx (xVar 0) (xC (.int 1))) aNil)))))
def t_FORMS : List (String × String) := [("find", "is_of_key"), ("put", "is_of_pair"), ("drop", "is_of_key"), ("span", "is_of_stretch"), ("walk", "is_of_stretch")]
def fs_FORMS (x : String) : List D → R D := if x = "is_of_key" then m_is_of_key else if x = "is_of_pair" then m_is_of_pair else m_is_of_stretch
def m_is_deed : List D → R D := run 3 (sSeq (sIf (tOr (tNot (tVal (xCall fIsi (aCons (xVar 0) (aCons (xC (.ty "tuple")) aNil))))) (tOr (tVal (xBin dEq (xVar 0) (xTup aNil))) (tNot (tVal (xCall fIsi (aCons (xBin dIx (xVar 0) (xC (.int 0))) (aCons (xC (.ty "str")) aNil))))))) (sRet (xC (.bl false))) sNil) (sSeq (sAsg (xVar 0) (gStar [(gVar 1)] (gVar 2))) (sRet (xAnd (xBin (dInT "FORMS" t_FORMS) (xVar 1) (xC (.glo "FORMS"))) (xCallT t_FORMS fs_FORMS (xVar 1) (aCons (xVar 2) aNil))))))
def m_are_programs : List D → R D := run 3 (sSeq (sIf (tOr (tNot (tVal (xCall fIsi (aCons (xVar 0) (aCons (xC (.ty "tuple")) aNil))))) (tNot (tVal (xChain dLe dLe (xC (.int 1)) (xCall fLen (aCons (xVar 0) aNil)) (xC (.int 6)))))) (sRet (xC (.bl false))) sNil) (sSeq (sFor (iSeq (xVar 0)) (gVar 1) (sIf (tOr (tNot (tVal (xCall fIsi (aCons (xVar 1) (aCons (xC (.ty "tuple")) aNil))))) (tOr (tVal (xBin dGt (xCall fLen (aCons (xVar 1) aNil)) (xC (.int 8)))) (tNot (tVal (xCall fAll (aCons (xLc (iSeq (xVar 1)) (gVar 2) tYes (xCall m_is_deed (aCons (xVar 2) aNil)) [2]) aNil)))))) (sRet (xC (.bl false))) sNil)) (sRet (xC (.bl true)))))
def m_need_programs : List D → R D := run 1 (sIf (tNot (tVal (xCall m_are_programs (aCons (xVar 0) aNil)))) (sRaise "NoPrograms") sNil)
def m_number_in : List D → R D := run 2 (sSeq (sIf (tOr (tVal (xBin dEq (xVar 0) (xC (.str (tx ""))))) (tOr (tVal (xBin dGt (xCall fLen (aCons (xVar 0) aNil)) (xC (.int 10)))) (tNot (tVal (xCall fAll (aCons (xLc (iTxt (xVar 0)) (gVar 1) tYes (xBin dIn (xVar 1) (xC (.str (tx "0123456789")))) [1]) aNil)))))) (sRaise "NoText") sNil) (sSeq (sIf (tAnd (tVal (xBin dEq (xBin dIx (xVar 0) (xC (.int 0))) (xC (.str (tx "0"))))) (tVal (xBin dNe (xVar 0) (xC (.str (tx "0")))))) (sRaise "NoText") sNil) (sRet (xCall fInt (aCons (xVar 0) aNil)))))
def m_need_words : List D → R D := run 1 (sIf (tNot (tVal (xCall fIsi (aCons (xVar 0) (aCons (xC (.ty "str")) aNil))))) (sRaise "NoText") sNil)
def m_hand_text : List D → R D := run 3 (sRet (xOrT (xMeth "str" mJoin (xC (.str (tx " , "))) (aCons (xLc (iSeq (xVar 0)) (gVar 2) tYes (xMeth "str" mJoin (xC (.str (tx " "))) (aCons (xLc (iSeq (xVar 2)) (gVar 1) tYes (xCall fStr (aCons (xVar 1) aNil)) [1]) aNil)) [2]) aNil)) (xC (.str (tx "-")))))
def m_programs_text : List D → R D := run 2 (sSeq (sDrop (xCall m_need_programs (aCons (xVar 0) aNil))) (sRet (xMeth "str" mJoin (xC (.str (tx " ; "))) (aCons (xLc (iSeq (xVar 0)) (gVar 1) tYes (xCall m_hand_text (aCons (xVar 1) aNil)) [1]) aNil))))
def m_deed_in : List D → R D := run 4 (sSeq (sAsg (xMeth "str" mSplit (xVar 0) (aCons (xC (.str (tx " "))) aNil)) (gStar [(gVar 1)] (gVar 2))) (sRet (xCall fTuple (aCons (xBin dAdd (xLst (aCons (xVar 1) aNil)) (xLc (iSeq (xVar 2)) (gVar 3) tYes (xCall m_number_in (aCons (xVar 3) aNil)) [3])) aNil))))
def m_hand_in : List D → R D := run 2 (sSeq (sIf (tVal (xBin dEq (xVar 0) (xC (.str (tx "-"))))) (sRet (xTup aNil)) sNil) (sRet (xCall fTuple (aCons (xLc (iSeq (xMeth "str" mSplit (xVar 0) (aCons (xC (.str (tx " , "))) aNil))) (gVar 1) tYes (xCall m_deed_in (aCons (xVar 1) aNil)) [1]) aNil))))
def m_read_programs : List D → R D := run 3 (sSeq (sDrop (xCall m_need_words (aCons (xVar 0) aNil))) (sSeq (sAsg (xCall fTuple (aCons (xLc (iSeq (xMeth "str" mSplit (xVar 0) (aCons (xC (.str (tx " ; "))) aNil))) (gVar 2) tYes (xCall m_hand_in (aCons (xVar 2) aNil)) [2]) aNil)) (gVar 1)) (sSeq (sIf (tNot (tVal (xCall m_are_programs (aCons (xVar 1) aNil)))) (sRaise "NoText") sNil) (sRet (xVar 1)))))
def m__law_pot : List D → R D := run 3 (sSeq (sAsg (xC (.int 0)) (gVar 2)) (sSeq (sIf (tVal (xBin dLt (xVar 1) (xCall fLen (aCons (xVar 0) aNil)))) (sAsg (xBin dMod (xCall fAbs (aCons (xBin dIx (xVar 0) (xVar 1)) aNil)) (xBin dPow (xBin dPow (xC (.int 10)) (xC (.int 60))) (xC (.int 10)))) (gVar 2)) sNil) (sRet (xNew (aCons (xBin dMul (xVar 2) (xCall fInt (aCons (xBin dGe (xVar 2) (xBin dPow (xC (.int 10)) (xC (.int 18)))) aNil))) (aCons (xBin dMod (xBin dPow (xBin dAdd (xBin dAdd (xBin dMod (xVar 2) (xC (.int 2147483629))) (xBin dMul (xC (.int 7919)) (xVar 1))) (xC (.int 1))) (xC (.int 5))) (xC (.int 2305843009213693951))) (aCons (xC (.int 0)) aNil)))))))
def m__law_take : List D → R D := run 5 (sSeq (sIf (tVal (xBin dGt (xBin dIx (xVar 0) (xC (.int 0))) (xC (.int 0)))) (sSeq (sAsg (xBin dMod (xBin dIx (xVar 0) (xC (.int 0))) (xVar 1)) (gVar 2)) (sSeq (sAsg (xBin dDiv (xBin dIx (xVar 0) (xC (.int 0))) (xVar 1)) (gSubL (xVar 0) (xC (.int 0)))) (sRet (xVar 2)))) sNil) (sSeq (sAsg (xBin dAdd (xBin dIx (xVar 0) (xC (.int 2))) (xC (.int 1))) (gSubL (xVar 0) (xC (.int 2)))) (sSeq (sAsg (xBin dMod (xBin dPow (xBin dAdd (xBin dIx (xVar 0) (xC (.int 1))) (xBin dMul (xC (.int 104729)) (xBin dIx (xVar 0) (xC (.int 2))))) (xC (.int 3))) (xC (.int 2305843009213693921))) (gVar 3)) (sSeq (sAsg (xBin dMod (xBin dPow (xBin dAdd (xBin dAdd (xVar 3) (xBin dMod (xBin dIx (xVar 0) (xC (.int 1))) (xC (.int 65537)))) (xBin dMul (xC (.int 31)) (xBin dIx (xVar 0) (xC (.int 2))))) (xC (.int 5))) (xC (.int 2305843009213693907))) (gVar 4)) (sRet (xBin dMod (xBin dDiv (xVar 4) (xC (.int 1024))) (xVar 1)))))))
def m__law_key : List D → R D := run 4 (sSeq (sAsg (xCall m__law_take (aCons (xVar 0) (aCons (xC (.int 5)) aNil))) (gVar 2)) (sSeq (sIf (tOr (tVal (xBin dEq (xVar 1) (xTup aNil))) (tVal (xBin dEq (xVar 2) (xC (.int 0))))) (sRet (xBin dIx (xLst (aCons (xCall m__law_take (aCons (xVar 0) (aCons (xC (.int 60)) aNil))) (aCons (xCall m__law_take (aCons (xVar 0) (aCons (xBin dAdd (xBin dPow (xC (.int 10)) (xC (.int 9))) (xC (.int 1))) aNil))) (aCons (xC (.int 0)) (aCons (xBin dPow (xC (.int 10)) (xC (.int 9))) aNil))))) (xCall m__law_take (aCons (xVar 0) (aCons (xC (.int 4)) aNil))))) sNil) (sSeq (sAsg (xBin dIx (xBin dIx (xVar 1) (xCall m__law_take (aCons (xVar 0) (aCons (xCall fLen (aCons (xVar 1) aNil)) aNil)))) (xC (.int 0))) (gVar 3)) (sRet (xCall fMin2 (aCons (xBin dPow (xC (.int 10)) (xC (.int 9))) (aCons (xCall fMax2 (aCons (xC (.int 0)) (aCons (xBin dAdd (xVar 3) (xBin dIx (xLst (aCons (xC (.int 0)) (aCons (xC (.int 0)) (aCons (xC (.int 1)) (aCons (xUn dNeg (xC (.int 1))) aNil))))) (xBin dSub (xVar 2) (xC (.int 1))))) aNil))) aNil)))))))
def m__law_deed : List D → R D := run 5 (sSeq (sAsg (xBin dIx (xVar 2) (xCall m__law_take (aCons (xVar 0) (aCons (xCall fLen (aCons (xVar 2) aNil)) aNil)))) (gVar 3)) (sSeq (sAsg (xCall m__law_key (aCons (xVar 0) (aCons (xVar 1) aNil))) (gVar 4)) (sSeq (sIf (tVal (xBin dEq (xVar 3) (xC (.str (tx "put"))))) (sRet (xTup (aCons (xVar 3) (aCons (xVar 4) (aCons (xBin dIx (xLst (aCons (xCall m__law_take (aCons (xVar 0) (aCons (xC (.int 5)) aNil))) (aCons (xCall m__law_take (aCons (xVar 0) (aCons (xBin dAdd (xBin dPow (xC (.int 10)) (xC (.int 9))) (xC (.int 1))) aNil))) aNil))) (xCall fInt (aCons (xBin dEq (xCall m__law_take (aCons (xVar 0) (aCons (xC (.int 4)) aNil))) (xC (.int 0))) aNil))) aNil))))) sNil) (sSeq (sIf (tVal (xBin dIn (xVar 3) (xTup (aCons (xC (.str (tx "find"))) (aCons (xC (.str (tx "drop"))) aNil))))) (sRet (xTup (aCons (xVar 3) (aCons (xVar 4) aNil)))) sNil) (sRet (xTup (aCons (xVar 3) (aCons (xVar 4) (aCons (xCall fMin2 (aCons (xBin dAdd (xBin dPow (xC (.int 10)) (xC (.int 9))) (xC (.int 1))) (aCons (xBin dAdd (xBin dAdd (xVar 4) (xC (.int 1))) (xBin dIx (xLst (aCons (xCall m__law_take (aCons (xVar 0) (aCons (xC (.int 4)) aNil))) (aCons (xCall m__law_take (aCons (xVar 0) (aCons (xC (.int 60)) aNil))) (aCons (xBin dPow (xC (.int 10)) (xC (.int 9))) aNil)))) (xCall m__law_take (aCons (xVar 0) (aCons (xC (.int 3)) aNil))))) aNil))) aNil)))))))))
def m__law_programs : List D → R D := run 7 (sRet (xCall fTuple (aCons (xLc (iRng1 (aCons (xVar 2) aNil)) (gVar 6) tYes (xCall fTuple (aCons (xLc (iRng1 (aCons (xCall m__law_take (aCons (xVar 0) (aCons (xBin dAdd (xVar 3) (xC (.int 1))) aNil))) aNil)) (gVar 5) tYes (xCall m__law_deed (aCons (xVar 0) (aCons (xVar 1) (aCons (xVar 4) aNil)))) [5]) aNil)) [6]) aNil)))
def m__law_same : Nat → List D → R D
  | 0 => fun _ _ => .stk
  | n + 1 => let rc := m__law_same n
    run 4 (sSeq (sIf (tVal (xCall fIsi (aCons (xVar 1) (aCons (xC (.ty "tuple")) aNil)))) (sSeq (sIf (tOr (tNot (tVal (xCall fIsi (aCons (xVar 0) (aCons (xC (.ty "tuple")) aNil))))) (tVal (xBin dNe (xCall fLen (aCons (xVar 0) aNil)) (xCall fLen (aCons (xVar 1) aNil))))) (sRet (xC (.bl false))) sNil) (sRet (xCall fAll (aCons (xLc (iZip (aCons (xVar 0) (aCons (xVar 1) aNil))) (gTup [gVar 2, gVar 3]) tYes (xCall rc (aCons (xVar 2) (aCons (xVar 3) aNil))) [2, 3]) aNil)))) sNil) (sSeq (sIf (tVal (xBin dIsN (xVar 1) (xC .non))) (sRet (xBin dIsN (xVar 0) (xC .non))) sNil) (sSeq (sIf (tVal (xCall fIsi (aCons (xVar 1) (aCons (xTup (aCons (xC (.ty "str")) (aCons (xC (.ty "bool")) aNil))) aNil)))) (sRet (xAnd (xCall fIsi (aCons (xVar 0) (aCons (xTup (aCons (xC (.ty "str")) (aCons (xC (.ty "bool")) aNil))) aNil))) (xAnd (xBin dEq (xCall fIsi (aCons (xVar 0) (aCons (xC (.ty "bool")) aNil))) (xCall fIsi (aCons (xVar 1) (aCons (xC (.ty "bool")) aNil)))) (xBin dEq (xVar 0) (xVar 1))))) sNil) (sRet (xAnd (xCall fIsi (aCons (xVar 0) (aCons (xC (.ty "int")) aNil))) (xAnd (xNot (xCall fIsi (aCons (xVar 0) (aCons (xC (.ty "bool")) aNil)))) (xBin dEq (xVar 0) (xVar 1))))))))
def m__law_programs_text : List D → R D := run 6 (sSeq (sAsg (xNew aNil) (gVar 1)) (sSeq (sFor (iSeq (xVar 0)) (gVar 2) (sSeq (sAsg (xLc (iSeq (xVar 2)) (gVar 5) tYes (xMeth "str" mJoin (xC (.str (tx " "))) (aCons (xLc (iSeq (xVar 5)) (gVar 4) tYes (xCall fStr (aCons (xVar 4) aNil)) [4]) aNil)) [5]) (gVar 3)) (sDrop (xMeth "list" mAppend (xVar 1) (aCons (xBin dIx (xLst (aCons (xC (.str (tx "-"))) (aCons (xMeth "str" mJoin (xC (.str (tx " , "))) (aCons (xVar 3) aNil)) aNil))) (xCall fInt (aCons (xBin dNe (xVar 3) (xLst aNil)) aNil))) aNil))))) (sRet (xMeth "str" mJoin (xC (.str (tx " ; "))) (aCons (xVar 1) aNil)))))
def mw__law_word : MS := (sSeq (sAsg (xLst (aCons (xC (.str (tx "tree"))) (aCons (xC (.str (tx "programs"))) (aCons (xC (.str (tx "text"))) aNil)))) (gVar 1)) (sSeq (sAsg (xLst (aCons (xCall (fIsE isB) (aCons (xVar 0) (aCons (xC (.glo "NoTree")) aNil))) (aCons (xCall (fIsE isB) (aCons (xVar 0) (aCons (xC (.glo "NoPrograms")) aNil))) (aCons (xCall (fIsE isB) (aCons (xVar 0) (aCons (xC (.glo "NoText")) aNil))) aNil)))) (gVar 2)) (sSeq (sAsg (xCall (fIsE isB) (aCons (xVar 0) (aCons (xTup (aCons (xC (.glo "Holds")) (aCons (xC (.glo "HoldsNot")) (aCons (xC (.glo "NoCut")) (aCons (xC (.glo "NoDeed")) (aCons (xC (.glo "NoDisk")) (aCons (xC (.glo "NoEvent")) (aCons (xC (.glo "NoHand")) (aCons (xC (.glo "NoKey")) (aCons (xC (.glo "NoNumber")) (aCons (xC (.glo "NoPage")) aNil))))))))))) aNil))) (gVar 3)) (sSeq (sAsg (xOr (xVar 3) (xCall (fIsE isB) (aCons (xVar 0) (aCons (xTup (aCons (xC (.glo "NoPairs")) (aCons (xC (.glo "NoPlans")) (aCons (xC (.glo "NoRecords")) (aCons (xC (.glo "NoRoom")) (aCons (xC (.glo "NoRule")) (aCons (xC (.glo "NoShape")) (aCons (xC (.glo "NoStretch")) (aCons (xC (.glo "NoValue")) aNil))))))))) aNil)))) (gVar 3)) (sSeq (sIf (tOr (tVal (xBin dNe (xMeth "list" mCount (xVar 2) (aCons (xC (.bl true)) aNil)) (xC (.int 1)))) (tOr (tVal (xVar 3)) (tVal (xCall (fIsE isB) (aCons (xVar 0) (aCons (xTup (aCons (xC (.glo "TooMany")) (aCons (xC (.glo "TooWide")) (aCons (xC (.glo "Waits")) aNil)))) aNil)))))) (sRet (xC (.str (tx "other")))) sNil) (sRet (xIf (tVal (xCall (fIsE isB) (aCons (xVar 0) (aCons (xC (.ty "ValueError")) aNil)))) (xBin dIx (xVar 1) (xMeth "list" mIndex (xVar 2) (aCons (xC (.bl true)) aNil))) (xC (.str (tx "other"))))))))))
def m__law_asked : List D → R D := run 2 (sSeq (sTry1 (xCall m_programs_text (aCons (xVar 0) aNil)) 1 lawFw) (sRet (xC (.str (tx "told")))))
def m__law_no_programs : List D → R D := run 6 (sSeq (sAsg (xLst (aCons (xC .non) (aCons (xC (.int 0)) (aCons (xLst (aCons (xC (.str (tx "find"))) (aCons (xC (.int 1)) aNil))) (aCons (xTup (aCons (xC (.str (tx "find"))) aNil)) (aCons (xTup (aCons (xC (.str (tx "find"))) (aCons (xUn dNeg (xC (.int 1))) aNil))) (aCons (xTup (aCons (xC (.str (tx "find"))) (aCons (xC (.bl true)) aNil))) (aCons (xTup (aCons (xC (.str (tx "span"))) (aCons (xC (.int 3)) (aCons (xC (.int 3)) aNil)))) (aCons (xTup (aCons (xC (.str (tx "put"))) (aCons (xC (.int 1)) aNil))) (aCons (xTup (aCons (xC (.str (tx "seek"))) (aCons (xC (.int 1)) aNil))) (aCons (xTup aNil) aNil))))))))))) (gVar 2)) (sSeq (sAsg (xCall m__law_take (aCons (xVar 0) (aCons (xCall fLen (aCons (xVar 1) aNil)) aNil))) (gVar 3)) (sSeq (sAsg (xBin dAdd (xCut (xBin dIx (xVar 1) (xVar 3)) oNone (oSome (xC (.int 7)))) (xTup (aCons (xBin dIx (xVar 2) (xCall m__law_take (aCons (xVar 0) (aCons (xC (.int 10)) aNil)))) aNil))) (gVar 4)) (sSeq (sAsg (xLst (aCons (xBin dAdd (xBin dAdd (xCut (xVar 1) oNone (oSome (xVar 3))) (xTup (aCons (xVar 4) aNil))) (xCut (xVar 1) (oSome (xBin dAdd (xVar 3) (xC (.int 1)))) oNone)) (aCons (xBin dAdd (xBin dAdd (xCut (xVar 1) oNone (oSome (xVar 3))) (xTup (aCons (xCall fList (aCons (xBin dIx (xVar 1) (xVar 3)) aNil)) aNil))) (xCut (xVar 1) (oSome (xBin dAdd (xVar 3) (xC (.int 1)))) oNone)) aNil))) (gVar 5)) (sSeq (sAsg (xBin dAdd (xVar 5) (xLst (aCons (xBin dAdd (xBin dAdd (xCut (xVar 1) oNone (oSome (xVar 3))) (xTup (aCons (xBin dMul (xTup (aCons (xTup (aCons (xC (.str (tx "drop"))) (aCons (xC (.int 1)) aNil))) aNil)) (xC (.int 9))) aNil))) (xCut (xVar 1) (oSome (xBin dAdd (xVar 3) (xC (.int 1)))) oNone)) (aCons (xBin dMul (xTup (aCons (xTup aNil) aNil)) (xC (.int 7))) (aCons (xTup aNil) (aCons (xC .non) (aCons (xCall fList (aCons (xVar 1) aNil)) (aCons (xC (.str (tx "-"))) aNil)))))))) (gVar 5)) (sRet (xBin dIx (xBin dAdd (xVar 5) (xLst (aCons (xBin dAdd (xVar 1) (xTup (aCons (xC .non) aNil))) (aCons xEmp (aCons (xTup (aCons (xC (.str (tx "find"))) (aCons (xC (.int 1)) aNil))) aNil))))) (xBin dIx (xLst (aCons (xC (.int 0)) (aCons (xC (.int 0)) (aCons (xC (.int 0)) (aCons (xC (.int 1)) (aCons (xC (.int 2)) (aCons (xC (.int 3)) (aCons (xC (.int 4)) (aCons (xC (.int 5)) (aCons (xC (.int 6)) (aCons (xC (.int 7)) (aCons (xC (.int 8)) (aCons (xC (.int 9)) (aCons (xC (.int 10)) aNil)))))))))))))) (xCall m__law_take (aCons (xVar 0) (aCons (xC (.int 13)) aNil)))))))))))
def m_law : List D → R D := run 8 (sSeq (sAsg (xLst (aCons (xC (.str (tx "find"))) (aCons (xC (.str (tx "put"))) (aCons (xC (.str (tx "drop"))) (aCons (xC (.str (tx "span"))) (aCons (xC (.str (tx "walk"))) aNil)))))) (gVar 1)) (sSeq (sFor (iRng1 (aCons (xCall fMax2 (aCons (xC (.int 1)) (aCons (xCall fMin2 (aCons (xC (.int 63)) (aCons (xCall fLen (aCons (xVar 0) aNil)) aNil))) aNil))) aNil)) (gVar 2) (sSeq (sAsg (xCall m__law_pot (aCons (xVar 0) (aCons (xVar 2) aNil))) (gVar 3)) (sSeq (sAsg (xTup (aCons (xTup (aCons (xCall m__law_take (aCons (xVar 3) (aCons (xC (.int 60)) aNil))) (aCons (xC (.int 0)) aNil))) (aCons (xTup (aCons (xBin dPow (xC (.int 10)) (xC (.int 9))) (aCons (xC (.int 1)) aNil))) aNil))) (gVar 4)) (sSeq (sAsg (xCall m__law_programs (aCons (xVar 3) (aCons (xVar 4) (aCons (xBin dAdd (xC (.int 1)) (xCall m__law_take (aCons (xVar 3) (aCons (xC (.int 6)) aNil)))) (aCons (xBin dIx (xLst (aCons (xC (.int 8)) (aCons (xC (.int 2)) aNil))) (xCall m__law_take (aCons (xVar 3) (aCons (xC (.int 2)) aNil)))) (aCons (xVar 1) aNil)))))) (gVar 5)) (sSeq (sAsg (xCall m__law_programs_text (aCons (xVar 5) aNil)) (gVar 6)) (sSeq (sIf (tOr (tNot (tVal (xCall (m__law_same 4) (aCons (xCall m_programs_text (aCons (xVar 5) aNil)) (aCons (xVar 6) aNil))))) (tNot (tVal (xCall (m__law_same 4) (aCons (xCall m_read_programs (aCons (xVar 6) aNil)) (aCons (xVar 5) aNil)))))) (sRet (xC (.bl false))) sNil) (sIf (tVal (xBin dNe (xCall m__law_asked (aCons (xCall m__law_no_programs (aCons (xVar 3) (aCons (xVar 5) aNil))) aNil)) (xC (.str (tx "programs"))))) (sRet (xC (.bl false))) sNil))))))) (sSeq (sAsg (xTup (aCons (xTup (aCons (xTup (aCons (xC (.str (tx "put"))) (aCons (xC (.int 1)) (aCons (xC (.int 0)) aNil)))) (aCons (xTup (aCons (xC (.str (tx "walk"))) (aCons (xC (.int 0)) (aCons (xBin dAdd (xBin dPow (xC (.int 10)) (xC (.int 9))) (xC (.int 1))) aNil)))) aNil))) (aCons (xTup aNil) (aCons (xTup (aCons (xTup (aCons (xC (.str (tx "find"))) (aCons (xC (.int 12)) aNil))) aNil)) aNil)))) (gVar 7)) (sSeq (sIf (tVal (xBin dNe (xCall m_programs_text (aCons (xVar 7) aNil)) (xC (.str (tx "put 1 0 , walk 0 1000000001 ; - ; find 12"))))) (sRet (xC (.bl false))) sNil) (sRet (xAnd (xBin dEq (xCall m_programs_text (aCons (xTup (aCons (xTup aNil) aNil)) aNil)) (xC (.str (tx "-")))) (xBin dEq (xCall m_read_programs (aCons (xC (.str (tx "- ; -"))) aNil)) (xTup (aCons (xTup aNil) (aCons (xTup aNil) aNil))))))))))
end G.K86
set_option Elab.async false
set_option linter.all false
set_option maxRecDepth 100000
set_option maxHeartbeats 4000000
namespace G.K86
open PySem PySem.Spec PyProof.Rows L2
abbrev top (i : Nat) : Stmt := PySem.Challenge.pw_latchgrove_k86_programs_written_and_read.main.body.getD i (.Pass ⟨0, 0, 0, 0⟩)
structure Env (w : World) (K : PySem.W.Frag) (mg : Str → Option Value) : Prop where
  fr_ValueError : mg (Str.ofString "ValueError") = none
  fr_abs : mg (Str.ofString "abs") = none
  fr_all : mg (Str.ofString "all") = none
  fr_bool : mg (Str.ofString "bool") = none
  fr_int : mg (Str.ofString "int") = none
  fr_isinstance : mg (Str.ofString "isinstance") = none
  fr_len : mg (Str.ofString "len") = none
  fr_list : mg (Str.ofString "list") = none
  fr_max : mg (Str.ofString "max") = none
  fr_min : mg (Str.ofString "min") = none
  fr_range : mg (Str.ofString "range") = none
  fr_str : mg (Str.ofString "str") = none
  fr_tuple : mg (Str.ofString "tuple") = none
  fr_zip : mg (Str.ofString "zip") = none
  gi_MOST_KEY : ∃ t, mg (Str.ofString "MOST_KEY") = some (.int 1000000000 t)
  gi_MOST_HANDS : ∃ t, mg (Str.ofString "MOST_HANDS") = some (.int 6 t)
  gi_MOST_DEEDS : ∃ t, mg (Str.ofString "MOST_DEEDS") = some (.int 8 t)
  gi_MOST_FIGURES : ∃ t, mg (Str.ofString "MOST_FIGURES") = some (.int 10 t)
  gs_FIGURES : ∃ t, mg (Str.ofString "FIGURES") = some (.str (Str.ofString "0123456789") t)
  gs_NOTHING : ∃ t, mg (Str.ofString "NOTHING") = some (.str (Str.ofString "-") t)
  gs_BETWEEN_DEEDS : ∃ t, mg (Str.ofString "BETWEEN_DEEDS") = some (.str (Str.ofString " , ") t)
  gs_BETWEEN_HANDS : ∃ t, mg (Str.ofString "BETWEEN_HANDS") = some (.str (Str.ofString " ; ") t)
  mg_GroveError : mg (Str.ofString "GroveError") = some (.ref (He.ga K (Str.ofString "GroveError")))
  mg_NoRoom : mg (Str.ofString "NoRoom") = some (.ref (He.ga K (Str.ofString "NoRoom")))
  mg_NoKey : mg (Str.ofString "NoKey") = some (.ref (He.ga K (Str.ofString "NoKey")))
  mg_NoValue : mg (Str.ofString "NoValue") = some (.ref (He.ga K (Str.ofString "NoValue")))
  mg_NoPage : mg (Str.ofString "NoPage") = some (.ref (He.ga K (Str.ofString "NoPage")))
  mg_NoTree : mg (Str.ofString "NoTree") = some (.ref (He.ga K (Str.ofString "NoTree")))
  mg_NoStretch : mg (Str.ofString "NoStretch") = some (.ref (He.ga K (Str.ofString "NoStretch")))
  mg_NoDeed : mg (Str.ofString "NoDeed") = some (.ref (He.ga K (Str.ofString "NoDeed")))
  mg_NoPairs : mg (Str.ofString "NoPairs") = some (.ref (He.ga K (Str.ofString "NoPairs")))
  mg_TooMany : mg (Str.ofString "TooMany") = some (.ref (He.ga K (Str.ofString "TooMany")))
  mg_NoNumber : mg (Str.ofString "NoNumber") = some (.ref (He.ga K (Str.ofString "NoNumber")))
  mg_NoShape : mg (Str.ofString "NoShape") = some (.ref (He.ga K (Str.ofString "NoShape")))
  mg_NoHand : mg (Str.ofString "NoHand") = some (.ref (He.ga K (Str.ofString "NoHand")))
  mg_Waits : mg (Str.ofString "Waits") = some (.ref (He.ga K (Str.ofString "Waits")))
  mg_Holds : mg (Str.ofString "Holds") = some (.ref (He.ga K (Str.ofString "Holds")))
  mg_HoldsNot : mg (Str.ofString "HoldsNot") = some (.ref (He.ga K (Str.ofString "HoldsNot")))
  mg_NoPlans : mg (Str.ofString "NoPlans") = some (.ref (He.ga K (Str.ofString "NoPlans")))
  mg_TooWide : mg (Str.ofString "TooWide") = some (.ref (He.ga K (Str.ofString "TooWide")))
  mg_NoPrograms : mg (Str.ofString "NoPrograms") = some (.ref (He.ga K (Str.ofString "NoPrograms")))
  er_NoPrograms : ErC K mg "NoPrograms"
  mg_NoRule : mg (Str.ofString "NoRule") = some (.ref (He.ga K (Str.ofString "NoRule")))
  mg_NoRecords : mg (Str.ofString "NoRecords") = some (.ref (He.ga K (Str.ofString "NoRecords")))
  mg_NoDisk : mg (Str.ofString "NoDisk") = some (.ref (He.ga K (Str.ofString "NoDisk")))
  mg_NoEvent : mg (Str.ofString "NoEvent") = some (.ref (He.ga K (Str.ofString "NoEvent")))
  mg_NoText : mg (Str.ofString "NoText") = some (.ref (He.ga K (Str.ofString "NoText")))
  er_NoText : ErC K mg "NoText"
  mg_NoCut : mg (Str.ofString "NoCut") = some (.ref (He.ga K (Str.ofString "NoCut")))
  mg_is_whole : mg (Str.ofString "is_whole") = some (.ref (He.ga K (Str.ofString "is_whole")))
  fn_is_whole : ∃ fd, FunD K (Str.ofString "is_whole") (Str.ofString "is_whole") (defArgs (top 28)) (defBody (top 28)) (defScope (top 28)) [] [] (He.ga K (Str.ofString "is_whole")) fd
  mg_is_within : mg (Str.ofString "is_within") = some (.ref (He.ga K (Str.ofString "is_within")))
  fn_is_within : ∃ fd, FunD K (Str.ofString "is_within") (Str.ofString "is_within") (defArgs (top 29)) (defBody (top 29)) (defScope (top 29)) [] [] (He.ga K (Str.ofString "is_within")) fd
  mg_is_key : mg (Str.ofString "is_key") = some (.ref (He.ga K (Str.ofString "is_key")))
  fn_is_key : ∃ fd, FunD K (Str.ofString "is_key") (Str.ofString "is_key") (defArgs (top 30)) (defBody (top 30)) (defScope (top 30)) [] [] (He.ga K (Str.ofString "is_key")) fd
  mg_is_value : mg (Str.ofString "is_value") = some (.ref (He.ga K (Str.ofString "is_value")))
  fn_is_value : ∃ fd, FunD K (Str.ofString "is_value") (Str.ofString "is_value") (defArgs (top 31)) (defBody (top 31)) (defScope (top 31)) [] [] (He.ga K (Str.ofString "is_value")) fd
  mg_is_pair : mg (Str.ofString "is_pair") = some (.ref (He.ga K (Str.ofString "is_pair")))
  fn_is_pair : ∃ fd, FunD K (Str.ofString "is_pair") (Str.ofString "is_pair") (defArgs (top 32)) (defBody (top 32)) (defScope (top 32)) [] [] (He.ga K (Str.ofString "is_pair")) fd
  mg_is_stretch : mg (Str.ofString "is_stretch") = some (.ref (He.ga K (Str.ofString "is_stretch")))
  fn_is_stretch : ∃ fd, FunD K (Str.ofString "is_stretch") (Str.ofString "is_stretch") (defArgs (top 34)) (defBody (top 34)) (defScope (top 34)) [] [] (He.ga K (Str.ofString "is_stretch")) fd
  mg_is_of_key : mg (Str.ofString "is_of_key") = some (.ref (He.ga K (Str.ofString "is_of_key")))
  fn_is_of_key : ∃ fd, FunD K (Str.ofString "is_of_key") (Str.ofString "is_of_key") (defArgs (top 36)) (defBody (top 36)) (defScope (top 36)) [] [] (He.ga K (Str.ofString "is_of_key")) fd
  mg_is_of_pair : mg (Str.ofString "is_of_pair") = some (.ref (He.ga K (Str.ofString "is_of_pair")))
  fn_is_of_pair : ∃ fd, FunD K (Str.ofString "is_of_pair") (Str.ofString "is_of_pair") (defArgs (top 37)) (defBody (top 37)) (defScope (top 37)) [] [] (He.ga K (Str.ofString "is_of_pair")) fd
  mg_is_of_stretch : mg (Str.ofString "is_of_stretch") = some (.ref (He.ga K (Str.ofString "is_of_stretch")))
  fn_is_of_stretch : ∃ fd, FunD K (Str.ofString "is_of_stretch") (Str.ofString "is_of_stretch") (defArgs (top 38)) (defBody (top 38)) (defScope (top 38)) [] [] (He.ga K (Str.ofString "is_of_stretch")) fd
  mg_is_deed : mg (Str.ofString "is_deed") = some (.ref (He.ga K (Str.ofString "is_deed")))
  fn_is_deed : ∃ fd, FunD K (Str.ofString "is_deed") (Str.ofString "is_deed") (defArgs (top 40)) (defBody (top 40)) (defScope (top 40)) [] [] (He.ga K (Str.ofString "is_deed")) fd
  mg_are_programs : mg (Str.ofString "are_programs") = some (.ref (He.ga K (Str.ofString "are_programs")))
  fn_are_programs : ∃ fd, FunD K (Str.ofString "are_programs") (Str.ofString "are_programs") (defArgs (top 44)) (defBody (top 44)) (defScope (top 44)) [] [] (He.ga K (Str.ofString "are_programs")) fd
  mg_need_programs : mg (Str.ofString "need_programs") = some (.ref (He.ga K (Str.ofString "need_programs")))
  fn_need_programs : ∃ fd, FunD K (Str.ofString "need_programs") (Str.ofString "need_programs") (defArgs (top 45)) (defBody (top 45)) (defScope (top 45)) [] [] (He.ga K (Str.ofString "need_programs")) fd
  mg_number_in : mg (Str.ofString "number_in") = some (.ref (He.ga K (Str.ofString "number_in")))
  fn_number_in : ∃ fd, FunD K (Str.ofString "number_in") (Str.ofString "number_in") (defArgs (top 52)) (defBody (top 52)) (defScope (top 52)) [] [] (He.ga K (Str.ofString "number_in")) fd
  mg_need_words : mg (Str.ofString "need_words") = some (.ref (He.ga K (Str.ofString "need_words")))
  fn_need_words : ∃ fd, FunD K (Str.ofString "need_words") (Str.ofString "need_words") (defArgs (top 53)) (defBody (top 53)) (defScope (top 53)) [] [] (He.ga K (Str.ofString "need_words")) fd
  mg_hand_text : mg (Str.ofString "hand_text") = some (.ref (He.ga K (Str.ofString "hand_text")))
  fn_hand_text : ∃ fd, FunD K (Str.ofString "hand_text") (Str.ofString "hand_text") (defArgs (top 54)) (defBody (top 54)) (defScope (top 54)) [] [] (He.ga K (Str.ofString "hand_text")) fd
  mg_programs_text : mg (Str.ofString "programs_text") = some (.ref (He.ga K (Str.ofString "programs_text")))
  fn_programs_text : ∃ fd, FunD K (Str.ofString "programs_text") (Str.ofString "programs_text") (defArgs (top 55)) (defBody (top 55)) (defScope (top 55)) [] [] (He.ga K (Str.ofString "programs_text")) fd
  mg_deed_in : mg (Str.ofString "deed_in") = some (.ref (He.ga K (Str.ofString "deed_in")))
  fn_deed_in : ∃ fd, FunD K (Str.ofString "deed_in") (Str.ofString "deed_in") (defArgs (top 56)) (defBody (top 56)) (defScope (top 56)) [] [] (He.ga K (Str.ofString "deed_in")) fd
  mg_hand_in : mg (Str.ofString "hand_in") = some (.ref (He.ga K (Str.ofString "hand_in")))
  fn_hand_in : ∃ fd, FunD K (Str.ofString "hand_in") (Str.ofString "hand_in") (defArgs (top 57)) (defBody (top 57)) (defScope (top 57)) [] [] (He.ga K (Str.ofString "hand_in")) fd
  mg_read_programs : mg (Str.ofString "read_programs") = some (.ref (He.ga K (Str.ofString "read_programs")))
  fn_read_programs : ∃ fd, FunD K (Str.ofString "read_programs") (Str.ofString "read_programs") (defArgs (top 58)) (defBody (top 58)) (defScope (top 58)) [] [] (He.ga K (Str.ofString "read_programs")) fd
  mg__law_pot : mg (Str.ofString "_law_pot") = some (.ref (He.ga K (Str.ofString "_law_pot")))
  fn__law_pot : ∃ fd, FunD K (Str.ofString "_law_pot") (Str.ofString "_law_pot") (defArgs (top 60)) (defBody (top 60)) (defScope (top 60)) [] [] (He.ga K (Str.ofString "_law_pot")) fd
  mg__law_take : mg (Str.ofString "_law_take") = some (.ref (He.ga K (Str.ofString "_law_take")))
  fn__law_take : ∃ fd, FunD K (Str.ofString "_law_take") (Str.ofString "_law_take") (defArgs (top 61)) (defBody (top 61)) (defScope (top 61)) [] [] (He.ga K (Str.ofString "_law_take")) fd
  mg__law_key : mg (Str.ofString "_law_key") = some (.ref (He.ga K (Str.ofString "_law_key")))
  fn__law_key : ∃ fd, FunD K (Str.ofString "_law_key") (Str.ofString "_law_key") (defArgs (top 62)) (defBody (top 62)) (defScope (top 62)) [] [] (He.ga K (Str.ofString "_law_key")) fd
  mg__law_deed : mg (Str.ofString "_law_deed") = some (.ref (He.ga K (Str.ofString "_law_deed")))
  fn__law_deed : ∃ fd, FunD K (Str.ofString "_law_deed") (Str.ofString "_law_deed") (defArgs (top 63)) (defBody (top 63)) (defScope (top 63)) [] [] (He.ga K (Str.ofString "_law_deed")) fd
  mg__law_programs : mg (Str.ofString "_law_programs") = some (.ref (He.ga K (Str.ofString "_law_programs")))
  fn__law_programs : ∃ fd, FunD K (Str.ofString "_law_programs") (Str.ofString "_law_programs") (defArgs (top 64)) (defBody (top 64)) (defScope (top 64)) [] [] (He.ga K (Str.ofString "_law_programs")) fd
  mg__law_same : mg (Str.ofString "_law_same") = some (.ref (He.ga K (Str.ofString "_law_same")))
  fn__law_same : ∃ fd, FunD K (Str.ofString "_law_same") (Str.ofString "_law_same") (defArgs (top 65)) (defBody (top 65)) (defScope (top 65)) [] [] (He.ga K (Str.ofString "_law_same")) fd
  mg__law_programs_text : mg (Str.ofString "_law_programs_text") = some (.ref (He.ga K (Str.ofString "_law_programs_text")))
  fn__law_programs_text : ∃ fd, FunD K (Str.ofString "_law_programs_text") (Str.ofString "_law_programs_text") (defArgs (top 66)) (defBody (top 66)) (defScope (top 66)) [] [] (He.ga K (Str.ofString "_law_programs_text")) fd
  mg__law_word : mg (Str.ofString "_law_word") = some (.ref (He.ga K (Str.ofString "_law_word")))
  fn__law_word : ∃ fd, FunD K (Str.ofString "_law_word") (Str.ofString "_law_word") (defArgs (top 67)) (defBody (top 67)) (defScope (top 67)) [] [] (He.ga K (Str.ofString "_law_word")) fd
  mg__law_asked : mg (Str.ofString "_law_asked") = some (.ref (He.ga K (Str.ofString "_law_asked")))
  fn__law_asked : ∃ fd, FunD K (Str.ofString "_law_asked") (Str.ofString "_law_asked") (defArgs (top 68)) (defBody (top 68)) (defScope (top 68)) [] [] (He.ga K (Str.ofString "_law_asked")) fd
  mg__law_no_programs : mg (Str.ofString "_law_no_programs") = some (.ref (He.ga K (Str.ofString "_law_no_programs")))
  fn__law_no_programs : ∃ fd, FunD K (Str.ofString "_law_no_programs") (Str.ofString "_law_no_programs") (defArgs (top 69)) (defBody (top 69)) (defScope (top 69)) [] [] (He.ga K (Str.ofString "_law_no_programs")) fd
  mg_law : mg (Str.ofString "law") = some (.ref (He.ga K (Str.ofString "law")))
  fn_law : ∃ fd, FunD K (Str.ofString "law") (Str.ofString "law") (defArgs (top 70)) (defBody (top 70)) (defScope (top 70)) [] [] (He.ga K (Str.ofString "law")) fd
  mg_FORMS : mg (Str.ofString "FORMS") = some (.ref (He.ga K (Str.ofString "FORMS")))
  tab_FORMS : TabF K w "FORMS" t_FORMS
  kitB : KitB K isB
  exm : PySem.W.exmOne K (.ref (He.ga K (Str.ofString "NoPrograms"))) (.ref (He.ga K (Str.ofString "GroveError"))) = some true
section
variable {P : Program} {w : World} {K : PySem.W.Frag} {mg : Str → Option Value} {base : Heap}
theorem good_lawFw (c : String) (z : T) (h : lawFw c = some z) : good z = true := by
  unfold lawFw at h
  split at h
  · cases h; decide +kernel
  · cases h
theorem exm_lawFw (V : Env w K mg) (c : String) (z : T) (h : lawFw c = some z) : PySem.W.exmOne K (.ref (He.ga K (Str.ofString c))) (.ref (He.ga K (Str.ofString "GroveError"))) = some true := by
  unfold lawFw at h
  split at h
  · rename_i e; subst e; exact V.exm
  · cases h
theorem hfw__law_word (c : String) (z : T) (h : lawFw c = some z) : ∃ M' : Mh, mw__law_word (startE 4 [.err c none]) [] = .rt (.str z) M' := by
  unfold lawFw at h
  split at h
  · rename_i e
    subst e
    cases h
    exact ⟨_, by rfl⟩
  · cases h
abbrev s_is_whole : Stmt := top 28
theorem sc_is_whole : FnScope ["thing"] ["thing"] (defScope s_is_whole) := ⟨rfl, rfl, rfl, by decide +kernel, rfl, by decide +kernel, by decide +kernel⟩
theorem ndis_whole : (["thing"] : List Str).Nodup := by decide +kernel
theorem fd_is_whole (V : Env w K mg) : Fd P w K mg base 1 "is_whole" 1 m_is_whole := by
  obtain ⟨fd, F⟩ := V.fn_is_whole
  refine fd_mk (k := 0) F V.mg_is_whole sc_is_whole (fun _ _ _ _ _ _ us hl => match us, hl with | [_], _ => rfl) fun cdv A outer s H E hr => ?_
  have tk := takes_of (X := cxOf (L2.CX P w) P w K mg base ["thing"] (Str.ofString "is_whole") (defScope s_is_whole) (He.ga K (Str.ofString "is_whole")) cdv A outer s H E) (E := E) rfl rfl rfl rfl
  exact (db_one (ds_ret (de_and (de_fn call_isX cal_isi rfl V.fr_isinstance rfl (da_cons (de_var (pv 0)) (da_cons (de_ty rfl V.fr_int rfl (by decide) (by decide)) da_nil)) (by decide) (by decide)) (de_one (de_not (de_fn call_isX cal_isi rfl V.fr_isinstance rfl (da_cons (de_var (pv 0)) (da_cons (de_ty rfl V.fr_bool rfl (by decide) (by decide)) da_nil)) (by decide) (by decide)))))))
abbrev s_is_within : Stmt := top 29
theorem sc_is_within : FnScope ["thing", "least", "most"] ["thing", "least", "most"] (defScope s_is_within) := ⟨rfl, rfl, rfl, by decide +kernel, rfl, by decide +kernel, by decide +kernel⟩
theorem ndis_within : (["thing", "least", "most"] : List Str).Nodup := by decide +kernel
theorem fd_is_within (V : Env w K mg) : Fd P w K mg base 2 "is_within" 3 m_is_within := by
  obtain ⟨fd, F⟩ := V.fn_is_within
  refine fd_mk (k := 1) F V.mg_is_within sc_is_within (fun _ _ _ _ _ _ us hl => match us, hl with | [_, _, _], _ => rfl) fun cdv A outer s H E hr => ?_
  have tk := takes_of (X := cxOf (L2.CX P w) P w K mg base ["thing", "least", "most"] (Str.ofString "is_within") (defScope s_is_within) (He.ga K (Str.ofString "is_within")) cdv A outer s H E) (E := E) rfl rfl rfl rfl
  exact (db_one (ds_ret (de_and (de_call (fd_is_whole V) hr (by decide) rfl tk (da_cons (de_var (pv 0)) da_nil) rfl (by decide) (aCons_len aNil_len)) (de_one (de_chain op_le opd_cmp op_le opd_cmp (de_var (pv 1)) (de_var (pv 0)) (de_var (pv 2)) (by with_unfolding_all rfl))))))
abbrev s_is_key : Stmt := top 30
theorem sc_is_key : FnScope ["thing"] ["thing"] (defScope s_is_key) := ⟨rfl, rfl, rfl, by decide +kernel, rfl, by decide +kernel, by decide +kernel⟩
theorem ndis_key : (["thing"] : List Str).Nodup := by decide +kernel
theorem fd_is_key (V : Env w K mg) : Fd P w K mg base 3 "is_key" 1 m_is_key := by
  obtain ⟨fd, F⟩ := V.fn_is_key
  refine fd_mk (k := 2) F V.mg_is_key sc_is_key (fun _ _ _ _ _ _ us hl => match us, hl with | [_], _ => rfl) fun cdv A outer s H E hr => ?_
  have tk := takes_of (X := cxOf (L2.CX P w) P w K mg base ["thing"] (Str.ofString "is_key") (defScope s_is_key) (He.ga K (Str.ofString "is_key")) cdv A outer s H E) (E := E) rfl rfl rfl rfl
  exact (db_one (ds_ret (de_call (fd_is_within V) hr (by decide) rfl tk (da_cons (de_var (pv 0)) (da_cons de_int (da_cons (de_gintE rfl V.gi_MOST_KEY (by decide)) da_nil))) rfl (by decide) (aCons_len (aCons_len (aCons_len aNil_len))))))
abbrev s_is_value : Stmt := top 31
theorem sc_is_value : FnScope ["thing"] ["thing"] (defScope s_is_value) := ⟨rfl, rfl, rfl, by decide +kernel, rfl, by decide +kernel, by decide +kernel⟩
theorem ndis_value : (["thing"] : List Str).Nodup := by decide +kernel
theorem fd_is_value (V : Env w K mg) : Fd P w K mg base 3 "is_value" 1 m_is_value := by
  obtain ⟨fd, F⟩ := V.fn_is_value
  refine fd_mk (k := 2) F V.mg_is_value sc_is_value (fun _ _ _ _ _ _ us hl => match us, hl with | [_], _ => rfl) fun cdv A outer s H E hr => ?_
  have tk := takes_of (X := cxOf (L2.CX P w) P w K mg base ["thing"] (Str.ofString "is_value") (defScope s_is_value) (He.ga K (Str.ofString "is_value")) cdv A outer s H E) (E := E) rfl rfl rfl rfl
  exact (db_one (ds_ret (de_call (fd_is_within V) hr (by decide) rfl tk (da_cons (de_var (pv 0)) (da_cons de_int (da_cons (de_gintE rfl V.gi_MOST_KEY (by decide)) da_nil))) rfl (by decide) (aCons_len (aCons_len (aCons_len aNil_len))))))
abbrev s_is_pair : Stmt := top 32
theorem sc_is_pair : FnScope ["thing"] ["thing"] (defScope s_is_pair) := ⟨rfl, rfl, rfl, by decide +kernel, rfl, by decide +kernel, by decide +kernel⟩
theorem ndis_pair : (["thing"] : List Str).Nodup := by decide +kernel
theorem fd_is_pair (V : Env w K mg) : Fd P w K mg base 4 "is_pair" 1 m_is_pair := by
  obtain ⟨fd, F⟩ := V.fn_is_pair
  refine fd_mk (k := 3) F V.mg_is_pair sc_is_pair (fun _ _ _ _ _ _ us hl => match us, hl with | [_], _ => rfl) fun cdv A outer s H E hr => ?_
  have tk := takes_of (X := cxOf (L2.CX P w) P w K mg base ["thing"] (Str.ofString "is_pair") (defScope s_is_pair) (He.ga K (Str.ofString "is_pair")) cdv A outer s H E) (E := E) rfl rfl rfl rfl
  exact (db_one (ds_ret (de_and (de_fn call_isX cal_isi rfl V.fr_isinstance rfl (da_cons (de_var (pv 0)) (da_cons (de_ty rfl V.fr_tuple rfl (by decide) (by decide)) da_nil)) (by decide) (by decide)) (de_and (de_cmp (op_eqD hr.units) opd_eq (de_fn call_lenX cal_len rfl V.fr_len rfl (da_cons (de_var (pv 0)) da_nil) (by decide) (by decide)) de_int (nomark _)) (de_and (de_call (fd_is_key V) hr (by decide) rfl tk (da_cons (de_ix rfl (de_var (pv 0)) de_int) da_nil) rfl (by decide) (aCons_len aNil_len)) (de_one (de_call (fd_is_value V) hr (by decide) rfl tk (da_cons (de_ix rfl (de_var (pv 0)) de_int) da_nil) rfl (by decide) (aCons_len aNil_len))))))))
abbrev s_is_stretch : Stmt := top 34
theorem sc_is_stretch : FnScope ["low", "high"] ["low", "high"] (defScope s_is_stretch) := ⟨rfl, rfl, rfl, by decide +kernel, rfl, by decide +kernel, by decide +kernel⟩
theorem ndis_stretch : (["low", "high"] : List Str).Nodup := by decide +kernel
theorem fd_is_stretch (V : Env w K mg) : Fd P w K mg base 4 "is_stretch" 2 m_is_stretch := by
  obtain ⟨fd, F⟩ := V.fn_is_stretch
  refine fd_mk (k := 3) F V.mg_is_stretch sc_is_stretch (fun _ _ _ _ _ _ us hl => match us, hl with | [_, _], _ => rfl) fun cdv A outer s H E hr => ?_
  have tk := takes_of (X := cxOf (L2.CX P w) P w K mg base ["low", "high"] (Str.ofString "is_stretch") (defScope s_is_stretch) (He.ga K (Str.ofString "is_stretch")) cdv A outer s H E) (E := E) rfl rfl rfl rfl
  exact (db_one (ds_ret (de_and (de_call (fd_is_key V) hr (by decide) rfl tk (da_cons (de_var (pv 0)) da_nil) rfl (by decide) (aCons_len aNil_len)) (de_and (de_call (fd_is_whole V) hr (by decide) rfl tk (da_cons (de_var (pv 1)) da_nil) rfl (by decide) (aCons_len aNil_len)) (de_one (de_chain op_lt opd_cmp op_le opd_cmp (de_var (pv 0)) (de_var (pv 1)) (de_bin op_addX opd_add (de_gintE rfl V.gi_MOST_KEY (by decide)) de_int) (by with_unfolding_all rfl)))))))
abbrev s_is_of_key : Stmt := top 36
theorem sc_is_of_key : FnScope ["rest"] ["rest"] (defScope s_is_of_key) := ⟨rfl, rfl, rfl, by decide +kernel, rfl, by decide +kernel, by decide +kernel⟩
theorem ndis_of_key : (["rest"] : List Str).Nodup := by decide +kernel
theorem fd_is_of_key (V : Env w K mg) : Fd P w K mg base 4 "is_of_key" 1 m_is_of_key := by
  obtain ⟨fd, F⟩ := V.fn_is_of_key
  refine fd_mk (k := 3) F V.mg_is_of_key sc_is_of_key (fun _ _ _ _ _ _ us hl => match us, hl with | [_], _ => rfl) fun cdv A outer s H E hr => ?_
  have tk := takes_of (X := cxOf (L2.CX P w) P w K mg base ["rest"] (Str.ofString "is_of_key") (defScope s_is_of_key) (He.ga K (Str.ofString "is_of_key")) cdv A outer s H E) (E := E) rfl rfl rfl rfl
  exact (db_one (ds_ret (de_and (de_cmp (op_eqD hr.units) opd_eq (de_fn call_lenX cal_len rfl V.fr_len rfl (da_cons (de_var (pv 0)) da_nil) (by decide) (by decide)) de_int (nomark _)) (de_one (de_call (fd_is_key V) hr (by decide) rfl tk (da_cons (de_ix rfl (de_var (pv 0)) de_int) da_nil) rfl (by decide) (aCons_len aNil_len))))))
abbrev s_is_of_pair : Stmt := top 37
theorem sc_is_of_pair : FnScope ["rest"] ["rest"] (defScope s_is_of_pair) := ⟨rfl, rfl, rfl, by decide +kernel, rfl, by decide +kernel, by decide +kernel⟩
theorem ndis_of_pair : (["rest"] : List Str).Nodup := by decide +kernel
theorem fd_is_of_pair (V : Env w K mg) : Fd P w K mg base 5 "is_of_pair" 1 m_is_of_pair := by
  obtain ⟨fd, F⟩ := V.fn_is_of_pair
  refine fd_mk (k := 4) F V.mg_is_of_pair sc_is_of_pair (fun _ _ _ _ _ _ us hl => match us, hl with | [_], _ => rfl) fun cdv A outer s H E hr => ?_
  have tk := takes_of (X := cxOf (L2.CX P w) P w K mg base ["rest"] (Str.ofString "is_of_pair") (defScope s_is_of_pair) (He.ga K (Str.ofString "is_of_pair")) cdv A outer s H E) (E := E) rfl rfl rfl rfl
  exact (db_one (ds_ret (de_call (fd_is_pair V) hr (by decide) rfl tk (da_cons (de_cls call_tuple_of cal_tuple rfl V.fr_tuple rfl (da_cons (de_var (pv 0)) da_nil) (by decide) (by decide)) da_nil) rfl (by decide) (aCons_len aNil_len))))
abbrev s_is_of_stretch : Stmt := top 38
theorem sc_is_of_stretch : FnScope ["rest"] ["rest"] (defScope s_is_of_stretch) := ⟨rfl, rfl, rfl, by decide +kernel, rfl, by decide +kernel, by decide +kernel⟩
theorem ndis_of_stretch : (["rest"] : List Str).Nodup := by decide +kernel
theorem fd_is_of_stretch (V : Env w K mg) : Fd P w K mg base 5 "is_of_stretch" 1 m_is_of_stretch := by
  obtain ⟨fd, F⟩ := V.fn_is_of_stretch
  refine fd_mk (k := 4) F V.mg_is_of_stretch sc_is_of_stretch (fun _ _ _ _ _ _ us hl => match us, hl with | [_], _ => rfl) fun cdv A outer s H E hr => ?_
  have tk := takes_of (X := cxOf (L2.CX P w) P w K mg base ["rest"] (Str.ofString "is_of_stretch") (defScope s_is_of_stretch) (He.ga K (Str.ofString "is_of_stretch")) cdv A outer s H E) (E := E) rfl rfl rfl rfl
  exact (db_one (ds_ret (de_and (de_cmp (op_eqD hr.units) opd_eq (de_fn call_lenX cal_len rfl V.fr_len rfl (da_cons (de_var (pv 0)) da_nil) (by decide) (by decide)) de_int (nomark _)) (de_one (de_call (fd_is_stretch V) hr (by decide) rfl tk (da_cons (de_ix rfl (de_var (pv 0)) de_int) (da_cons (de_ix rfl (de_var (pv 0)) de_int) da_nil)) rfl (by decide) (aCons_len (aCons_len aNil_len)))))))
theorem fd_FORMS (V : Env w K mg) : ∀ q ∈ t_FORMS, Fd P w K mg base 5 q.2 1 (fs_FORMS q.2) := by
  intro q hq
  simp only [t_FORMS, List.mem_cons, List.not_mem_nil, or_false] at hq
  rcases hq with rfl | rfl | rfl | rfl | rfl
  · exact (fd_is_of_key V).mono (by decide)
  · exact fd_is_of_pair V
  · exact (fd_is_of_key V).mono (by decide)
  · exact fd_is_of_stretch V
  · exact fd_is_of_stretch V
abbrev s_is_deed : Stmt := top 40
theorem sc_is_deed : FnScope ["thing", "word", "rest"] ["thing"] (defScope s_is_deed) := ⟨rfl, rfl, rfl, by decide +kernel, rfl, by decide +kernel, by decide +kernel⟩
theorem ndis_deed : (["thing", "word", "rest"] : List Str).Nodup := by decide +kernel
theorem fd_is_deed (V : Env w K mg) : Fd P w K mg base 6 "is_deed" 1 m_is_deed := by
  obtain ⟨fd, F⟩ := V.fn_is_deed
  refine fd_mk (k := 5) F V.mg_is_deed sc_is_deed (fun _ _ _ _ _ _ us hl => match us, hl with | [_], _ => rfl) fun cdv A outer s H E hr => ?_
  have tk := takes_of (X := cxOf (L2.CX P w) P w K mg base ["thing", "word", "rest"] (Str.ofString "is_deed") (defScope s_is_deed) (He.ga K (Str.ofString "is_deed")) cdv A outer s H E) (E := E) rfl rfl rfl rfl
  exact (db_cons (ds_if (dt_of_w (dw_or (dt_not (dt_val (de_fn call_isX cal_isi rfl V.fr_isinstance rfl (da_cons (de_var (pv 0)) (da_cons (de_ty rfl V.fr_tuple rfl (by decide) (by decide)) da_nil)) (by decide) (by decide)))) (dw_or (dt_cmp (op_eqD hr.units) opd_eq (de_var (pv 0)) (de_tup da_nil) (nomark _)) (dw_or1 (dt_not (dt_val (de_fn call_isX cal_isi rfl V.fr_isinstance rfl (da_cons (de_ix rfl (de_var (pv 0)) de_int) (da_cons (de_ty rfl V.fr_str rfl (by decide) (by decide)) da_nil)) (by decide) (by decide)))))))) (db_one (ds_ret de_bl)) db_nil) (db_cons (ds_asg (de_var (pv 0)) (dg_star rfl rfl (dgs_cons (dg_var (pgn (i := 1) ndis_deed)) (dgs_star1 (dg_var (pgn (i := 2) ndis_deed)))) rfl rfl)) (db_one (ds_ret (de_and (de_inT rfl V.tab_FORMS rfl V.mg_FORMS (by decide) (de_var (pv 1))) (de_one (de_callT V.tab_FORMS (fd_FORMS V) rfl V.mg_FORMS (by decide) hr (by decide) tk (de_var (pv 1)) (da_cons (de_var (pv 2)) da_nil) (aCons_len aNil_len))))))))
abbrev s_are_programs : Stmt := top 44
theorem sc_are_programs : FnScope ["thing", "deeds", "deed"] ["thing"] (defScope s_are_programs) := ⟨rfl, rfl, rfl, by decide +kernel, rfl, by decide +kernel, by decide +kernel⟩
theorem ndare_programs : (["thing", "deeds", "deed"] : List Str).Nodup := by decide +kernel
theorem fd_are_programs (V : Env w K mg) : Fd P w K mg base 7 "are_programs" 1 m_are_programs := by
  obtain ⟨fd, F⟩ := V.fn_are_programs
  refine fd_mk (k := 6) F V.mg_are_programs sc_are_programs (fun _ _ _ _ _ _ us hl => match us, hl with | [_], _ => rfl) fun cdv A outer s H E hr => ?_
  have tk := takes_of (X := cxOf (L2.CX P w) P w K mg base ["thing", "deeds", "deed"] (Str.ofString "are_programs") (defScope s_are_programs) (He.ga K (Str.ofString "are_programs")) cdv A outer s H E) (E := E) rfl rfl rfl rfl
  exact (db_cons (ds_if (dt_of_w (dw_or (dt_not (dt_val (de_fn call_isX cal_isi rfl V.fr_isinstance rfl (da_cons (de_var (pv 0)) (da_cons (de_ty rfl V.fr_tuple rfl (by decide) (by decide)) da_nil)) (by decide) (by decide)))) (dw_or1 (dt_not (dt_chain op_le opd_cmp op_le opd_cmp de_int (de_fn call_lenX cal_len rfl V.fr_len rfl (da_cons (de_var (pv 0)) da_nil) (by decide) (by decide)) (de_gintE rfl V.gi_MOST_HANDS (by decide)) (by with_unfolding_all rfl)))))) (db_one (ds_ret de_bl)) db_nil) (db_cons (ds_for (passes_of rfl) rfl (di_seq rfl (de_var (pv 0))) (dg_var (pgn (i := 1) ndare_programs)) (db_one (ds_if (dt_of_w (dw_or (dt_not (dt_val (de_fn call_isX cal_isi rfl V.fr_isinstance rfl (da_cons (de_var (pv 1)) (da_cons (de_ty rfl V.fr_tuple rfl (by decide) (by decide)) da_nil)) (by decide) (by decide)))) (dw_or (dt_cmp op_gt opd_cmp (de_fn call_lenX cal_len rfl V.fr_len rfl (da_cons (de_var (pv 1)) da_nil) (by decide) (by decide)) (de_gintE rfl V.gi_MOST_DEEDS (by decide)) (nomark _)) (dw_or1 (dt_not (dt_val (de_fn (cr_all rfl) cal_all rfl V.fr_all rfl (da_cons (de_lc (pt := (.one 2)) rfl rfl ndare_programs (di_seq rfl (de_var (pv 1))) (own := [("deed", 2)]) (blkOk_by (by kernel_rfl)) rfl (fun _ _ _ _ _ => pgn (i := 2) ndare_programs) (fun _ _ _ _ _ => dts_nil) (fun _ _ _ _ _ => (de_call (fd_is_deed V) hr (by decide) rfl takes0 (da_cons (de_var (pv 2)) da_nil) rfl (by decide) (aCons_len aNil_len)))) da_nil) (by decide) (by decide)))))))) (db_one (ds_ret de_bl)) db_nil))) (db_one (ds_ret de_bl))))
abbrev s_need_programs : Stmt := top 45
theorem sc_need_programs : FnScope ["thing"] ["thing"] (defScope s_need_programs) := ⟨rfl, rfl, rfl, by decide +kernel, rfl, by decide +kernel, by decide +kernel⟩
theorem ndneed_programs : (["thing"] : List Str).Nodup := by decide +kernel
theorem fd_need_programs (V : Env w K mg) : Fd P w K mg base 8 "need_programs" 1 m_need_programs := by
  obtain ⟨fd, F⟩ := V.fn_need_programs
  refine fd_mk (k := 7) F V.mg_need_programs sc_need_programs (fun _ _ _ _ _ _ us hl => match us, hl with | [_], _ => rfl) fun cdv A outer s H E hr => ?_
  have tk := takes_of (X := cxOf (L2.CX P w) P w K mg base ["thing"] (Str.ofString "need_programs") (defScope s_need_programs) (He.ga K (Str.ofString "need_programs")) cdv A outer s H E) (E := E) rfl rfl rfl rfl
  exact (db_one (ds_if (dt_not (dt_val (de_call (fd_are_programs V) hr (by decide) rfl tk (da_cons (de_var (pv 0)) da_nil) rfl (by decide) (aCons_len aNil_len)))) (db_one (ds_raise rfl rfl tk V.er_NoPrograms rfl (by decide))) db_nil))
abbrev s_number_in : Stmt := top 52
theorem sc_number_in : FnScope ["word", "sign"] ["word"] (defScope s_number_in) := ⟨rfl, rfl, rfl, by decide +kernel, rfl, by decide +kernel, by decide +kernel⟩
theorem ndnumber_in : (["word", "sign"] : List Str).Nodup := by decide +kernel
theorem fd_number_in (V : Env w K mg) : Fd P w K mg base 1 "number_in" 1 m_number_in := by
  obtain ⟨fd, F⟩ := V.fn_number_in
  refine fd_mk (k := 0) F V.mg_number_in sc_number_in (fun _ _ _ _ _ _ us hl => match us, hl with | [_], _ => rfl) fun cdv A outer s H E hr => ?_
  have tk := takes_of (X := cxOf (L2.CX P w) P w K mg base ["word", "sign"] (Str.ofString "number_in") (defScope s_number_in) (He.ga K (Str.ofString "number_in")) cdv A outer s H E) (E := E) rfl rfl rfl rfl
  exact (db_cons (ds_if (dt_of_w (dw_or (dt_cmp (op_eqD hr.units) opd_eq (de_var (pv 0)) de_str (nomark _)) (dw_or (dt_cmp op_gt opd_cmp (de_fn call_lenX cal_len rfl V.fr_len rfl (da_cons (de_var (pv 0)) da_nil) (by decide) (by decide)) (de_gintE rfl V.gi_MOST_FIGURES (by decide)) (nomark _)) (dw_or1 (dt_not (dt_val (de_fn (cr_all rfl) cal_all rfl V.fr_all rfl (da_cons (de_lc (pt := (.one 1)) rfl rfl ndnumber_in (di_txt (de_var (pv 0))) (own := [("sign", 1)]) (blkOk_by (by kernel_rfl)) rfl (fun _ _ _ _ _ => pgn (i := 1) ndnumber_in) (fun _ _ _ _ _ => dts_nil) (fun _ _ _ _ _ => (de_cmp op_inX opd_in (de_var (pv 1)) (de_gstrE rfl V.gs_FIGURES (by decide)) (by with_unfolding_all rfl)))) da_nil) (by decide) (by decide)))))))) (db_one (ds_raise rfl rfl tk V.er_NoText rfl (by decide))) db_nil) (db_cons (ds_if (dt_of_w (dw_and (dt_cmp (op_eqD hr.units) opd_eq (de_ix rfl (de_var (pv 0)) de_int) de_str (nomark _)) (dw_and1 (dt_cmp (op_neD hr.units) opd_ne (de_var (pv 0)) de_str (nomark _))))) (db_one (ds_raise rfl rfl tk V.er_NoText rfl (by decide))) db_nil) (db_one (ds_ret (de_cls call_intX cal_int rfl V.fr_int rfl (da_cons (de_var (pv 0)) da_nil) (by decide) (by decide))))))
abbrev s_need_words : Stmt := top 53
theorem sc_need_words : FnScope ["thing"] ["thing"] (defScope s_need_words) := ⟨rfl, rfl, rfl, by decide +kernel, rfl, by decide +kernel, by decide +kernel⟩
theorem ndneed_words : (["thing"] : List Str).Nodup := by decide +kernel
theorem fd_need_words (V : Env w K mg) : Fd P w K mg base 1 "need_words" 1 m_need_words := by
  obtain ⟨fd, F⟩ := V.fn_need_words
  refine fd_mk (k := 0) F V.mg_need_words sc_need_words (fun _ _ _ _ _ _ us hl => match us, hl with | [_], _ => rfl) fun cdv A outer s H E hr => ?_
  have tk := takes_of (X := cxOf (L2.CX P w) P w K mg base ["thing"] (Str.ofString "need_words") (defScope s_need_words) (He.ga K (Str.ofString "need_words")) cdv A outer s H E) (E := E) rfl rfl rfl rfl
  exact (db_one (ds_if (dt_not (dt_val (de_fn call_isX cal_isi rfl V.fr_isinstance rfl (da_cons (de_var (pv 0)) (da_cons (de_ty rfl V.fr_str rfl (by decide) (by decide)) da_nil)) (by decide) (by decide)))) (db_one (ds_raise rfl rfl tk V.er_NoText rfl (by decide))) db_nil))
abbrev s_hand_text : Stmt := top 54
theorem sc_hand_text : FnScope ["deeds", "part", "deed"] ["deeds"] (defScope s_hand_text) := ⟨rfl, rfl, rfl, by decide +kernel, rfl, by decide +kernel, by decide +kernel⟩
theorem ndhand_text : (["deeds", "part", "deed"] : List Str).Nodup := by decide +kernel
theorem fd_hand_text (V : Env w K mg) : Fd P w K mg base 1 "hand_text" 1 m_hand_text := by
  obtain ⟨fd, F⟩ := V.fn_hand_text
  refine fd_mk (k := 0) F V.mg_hand_text sc_hand_text (fun _ _ _ _ _ _ us hl => match us, hl with | [_], _ => rfl) fun cdv A outer s H E hr => ?_
  have tk := takes_of (X := cxOf (L2.CX P w) P w K mg base ["deeds", "part", "deed"] (Str.ofString "hand_text") (defScope s_hand_text) (He.ga K (Str.ofString "hand_text")) cdv A outer s H E) (E := E) rfl rfl rfl rfl
  exact (db_one (ds_ret (de_orT rfl (de_meth rfl (by decide) PySem.F.plainAttrs_str PySem.F.slot_str_join PySem.F.type_str_join mt_join met_join (de_gstrE rfl V.gs_BETWEEN_DEEDS (by decide)) (da_cons (de_lc (pt := (.one 2)) rfl rfl ndhand_text (di_seq rfl (de_var (pv 0))) (own := [("deed", 2)]) (blkOk_by (by kernel_rfl)) rfl (fun _ _ _ _ _ => pgn (i := 2) ndhand_text) (fun _ _ _ _ _ => dts_nil) (fun _ _ _ _ _ => (de_meth rfl (by decide) PySem.F.plainAttrs_str PySem.F.slot_str_join PySem.F.type_str_join mt_join met_join de_str (da_cons (de_lc (pt := (.one 1)) rfl rfl ndhand_text (di_seq rfl (de_var (pv 2))) (own := [("part", 1)]) (blkOk_by (by kernel_rfl)) rfl (fun _ _ _ _ _ => pgn (i := 1) ndhand_text) (fun _ _ _ _ _ => dts_nil) (fun _ _ _ _ _ => (de_cls call_strX cal_str rfl V.fr_str rfl (da_cons (de_var (pv 1)) da_nil) (by decide) (by decide)))) da_nil)))) da_nil)) (de_one (de_gstrE rfl V.gs_NOTHING (by decide))))))
abbrev s_programs_text : Stmt := top 55
theorem sc_programs_text : FnScope ["programs", "deeds"] ["programs"] (defScope s_programs_text) := ⟨rfl, rfl, rfl, by decide +kernel, rfl, by decide +kernel, by decide +kernel⟩
theorem ndprograms_text : (["programs", "deeds"] : List Str).Nodup := by decide +kernel
theorem fd_programs_text (V : Env w K mg) : Fd P w K mg base 9 "programs_text" 1 m_programs_text := by
  obtain ⟨fd, F⟩ := V.fn_programs_text
  refine fd_mk (k := 8) F V.mg_programs_text sc_programs_text (fun _ _ _ _ _ _ us hl => match us, hl with | [_], _ => rfl) fun cdv A outer s H E hr => ?_
  have tk := takes_of (X := cxOf (L2.CX P w) P w K mg base ["programs", "deeds"] (Str.ofString "programs_text") (defScope s_programs_text) (He.ga K (Str.ofString "programs_text")) cdv A outer s H E) (E := E) rfl rfl rfl rfl
  exact (db_cons (ds_drop (de_call (fd_need_programs V) hr (by decide) rfl tk (da_cons (de_var (pv 0)) da_nil) rfl (by decide) (aCons_len aNil_len))) (db_one (ds_ret (de_meth rfl (by decide) PySem.F.plainAttrs_str PySem.F.slot_str_join PySem.F.type_str_join mt_join met_join (de_gstrE rfl V.gs_BETWEEN_HANDS (by decide)) (da_cons (de_lc (pt := (.one 1)) rfl rfl ndprograms_text (di_seq rfl (de_var (pv 0))) (own := [("deeds", 1)]) (blkOk_by (by kernel_rfl)) rfl (fun _ _ _ _ _ => pgn (i := 1) ndprograms_text) (fun _ _ _ _ _ => dts_nil) (fun _ _ _ _ _ => (de_call (fd_hand_text V) hr (by decide) rfl takes0 (da_cons (de_var (pv 1)) da_nil) rfl (by decide) (aCons_len aNil_len)))) da_nil)))))
abbrev s_deed_in : Stmt := top 56
theorem sc_deed_in : FnScope ["row", "word", "rest", "one"] ["row"] (defScope s_deed_in) := ⟨rfl, rfl, rfl, by decide +kernel, rfl, by decide +kernel, by decide +kernel⟩
theorem nddeed_in : (["row", "word", "rest", "one"] : List Str).Nodup := by decide +kernel
theorem fd_deed_in (V : Env w K mg) : Fd P w K mg base 2 "deed_in" 1 m_deed_in := by
  obtain ⟨fd, F⟩ := V.fn_deed_in
  refine fd_mk (k := 1) F V.mg_deed_in sc_deed_in (fun _ _ _ _ _ _ us hl => match us, hl with | [_], _ => rfl) fun cdv A outer s H E hr => ?_
  have tk := takes_of (X := cxOf (L2.CX P w) P w K mg base ["row", "word", "rest", "one"] (Str.ofString "deed_in") (defScope s_deed_in) (He.ga K (Str.ofString "deed_in")) cdv A outer s H E) (E := E) rfl rfl rfl rfl
  exact (db_cons (ds_asg (de_meth rfl (by decide) PySem.F.plainAttrs_str PySem.F.slot_str_split PySem.F.type_str_split mt_split met_split (de_var (pv 0)) (da_cons de_str da_nil)) (dg_star rfl rfl (dgs_cons (dg_var (pgn (i := 1) nddeed_in)) (dgs_star1 (dg_var (pgn (i := 2) nddeed_in)))) rfl rfl)) (db_one (ds_ret (de_cls call_tuple_of cal_tuple rfl V.fr_tuple rfl (da_cons (de_bin op_addX opd_add (de_lst (da_cons (de_var (pv 1)) da_nil)) (de_lc (pt := (.one 3)) rfl rfl nddeed_in (di_seq rfl (de_var (pv 2))) (own := [("one", 3)]) (blkOk_by (by kernel_rfl)) rfl (fun _ _ _ _ _ => pgn (i := 3) nddeed_in) (fun _ _ _ _ _ => dts_nil) (fun _ _ _ _ _ => (de_call (fd_number_in V) hr (by decide) rfl takes0 (da_cons (de_var (pv 3)) da_nil) rfl (by decide) (aCons_len aNil_len))))) da_nil) (by decide) (by decide)))))
abbrev s_hand_in : Stmt := top 57
theorem sc_hand_in : FnScope ["row", "words"] ["row"] (defScope s_hand_in) := ⟨rfl, rfl, rfl, by decide +kernel, rfl, by decide +kernel, by decide +kernel⟩
theorem ndhand_in : (["row", "words"] : List Str).Nodup := by decide +kernel
theorem fd_hand_in (V : Env w K mg) : Fd P w K mg base 3 "hand_in" 1 m_hand_in := by
  obtain ⟨fd, F⟩ := V.fn_hand_in
  refine fd_mk (k := 2) F V.mg_hand_in sc_hand_in (fun _ _ _ _ _ _ us hl => match us, hl with | [_], _ => rfl) fun cdv A outer s H E hr => ?_
  have tk := takes_of (X := cxOf (L2.CX P w) P w K mg base ["row", "words"] (Str.ofString "hand_in") (defScope s_hand_in) (He.ga K (Str.ofString "hand_in")) cdv A outer s H E) (E := E) rfl rfl rfl rfl
  exact (db_cons (ds_if (dt_cmp (op_eqD hr.units) opd_eq (de_var (pv 0)) (de_gstrE rfl V.gs_NOTHING (by decide)) (nomark _)) (db_one (ds_ret (de_tup da_nil))) db_nil) (db_one (ds_ret (de_cls call_tuple_of cal_tuple rfl V.fr_tuple rfl (da_cons (de_lc (pt := (.one 1)) rfl rfl ndhand_in (di_seq rfl (de_meth rfl (by decide) PySem.F.plainAttrs_str PySem.F.slot_str_split PySem.F.type_str_split mt_split met_split (de_var (pv 0)) (da_cons (de_gstrE rfl V.gs_BETWEEN_DEEDS (by decide)) da_nil))) (own := [("words", 1)]) (blkOk_by (by kernel_rfl)) rfl (fun _ _ _ _ _ => pgn (i := 1) ndhand_in) (fun _ _ _ _ _ => dts_nil) (fun _ _ _ _ _ => (de_call (fd_deed_in V) hr (by decide) rfl takes0 (da_cons (de_var (pv 1)) da_nil) rfl (by decide) (aCons_len aNil_len)))) da_nil) (by decide) (by decide)))))
abbrev s_read_programs : Stmt := top 58
theorem sc_read_programs : FnScope ["text", "programs", "row"] ["text"] (defScope s_read_programs) := ⟨rfl, rfl, rfl, by decide +kernel, rfl, by decide +kernel, by decide +kernel⟩
theorem ndread_programs : (["text", "programs", "row"] : List Str).Nodup := by decide +kernel
theorem fd_read_programs (V : Env w K mg) : Fd P w K mg base 8 "read_programs" 1 m_read_programs := by
  obtain ⟨fd, F⟩ := V.fn_read_programs
  refine fd_mk (k := 7) F V.mg_read_programs sc_read_programs (fun _ _ _ _ _ _ us hl => match us, hl with | [_], _ => rfl) fun cdv A outer s H E hr => ?_
  have tk := takes_of (X := cxOf (L2.CX P w) P w K mg base ["text", "programs", "row"] (Str.ofString "read_programs") (defScope s_read_programs) (He.ga K (Str.ofString "read_programs")) cdv A outer s H E) (E := E) rfl rfl rfl rfl
  exact (db_cons (ds_drop (de_call (fd_need_words V) hr (by decide) rfl tk (da_cons (de_var (pv 0)) da_nil) rfl (by decide) (aCons_len aNil_len))) (db_cons (ds_asg (de_cls call_tuple_of cal_tuple rfl V.fr_tuple rfl (da_cons (de_lc (pt := (.one 2)) rfl rfl ndread_programs (di_seq rfl (de_meth rfl (by decide) PySem.F.plainAttrs_str PySem.F.slot_str_split PySem.F.type_str_split mt_split met_split (de_var (pv 0)) (da_cons (de_gstrE rfl V.gs_BETWEEN_HANDS (by decide)) da_nil))) (own := [("row", 2)]) (blkOk_by (by kernel_rfl)) rfl (fun _ _ _ _ _ => pgn (i := 2) ndread_programs) (fun _ _ _ _ _ => dts_nil) (fun _ _ _ _ _ => (de_call (fd_hand_in V) hr (by decide) rfl takes0 (da_cons (de_var (pv 2)) da_nil) rfl (by decide) (aCons_len aNil_len)))) da_nil) (by decide) (by decide)) (dg_var (pgn (i := 1) ndread_programs))) (db_cons (ds_if (dt_not (dt_val (de_call (fd_are_programs V) hr (by decide) rfl tk (da_cons (de_var (pv 1)) da_nil) rfl (by decide) (aCons_len aNil_len)))) (db_one (ds_raise rfl rfl tk V.er_NoText rfl (by decide))) db_nil) (db_one (ds_ret (de_var (pv 1)))))))
abbrev s__law_pot : Stmt := top 60
theorem sc__law_pot : FnScope ["script", "k", "cell"] ["script", "k"] (defScope s__law_pot) := ⟨rfl, rfl, rfl, by decide +kernel, rfl, by decide +kernel, by decide +kernel⟩
theorem nd_law_pot : (["script", "k", "cell"] : List Str).Nodup := by decide +kernel
theorem fd__law_pot (V : Env w K mg) : Fd P w K mg base 1 "_law_pot" 2 m__law_pot := by
  obtain ⟨fd, F⟩ := V.fn__law_pot
  refine fd_mk (k := 0) F V.mg__law_pot sc__law_pot (fun _ _ _ _ _ _ us hl => match us, hl with | [_, _], _ => rfl) fun cdv A outer s H E hr => ?_
  have tk := takes_of (X := cxOf (L2.CX P w) P w K mg base ["script", "k", "cell"] (Str.ofString "_law_pot") (defScope s__law_pot) (He.ga K (Str.ofString "_law_pot")) cdv A outer s H E) (E := E) rfl rfl rfl rfl
  exact (db_cons (ds_asg de_int (dg_var (pgn (i := 2) nd_law_pot))) (db_cons (ds_if (dt_cmp op_lt opd_cmp (de_var (pv 1)) (de_fn call_lenX cal_len rfl V.fr_len rfl (da_cons (de_var (pv 0)) da_nil) (by decide) (by decide)) (nomark _)) (db_one (ds_asg (de_bin op_mod opd_mod (de_fn call_abs cal_abs rfl V.fr_abs rfl (da_cons (de_ix rfl (de_var (pv 0)) (de_var (pv 1))) da_nil) (by decide) (by decide)) (de_bin op_powB opd_pow (de_bin op_powB opd_pow de_int de_int) de_int)) (dg_var (pgn (i := 2) nd_law_pot)))) db_nil) (db_one (ds_ret (de_new (da_cons (de_bin op_mulX opd_mul (de_var (pv 2)) (de_cls call_intX cal_int rfl V.fr_int rfl (da_cons (de_cmp op_ge opd_cmp (de_var (pv 2)) (de_bin op_powB opd_pow de_int de_int) (nomark _)) da_nil) (by decide) (by decide))) (da_cons (de_bin op_mod opd_mod (de_bin op_powB opd_pow (de_bin op_addX opd_add (de_bin op_addX opd_add (de_bin op_mod opd_mod (de_var (pv 2)) de_int) (de_bin op_mulX opd_mul de_int (de_var (pv 1)))) de_int) de_int) de_int) (da_cons de_int da_nil))))))))
abbrev s__law_take : Stmt := top 61
theorem sc__law_take : FnScope ["pot", "many", "found", "one", "other"] ["pot", "many"] (defScope s__law_take) := ⟨rfl, rfl, rfl, by decide +kernel, rfl, by decide +kernel, by decide +kernel⟩
theorem nd_law_take : (["pot", "many", "found", "one", "other"] : List Str).Nodup := by decide +kernel
theorem fd__law_take (V : Env w K mg) : Fd P w K mg base 1 "_law_take" 2 m__law_take := by
  obtain ⟨fd, F⟩ := V.fn__law_take
  refine fd_mk (k := 0) F V.mg__law_take sc__law_take (fun _ _ _ _ _ _ us hl => match us, hl with | [_, _], _ => rfl) fun cdv A outer s H E hr => ?_
  have tk := takes_of (X := cxOf (L2.CX P w) P w K mg base ["pot", "many", "found", "one", "other"] (Str.ofString "_law_take") (defScope s__law_take) (He.ga K (Str.ofString "_law_take")) cdv A outer s H E) (E := E) rfl rfl rfl rfl
  exact (db_cons (ds_if (dt_cmp op_gt opd_cmp (de_ix rfl (de_var (pv 0)) de_int) de_int (nomark _)) (db_cons (ds_asg (de_bin op_mod opd_mod (de_ix rfl (de_var (pv 0)) de_int) (de_var (pv 1))) (dg_var (pgn (i := 2) nd_law_take))) (db_cons (ds_asg (de_bin op_fdiv opd_div (de_ix rfl (de_var (pv 0)) de_int) (de_var (pv 1))) (dg_sub (de_var (pv 0)) de_int (fun _ => rfl))) (db_one (ds_ret (de_var (pv 2)))))) db_nil) (db_cons (ds_asg (de_bin op_addX opd_add (de_ix rfl (de_var (pv 0)) de_int) de_int) (dg_sub (de_var (pv 0)) de_int (fun _ => rfl))) (db_cons (ds_asg (de_bin op_mod opd_mod (de_bin op_powB opd_pow (de_bin op_addX opd_add (de_ix rfl (de_var (pv 0)) de_int) (de_bin op_mulX opd_mul de_int (de_ix rfl (de_var (pv 0)) de_int))) de_int) de_int) (dg_var (pgn (i := 3) nd_law_take))) (db_cons (ds_asg (de_bin op_mod opd_mod (de_bin op_powB opd_pow (de_bin op_addX opd_add (de_bin op_addX opd_add (de_var (pv 3)) (de_bin op_mod opd_mod (de_ix rfl (de_var (pv 0)) de_int) de_int)) (de_bin op_mulX opd_mul de_int (de_ix rfl (de_var (pv 0)) de_int))) de_int) de_int) (dg_var (pgn (i := 4) nd_law_take))) (db_one (ds_ret (de_bin op_mod opd_mod (de_bin op_fdiv opd_div (de_var (pv 4)) de_int) (de_var (pv 1)))))))))
abbrev s__law_key : Stmt := top 62
theorem sc__law_key : FnScope ["pot", "pairs", "way", "near"] ["pot", "pairs"] (defScope s__law_key) := ⟨rfl, rfl, rfl, by decide +kernel, rfl, by decide +kernel, by decide +kernel⟩
theorem nd_law_key : (["pot", "pairs", "way", "near"] : List Str).Nodup := by decide +kernel
theorem fd__law_key (V : Env w K mg) : Fd P w K mg base 2 "_law_key" 2 m__law_key := by
  obtain ⟨fd, F⟩ := V.fn__law_key
  refine fd_mk (k := 1) F V.mg__law_key sc__law_key (fun _ _ _ _ _ _ us hl => match us, hl with | [_, _], _ => rfl) fun cdv A outer s H E hr => ?_
  have tk := takes_of (X := cxOf (L2.CX P w) P w K mg base ["pot", "pairs", "way", "near"] (Str.ofString "_law_key") (defScope s__law_key) (He.ga K (Str.ofString "_law_key")) cdv A outer s H E) (E := E) rfl rfl rfl rfl
  exact (db_cons (ds_asg (de_call (fd__law_take V) hr (by decide) rfl tk (da_cons (de_var (pv 0)) (da_cons de_int da_nil)) rfl (by decide) (aCons_len (aCons_len aNil_len))) (dg_var (pgn (i := 2) nd_law_key))) (db_cons (ds_if (dt_of_w (dw_or (dt_cmp (op_eqD hr.units) opd_eq (de_var (pv 1)) (de_tup da_nil) (nomark _)) (dw_or1 (dt_cmp (op_eqD hr.units) opd_eq (de_var (pv 2)) de_int (nomark _))))) (db_one (ds_ret (de_ix rfl (de_lst (da_cons (de_call (fd__law_take V) hr (by decide) rfl tk (da_cons (de_var (pv 0)) (da_cons de_int da_nil)) rfl (by decide) (aCons_len (aCons_len aNil_len))) (da_cons (de_call (fd__law_take V) hr (by decide) rfl tk (da_cons (de_var (pv 0)) (da_cons (de_bin op_addX opd_add (de_bin op_powB opd_pow de_int de_int) de_int) da_nil)) rfl (by decide) (aCons_len (aCons_len aNil_len))) (da_cons de_int (da_cons (de_bin op_powB opd_pow de_int de_int) da_nil))))) (de_call (fd__law_take V) hr (by decide) rfl tk (da_cons (de_var (pv 0)) (da_cons de_int da_nil)) rfl (by decide) (aCons_len (aCons_len aNil_len)))))) db_nil) (db_cons (ds_asg (de_ix rfl (de_ix rfl (de_var (pv 1)) (de_call (fd__law_take V) hr (by decide) rfl tk (da_cons (de_var (pv 0)) (da_cons (de_fn call_lenX cal_len rfl V.fr_len rfl (da_cons (de_var (pv 1)) da_nil) (by decide) (by decide)) da_nil)) rfl (by decide) (aCons_len (aCons_len aNil_len)))) de_int) (dg_var (pgn (i := 3) nd_law_key))) (db_one (ds_ret (de_fn (call_min2 rfl) cal_min2 rfl V.fr_min rfl (da_cons (de_bin op_powB opd_pow de_int de_int) (da_cons (de_fn (call_max2 rfl) cal_max2 rfl V.fr_max rfl (da_cons de_int (da_cons (de_bin op_addX opd_add (de_var (pv 3)) (de_ix rfl (de_lst (da_cons de_int (da_cons de_int (da_cons de_int (da_cons (de_neg de_int) da_nil))))) (de_bin op_sub opd_sub (de_var (pv 2)) de_int))) da_nil)) (by decide) (by decide)) da_nil)) (by decide) (by decide)))))))
abbrev s__law_deed : Stmt := top 63
theorem sc__law_deed : FnScope ["pot", "pairs", "kinds", "kind", "key"] ["pot", "pairs", "kinds"] (defScope s__law_deed) := ⟨rfl, rfl, rfl, by decide +kernel, rfl, by decide +kernel, by decide +kernel⟩
theorem nd_law_deed : (["pot", "pairs", "kinds", "kind", "key"] : List Str).Nodup := by decide +kernel
theorem fd__law_deed (V : Env w K mg) : Fd P w K mg base 3 "_law_deed" 3 m__law_deed := by
  obtain ⟨fd, F⟩ := V.fn__law_deed
  refine fd_mk (k := 2) F V.mg__law_deed sc__law_deed (fun _ _ _ _ _ _ us hl => match us, hl with | [_, _, _], _ => rfl) fun cdv A outer s H E hr => ?_
  have tk := takes_of (X := cxOf (L2.CX P w) P w K mg base ["pot", "pairs", "kinds", "kind", "key"] (Str.ofString "_law_deed") (defScope s__law_deed) (He.ga K (Str.ofString "_law_deed")) cdv A outer s H E) (E := E) rfl rfl rfl rfl
  exact (db_cons (ds_asg (de_ix rfl (de_var (pv 2)) (de_call (fd__law_take V) hr (by decide) rfl tk (da_cons (de_var (pv 0)) (da_cons (de_fn call_lenX cal_len rfl V.fr_len rfl (da_cons (de_var (pv 2)) da_nil) (by decide) (by decide)) da_nil)) rfl (by decide) (aCons_len (aCons_len aNil_len)))) (dg_var (pgn (i := 3) nd_law_deed))) (db_cons (ds_asg (de_call (fd__law_key V) hr (by decide) rfl tk (da_cons (de_var (pv 0)) (da_cons (de_var (pv 1)) da_nil)) rfl (by decide) (aCons_len (aCons_len aNil_len))) (dg_var (pgn (i := 4) nd_law_deed))) (db_cons (ds_if (dt_cmp (op_eqD hr.units) opd_eq (de_var (pv 3)) de_str (nomark _)) (db_one (ds_ret (de_tup (da_cons (de_var (pv 3)) (da_cons (de_var (pv 4)) (da_cons (de_ix rfl (de_lst (da_cons (de_call (fd__law_take V) hr (by decide) rfl tk (da_cons (de_var (pv 0)) (da_cons de_int da_nil)) rfl (by decide) (aCons_len (aCons_len aNil_len))) (da_cons (de_call (fd__law_take V) hr (by decide) rfl tk (da_cons (de_var (pv 0)) (da_cons (de_bin op_addX opd_add (de_bin op_powB opd_pow de_int de_int) de_int) da_nil)) rfl (by decide) (aCons_len (aCons_len aNil_len))) da_nil))) (de_cls call_intX cal_int rfl V.fr_int rfl (da_cons (de_cmp (op_eqD hr.units) opd_eq (de_call (fd__law_take V) hr (by decide) rfl tk (da_cons (de_var (pv 0)) (da_cons de_int da_nil)) rfl (by decide) (aCons_len (aCons_len aNil_len))) de_int (nomark _)) da_nil) (by decide) (by decide))) da_nil)))))) db_nil) (db_cons (ds_if (dt_cmp op_inX opd_in (de_var (pv 3)) (de_tup (da_cons de_str (da_cons de_str da_nil))) (by with_unfolding_all rfl)) (db_one (ds_ret (de_tup (da_cons (de_var (pv 3)) (da_cons (de_var (pv 4)) da_nil))))) db_nil) (db_one (ds_ret (de_tup (da_cons (de_var (pv 3)) (da_cons (de_var (pv 4)) (da_cons (de_fn (call_min2 rfl) cal_min2 rfl V.fr_min rfl (da_cons (de_bin op_addX opd_add (de_bin op_powB opd_pow de_int de_int) de_int) (da_cons (de_bin op_addX opd_add (de_bin op_addX opd_add (de_var (pv 4)) de_int) (de_ix rfl (de_lst (da_cons (de_call (fd__law_take V) hr (by decide) rfl tk (da_cons (de_var (pv 0)) (da_cons de_int da_nil)) rfl (by decide) (aCons_len (aCons_len aNil_len))) (da_cons (de_call (fd__law_take V) hr (by decide) rfl tk (da_cons (de_var (pv 0)) (da_cons de_int da_nil)) rfl (by decide) (aCons_len (aCons_len aNil_len))) (da_cons (de_bin op_powB opd_pow de_int de_int) da_nil)))) (de_call (fd__law_take V) hr (by decide) rfl tk (da_cons (de_var (pv 0)) (da_cons de_int da_nil)) rfl (by decide) (aCons_len (aCons_len aNil_len))))) da_nil)) (by decide) (by decide)) da_nil))))))))))
abbrev s__law_programs : Stmt := top 64
theorem sc__law_programs : FnScope ["pot", "pairs", "hands", "most", "kinds", "j", "k"] ["pot", "pairs", "hands", "most", "kinds"] (defScope s__law_programs) := ⟨rfl, rfl, rfl, by decide +kernel, rfl, by decide +kernel, by decide +kernel⟩
theorem nd_law_programs : (["pot", "pairs", "hands", "most", "kinds", "j", "k"] : List Str).Nodup := by decide +kernel
theorem fd__law_programs (V : Env w K mg) : Fd P w K mg base 4 "_law_programs" 5 m__law_programs := by
  obtain ⟨fd, F⟩ := V.fn__law_programs
  refine fd_mk (k := 3) F V.mg__law_programs sc__law_programs (fun _ _ _ _ _ _ us hl => match us, hl with | [_, _, _, _, _], _ => rfl) fun cdv A outer s H E hr => ?_
  have tk := takes_of (X := cxOf (L2.CX P w) P w K mg base ["pot", "pairs", "hands", "most", "kinds", "j", "k"] (Str.ofString "_law_programs") (defScope s__law_programs) (He.ga K (Str.ofString "_law_programs")) cdv A outer s H E) (E := E) rfl rfl rfl rfl
  exact (db_one (ds_ret (de_cls call_tuple_of cal_tuple rfl V.fr_tuple rfl (da_cons (de_lc (pt := (.one 6)) rfl rfl nd_law_programs (di_rng1 rfl V.fr_range (da_cons (de_var (pv 2)) da_nil)) (own := [("k", 6)]) (blkOk_by (by kernel_rfl)) rfl (fun _ _ _ _ _ => pgn (i := 6) nd_law_programs) (fun _ _ _ _ _ => dts_nil) (fun _ _ _ _ _ => (de_cls call_tuple_of cal_tuple rfl V.fr_tuple rfl (da_cons (de_lc (pt := (.one 5)) rfl rfl nd_law_programs (di_rng1 rfl V.fr_range (da_cons (de_call (fd__law_take V) hr (by decide) rfl takes0 (da_cons (de_var (pv 0)) (da_cons (de_bin op_addX opd_add (de_var (pv 3)) de_int) da_nil)) rfl (by decide) (aCons_len (aCons_len aNil_len))) da_nil)) (own := [("j", 5)]) (blkOk_by (by kernel_rfl)) rfl (fun _ _ _ _ _ => pgn (i := 5) nd_law_programs) (fun _ _ _ _ _ => dts_nil) (fun _ _ _ _ _ => (de_call (fd__law_deed V) hr (by decide) rfl takes0 (da_cons (de_var (pv 0)) (da_cons (de_var (pv 1)) (da_cons (de_var (pv 4)) da_nil))) rfl (by decide) (aCons_len (aCons_len (aCons_len aNil_len)))))) da_nil) (by decide) (by decide)))) da_nil) (by decide) (by decide))))
abbrev s__law_same : Stmt := top 65
theorem sc__law_same : FnScope ["found", "due", "one", "other"] ["found", "due"] (defScope s__law_same) := ⟨rfl, rfl, rfl, by decide +kernel, rfl, by decide +kernel, by decide +kernel⟩
theorem nd_law_same : (["found", "due", "one", "other"] : List Str).Nodup := by decide +kernel
theorem fd__law_same : ∀ (n : Nat), Env w K mg → Fd P w K mg base (1 + n) "_law_same" 2 (m__law_same n)
  | 0, V => by
    obtain ⟨fd, F⟩ := V.fn__law_same
    exact fd_stk F V.mg__law_same sc__law_same (fun _ _ _ _ _ _ us hl => match us, hl with | [_, _], _ => rfl)
  | n + 1, V => by
    have hrc : Fd P w K mg base (1 + n) "_law_same" 2 (m__law_same n) := fd__law_same n V
    obtain ⟨fd, F⟩ := V.fn__law_same
    refine fd_mk (k := 1 + n) F V.mg__law_same sc__law_same (fun _ _ _ _ _ _ us hl => match us, hl with | [_, _], _ => rfl) fun cdv A outer s H E hr => ?_
    have tk := takes_of (X := cxOf (L2.CX P w) P w K mg base ["found", "due", "one", "other"] (Str.ofString "_law_same") (defScope s__law_same) (He.ga K (Str.ofString "_law_same")) cdv A outer s H E) (E := E) rfl rfl rfl rfl
    exact (db_cons (ds_if (dt_val (de_fn call_isX cal_isi rfl V.fr_isinstance rfl (da_cons (de_var (pv 1)) (da_cons (de_ty rfl V.fr_tuple rfl (by decide) (by decide)) da_nil)) (by decide) (by decide))) (db_cons (ds_if (dt_of_w (dw_or (dt_not (dt_val (de_fn call_isX cal_isi rfl V.fr_isinstance rfl (da_cons (de_var (pv 0)) (da_cons (de_ty rfl V.fr_tuple rfl (by decide) (by decide)) da_nil)) (by decide) (by decide)))) (dw_or1 (dt_cmp (op_neD hr.units) opd_ne (de_fn call_lenX cal_len rfl V.fr_len rfl (da_cons (de_var (pv 0)) da_nil) (by decide) (by decide)) (de_fn call_lenX cal_len rfl V.fr_len rfl (da_cons (de_var (pv 1)) da_nil) (by decide) (by decide)) (nomark _))))) (db_one (ds_ret de_bl)) db_nil) (db_one (ds_ret (de_fn (cr_all rfl) cal_all rfl V.fr_all rfl (da_cons (de_lc (pt := (.many [2, 3])) rfl rfl nd_law_same (di_zip rfl rfl V.fr_zip (da_cons (de_var (pv 0)) (da_cons (de_var (pv 1)) da_nil))) (own := [("one", 2), ("other", 3)]) (blkOk_by (by kernel_rfl)) rfl (fun _ _ _ _ _ => pg_tup rfl (pgs_cons (pgn (i := 2) nd_law_same) (pgs_cons (pgn (i := 3) nd_law_same) pgs_nil))) (fun _ _ _ _ _ => dts_nil) (fun _ _ _ _ _ => (de_call hrc hr (by omega) rfl takes0 (da_cons (de_var (pv 2)) (da_cons (de_var (pv 3)) da_nil)) rfl (by decide) (aCons_len (aCons_len aNil_len))))) da_nil) (by decide) (by decide))))) db_nil) (db_cons (ds_if (dt_cmp op_isN opd_isN (de_var (pv 1)) de_non (nomark _)) (db_one (ds_ret (de_cmp op_isN opd_isN (de_var (pv 0)) de_non (nomark _)))) db_nil) (db_cons (ds_if (dt_val (de_fn call_isX cal_isi rfl V.fr_isinstance rfl (da_cons (de_var (pv 1)) (da_cons (de_tup (da_cons (de_ty rfl V.fr_str rfl (by decide) (by decide)) (da_cons (de_ty rfl V.fr_bool rfl (by decide) (by decide)) da_nil))) da_nil)) (by decide) (by decide))) (db_one (ds_ret (de_and (de_fn call_isX cal_isi rfl V.fr_isinstance rfl (da_cons (de_var (pv 0)) (da_cons (de_tup (da_cons (de_ty rfl V.fr_str rfl (by decide) (by decide)) (da_cons (de_ty rfl V.fr_bool rfl (by decide) (by decide)) da_nil))) da_nil)) (by decide) (by decide)) (de_and (de_cmp (op_eqD hr.units) opd_eq (de_fn call_isX cal_isi rfl V.fr_isinstance rfl (da_cons (de_var (pv 0)) (da_cons (de_ty rfl V.fr_bool rfl (by decide) (by decide)) da_nil)) (by decide) (by decide)) (de_fn call_isX cal_isi rfl V.fr_isinstance rfl (da_cons (de_var (pv 1)) (da_cons (de_ty rfl V.fr_bool rfl (by decide) (by decide)) da_nil)) (by decide) (by decide)) (nomark _)) (de_one (de_cmp (op_eqD hr.units) opd_eq (de_var (pv 0)) (de_var (pv 1)) (nomark _))))))) db_nil) (db_one (ds_ret (de_and (de_fn call_isX cal_isi rfl V.fr_isinstance rfl (da_cons (de_var (pv 0)) (da_cons (de_ty rfl V.fr_int rfl (by decide) (by decide)) da_nil)) (by decide) (by decide)) (de_and (de_not (de_fn call_isX cal_isi rfl V.fr_isinstance rfl (da_cons (de_var (pv 0)) (da_cons (de_ty rfl V.fr_bool rfl (by decide) (by decide)) da_nil)) (by decide) (by decide))) (de_one (de_cmp (op_eqD hr.units) opd_eq (de_var (pv 0)) (de_var (pv 1)) (nomark _))))))))))
abbrev s__law_programs_text : Stmt := top 66
theorem sc__law_programs_text : FnScope ["programs", "hands", "deeds", "rows", "part", "deed"] ["programs"] (defScope s__law_programs_text) := ⟨rfl, rfl, rfl, by decide +kernel, rfl, by decide +kernel, by decide +kernel⟩
theorem nd_law_programs_text : (["programs", "hands", "deeds", "rows", "part", "deed"] : List Str).Nodup := by decide +kernel
theorem fd__law_programs_text (V : Env w K mg) : Fd P w K mg base 1 "_law_programs_text" 1 m__law_programs_text := by
  obtain ⟨fd, F⟩ := V.fn__law_programs_text
  refine fd_mk (k := 0) F V.mg__law_programs_text sc__law_programs_text (fun _ _ _ _ _ _ us hl => match us, hl with | [_], _ => rfl) fun cdv A outer s H E hr => ?_
  have tk := takes_of (X := cxOf (L2.CX P w) P w K mg base ["programs", "hands", "deeds", "rows", "part", "deed"] (Str.ofString "_law_programs_text") (defScope s__law_programs_text) (He.ga K (Str.ofString "_law_programs_text")) cdv A outer s H E) (E := E) rfl rfl rfl rfl
  exact (db_cons (ds_asg (de_new da_nil) (dg_var (pgn (i := 1) nd_law_programs_text))) (db_cons (ds_for (passes_of rfl) rfl (di_seq rfl (de_var (pv 0))) (dg_var (pgn (i := 2) nd_law_programs_text)) (db_cons (ds_setLc (i := 3) (pt := (.one 5)) rfl rfl nd_law_programs_text (di_seq rfl (de_var (pv 2))) (own := [("deed", 5)]) (blkOk_by (by kernel_rfl)) rfl (fun _ _ _ _ _ => pgn (i := 5) nd_law_programs_text) (fun _ _ _ _ _ => dts_nil) (fun _ _ _ _ _ => (de_meth rfl (by decide) PySem.F.plainAttrs_str PySem.F.slot_str_join PySem.F.type_str_join mt_join met_join de_str (da_cons (de_lc (pt := (.one 4)) rfl rfl nd_law_programs_text (di_seq rfl (de_var (pv 5))) (own := [("part", 4)]) (blkOk_by (by kernel_rfl)) rfl (fun _ _ _ _ _ => pgn (i := 4) nd_law_programs_text) (fun _ _ _ _ _ => dts_nil) (fun _ _ _ _ _ => (de_cls call_strX cal_str rfl V.fr_str rfl (da_cons (de_var (pv 4)) da_nil) (by decide) (by decide)))) da_nil)))) (db_one (ds_drop (de_meth rfl (by decide) PySem.F.plainAttrs_list PySem.F.slot_list_append PySem.F.type_list_append mt_append met_append (de_var (pv 1)) (da_cons (de_ix rfl (de_lst (da_cons de_str (da_cons (de_meth rfl (by decide) PySem.F.plainAttrs_str PySem.F.slot_str_join PySem.F.type_str_join mt_join met_join de_str (da_cons (de_var (pv 3)) da_nil)) da_nil))) (de_cls call_intX cal_int rfl V.fr_int rfl (da_cons (de_cmp (op_neD hr.units) opd_ne (de_var (pv 3)) (de_lst da_nil) (nomark _)) da_nil) (by decide) (by decide))) da_nil)))))) (db_one (ds_ret (de_meth rfl (by decide) PySem.F.plainAttrs_str PySem.F.slot_str_join PySem.F.type_str_join mt_join met_join de_str (da_cons (de_var (pv 1)) da_nil))))))
abbrev s__law_word : Stmt := top 67
theorem sc__law_word : FnScope ["caught", "names", "some", "others"] ["caught"] (defScope s__law_word) := ⟨rfl, rfl, rfl, by decide +kernel, rfl, by decide +kernel, by decide +kernel⟩
theorem nd_law_word : (["caught", "names", "some", "others"] : List Str).Nodup := by decide +kernel
theorem fdw__law_word (V : Env w K mg) : FdW P w K mg base 1 "_law_word" lawFw := by
  obtain ⟨fd, F⟩ := V.fn__law_word
  exact fdW_mk (k := 0) F V.mg__law_word sc__law_word (fun _ _ _ _ _ _ us hl => match us, hl with | [_], _ => rfl) (fun cdv A outer s H E p hr => (db_cons (ds_asg (de_lst (da_cons de_str (da_cons de_str (da_cons de_str da_nil)))) (dg_var (pgn (i := 1) nd_law_word))) (db_cons (ds_asg (de_lst (da_cons (de_fn (call_isP (pz := [p]) (fun _ z => z)) (cal_isE V.kitB) rfl V.fr_isinstance rfl (da_cons (de_var (pv 0)) (da_cons (de_glo rfl rfl V.mg_NoTree (by decide)) da_nil)) (by decide) (by decide)) (da_cons (de_fn (call_isP (pz := [p]) (fun _ z => z)) (cal_isE V.kitB) rfl V.fr_isinstance rfl (da_cons (de_var (pv 0)) (da_cons (de_glo rfl rfl V.mg_NoPrograms (by decide)) da_nil)) (by decide) (by decide)) (da_cons (de_fn (call_isP (pz := [p]) (fun _ z => z)) (cal_isE V.kitB) rfl V.fr_isinstance rfl (da_cons (de_var (pv 0)) (da_cons (de_glo rfl rfl V.mg_NoText (by decide)) da_nil)) (by decide) (by decide)) da_nil)))) (dg_var (pgn (i := 2) nd_law_word))) (db_cons (ds_asg (de_fn (call_isP (pz := [p]) (fun _ z => z)) (cal_isE V.kitB) rfl V.fr_isinstance rfl (da_cons (de_var (pv 0)) (da_cons (de_tup (da_cons (de_glo rfl rfl V.mg_Holds (by decide)) (da_cons (de_glo rfl rfl V.mg_HoldsNot (by decide)) (da_cons (de_glo rfl rfl V.mg_NoCut (by decide)) (da_cons (de_glo rfl rfl V.mg_NoDeed (by decide)) (da_cons (de_glo rfl rfl V.mg_NoDisk (by decide)) (da_cons (de_glo rfl rfl V.mg_NoEvent (by decide)) (da_cons (de_glo rfl rfl V.mg_NoHand (by decide)) (da_cons (de_glo rfl rfl V.mg_NoKey (by decide)) (da_cons (de_glo rfl rfl V.mg_NoNumber (by decide)) (da_cons (de_glo rfl rfl V.mg_NoPage (by decide)) da_nil))))))))))) da_nil)) (by decide) (by decide)) (dg_var (pgn (i := 3) nd_law_word))) (db_cons (ds_asg (de_or (de_var (pv 3)) (de_one (de_fn (call_isP (pz := [p]) (fun _ z => z)) (cal_isE V.kitB) rfl V.fr_isinstance rfl (da_cons (de_var (pv 0)) (da_cons (de_tup (da_cons (de_glo rfl rfl V.mg_NoPairs (by decide)) (da_cons (de_glo rfl rfl V.mg_NoPlans (by decide)) (da_cons (de_glo rfl rfl V.mg_NoRecords (by decide)) (da_cons (de_glo rfl rfl V.mg_NoRoom (by decide)) (da_cons (de_glo rfl rfl V.mg_NoRule (by decide)) (da_cons (de_glo rfl rfl V.mg_NoShape (by decide)) (da_cons (de_glo rfl rfl V.mg_NoStretch (by decide)) (da_cons (de_glo rfl rfl V.mg_NoValue (by decide)) da_nil))))))))) da_nil)) (by decide) (by decide)))) (dg_var (pgn (i := 3) nd_law_word))) (db_cons (ds_if (dt_of_w (dw_or (dt_cmp (op_neD hr.units) opd_ne (de_meth rfl (by decide) PySem.F.plainAttrs_list PySem.F.slot_list_count PySem.F.type_list_count mt_cntX met_count (de_var (pv 2)) (da_cons de_bl da_nil)) de_int (nomark _)) (dw_or (dt_val (de_var (pv 3))) (dw_or1 (dt_val (de_fn (call_isP (pz := [p]) (fun _ z => z)) (cal_isE V.kitB) rfl V.fr_isinstance rfl (da_cons (de_var (pv 0)) (da_cons (de_tup (da_cons (de_glo rfl rfl V.mg_TooMany (by decide)) (da_cons (de_glo rfl rfl V.mg_TooWide (by decide)) (da_cons (de_glo rfl rfl V.mg_Waits (by decide)) da_nil)))) da_nil)) (by decide) (by decide))))))) (db_one (ds_ret de_str)) db_nil) (db_one (ds_ret (de_if (dt_val (de_fn (call_isP (pz := [p]) (fun _ z => z)) (cal_isE V.kitB) rfl V.fr_isinstance rfl (da_cons (de_var (pv 0)) (da_cons (de_ty rfl V.fr_ValueError rfl (by decide) (by decide)) da_nil)) (by decide) (by decide))) (de_ix rfl (de_var (pv 1)) (de_meth rfl (by decide) PySem.F.plainAttrs_list PySem.F.slot_list_index PySem.F.type_list_index mt_index met_index (de_var (pv 2)) (da_cons de_bl da_nil))) de_str))))))))) hfw__law_word
abbrev s__law_asked : Stmt := top 68
theorem sc__law_asked : FnScope ["thing", "e"] ["thing"] (defScope s__law_asked) := ⟨rfl, rfl, rfl, by decide +kernel, rfl, by decide +kernel, by decide +kernel⟩
theorem nd_law_asked : (["thing", "e"] : List Str).Nodup := by decide +kernel
theorem fd__law_asked (V : Env w K mg) : Fd P w K mg base 10 "_law_asked" 1 m__law_asked := by
  obtain ⟨fd, F⟩ := V.fn__law_asked
  refine fd_mk (k := 9) F V.mg__law_asked sc__law_asked (fun _ _ _ _ _ _ us hl => match us, hl with | [_], _ => rfl) fun cdv A outer s H E hr => ?_
  have tk := takes_of (X := cxOf (L2.CX P w) P w K mg base ["thing", "e"] (Str.ofString "_law_asked") (defScope s__law_asked) (He.ga K (Str.ofString "_law_asked")) cdv A outer s H E) (E := E) rfl rfl rfl rfl
  exact (db_cons (ds_try1 (i := 1) rfl rfl nd_law_asked rfl rfl (.inl rfl) (by decide) (by decide) rfl V.mg_GroveError (by decide) tk (fdw__law_word V) (L2H.roomH_of (hr.mono (by decide))) rfl (by decide) good_lawFw (exm_lawFw V) (fun W2 pn xe tk => (de_call (fd_programs_text V) hr (by decide) rfl tk (da_cons (de_var (pv 0)) da_nil) rfl (by decide) (aCons_len aNil_len)))) (db_one (ds_ret de_str)))
abbrev s__law_no_programs : Stmt := top 69
theorem sc__law_no_programs : FnScope ["pot", "programs", "odd", "at", "deeds", "some"] ["pot", "programs"] (defScope s__law_no_programs) := ⟨rfl, rfl, rfl, by decide +kernel, rfl, by decide +kernel, by decide +kernel⟩
theorem nd_law_no_programs : (["pot", "programs", "odd", "at", "deeds", "some"] : List Str).Nodup := by decide +kernel
theorem fd__law_no_programs (V : Env w K mg) : Fd P w K mg base 2 "_law_no_programs" 2 m__law_no_programs := by
  obtain ⟨fd, F⟩ := V.fn__law_no_programs
  refine fd_mk (k := 1) F V.mg__law_no_programs sc__law_no_programs (fun _ _ _ _ _ _ us hl => match us, hl with | [_, _], _ => rfl) fun cdv A outer s H E hr => ?_
  have tk := takes_of (X := cxOf (L2.CX P w) P w K mg base ["pot", "programs", "odd", "at", "deeds", "some"] (Str.ofString "_law_no_programs") (defScope s__law_no_programs) (He.ga K (Str.ofString "_law_no_programs")) cdv A outer s H E) (E := E) rfl rfl rfl rfl
  exact (db_cons (ds_asg (de_lst (da_cons de_non (da_cons de_int (da_cons (de_lst (da_cons de_str (da_cons de_int da_nil))) (da_cons (de_tup (da_cons de_str da_nil)) (da_cons (de_tup (da_cons de_str (da_cons (de_neg de_int) da_nil))) (da_cons (de_tup (da_cons de_str (da_cons de_bl da_nil))) (da_cons (de_tup (da_cons de_str (da_cons de_int (da_cons de_int da_nil)))) (da_cons (de_tup (da_cons de_str (da_cons de_int da_nil))) (da_cons (de_tup (da_cons de_str (da_cons de_int da_nil))) (da_cons (de_tup da_nil) da_nil))))))))))) (dg_var (pgn (i := 2) nd_law_no_programs))) (db_cons (ds_asg (de_call (fd__law_take V) hr (by decide) rfl tk (da_cons (de_var (pv 0)) (da_cons (de_fn call_lenX cal_len rfl V.fr_len rfl (da_cons (de_var (pv 1)) da_nil) (by decide) (by decide)) da_nil)) rfl (by decide) (aCons_len (aCons_len aNil_len))) (dg_var (pgn (i := 3) nd_law_no_programs))) (db_cons (ds_asg (de_bin op_addX opd_add (de_cut rfl (de_ix rfl (de_var (pv 1)) (de_var (pv 3))) do_none (do_some de_int)) (de_tup (da_cons (de_ix rfl (de_var (pv 2)) (de_call (fd__law_take V) hr (by decide) rfl tk (da_cons (de_var (pv 0)) (da_cons de_int da_nil)) rfl (by decide) (aCons_len (aCons_len aNil_len)))) da_nil))) (dg_var (pgn (i := 4) nd_law_no_programs))) (db_cons (ds_asg (de_lst (da_cons (de_bin op_addX opd_add (de_bin op_addX opd_add (de_cut rfl (de_var (pv 1)) do_none (do_some (de_var (pv 3)))) (de_tup (da_cons (de_var (pv 4)) da_nil))) (de_cut rfl (de_var (pv 1)) (do_some (de_bin op_addX opd_add (de_var (pv 3)) de_int)) do_none)) (da_cons (de_bin op_addX opd_add (de_bin op_addX opd_add (de_cut rfl (de_var (pv 1)) do_none (do_some (de_var (pv 3)))) (de_tup (da_cons (de_cls call_list_of cal_list rfl V.fr_list rfl (da_cons (de_ix rfl (de_var (pv 1)) (de_var (pv 3))) da_nil) (by decide) (by decide)) da_nil))) (de_cut rfl (de_var (pv 1)) (do_some (de_bin op_addX opd_add (de_var (pv 3)) de_int)) do_none)) da_nil))) (dg_var (pgn (i := 5) nd_law_no_programs))) (db_cons (ds_asg (de_bin op_addX opd_add (de_var (pv 5)) (de_lst (da_cons (de_bin op_addX opd_add (de_bin op_addX opd_add (de_cut rfl (de_var (pv 1)) do_none (do_some (de_var (pv 3)))) (de_tup (da_cons (de_bin op_mulX opd_mul (de_tup (da_cons (de_tup (da_cons de_str (da_cons de_int da_nil))) da_nil)) de_int) da_nil))) (de_cut rfl (de_var (pv 1)) (do_some (de_bin op_addX opd_add (de_var (pv 3)) de_int)) do_none)) (da_cons (de_bin op_mulX opd_mul (de_tup (da_cons (de_tup da_nil) da_nil)) de_int) (da_cons (de_tup da_nil) (da_cons de_non (da_cons (de_cls call_list_of cal_list rfl V.fr_list rfl (da_cons (de_var (pv 1)) da_nil) (by decide) (by decide)) (da_cons de_str da_nil)))))))) (dg_var (pgn (i := 5) nd_law_no_programs))) (db_one (ds_ret (de_ix rfl (de_bin op_addX opd_add (de_var (pv 5)) (de_lst (da_cons (de_bin op_addX opd_add (de_var (pv 1)) (de_tup (da_cons de_non da_nil))) (da_cons de_emp (da_cons (de_tup (da_cons de_str (da_cons de_int da_nil))) da_nil))))) (de_ix rfl (de_lst (da_cons de_int (da_cons de_int (da_cons de_int (da_cons de_int (da_cons de_int (da_cons de_int (da_cons de_int (da_cons de_int (da_cons de_int (da_cons de_int (da_cons de_int (da_cons de_int (da_cons de_int da_nil)))))))))))))) (de_call (fd__law_take V) hr (by decide) rfl tk (da_cons (de_var (pv 0)) (da_cons de_int da_nil)) rfl (by decide) (aCons_len (aCons_len aNil_len))))))))))))
abbrev s_law : Stmt := top 70
theorem sc_law : FnScope ["script", "kinds", "k", "pot", "pairs", "programs", "text", "hands"] ["script"] (defScope s_law) := ⟨rfl, rfl, rfl, by decide +kernel, rfl, by decide +kernel, by decide +kernel⟩
theorem ndlaw : (["script", "kinds", "k", "pot", "pairs", "programs", "text", "hands"] : List Str).Nodup := by decide +kernel
theorem fn_law (V : Env w K mg) {fd : FuncData} (F : FunD K (Str.ofString "law") (Str.ofString "law") (defArgs s_law) (defBody s_law) (defScope s_law) [] [] (He.ga K (Str.ofString "law")) fd) : FnOk P w K mg base (L2.CX P w) 11 (He.ga K (Str.ofString "law")) fd ["script"] (spD K m_law 1) := by
  refine fn_mk (k := 10) F sc_law fun cdv A outer s H E hr => ?_
  have tk := takes_of (X := cxOf (L2.CX P w) P w K mg base ["script", "kinds", "k", "pot", "pairs", "programs", "text", "hands"] (Str.ofString "law") (defScope s_law) (He.ga K (Str.ofString "law")) cdv A outer s H E) (E := E) rfl rfl rfl rfl
  exact (db_cons (ds_asg (de_lst (da_cons de_str (da_cons de_str (da_cons de_str (da_cons de_str (da_cons de_str da_nil)))))) (dg_var (pgn (i := 1) ndlaw))) (db_cons (ds_for (passes_of rfl) rfl (di_rng1 rfl V.fr_range (da_cons (de_fn (call_max2 rfl) cal_max2 rfl V.fr_max rfl (da_cons de_int (da_cons (de_fn (call_min2 rfl) cal_min2 rfl V.fr_min rfl (da_cons de_int (da_cons (de_fn call_lenX cal_len rfl V.fr_len rfl (da_cons (de_var (pv 0)) da_nil) (by decide) (by decide)) da_nil)) (by decide) (by decide)) da_nil)) (by decide) (by decide)) da_nil)) (dg_var (pgn (i := 2) ndlaw)) (db_cons (ds_asg (de_call (fd__law_pot V) hr (by decide) rfl tk (da_cons (de_var (pv 0)) (da_cons (de_var (pv 2)) da_nil)) rfl (by decide) (aCons_len (aCons_len aNil_len))) (dg_var (pgn (i := 3) ndlaw))) (db_cons (ds_asg (de_tup (da_cons (de_tup (da_cons (de_call (fd__law_take V) hr (by decide) rfl tk (da_cons (de_var (pv 3)) (da_cons de_int da_nil)) rfl (by decide) (aCons_len (aCons_len aNil_len))) (da_cons de_int da_nil))) (da_cons (de_tup (da_cons (de_bin op_powB opd_pow de_int de_int) (da_cons de_int da_nil))) da_nil))) (dg_var (pgn (i := 4) ndlaw))) (db_cons (ds_asg (de_call (fd__law_programs V) hr (by decide) rfl tk (da_cons (de_var (pv 3)) (da_cons (de_var (pv 4)) (da_cons (de_bin op_addX opd_add de_int (de_call (fd__law_take V) hr (by decide) rfl tk (da_cons (de_var (pv 3)) (da_cons de_int da_nil)) rfl (by decide) (aCons_len (aCons_len aNil_len)))) (da_cons (de_ix rfl (de_lst (da_cons de_int (da_cons de_int da_nil))) (de_call (fd__law_take V) hr (by decide) rfl tk (da_cons (de_var (pv 3)) (da_cons de_int da_nil)) rfl (by decide) (aCons_len (aCons_len aNil_len)))) (da_cons (de_var (pv 1)) da_nil))))) rfl (by decide) (aCons_len (aCons_len (aCons_len (aCons_len (aCons_len aNil_len)))))) (dg_var (pgn (i := 5) ndlaw))) (db_cons (ds_asg (de_call (fd__law_programs_text V) hr (by decide) rfl tk (da_cons (de_var (pv 5)) da_nil) rfl (by decide) (aCons_len aNil_len)) (dg_var (pgn (i := 6) ndlaw))) (db_cons (ds_if (dt_of_w (dw_or (dt_not (dt_val (de_call (fd__law_same 4 V) hr (by decide) rfl tk (da_cons (de_call (fd_programs_text V) hr (by decide) rfl tk (da_cons (de_var (pv 5)) da_nil) rfl (by decide) (aCons_len aNil_len)) (da_cons (de_var (pv 6)) da_nil)) rfl (by decide) (aCons_len (aCons_len aNil_len))))) (dw_or1 (dt_not (dt_val (de_call (fd__law_same 4 V) hr (by decide) rfl tk (da_cons (de_call (fd_read_programs V) hr (by decide) rfl tk (da_cons (de_var (pv 6)) da_nil) rfl (by decide) (aCons_len aNil_len)) (da_cons (de_var (pv 5)) da_nil)) rfl (by decide) (aCons_len (aCons_len aNil_len)))))))) (db_one (ds_ret de_bl)) db_nil) (db_one (ds_if (dt_cmp (op_neD hr.units) opd_ne (de_call (fd__law_asked V) hr (by decide) rfl tk (da_cons (de_call (fd__law_no_programs V) hr (by decide) rfl tk (da_cons (de_var (pv 3)) (da_cons (de_var (pv 5)) da_nil)) rfl (by decide) (aCons_len (aCons_len aNil_len))) da_nil) rfl (by decide) (aCons_len aNil_len)) de_str (nomark _)) (db_one (ds_ret de_bl)) db_nil)))))))) (db_cons (ds_asg (de_tup (da_cons (de_tup (da_cons (de_tup (da_cons de_str (da_cons de_int (da_cons de_int da_nil)))) (da_cons (de_tup (da_cons de_str (da_cons de_int (da_cons (de_bin op_addX opd_add (de_bin op_powB opd_pow de_int de_int) de_int) da_nil)))) da_nil))) (da_cons (de_tup da_nil) (da_cons (de_tup (da_cons (de_tup (da_cons de_str (da_cons de_int da_nil))) da_nil)) da_nil)))) (dg_var (pgn (i := 7) ndlaw))) (db_cons (ds_if (dt_cmp (op_neD hr.units) opd_ne (de_call (fd_programs_text V) hr (by decide) rfl tk (da_cons (de_var (pv 7)) da_nil) rfl (by decide) (aCons_len aNil_len)) de_str (nomark _)) (db_one (ds_ret de_bl)) db_nil) (db_one (ds_ret (de_and (de_cmp (op_eqD hr.units) opd_eq (de_call (fd_programs_text V) hr (by decide) rfl tk (da_cons (de_tup (da_cons (de_tup da_nil) da_nil)) da_nil) rfl (by decide) (aCons_len aNil_len)) de_str (nomark _)) (de_one (de_cmp (op_eqD hr.units) opd_eq (de_call (fd_read_programs V) hr (by decide) rfl tk (da_cons de_str da_nil) rfl (by decide) (aCons_len aNil_len)) (de_tup (da_cons (de_tup da_nil) (da_cons (de_tup da_nil) da_nil))) (nomark _))))))))))
end
end G.K86
set_option Elab.async false
set_option linter.all false
set_option maxRecDepth 100000
/-! Plain laws: texts, comprehensions, sameness. -/
namespace G
/-! ### splitting and joining -/
theorem splT_piece {c : Nat} (hc : c ≠ 32) {rest : T} (hr : rest = [] ∨ ∃ r, rest = 32 :: r) : ∀ {p acc : T}, c ∉ p → splT [32, c, 32] 0 acc (p ++ rest) = splT [32, c, 32] 0 (acc ++ p) rest
  | [], acc, _ => by rw [List.nil_append, List.append_nil]
  | x :: p, acc, h => by
    have hp : c ∉ p := fun z => h (List.mem_cons_of_mem _ z)
    have e : preT [32, c, 32] (x :: (p ++ rest)) = false := by
      unfold preT
      refine beq_eq_false_iff_ne.mpr fun z => ?_
      have z2 := congrArg (fun l : List Nat => l[1]?) z
      cases p with
      | cons y p => 
        simp at z2
        exact hp (by rw [z2]; exact List.mem_cons_self)
      | nil =>
        rcases hr with rfl | ⟨r, rfl⟩
        · simp at z
        · simp at z2
          exact hc z2.symm
    show splT [32, c, 32] 0 acc (x :: (p ++ rest)) = _
    rw [splT, if_neg (by rw [e]; decide), splT_piece hc hr hp, List.append_assoc]
    rfl
theorem splT_sep {c : Nat} {acc more : T} : splT [32, c, 32] 0 acc ([32, c, 32] ++ more) = acc :: splT [32, c, 32] 0 [] more := by
  show splT [32, c, 32] 0 acc (32 :: c :: 32 :: more) = _
  rw [splT, if_pos (by simp [preT])]
  rfl
theorem splT_join3 {c : Nat} (hc : c ≠ 32) : ∀ {ps : List T}, ps ≠ [] → (∀ p ∈ ps, c ∉ p) → splT [32, c, 32] 0 [] (joinT [32, c, 32] ps) = ps
  | [], h, _ => absurd rfl h
  | [p], _, h => by
    show splT _ 0 [] p = _
    have := splT_piece hc (rest := []) (.inl rfl) (acc := []) (h p List.mem_cons_self)
    rw [List.append_nil] at this
    rw [this]
    rfl
  | p :: q :: r, _, h => by
    show splT _ 0 [] (p ++ ([32, c, 32] ++ joinT [32, c, 32] (q :: r))) = _
    rw [splT_piece hc (rest := [32, c, 32] ++ joinT [32, c, 32] (q :: r)) (.inr ⟨_, rfl⟩) (h p List.mem_cons_self), splT_sep, splT_join3 hc (by simp) fun z hz => h z (List.mem_cons_of_mem _ hz)]
    rfl
theorem splT1_piece {rest : T} : ∀ {p acc : T}, 32 ∉ p → splT [32] 0 acc (p ++ rest) = splT [32] 0 (acc ++ p) rest
  | [], acc, _ => by rw [List.nil_append, List.append_nil]
  | x :: p, acc, h => by
    have e : preT [32] (x :: (p ++ rest)) = false := by
      unfold preT
      refine beq_eq_false_iff_ne.mpr fun z => ?_
      simp at z
      exact h (by rw [z]; exact List.mem_cons_self)
    show splT [32] 0 acc (x :: (p ++ rest)) = _
    rw [splT, if_neg (by rw [e]; decide), splT1_piece fun z => h (List.mem_cons_of_mem _ z), List.append_assoc]
    rfl
theorem splT_join1 : ∀ {ps : List T}, ps ≠ [] → (∀ p ∈ ps, 32 ∉ p) → splT [32] 0 [] (joinT [32] ps) = ps
  | [], h, _ => absurd rfl h
  | [p], _, h => by
    show splT _ 0 [] p = _
    have := splT1_piece (rest := []) (acc := []) (h p List.mem_cons_self)
    rw [List.append_nil] at this
    rw [this]
    rfl
  | p :: q :: r, _, h => by
    show splT _ 0 [] (p ++ ([32] ++ joinT [32] (q :: r))) = _
    rw [splT1_piece (h p List.mem_cons_self)]
    show splT [32] 0 ([] ++ p) (32 :: joinT [32] (q :: r)) = _
    rw [splT, if_pos (by simp [preT])]
    show ([] ++ p) :: splT [32] 0 [] (joinT [32] (q :: r)) = _
    rw [splT_join1 (by simp) fun z hz => h z (List.mem_cons_of_mem _ hz)]
    rfl
theorem join_free {c : Nat} {s : T} (hs : c ∉ s) : ∀ {ps : List T}, (∀ p ∈ ps, c ∉ p) → c ∉ joinT s ps
  | [], _ => by simp [joinT]
  | [p], h => h p List.mem_cons_self
  | p :: q :: r, h => by
    intro z
    have z : c ∈ p ++ (s ++ joinT s (q :: r)) := z
    rcases List.mem_append.mp z with z | z
    · exact h p List.mem_cons_self z
    · rcases List.mem_append.mp z with z | z
      · exact hs z
      · exact join_free hs (ps := q :: r) (fun y hy => h y (List.mem_cons_of_mem _ hy)) z
theorem join_len {s : T} {k : Nat} : ∀ {ps : List T}, (∀ p ∈ ps, p.length ≤ k) → (joinT s ps).length ≤ ps.length * (k + s.length)
  | [], _ => Nat.zero_le _
  | [p], h => by
    have := h p List.mem_cons_self
    show p.length ≤ 1 * _
    omega
  | p :: q :: r, h => by
    have h1 := h p List.mem_cons_self
    have h2 := join_len (s := s) (ps := q :: r) fun y hy => h y (List.mem_cons_of_mem _ hy)
    show (p ++ (s ++ joinT s (q :: r))).length ≤ _
    rw [List.length_append, List.length_append, List.length_cons, Nat.add_mul]
    omega
theorem sum_len {k : Nat} : ∀ {ps : List T}, (∀ p ∈ ps, p.length ≤ k) → (ps.map (·.length)).sum ≤ ps.length * k
  | [], _ => Nat.zero_le _
  | p :: r, h => by
    have h1 := h p List.mem_cons_self
    have h2 := sum_len (ps := r) fun y hy => h y (List.mem_cons_of_mem _ hy)
    rw [List.map_cons, List.sum_cons, List.length_cons, Nat.add_mul]
    omega
/-! ### numbers as texts -/
theorem numT_def (n : Nat) : numT n = TL.numL n := rfl
theorem numT_ne (n : Nat) : numT n ≠ [] := TL.numL_ne n
theorem numT_len {n : Nat} (h : n < 10 ^ 10) : (numT n).length ≤ 10 := TL.numL_len (by decide) h
theorem numT_free {n c : Nat} (h : c < 48 ∨ 57 < c) : c ∉ numT n := TL.numL_free h
theorem numT_dig (n : Nat) : (numT n).all isDig = true := by
  rw [List.all_eq_true]
  intro c hc
  unfold isDig
  have h1 : ¬ (c < 48 ∨ 57 < c) := fun h => numT_free h hc
  rw [Bool.and_eq_true, decide_eq_true_eq, decide_eq_true_eq]
  omega
theorem numT_head : ∀ (n : Nat), (numT n)[0]? = some 48 → n = 0 := by
  intro n
  induction n using Nat.strongRecOn with
  | ind n ih =>
    intro h
    by_cases q : n < 10
    · rw [numT_def, TL.numL_lt q] at h
      simp at h
      omega
    · rw [numT_def, TL.numL_step (by omega), List.getElem?_append_left (by
        have := List.length_pos_iff.mpr (numT_ne (n / 10))
        exact this)] at h
      have := ih (n / 10) (by omega) h
      omega
theorem digVal_num (n : Nat) : digVal (numT n) = n := by
  have h := TL.fold_num n
  have key : ∀ (l : List Nat) (a : Nat), (∀ c ∈ l, 48 ≤ c) → l.foldl (fun (t : Int) (c : Nat) => t * 10 + ((c : Int) - 48)) (a : Int) = ((l.foldl (fun a c => a * 10 + (c - 48)) a : Nat) : Int) := by
    intro l
    induction l with
    | nil => intro a _; rfl
    | cons c l ih =>
      intro a hl
      rw [List.foldl_cons, List.foldl_cons]
      have h1 := hl c List.mem_cons_self
      have e : ((a : Int) * 10 + ((c : Int) - 48)) = ((a * 10 + (c - 48) : Nat) : Int) := by omega
      rw [e]
      exact ih _ fun z hz => hl z (List.mem_cons_of_mem _ hz)
  have k := key (numT n) 0 (fun c hc => by
    have := List.all_eq_true.mp (numT_dig n) c hc
    unfold isDig at this
    rw [Bool.and_eq_true, decide_eq_true_eq] at this
    exact this.1)
  unfold digVal
  have : ((numT n).foldl (fun (t : Int) (c : Nat) => t * 10 + ((c : Int) - 48)) ((0 : Nat) : Int)) = (n : Int) := h
  rw [k] at this
  omega
/-! ### comprehensions -/
theorem lcFrom_map {src : Src} {g : MG} {x : ME} {e : En} {M : Mh} {xs : List D} {f : D → D} (hi : ∀ i, i < xs.length → src.item M i = xs[i]?) (ho : src.over M xs.length = true)
    (hx : ∀ z ∈ xs, ∃ e1, g z e M = .ok e1 M ∧ x e1 M = .ok (f z) M) : ∀ (n i : Nat), i + n = xs.length → lcFrom src g tYes x e i n M = .ok ((xs.drop i).map f) M
  | 0, i, h => by
    have : i = xs.length := by omega
    subst this
    show (if src.over M xs.length then Out.ok [] M else .stk) = _
    rw [if_pos ho, List.drop_length]
    rfl
  | n + 1, i, h => by
    have hl : i < xs.length := by omega
    obtain ⟨e1, h1, h2⟩ := hx xs[i] (List.getElem_mem hl)
    show (match src.item M i with
      | none => Out.stk
      | some d => (g d e M).bind fun e1 M => (tYes e1 M).bind fun c M => if c then (x e1 M).bind fun y M => (lcFrom src g tYes x e (i + 1) n M).bind fun ys M => .ok (y :: ys) M else lcFrom src g tYes x e (i + 1) n M) = _
    rw [hi i hl, List.getElem?_eq_getElem hl]
    show ((g xs[i] e M).bind fun e1 M => (tYes e1 M).bind fun c M => if c then (x e1 M).bind fun y M => (lcFrom src g tYes x e (i + 1) n M).bind fun ys M => .ok (y :: ys) M else lcFrom src g tYes x e (i + 1) n M) = _
    rw [h1]
    show ((x e1 M).bind fun y M => (lcFrom src g tYes x e (i + 1) n M).bind fun ys M => .ok (y :: ys) M) = _
    rw [h2]
    show ((lcFrom src g tYes x e (i + 1) n M).bind fun ys M => .ok (f xs[i] :: ys) M) = _
    rw [lcFrom_map hi ho hx n (i + 1) (by omega), List.drop_eq_getElem_cons hl]
    rfl
theorem src_len {d : D} {n : Nat} : (Src.seq d n).len = n := rfl
/-- [x for z in a] over data, x pure -/
theorem xLc_map {a : ME} {j : Nat} {x : ME} {en : En} {M : Mh} {d : D} {xs : List D} {f : D → D} (ha : a en M = .ok d M) (hd : seqA M d = some xs) (hl : xs.length ≤ 1000000) (hx : ∀ z ∈ xs, x (en.set j (some z)) M = .ok (f z) M) :
    xLc (iSeq a) (gVar j) tYes x [j] en M = .ok (.lst (xs.map f)) M := by
  unfold xLc iSeq
  rw [ha]
  show ((match seqA M d with
    | some xs => Out.ok (Src.seq d xs.length) M
    | none => .stk).bind fun src M => _) = _
  rw [hd]
  show (if xs.length ≤ 1000000 then noExc ((lcFrom (.seq d xs.length) (gVar j) tYes x (wipeE en [j]) 0 xs.length M).bind fun ys M => Out.ok (D.lst ys) M) else Out.stk) = _
  have hi : ∀ i, i < xs.length → (Src.seq d xs.length).item M i = xs[i]? := fun i hi => by
    show (seqA M d).bind (fun xs => xs[i]?) = _
    rw [hd]; rfl
  have ho : (Src.seq d xs.length).over M xs.length = true := by
    show (match seqA M d with
      | some xs' => decide (xs'.length ≤ xs.length)
      | none => false) = true
    rw [hd]
    exact decide_eq_true (Nat.le_refl _)
  have hx2 : ∀ z ∈ xs, ∃ e1, gVar j z (wipeE en [j]) M = .ok e1 M ∧ x e1 M = .ok (f z) M := fun z hz => ⟨(wipeE en [j]).set j (some z), rfl, by
    have e : (wipeE en [j]).set j (some z) = en.set j (some z) := by
      show (en.set j none).set j (some z) = _
      rw [List.set_set]
    rw [e]
    exact hx z hz⟩
  rw [if_pos hl, lcFrom_map hi ho hx2 xs.length 0 (by omega)]
  rfl
theorem forFrom_succ {src : Src} {g : MG} {b : MS} {i n : Nat} {e : En} {M : Mh} {d : D} (h : src.item M i = some d) : forFrom src g b i (n + 1) e M = lift (noExc (g d e M)) e fun e M => match b e M with
      | .nx e M => forFrom src g b (i + 1) n e M
      | .ct e M => forFrom src g b (i + 1) n e M
      | .bk e M => .nx e M
      | o => o := by
  show (match src.item M i with
    | none => SO.stk
    | some d => lift (noExc (g d e M)) e fun e M => match b e M with
      | .nx e M => forFrom src g b (i + 1) n e M
      | .ct e M => forFrom src g b (i + 1) n e M
      | .bk e M => .nx e M
      | o => o) = _
  rw [h]
theorem forFrom_zero {src : Src} {g : MG} {b : MS} {i : Nat} {e : En} {M : Mh} (h : src.over M i = true) : forFrom src g b i 0 e M = .nx e M := if_pos h
/-- a walk that asks each item, and leaves by the first that fails -/
theorem for_verd {src : Src} {g : MG} {b : MS} {M : Mh} {xs : List D} {r : D} (V : D → Bool) (inv : En → Prop) (hi : ∀ i, i < xs.length → src.item M i = xs[i]?) (ho : src.over M xs.length = true)
    (hb : ∀ e z, z ∈ xs → inv e → ∃ e1, g z e M = .ok e1 M ∧ (V z = true → ∃ e2, b e1 M = .nx e2 M ∧ inv e2) ∧ (V z = false → b e1 M = .rt r M)) : ∀ (n i : Nat) (e : En), inv e → i + n = xs.length →
    ((xs.drop i).all V = true → ∃ e', forFrom src g b i n e M = .nx e' M ∧ inv e') ∧ ((xs.drop i).all V = false → forFrom src g b i n e M = .rt r M)
  | 0, i, e, h, hl => by
    have : i = xs.length := by omega
    subst this
    rw [List.drop_length, forFrom_zero ho]
    exact ⟨fun _ => ⟨e, rfl, h⟩, fun z => Bool.noConfusion z⟩
  | n + 1, i, e, h, hl => by
    have hlt : i < xs.length := by omega
    obtain ⟨e1, h1, h2, h3⟩ := hb e xs[i] (List.getElem_mem hlt) h
    rw [forFrom_succ (by rw [hi i hlt, List.getElem?_eq_getElem hlt]), h1, List.drop_eq_getElem_cons hlt, List.all_cons]
    cases q : V xs[i] with
    | false =>
      refine ⟨fun z => Bool.noConfusion z, fun _ => ?_⟩
      show (match b e1 M with
        | .nx e M => forFrom src g b (i + 1) n e M
        | .ct e M => forFrom src g b (i + 1) n e M
        | .bk e M => .nx e M
        | o => o) = _
      rw [h3 q]
    | true =>
      obtain ⟨e2, h4, h5⟩ := h2 q
      have ih := for_verd V inv hi ho hb n (i + 1) e2 h5 (by omega)
      rw [Bool.true_and]
      have e3 : (lift (noExc (Out.ok e1 M)) e fun e M => match b e M with
        | .nx e M => forFrom src g b (i + 1) n e M
        | .ct e M => forFrom src g b (i + 1) n e M
        | .bk e M => .nx e M
        | o => o) = forFrom src g b (i + 1) n e2 M := by
        show (match b e1 M with
          | .nx e M => forFrom src g b (i + 1) n e M
          | .ct e M => forFrom src g b (i + 1) n e M
          | .bk e M => .nx e M
          | o => o) = _
        rw [h4]
      rw [e3]
      exact ih
theorem src_item {d : D} {M : Mh} {xs : List D} (hd : seqA M d = some xs) (k : Nat) : ∀ i, i < xs.length → (Src.seq d k).item M i = xs[i]? := fun i _ => by
  show (seqA M d).bind (fun xs => xs[i]?) = _
  rw [hd]; rfl
theorem src_over {d : D} {M : Mh} {xs : List D} (hd : seqA M d = some xs) (k : Nat) : (Src.seq d k).over M xs.length = true := by
  show (match seqA M d with
    | some xs' => decide (xs'.length ≤ xs.length)
    | none => false) = true
  rw [hd]
  exact decide_eq_true (Nat.le_refl _)
theorem sFor_seq {a : ME} {g : MG} {b : MS} {e : En} {M : Mh} {d : D} {xs : List D} (ha : a e M = .ok d M) (hd : seqA M d = some xs) : sFor (iSeq a) g b e M = forFrom (.seq d xs.length) g b 0 xs.length e M := by
  unfold sFor iSeq
  rw [ha]
  show lift (match seqA M d with
    | some xs => Out.ok (Src.seq d xs.length) M
    | none => .stk) e _ = _
  rw [hd]
  rfl
theorem allB_map {α : Type} (V : α → Bool) : ∀ xs : List α, allB (xs.map fun x => D.bl (V x)) = some (xs.map V)
  | [] => rfl
  | x :: xs => by rw [List.map_cons, allB, allB_map V xs]; rfl
section
variable {t a b : MT} {x y : ME} {r : MA} {p q : MS} {en e2 : En} {M M1 M2 : Mh} {c k : Bool} {d d1 d2 : D} {o : SO}
theorem tVal_ok (h : x en M = .ok (.bl c) M1) : tVal x en M = .ok c M1 := by simp only [tVal, h, Out.bind, dBool]
theorem tNot_ok (h : a en M = .ok c M1) : tNot a en M = .ok (!c) M1 := by simp only [tNot, h, Out.bind]
theorem tOr_f (h : a en M = .ok false M1) : tOr a b en M = b en M1 := by simp [tOr, h, Out.bind]
theorem tOr_t (h : a en M = .ok true M1) : tOr a b en M = .ok true M1 := by simp [tOr, h, Out.bind]
theorem tAnd_t (h : a en M = .ok true M1) : tAnd a b en M = b en M1 := by simp [tAnd, h, Out.bind]
theorem tAnd_f (h : a en M = .ok false M1) : tAnd a b en M = .ok false M1 := by simp [tAnd, h, Out.bind]
theorem sIf_t (h : t en M = .ok true M1) : sIf t p q en M = p en M1 := by simp [sIf, h, lift]
theorem sIf_f (h : t en M = .ok false M1) : sIf t p q en M = q en M1 := by simp [sIf, h, lift]
theorem sSeq_nx (h : p en M = .nx e2 M1) : sSeq p q en M = q e2 M1 := by simp [sSeq, h, SO.seq]
theorem sSeq_rt (h : p en M = .rt d M1) : sSeq p q en M = .rt d M1 := by simp [sSeq, h, SO.seq]
theorem sSeq_exc {z : Er} (h : p en M = .exc z e2 M1) : sSeq p q en M = .exc z e2 M1 := by simp [sSeq, h, SO.seq]
theorem sAsg_var {i : Nat} (h : x en M = .ok d M1) : sAsg x (gVar i) en M = .nx (en.set i (some d)) M1 := by simp [sAsg, h, lift, gVar, noExc]
theorem sRet_ok (h : x en M = .ok d M1) : sRet x en M = .rt d M1 := by simp [sRet, h, lift]
theorem sDrop_ok (h : x en M = .ok d M1) : sDrop x en M = .nx en M1 := by simp [sDrop, h, lift]
theorem sDrop_exc {z : Er} (h : x en M = .exc z M1) : sDrop x en M = .exc z en M1 := by simp [sDrop, h, lift]
theorem run_rt {n : Nat} {ds : List D} (h : p (startE n ds) M = .rt d M1) : run n p ds M = .ok d M1 := by simp [run, h]
theorem run_exc {n : Nat} {ds : List D} {z : Er} (h : p (startE n ds) M = .exc z e2 M1) : run n p ds M = .exc z M1 := by simp [run, h]
theorem run_nx {n : Nat} {ds : List D} (h : p (startE n ds) M = .nx e2 M1) : run n p ds M = .ok .non M1 := by simp [run, h]
theorem xBin_ok {f : D → D → R D} (h : x en M = .ok d M1) (h2 : y en M1 = .ok d1 M2) : xBin f x y en M = f d d1 M2 := by simp only [xBin, h, h2, Out.bind]
theorem xCall_exc {f : List D → R D} {z : Er} (h : x en M = .exc z M1) : xCall f (aCons x r) en M = .exc z M1 := by simp only [xCall, aCons, h, Out.bind]
theorem xAnd_t (h : x en M = .ok (.bl true) M1) : xAnd x y en M = y en M1 := by simp only [xAnd, h, Out.bind]
theorem xAnd_f (h : x en M = .ok (.bl false) M1) : xAnd x y en M = .ok (.bl false) M1 := by simp only [xAnd, h, Out.bind]
theorem aCons_ok {ds : List D} (h : x en M = .ok d M1) (h2 : r en M1 = .ok ds M2) : aCons x r en M = .ok (d :: ds) M2 := by simp only [aCons, h, h2, Out.bind]
theorem xCall_ok {f : List D → R D} {ds : List D} (h : r en M = .ok ds M1) : xCall f r en M = f ds M1 := by simp only [xCall, h, Out.bind]
theorem xNew_ok {ds : List D} (h : r en M = .ok ds M1) (hl : ds.length ≤ sizeLim) : xNew r en M = .ok (.ref M1.length) (M1 ++ [.lst ds]) := by simp only [xNew, h, Out.bind, if_pos hl]
theorem xLst_ok {ds : List D} (h : r en M = .ok ds M1) (hl : ds.length ≤ sizeLim) : xLst r en M = .ok (.lst ds) M1 := by simp only [xLst, h, Out.bind, if_pos hl]
theorem xTup_ok {ds : List D} (h : r en M = .ok ds M1) (hl : ds.length ≤ sizeLim) : xTup r en M = .ok (.tup ds) M1 := by simp only [xTup, h, Out.bind, if_pos hl]
theorem xMeth1 {ty : String} {f : D → List D → R D} (h : x en M = .ok d M1) (ht : tyOf M1 d = some ty) (h2 : y en M1 = .ok d1 M2) : xMeth ty f x (aCons y aNil) en M = f d [d1] M2 := by
  simp only [xMeth, aCons, aNil, h, h2, ht, Out.bind, if_pos]
end
theorem fAll_map {α : Type} (V : α → Bool) (xs : List α) (M : Mh) : fAll [.lst (xs.map fun z => .bl (V z))] M = .ok (.bl (xs.all V)) M := by
  show (match (some (xs.map fun z => D.bl (V z))).bind allB with
    | some bs => Out.ok (D.bl (bs.all id)) M
    | none => .stk) = _
  rw [Option.bind_some, allB_map]
  show Out.ok (D.bl ((xs.map V).all id)) M = _
  rw [List.all_map]
  rfl
theorem xCall1 {f : List D → R D} {a : ME} {en : En} {M M1 : Mh} {d : D} (h : a en M = .ok d M1) : xCall f (aCons a aNil) en M = f [d] M1 := by
  unfold xCall aCons
  rw [h]
  rfl
theorem xCall2 {f : List D → R D} {a b : ME} {en : En} {M M1 M2 : Mh} {d e : D} (h : a en M = .ok d M1) (h2 : b en M1 = .ok e M2) : xCall f (aCons a (aCons b aNil)) en M = f [d, e] M2 := by
  simp only [xCall, aCons, aNil, h, h2, Out.bind]
theorem xCall3 {f : List D → R D} {a b c : ME} {en : En} {M M1 M2 M3 : Mh} {d e k : D} (h : a en M = .ok d M1) (h2 : b en M1 = .ok e M2) (h3 : c en M2 = .ok k M3) : xCall f (aCons a (aCons b (aCons c aNil))) en M = f [d, e, k] M3 := by
  simp only [xCall, aCons, aNil, h, h2, h3, Out.bind]
theorem xVar_ok {en : En} {i : Nat} {d : D} {M : Mh} (h : en[i]? = some (some d)) : xVar i en M = .ok d M := by
  unfold xVar
  rw [h]
/-- [x for z in a], a a text -/
theorem xLc_txt {a : ME} {j : Nat} {x : ME} {en : En} {M : Mh} {s : T} {f : D → D} (ha : a en M = .ok (.str s) M) (hl : s.length ≤ 1000000) (hx : ∀ c ∈ s, x (en.set j (some (.str [c]))) M = .ok (f (.str [c])) M) :
    xLc (iTxt a) (gVar j) tYes x [j] en M = .ok (.lst (s.map fun c => f (.str [c]))) M := by
  unfold xLc iTxt
  rw [ha]
  show (if s.length ≤ 1000000 then noExc ((lcFrom (.txt s) (gVar j) tYes x (wipeE en [j]) 0 s.length M).bind fun ys M => Out.ok (D.lst ys) M) else Out.stk) = _
  have hi : ∀ i, i < (s.map fun c => D.str [c]).length → (Src.txt s).item M i = (s.map fun c => D.str [c])[i]? := fun i hi => by
    show (match s[i]? with
      | some c => some (D.str [c])
      | none => none) = _
    rw [List.getElem?_map]
    cases s[i]? <;> rfl
  have ho : (Src.txt s).over M (s.map fun c => D.str [c]).length = true := by
    show decide (s.length ≤ _) = true
    rw [List.length_map]
    exact decide_eq_true (Nat.le_refl _)
  have hx2 : ∀ z ∈ s.map fun c => D.str [c], ∃ e1, gVar j z (wipeE en [j]) M = .ok e1 M ∧ x e1 M = .ok (f z) M := fun z hz => ⟨(wipeE en [j]).set j (some z), rfl, by
    have e : (wipeE en [j]).set j (some z) = en.set j (some z) := by
      show (en.set j none).set j (some z) = _
      rw [List.set_set]
    rw [e]
    obtain ⟨c, hc, rfl⟩ := List.mem_map.mp hz
    exact hx c hc⟩
  have h := lcFrom_map hi ho hx2 s.length 0 (by rw [List.length_map]; omega)
  rw [if_pos hl, h, List.drop_zero, List.map_map]
  rfl
theorem allB_true {α : Type} : ∀ xs : List α, allB (xs.map fun _ => D.bl true) = some (xs.map fun _ => true)
  | [] => rfl
  | x :: xs => by rw [List.map_cons, allB, allB_true xs]; rfl
theorem all_true {α : Type} : ∀ xs : List α, (xs.map fun _ => true).all id = true
  | [] => rfl
  | x :: xs => by rw [List.map_cons, List.all_cons, all_true xs]; rfl
theorem allS_map {α : Type} (f : α → T) : ∀ xs : List α, allS (xs.map fun x => D.str (f x)) = some (xs.map f)
  | [] => rfl
  | x :: xs => by rw [List.map_cons, allS, allS_map f xs]; rfl
/-- [f(z) for z in a], f pure -/
theorem lc_call {α : Type} {l : List α} {f : List D → R D} {a : ME} {j : Nat} {en : En} {M : Mh} {d : D} (g G : α → D) (ha : a en M = .ok d M) (hd : seqA M d = some (l.map g)) (hl : l.length ≤ 1000000) (hj : j < en.length) (hf : ∀ x ∈ l, f [g x] M = .ok (G x) M) :
    xLc (iSeq a) (gVar j) tYes (xCall f (aCons (xVar j) aNil)) [j] en M = .ok (.lst (l.map G)) M := by
  have h := xLc_map (j := j) (x := xCall f (aCons (xVar j) aNil)) (f := fun d => match f [d] M with
        | .ok v _ => v
        | _ => .non) ha hd (by rw [List.length_map]; exact hl) (fun z hz => by
    obtain ⟨x, hx, rfl⟩ := List.mem_map.mp hz
    rw [xCall1 (xVar_ok (d := g x) (by rw [List.getElem?_set_self hj]))]
    rw [hf x hx])
  rw [h, List.map_map]
  congr 2
  refine List.map_congr_left fun x hx => ?_
  show (match f [g x] M with
        | .ok v _ => v
        | _ => D.non) = _
  rw [hf x hx]
/-- [x for z in a], x pure -/
theorem lc_mapM {α : Type} {l : List α} {x : ME} {a : ME} {j : Nat} {en : En} {M : Mh} {d : D} (g G : α → D) (ha : a en M = .ok d M) (hd : seqA M d = some (l.map g)) (hl : l.length ≤ 1000000) (hx : ∀ y ∈ l, x (en.set j (some (g y))) M = .ok (G y) M) :
    xLc (iSeq a) (gVar j) tYes x [j] en M = .ok (.lst (l.map G)) M := by
  have h := xLc_map (j := j) (x := x) (f := fun d => match x (en.set j (some d)) M with
        | .ok v _ => v
        | _ => .non) ha hd (by rw [List.length_map]; exact hl) (fun z hz => by
    obtain ⟨y, hy, rfl⟩ := List.mem_map.mp hz
    rw [hx y hy])
  rw [h, List.map_map]
  congr 2
  refine List.map_congr_left fun y hy => ?_
  show (match x (en.set j (some (g y))) M with
        | .ok v _ => v
        | _ => D.non) = _
  rw [hx y hy]
/-- a walk with a state -/
theorem for_inv {src : Src} {g : MG} {b : MS} {N : Nat} (I : Nat → En → Mh → Prop) (step : ∀ i e M, i < N → I i e M → ∃ d, src.item M i = some d ∧ ∃ e1, g d e M = .ok e1 M ∧ ∃ e2 M2, b e1 M = .nx e2 M2 ∧ I (i + 1) e2 M2) (over : ∀ e M, I N e M → src.over M N = true) :
    ∀ (n i : Nat) (e : En) (M : Mh), I i e M → i + n = N → ∃ e' M', forFrom src g b i n e M = .nx e' M' ∧ I N e' M'
  | 0, i, e, M, h, hl => by
    have : i = N := by omega
    subst this
    exact ⟨e, M, forFrom_zero (over e M h), h⟩
  | n + 1, i, e, M, h, hl => by
    obtain ⟨d, h1, e1, h2, e2, M2, h3, h4⟩ := step i e M (by omega) h
    obtain ⟨e', M', h5, h6⟩ := for_inv I step over n (i + 1) e2 M2 h4 (by omega)
    refine ⟨e', M', ?_, h6⟩
    rw [forFrom_succ h1, h2]
    show (match b e1 M with
      | .nx e M => forFrom src g b (i + 1) n e M
      | .ct e M => forFrom src g b (i + 1) n e M
      | .bk e M => .nx e M
      | o => o) = _
    rw [h3]
    exact h5
/-- a comprehension with a state -/
theorem lc_inv {src : Src} {g : MG} {x : ME} {e : En} {N : Nat} (I : Nat → Mh → Prop) (P : D → Prop) (step : ∀ i M, i < N → I i M → ∃ d, src.item M i = some d ∧ ∃ e1, g d e M = .ok e1 M ∧ ∃ y M2, x e1 M = .ok y M2 ∧ P y ∧ I (i + 1) M2) (over : ∀ M, I N M → src.over M N = true) :
    ∀ (n i : Nat) (M : Mh), I i M → i + n = N → ∃ ys M', lcFrom src g tYes x e i n M = .ok ys M' ∧ ys.length = n ∧ (∀ y ∈ ys, P y) ∧ I N M'
  | 0, i, M, h, hl => by
    have : i = N := by omega
    subst this
    exact ⟨[], M, if_pos (over M h), rfl, (fun y hy => by cases hy), h⟩
  | n + 1, i, M, h, hl => by
    obtain ⟨d, h1, e1, h2, y, M2, h3, h4, h5⟩ := step i M (by omega) h
    obtain ⟨ys, M', h6, h7, h8, h9⟩ := lc_inv I P step over n (i + 1) M2 h5 (by omega)
    refine ⟨y :: ys, M', ?_, by rw [List.length_cons, h7], fun z hz => ?_, h9⟩
    · show (match src.item M i with
        | none => Out.stk
        | some d => (g d e M).bind fun e1 M => (tYes e1 M).bind fun c M => if c then (x e1 M).bind fun y M => (lcFrom src g tYes x e (i + 1) n M).bind fun ys M => .ok (y :: ys) M else lcFrom src g tYes x e (i + 1) n M) = _
      rw [h1]
      show ((g d e M).bind fun e1 M => (tYes e1 M).bind fun c M => if c then (x e1 M).bind fun y M => (lcFrom src g tYes x e (i + 1) n M).bind fun ys M => .ok (y :: ys) M else lcFrom src g tYes x e (i + 1) n M) = _
      rw [h2]
      show ((x e1 M).bind fun y M => (lcFrom src g tYes x e (i + 1) n M).bind fun ys M => .ok (y :: ys) M) = _
      rw [h3]
      show ((lcFrom src g tYes x e (i + 1) n M2).bind fun ys M => .ok (y :: ys) M) = _
      rw [h6]
      rfl
    · rcases List.mem_cons.mp hz with rfl | hz
      · exact h4
      · exact h8 z hz
theorem cutD_mem {xs : List D} {lo hi : Option Int} {z : D} (h : z ∈ cutD xs lo hi) : z ∈ xs := by
  unfold cutD at h
  exact List.mem_of_mem_drop (List.mem_of_mem_take h)
theorem cutD_len {xs : List D} {lo hi : Option Int} : (cutD xs lo hi).length ≤ xs.length := by
  unfold cutD
  simp only [List.length_take, List.length_drop]
  omega
theorem dAdd_tup {a b : List D} {M : Mh} (h : a.length + b.length ≤ 16777216) : dAdd (.tup a) (.tup b) M = .ok (.tup (a ++ b)) M := if_pos h
theorem dIx_lst {xs : List D} {i : Nat} {M : Mh} (h : i < xs.length) : dIx (.lst xs) (.int (i : Int)) M = .ok xs[i] M := by
  have e : atD xs (i : Int) = some xs[i] := by
    unfold atD ixAt
    rw [if_pos (by omega), if_pos (by omega)]
    simp [h]
  show (match atD xs (i : Int) with
    | some d => Out.ok d M
    | none => Out.stk) = _
  rw [e]
theorem dIx_tup {xs : List D} {i : Nat} {M : Mh} (h : i < xs.length) : dIx (.tup xs) (.int (i : Int)) M = .ok xs[i] M := by
  have e : atD xs (i : Int) = some xs[i] := by
    unfold atD ixAt
    rw [if_pos (by omega), if_pos (by omega)]
    simp [h]
  show (match atD xs (i : Int) with
    | some d => Out.ok d M
    | none => Out.stk) = _
  rw [e]
theorem xCut_ok {a : ME} {lo hi : En → R (Option Int)} {en : En} {M : Mh} {xs : List D} {l h : Option Int} (h1 : a en M = .ok (.tup xs) M) (h2 : lo en M = .ok l M) (h3 : hi en M = .ok h M) : xCut a lo hi en M = .ok (.tup (cutD xs l h)) M := by
  simp only [xCut, h1, h2, h3, Out.bind, dCut]
theorem oSome_ok {a : ME} {en : En} {M : Mh} {i : Int} (h : a en M = .ok (.int i) M) : oSome a en M = .ok (some i) M := by simp only [oSome, h, Out.bind]
theorem allS_str (ps : List T) : allS (ps.map .str) = some ps := by
  have := allS_map (fun x : T => x) ps
  simpa using this
theorem deps_str : ∀ ps : List T, deps (ps.map .str) = some 0
  | [] => rfl
  | p :: ps => by rw [List.map_cons, deps, deps_str ps]; rfl
theorem split_ok {o a : ME} {en : En} {M : Mh} {s b : T} (ho : o en M = .ok (.str s) M) (ha : a en M = .ok (.str b) M) (hb : (!b.isEmpty && b.all (decide <| · < 256)) = true) (hz : s.length + 2 ≤ sizeLim) :
    xMeth "str" mSplit o (aCons a aNil) en M = .ok (.lst ((splT b 0 [] s).map .str)) M := by
  rw [xMeth1 ho rfl ha]
  unfold mSplit
  dsimp only
  rw [if_pos (by rw [hb, decide_eq_true hz]; rfl)]
end G
set_option Elab.async false
set_option linter.all false
set_option maxRecDepth 100000
set_option maxHeartbeats 1000000
namespace G.K86
theorem is_key_ok {k : Int} {M : Mh} (h : 0 ≤ k) (h2 : k ≤ 1000000000) : m_is_key [.int k] M = .ok (.bl true) M := by
  simp [run, startE, sSeq, SO.seq, sIf, sAsg, sRet, sRetN, sDrop, sNil, sRaise, lift, noExc, tVal, tTru, tNot, tOr, tAnd, xVar, xC, xBin, xUn, xCall, xMeth, aNil, aCons, xTup, xLst, xIf, xAnd, xOr, xNot, xChain, oNone, oSome, gVar, gAll, gTup, gSubL, gStar, Out.bind, dBool, seqA, seqT, seqL, seqO, tyOf, dIx, atD, ixAt, dCmp, dAdd, dSub, dMod, dDiv, sizeLim, dEq, dNe, flatOk, res, dep, deps, eqD, eqDs, fLen, fIsi, kindIs, kinds, allTy, m_is_key, m_is_within, m_is_whole, h, h2]
theorem is_of_key_ok {k : Int} {M : Mh} (h : 0 ≤ k) (h2 : k ≤ 1000000000) : m_is_of_key [.lst [.int k]] M = .ok (.bl true) M := by
  simp [run, startE, sSeq, SO.seq, sIf, sAsg, sRet, sRetN, sDrop, sNil, sRaise, lift, noExc, tVal, tTru, tNot, tOr, tAnd, xVar, xC, xBin, xUn, xCall, xMeth, aNil, aCons, xTup, xLst, xIf, xAnd, xOr, xNot, xChain, oNone, oSome, gVar, gAll, gTup, gSubL, gStar, Out.bind, dBool, seqA, seqT, seqL, seqO, tyOf, dIx, atD, ixAt, dCmp, dAdd, dSub, dMod, dDiv, sizeLim, dEq, dNe, flatOk, res, dep, deps, eqD, eqDs, fLen, fIsi, kindIs, kinds, allTy, m_is_of_key, is_key_ok h h2]
theorem is_of_pair_ok {k v : Int} {M : Mh} (h : 0 ≤ k) (h2 : k ≤ 1000000000) (h3 : 0 ≤ v) (h4 : v ≤ 1000000000) : m_is_of_pair [.lst [.int k, .int v]] M = .ok (.bl true) M := by
  have e : m_is_value [.int v] M = .ok (.bl true) M := is_key_ok h3 h4
  simp [run, startE, sSeq, SO.seq, sIf, sAsg, sRet, sRetN, sDrop, sNil, sRaise, lift, noExc, tVal, tTru, tNot, tOr, tAnd, xVar, xC, xBin, xUn, xCall, xMeth, aNil, aCons, xTup, xLst, xIf, xAnd, xOr, xNot, xChain, oNone, oSome, gVar, gAll, gTup, gSubL, gStar, Out.bind, dBool, seqA, seqT, seqL, seqO, tyOf, dIx, atD, ixAt, dCmp, dAdd, dSub, dMod, dDiv, sizeLim, dEq, dNe, flatOk, res, dep, deps, eqD, eqDs, fLen, fIsi, kindIs, kinds, allTy, m_is_of_pair, m_is_pair, fTuple, is_key_ok h h2, e]
theorem is_of_stretch_ok {k v : Int} {M : Mh} (h : 0 ≤ k) (h2 : k ≤ 1000000000) (h3 : k < v) (h4 : v ≤ 1000000001) : m_is_of_stretch [.lst [.int k, .int v]] M = .ok (.bl true) M := by
  simp [run, startE, sSeq, SO.seq, sIf, sAsg, sRet, sRetN, sDrop, sNil, sRaise, lift, noExc, tVal, tTru, tNot, tOr, tAnd, xVar, xC, xBin, xUn, xCall, xMeth, aNil, aCons, xTup, xLst, xIf, xAnd, xOr, xNot, xChain, oNone, oSome, gVar, gAll, gTup, gSubL, gStar, Out.bind, dBool, seqA, seqT, seqL, seqO, tyOf, dIx, atD, ixAt, dCmp, dAdd, dSub, dMod, dDiv, sizeLim, dEq, dNe, flatOk, res, dep, deps, eqD, eqDs, fLen, fIsi, kindIs, kinds, allTy, m_is_of_stretch, m_is_stretch, m_is_whole, is_key_ok h h2, h3, h4]
/-- a deed -/
inductive Deed where
  | find (k : Nat) | put (k v : Nat) | drop (k : Nat) | span (a b : Nat) | walk (a b : Nat)
def Deed.word : Deed → T
  | .find _ => tx "find" | .put _ _ => tx "put" | .drop _ => tx "drop" | .span _ _ => tx "span" | .walk _ _ => tx "walk"
def Deed.args : Deed → List Nat
  | .find k => [k] | .put k v => [k, v] | .drop k => [k] | .span a b => [a, b] | .walk a b => [a, b]
def Deed.ok : Deed → Prop
  | .find k => k ≤ 1000000000 | .put k v => k ≤ 1000000000 ∧ v ≤ 1000000000 | .drop k => k ≤ 1000000000 | .span a b => a ≤ 1000000000 ∧ a < b ∧ b ≤ 1000000001 | .walk a b => a ≤ 1000000000 ∧ a < b ∧ b ≤ 1000000001
def Deed.d (x : Deed) : D := .tup (.str x.word :: x.args.map fun n : Nat => D.int (n : Int))
theorem is_deed_ok {x : Deed} (h : x.ok) (M : Mh) : m_is_deed [x.d] M = .ok (.bl true) M := by
  have key : ∀ (w : T) (r : List D) (f : String), findT t_FORMS w = some f → r.length ≤ 15999 → deps r = some 0 → fs_FORMS f [.lst r] M = .ok (.bl true) M → m_is_deed [.tup (.str w :: r)] M = .ok (.bl true) M := by
    intro w r f h1 h2 h4 h3
    simp [run, startE, sSeq, SO.seq, sIf, sAsg, sRet, sRetN, sDrop, sNil, sRaise, lift, noExc, tVal, tTru, tNot, tOr, tAnd, xVar, xC, xBin, xUn, xCall, xMeth, aNil, aCons, xTup, xLst, xIf, xAnd, xOr, xNot, xChain, oNone, oSome, gVar, gAll, gTup, gSubL, gStar, Out.bind, dBool, seqA, seqT, seqL, seqO, tyOf, dIx, atD, ixAt, dCmp, dAdd, dSub, dMod, dDiv, sizeLim, dEq, dNe, flatOk, res, dep, deps, eqD, eqDs, fLen, fIsi, kindIs, kinds, allTy, m_is_deed, dInT, xCallT, h1, h3, h2, h4]
  cases x with
  | find k => exact key _ [.int k] "is_of_key" rfl (by simp) rfl (is_of_key_ok (k := k) (by omega) (by have : k ≤ 1000000000 := h; omega))
  | drop k => exact key _ [.int k] "is_of_key" rfl (by simp) rfl (is_of_key_ok (k := k) (by omega) (by have : k ≤ 1000000000 := h; omega))
  | put k v => obtain ⟨h1, h2⟩ := h; exact key _ [.int k, .int v] "is_of_pair" rfl (by simp) rfl (is_of_pair_ok (k := k) (v := v) (by omega) (by omega) (by omega) (by omega))
  | span k v => obtain ⟨h1, h2, h3⟩ := h; exact key _ [.int k, .int v] "is_of_stretch" rfl (by simp) rfl (is_of_stretch_ok (k := k) (v := v) (by omega) (by omega) (by omega) (by omega))
  | walk k v => obtain ⟨h1, h2, h3⟩ := h; exact key _ [.int k, .int v] "is_of_stretch" rfl (by simp) rfl (is_of_stretch_ok (k := k) (v := v) (by omega) (by omega) (by omega) (by omega))
/-! ### texts -/
def Deed.text (x : Deed) : T := joinT [32] (x.word :: x.args.map numT)
def handT (xs : List Deed) : T := if xs = [] then [45] else joinT [32, 44, 32] (xs.map Deed.text)
def progT (ps : List (List Deed)) : T := joinT [32, 59, 32] (ps.map handT)
def hd (xs : List Deed) : D := .tup (xs.map Deed.d)
def pd (ps : List (List Deed)) : D := .tup (ps.map hd)
def HandOk (xs : List Deed) : Prop := xs.length ≤ 8 ∧ ∀ x ∈ xs, x.ok
def ProgOk (ps : List (List Deed)) : Prop := 1 ≤ ps.length ∧ ps.length ≤ 6 ∧ ∀ xs ∈ ps, HandOk xs
theorem word_len (x : Deed) : x.word.length ≤ 4 := by cases x <;> (simp only [Deed.word]; decide)
theorem args_lt {x : Deed} (h : x.ok) : ∀ n ∈ x.args, n < 10 ^ 10 := by
  cases x <;> simp only [Deed.ok] at h <;> simp only [Deed.args, List.mem_cons, List.not_mem_nil, or_false] <;> intro n hn <;> omega
theorem args_len (x : Deed) : x.args.length ≤ 2 := by cases x <;> simp [Deed.args]
theorem text_pieces {x : Deed} (h : x.ok) : ∀ p ∈ x.word :: x.args.map numT, p.length ≤ 10 := by
  intro p hp
  rcases List.mem_cons.mp hp with rfl | hp
  · have := word_len x; omega
  · obtain ⟨n, hn, rfl⟩ := List.mem_map.mp hp
    exact numT_len (args_lt h n hn)
theorem text_len {x : Deed} (h : x.ok) : x.text.length ≤ 33 := by
  have h1 := join_len (s := [32]) (text_pieces h)
  have h2 := args_len x
  simp only [List.length_cons, List.length_map, List.length_nil] at h1
  have h3 : (x.args.length + 1) * 11 ≤ 33 := by omega
  exact Nat.le_trans h1 h3
theorem hand_len {xs : List Deed} (h : HandOk xs) : (handT xs).length ≤ 288 := by
  unfold handT
  split
  · decide
  · have h1 := join_len (s := [32, 44, 32]) (ps := xs.map Deed.text) (k := 33) (fun p hp => by
      obtain ⟨x, hx, rfl⟩ := List.mem_map.mp hp
      exact text_len (h.2 x hx))
    simp only [List.length_cons, List.length_map, List.length_nil] at h1
    have := h.1
    omega
theorem word_free (x : Deed) (c : Nat) (hc : c = 32 ∨ c = 44 ∨ c = 59) : c ∉ x.word := by
  rcases hc with rfl | rfl | rfl <;> cases x <;> (simp only [Deed.word]; decide)
theorem text_free {x : Deed} (c : Nat) (hc : c = 44 ∨ c = 59) : c ∉ x.text := by
  refine join_free (by rcases hc with rfl | rfl <;> decide) fun p hp => ?_
  rcases List.mem_cons.mp hp with rfl | hp
  · exact word_free x c (.inr hc)
  · obtain ⟨n, hn, rfl⟩ := List.mem_map.mp hp
    exact numT_free (by omega)
theorem hand_free {xs : List Deed} : 59 ∉ handT xs := by
  unfold handT
  split
  · decide
  · refine join_free (by decide) fun p hp => ?_
    obtain ⟨x, hx, rfl⟩ := List.mem_map.mp hp
    exact text_free 59 (.inr rfl)
theorem text_ne (x : Deed) : x.text ≠ [45] ∧ x.text ≠ [] ∧ ∃ c r, x.text = c :: r ∧ c ≠ 45 := by
  have : ∃ c r, x.text = c :: r ∧ c ≠ 45 := by
    cases x <;> exact ⟨_, _, rfl, by decide⟩
  obtain ⟨c, r, e, h⟩ := this
  refine ⟨fun z => ?_, fun z => ?_, c, r, e, h⟩
  · rw [e] at z; cases z; exact h rfl
  · rw [e] at z; cases z
theorem handT_ne {xs : List Deed} (h : xs ≠ []) : handT xs ≠ [45] ∧ handT xs ≠ [] := by
  unfold handT
  rw [if_neg h]
  cases xs with
  | nil => exact absurd rfl h
  | cons x xs =>
    obtain ⟨h1, h2, c, r, e, hc⟩ := text_ne x
    cases xs with
    | nil => exact ⟨h1, h2⟩
    | cons y ys =>
      show x.text ++ ([32, 44, 32] ++ joinT [32, 44, 32] (y.text :: ys.map Deed.text)) ≠ _ ∧ x.text ++ _ ≠ _
      rw [e]
      exact ⟨fun z => hc (List.cons.inj z).1, fun z => by cases z⟩
/-! ### the program's texts -/
theorem xMeth_join {o a : ME} {en : En} {M M1 : Mh} {s : T} {ps : List T} (ho : o en M = .ok (.str s) M) (ha : a en M = .ok (.lst (ps.map .str)) M1) (hz : (ps.map (·.length)).sum + ps.length * s.length ≤ sizeLim) : xMeth "str" mJoin o (aCons a aNil) en M = .ok (.str (joinT s ps)) M1 := by
  unfold xMeth
  rw [ho]
  show (if tyOf M (.str s) = some "str" then (aCons a aNil en M).bind fun ds M => mJoin (.str s) ds M else .stk) = _
  rw [if_pos (show tyOf M (.str s) = some "str" from rfl)]
  unfold aCons
  rw [ha]
  show mJoin (.str s) [.lst (ps.map .str)] M1 = _
  have e : allS (ps.map .str) = some ps := by
    have := allS_map (fun x : T => x) ps
    simpa using this
  show (match (some (ps.map D.str)).bind allS with
    | some ps => if (ps.map (fun x : T => x.length)).sum + ps.length * s.length ≤ sizeLim then Out.ok (D.str (joinT s ps)) M1 else .stk
    | none => .stk) = _
  rw [Option.bind_some, e]
  exact if_pos hz
theorem fStr_int {n : Nat} (h : n < 10 ^ 10) (M : Mh) : fStr [.int (n : Int)] M = .ok (.str (numT n)) M := by
  have h1 : (decide ((0 : Int) ≤ (n : Int)) && decide ((n : Int) < 10 ^ 60)) = true := by
    rw [Bool.and_eq_true, decide_eq_true_eq, decide_eq_true_eq]
    have h2 : (10 : Int) ^ 10 ≤ 10 ^ 60 := by decide +kernel
    have h3 : (n : Int) < 10 ^ 10 := by omega
    exact ⟨by omega, Int.lt_of_lt_of_le h3 h2⟩
  unfold fStr
  dsimp only
  rw [if_pos h1, Int.toNat_natCast]
def partT : D → T
  | .int n => numT n.toNat
  | .str s => s
  | _ => []
theorem deed_join {x : Deed} (h : x.ok) {en : En} {i j : Nat} {M : Mh} (he : en[j]? = some (some x.d)) (hi : i < en.length) : xMeth "str" mJoin (xC (.str (tx " "))) (aCons (xLc (iSeq (xVar j)) (gVar i) tYes (xCall fStr (aCons (xVar i) aNil)) [i]) aNil) en M = .ok (.str x.text) M := by
  refine xMeth_join (ps := x.word :: x.args.map numT) rfl ?_ ?_
  · have hxs : seqA M x.d = some (.str x.word :: x.args.map fun n : Nat => D.int (n : Int)) := rfl
    have e1 : xVar j en M = .ok x.d M := by unfold xVar; rw [he]
    rw [xLc_map (f := fun d => .str (partT d)) e1 hxs (by have := args_len x; simp; omega) fun z hz => ?_]
    · simp [partT]
    · have e2 : xVar i (en.set i (some z)) M = .ok z M := by
        unfold xVar
        rw [List.getElem?_set_self hi]
      rw [xCall1 e2]
      rcases List.mem_cons.mp hz with rfl | hz
      · rfl
      · obtain ⟨n, hn, rfl⟩ := List.mem_map.mp hz
        have hlt := args_lt h n hn
        rw [fStr_int hlt]
        simp [partT]
  · have h1 := sum_len (text_pieces h)
    have h2 := args_len x
    simp only [List.length_cons, List.length_map] at h1
    show _ + (x.word :: x.args.map numT).length * 1 ≤ 16777216
    simp only [List.length_cons, List.length_map]
    omega
theorem hand_text_ok {xs : List Deed} (h : HandOk xs) (M : Mh) : m_hand_text [hd xs] M = .ok (.str (handT xs)) M := by
  have hj : xMeth "str" mJoin (xC (.str (tx " , "))) (aCons (xLc (iSeq (xVar 0)) (gVar 2) tYes (xMeth "str" mJoin (xC (.str (tx " "))) (aCons (xLc (iSeq (xVar 2)) (gVar 1) tYes (xCall fStr (aCons (xVar 1) aNil)) [1]) aNil)) [2]) aNil) [some (hd xs), none, none] M = .ok (.str (joinT [32, 44, 32] (xs.map Deed.text))) M := by
    refine xMeth_join (ps := xs.map Deed.text) rfl ?_ ?_
    · have hxs : seqA M (hd xs) = some (xs.map Deed.d) := rfl
      have e1 : xVar 0 [some (hd xs), none, none] M = .ok (hd xs) M := rfl
      have key : ∀ z ∈ xs.map Deed.d, ∃ x ∈ xs, z = x.d := fun z hz => by
        obtain ⟨x, hx, rfl⟩ := List.mem_map.mp hz
        exact ⟨x, hx, rfl⟩
      have inj : ∀ z ∈ xs.map Deed.d, xMeth "str" mJoin (xC (.str (tx " "))) (aCons (xLc (iSeq (xVar 2)) (gVar 1) tYes (xCall fStr (aCons (xVar 1) aNil)) [1]) aNil) ([some (hd xs), none, none].set 2 (some z)) M = .ok ((fun d => match d with
          | .tup l => .str (joinT [32] (l.map partT))
          | _ => .non) z) M := fun z hz => by
        obtain ⟨x, hx, rfl⟩ := key z hz
        rw [deed_join (h.2 x hx) rfl (by simp)]
        show _ = Out.ok (D.str (joinT [32] ((.str x.word :: x.args.map fun n : Nat => D.int (n : Int)).map partT))) M
        simp [partT, Deed.text, Function.comp_def]
      rw [xLc_map e1 hxs (by have := h.1; simp; omega) inj]
      congr 2
      simp only [List.map_map]
      refine List.map_congr_left fun x hx => ?_
      show D.str (joinT [32] ((.str x.word :: x.args.map fun n : Nat => D.int (n : Int)).map partT)) = .str x.text
      simp [partT, Deed.text, Function.comp_def]
    · have h1 := sum_len (ps := xs.map Deed.text) (k := 33) (fun p hp => by
        obtain ⟨x, hx, rfl⟩ := List.mem_map.mp hp
        exact text_len (h.2 x hx))
      have := h.1
      simp only [List.length_map] at h1 ⊢
      show _ + xs.length * 3 ≤ 16777216
      omega
  have ht : tx "-" = [45] := rfl
  show run 3 (sRet (xOrT _ _)) [hd xs] M = _
  have hs : startE 3 [hd xs] = [some (hd xs), none, none] := rfl
  unfold run
  rw [hs]
  unfold sRet xOrT
  rw [hj]
  have hlen : (joinT [32, 44, 32] (xs.map Deed.text)).length ≤ 16777216 := by
    have h1 := join_len (s := [32, 44, 32]) (ps := xs.map Deed.text) (k := 33) (fun p hp => by
      obtain ⟨x, hx, rfl⟩ := List.mem_map.mp hp
      exact text_len (h.2 x hx))
    have := h.1
    simp only [List.length_cons, List.length_map, List.length_nil] at h1
    omega
  have hd1 : dTru (.str (joinT [32, 44, 32] (xs.map Deed.text))) M = .ok (!(joinT [32, 44, 32] (xs.map Deed.text)).isEmpty) M := if_pos hlen
  simp only [Out.bind, hd1]
  by_cases q : xs = []
  · subst q
    rfl
  · have h2 := (handT_ne q).2
    unfold handT at h2 ⊢
    rw [if_neg q] at h2 ⊢
    have h3 : (joinT [32, 44, 32] (xs.map Deed.text)).isEmpty = false := by
      cases e : joinT [32, 44, 32] (xs.map Deed.text) with
      | nil => exact absurd e h2
      | cons _ _ => rfl
    rw [h3]
    rfl
/-! ### are they programs? -/
abbrev bodyAre : MS := (sIf (tOr (tNot (tVal (xCall fIsi (aCons (xVar 1) (aCons (xC (.ty "tuple")) aNil))))) (tOr (tVal (xBin dGt (xCall fLen (aCons (xVar 1) aNil)) (xC (.int 8)))) (tNot (tVal (xCall fAll (aCons (xLc (iSeq (xVar 1)) (gVar 2) tYes (xCall m_is_deed (aCons (xVar 2) aNil)) [2]) aNil)))))) (sRet (xC (.bl false))) sNil)
/-- what one hand is worth: its deeds asked by V -/
def handV (V : D → Bool) : D → Bool
  | .tup xs => decide (xs.length ≤ 8) && xs.all V
  | _ => false
/-- V tells of every deed that is asked -/
def Tells (V : D → Bool) (h : D) : Prop := (∃ t, tyOf [] h = some t ∧ t ∈ kinds ∧ (t ≠ "tuple" ∨ ∃ xs, h = .tup xs)) ∧ (∀ n, h ≠ .ref n) ∧ ∀ xs, h = .tup xs → xs.length ≤ 8 → ∀ z ∈ xs, ∀ M, m_is_deed [z] M = .ok (.bl (V z)) M
theorem tyOf_noref {h : D} (hn : ∀ n, h ≠ .ref n) (M : Mh) : tyOf M h = tyOf [] h := by
  cases h <;> first | rfl | exact absurd rfl (hn _)
theorem body_are {V : D → Bool} {h : D} (ht : Tells V h) {e : En} (he : e.length = 3) (h1 : e[1]? = some (some h)) (M : Mh) : (handV V h = true → bodyAre e M = .nx e M) ∧ (handV V h = false → bodyAre e M = .rt (.bl false) M) := by
  obtain ⟨⟨t, t1, t2, t3⟩, hn, hv⟩ := ht
  have e1 : xVar 1 e M = .ok h M := xVar_ok h1
  by_cases q : ∃ xs, h = .tup xs
  · obtain ⟨xs, rfl⟩ := q
    by_cases l : xs.length ≤ 8
    · have hv2 := hv xs rfl l
      have lc := xLc_map (j := 2) (x := xCall m_is_deed (aCons (xVar 2) aNil)) (f := fun z => .bl (V z)) e1 (show seqA M (.tup xs) = some xs from rfl) (by omega) (fun z hz => by
        rw [xCall1 (xVar_ok (d := z) (by rw [List.getElem?_set_self (by omega)]))]
        exact hv2 z hz M)
      have hs : xs.length ≤ 16777216 := by omega
      rw [show handV V (.tup xs) = (decide (xs.length ≤ 8) && xs.all V) from rfl, decide_eq_true l, Bool.true_and]
      have a1 : tNot (tVal (xCall fIsi (aCons (xVar 1) (aCons (xC (.ty "tuple")) aNil)))) e M = .ok false M := tNot_ok (c := true) (tVal_ok (by rw [xCall2 e1 rfl]; rfl))
      have a2 : tVal (xBin dGt (xCall fLen (aCons (xVar 1) aNil)) (xC (.int 8))) e M = .ok false M := tVal_ok (by
        rw [xBin_ok (d := .int xs.length) (d1 := .int 8) (M1 := M) (M2 := M) (by rw [xCall1 e1]; rfl) rfl]
        show Out.ok (D.bl (decide ((8 : Int) < xs.length))) M = _
        rw [decide_eq_false (by omega)])
      have a3 : tNot (tVal (xCall fAll (aCons (xLc (iSeq (xVar 1)) (gVar 2) tYes (xCall m_is_deed (aCons (xVar 2) aNil)) [2]) aNil))) e M = .ok (!xs.all V) M := tNot_ok (tVal_ok (by rw [xCall1 lc]; exact fAll_map V xs M))
      refine ⟨fun z => ?_, fun z => ?_⟩
      · rw [z] at a3
        show sIf _ _ _ e M = _
        rw [sIf_f (by rw [tOr_f a1, tOr_f a2]; exact a3)]
        rfl
      · rw [z] at a3
        show sIf _ _ _ e M = _
        rw [sIf_t (by rw [tOr_f a1, tOr_f a2]; exact a3)]
        rfl
    · rw [show handV V (.tup xs) = (decide (xs.length ≤ 8) && xs.all V) from rfl, decide_eq_false l]
      refine ⟨fun z => by simp at z, fun _ => ?_⟩
      have a1 : tNot (tVal (xCall fIsi (aCons (xVar 1) (aCons (xC (.ty "tuple")) aNil)))) e M = .ok false M := tNot_ok (c := true) (tVal_ok (by rw [xCall2 e1 rfl]; rfl))
      have a2 : tVal (xBin dGt (xCall fLen (aCons (xVar 1) aNil)) (xC (.int 8))) e M = .ok true M := tVal_ok (by
        rw [xBin_ok (d := .int xs.length) (d1 := .int 8) (M1 := M) (M2 := M) (by rw [xCall1 e1]; rfl) rfl]
        show Out.ok (D.bl (decide ((8 : Int) < xs.length))) M = _
        rw [decide_eq_true (by omega)])
      show sIf _ _ _ e M = _
      rw [sIf_t (by rw [tOr_f a1, tOr_t a2])]
      rfl
  · have hv3 : handV V h = false := by
      cases h <;> first | rfl | exact absurd ⟨_, rfl⟩ q
    refine ⟨fun z => (by rw [hv3] at z; cases z), fun _ => ?_⟩
    have e2 := tyOf_noref hn M
    rw [t1] at e2
    have nt : t ≠ "tuple" := by
      rcases t3 with z | z
      · exact z
      · exact absurd z q
    have e3 : fIsi [h, .ty "tuple"] M = .ok (.bl false) M := by
      unfold fIsi
      dsimp only
      rw [e2]
      dsimp only
      have k1 : kinds.contains t = true := by simpa using t2
      have k2 : kindIs t "tuple" = false := by
        unfold kindIs
        simp [nt]
      rw [k1, k2]
      rfl
    have e4 : xCall fIsi (aCons (xVar 1) (aCons (xC (.ty "tuple")) aNil)) e M = .ok (.bl false) M := by
      rw [xCall2 e1 rfl]; exact e3
    unfold bodyAre sIf tOr tNot tVal
    rw [e4]
    rfl
theorem are_ok {V : D → Bool} {xs : List D} (h : ∀ z ∈ xs, Tells V z) (M : Mh) (hl : xs.length ≤ 1000) : m_are_programs [.tup xs] M = .ok (.bl (decide (1 ≤ xs.length) && decide (xs.length ≤ 6) && xs.all (handV V))) M := by
  by_cases l1 : 1 ≤ xs.length
  · by_cases l2 : xs.length ≤ 6
    · have e0 : xVar 0 [some (.tup xs), none, none] M = .ok (.tup xs) M := rfl
      have hf := for_verd (g := gVar 1) (b := bodyAre) (M := M) (xs := xs) (r := .bl false) (handV V) (fun e => e.length = 3) (src_item (d := .tup xs) rfl xs.length) (src_over (d := .tup xs) rfl xs.length) (fun e z hz he => by
        refine ⟨e.set 1 (some z), rfl, fun q => ⟨e.set 1 (some z), ?_, by simpa using he⟩, fun q => ?_⟩
        · exact (body_are (h z hz) (by simpa using he) (by rw [List.getElem?_set_self (by omega)]) M).1 q
        · exact (body_are (h z hz) (by simpa using he) (by rw [List.getElem?_set_self (by omega)]) M).2 q) xs.length 0 [some (.tup xs), none, none] rfl (by omega)
      rw [List.drop_zero] at hf
      have l3 : (1 : Int) ≤ xs.length := by omega
      have l4 : (xs.length : Int) ≤ 6 := by omega
      have l5 : xs.length ≤ 16777216 := by omega
      have es := sFor_seq (g := gVar 1) (b := bodyAre) e0 (show seqA M (.tup xs) = some xs from rfl)
      rw [decide_eq_true l1, decide_eq_true l2, Bool.true_and, Bool.true_and]
      have b1 : sIf (tOr (tNot (tVal (xCall fIsi (aCons (xVar 0) (aCons (xC (.ty "tuple")) aNil))))) (tNot (tVal (xChain dLe dLe (xC (.int 1)) (xCall fLen (aCons (xVar 0) aNil)) (xC (.int 6)))))) (sRet (xC (.bl false))) sNil [some (.tup xs), none, none] M = .nx [some (.tup xs), none, none] M := by
        simp [run, startE, sSeq, SO.seq, sIf, sAsg, sRet, sRetN, sDrop, sNil, sRaise, lift, noExc, tVal, tTru, tNot, tOr, tAnd, xVar, xC, xBin, xUn, xCall, xMeth, aNil, aCons, xTup, xLst, xIf, xAnd, xOr, xNot, xChain, oNone, oSome, gVar, gAll, gTup, gSubL, gStar, Out.bind, dBool, seqA, seqT, seqL, seqO, tyOf, dIx, atD, ixAt, dCmp, dAdd, dSub, dMod, dDiv, sizeLim, dEq, dNe, flatOk, res, dep, deps, eqD, eqDs, fLen, fIsi, kindIs, kinds, allTy, l3, l4]
      cases q : xs.all (handV V) with
      | true =>
        obtain ⟨e', h1, _⟩ := hf.1 q
        rw [h1] at es
        refine run_rt (sSeq_nx b1 |>.trans ?_)
        rw [sSeq_nx es]
        rfl
      | false =>
        have h1 := hf.2 q
        rw [h1] at es
        refine run_rt (sSeq_nx b1 |>.trans ?_)
        rw [sSeq_rt es]
    · have l4 : ¬ (xs.length : Int) ≤ 6 := by omega
      have l3 : (1 : Int) ≤ xs.length := by omega
      rw [decide_eq_false l2]
      simp [m_are_programs, run, startE, sSeq, SO.seq, sIf, sAsg, sRet, sRetN, sDrop, sNil, sRaise, lift, noExc, tVal, tTru, tNot, tOr, tAnd, xVar, xC, xBin, xUn, xCall, xMeth, aNil, aCons, xTup, xLst, xIf, xAnd, xOr, xNot, xChain, oNone, oSome, gVar, gAll, gTup, gSubL, gStar, Out.bind, dBool, seqA, seqT, seqL, seqO, tyOf, dIx, atD, ixAt, dCmp, dAdd, dSub, dMod, dDiv, sizeLim, dEq, dNe, flatOk, res, dep, deps, eqD, eqDs, fLen, fIsi, kindIs, kinds, allTy, l3, l4]
  · have l3 : ¬ (1 : Int) ≤ xs.length := by omega
    rw [decide_eq_false l1]
    simp [m_are_programs, run, startE, sSeq, SO.seq, sIf, sAsg, sRet, sRetN, sDrop, sNil, sRaise, lift, noExc, tVal, tTru, tNot, tOr, tAnd, xVar, xC, xBin, xUn, xCall, xMeth, aNil, aCons, xTup, xLst, xIf, xAnd, xOr, xNot, xChain, oNone, oSome, gVar, gAll, gTup, gSubL, gStar, Out.bind, dBool, seqA, seqT, seqL, seqO, tyOf, dIx, atD, ixAt, dCmp, dAdd, dSub, dMod, dDiv, sizeLim, dEq, dNe, flatOk, res, dep, deps, eqD, eqDs, fLen, fIsi, kindIs, kinds, allTy, l3]
theorem tells_good {xs : List Deed} (h : HandOk xs) : Tells (fun _ => true) (hd xs) :=
  ⟨⟨"tuple", rfl, by decide, .inr ⟨_, rfl⟩⟩, (fun n z => by cases z), fun l e hl z hz M => by
    cases e
    obtain ⟨x, hx, rfl⟩ := List.mem_map.mp hz
    exact is_deed_ok (h.2 x hx) M⟩
theorem handV_good {xs : List Deed} (h : HandOk xs) : handV (fun _ => true) (hd xs) = true := by
  show (decide ((xs.map Deed.d).length ≤ 8) && (xs.map Deed.d).all fun _ => true) = true
  rw [List.length_map, decide_eq_true h.1, Bool.true_and]
  exact List.all_eq_true.mpr fun _ _ => rfl
theorem are_good {ps : List (List Deed)} (h : ProgOk ps) (M : Mh) : m_are_programs [pd ps] M = .ok (.bl true) M := by
  have h1 := are_ok (V := fun _ => true) (xs := ps.map hd) (fun z hz => by
    obtain ⟨xs, hx, rfl⟩ := List.mem_map.mp hz
    exact tells_good (h.2.2 xs hx)) M (by rw [List.length_map]; have := h.2.1; omega)
  have h2 : (ps.map hd).all (handV fun _ => true) = true := List.all_eq_true.mpr fun z hz => by
    obtain ⟨xs, hx, rfl⟩ := List.mem_map.mp hz
    exact handV_good (h.2.2 xs hx)
  rw [List.length_map, decide_eq_true h.1, decide_eq_true h.2.1, h2] at h1
  exact h1
theorem need_ok {d : D} {M : Mh} (h : m_are_programs [d] M = .ok (.bl true) M) : m_need_programs [d] M = .ok .non M :=
  run_nx (e2 := [some d]) (by
    rw [sIf_f (tNot_ok (c := true) (tVal_ok (by rw [xCall1 (d := d) (M1 := M) rfl]; exact h)))]
    rfl)
theorem need_no {d : D} {M : Mh} (h : m_are_programs [d] M = .ok (.bl false) M) : m_need_programs [d] M = .exc ⟨"NoPrograms", none⟩ M :=
  run_exc (e2 := [some d]) (by
    rw [sIf_t (tNot_ok (c := false) (tVal_ok (by rw [xCall1 (d := d) (M1 := M) rfl]; exact h)))]
    rfl)
theorem text_no {d : D} {M : Mh} (h : m_are_programs [d] M = .ok (.bl false) M) : m_programs_text [d] M = .exc ⟨"NoPrograms", none⟩ M :=
  run_exc (e2 := [some d, none]) (sSeq_exc (sDrop_exc (by rw [xCall1 (d := d) (M1 := M) rfl]; exact need_no h)))
theorem text_ok {ps : List (List Deed)} (h : ProgOk ps) (M : Mh) : m_programs_text [pd ps] M = .ok (.str (progT ps)) M := by
  refine run_rt ?_
  show sSeq _ _ [some (pd ps), none] M = _
  rw [sSeq_nx (sDrop_ok (d := .non) (by rw [xCall1 (d := pd ps) (M1 := M) rfl]; exact need_ok (are_good h M)))]
  refine sRet_ok (xMeth_join (ps := ps.map handT) rfl ?_ ?_)
  · have e1 : xVar 0 [some (pd ps), none] M = .ok (pd ps) M := rfl
    have key : ∀ z ∈ ps.map hd, (xCall m_hand_text (aCons (xVar 1) aNil)) ([some (pd ps), none].set 1 (some z)) M = .ok ((fun d => match m_hand_text [d] M with
        | .ok v _ => v
        | _ => .non) z) M := fun z hz => by
      obtain ⟨xs, hx, rfl⟩ := List.mem_map.mp hz
      rw [xCall1 (d := hd xs) (M1 := M) rfl]
      dsimp only
      rw [hand_text_ok (h.2.2 xs hx)]
    rw [xLc_map e1 (show seqA M (pd ps) = some (ps.map hd) from rfl) (by have := h.2.1; simp; omega) key]
    congr 2
    rw [List.map_map, List.map_map]
    refine List.map_congr_left fun xs hx => ?_
    show (match m_hand_text [hd xs] M with
        | .ok v _ => v
        | _ => D.non) = _
    rw [hand_text_ok (h.2.2 xs hx)]
    rfl
  · have h1 := sum_len (ps := ps.map handT) (k := 288) (fun p hp => by
      obtain ⟨x, hx, rfl⟩ := List.mem_map.mp hp
      exact hand_len (h.2.2 x hx))
    have := h.2.1
    simp only [List.length_map] at h1 ⊢
    show _ + ps.length * 3 ≤ 16777216
    omega
/-! ### reading -/
theorem dig_in {c : Nat} (h : isDig c = true) (M : Mh) : dIn (.str [c]) (.str (tx "0123456789")) M = .ok (.bl true) M := by
  have e : decide (c ∈ tx "0123456789") = true := by
    unfold isDig at h
    rw [Bool.and_eq_true, decide_eq_true_eq, decide_eq_true_eq] at h
    have : c = 48 ∨ c = 49 ∨ c = 50 ∨ c = 51 ∨ c = 52 ∨ c = 53 ∨ c = 54 ∨ c = 55 ∨ c = 56 ∨ c = 57 := by omega
    rcases this with rfl | rfl | rfl | rfl | rfl | rfl | rfl | rfl | rfl | rfl <;> rfl
  show Out.ok (D.bl (decide (c ∈ tx "0123456789"))) M = _
  rw [e]
theorem eq_str (a b : T) (M : Mh) : dEq (.str a) (.str b) M = .ok (.bl (a == b)) M := rfl
theorem ne_str (a b : T) (M : Mh) : dNe (.str a) (.str b) M = .ok (.bl (!(a == b))) M := rfl
theorem number_ok {n : Nat} (h : n < 10 ^ 10) (M : Mh) : m_number_in [.str (numT n)] M = .ok (.int (n : Int)) M := by
  have hl := numT_len h
  have hn := numT_ne n
  have e0 : ∀ e : En, e[0]? = some (some (.str (numT n))) → xVar 0 e M = .ok (.str (numT n)) M := fun e he => xVar_ok he
  have v0 : xVar 0 [some (.str (numT n)), none] M = .ok (.str (numT n)) M := rfl
  have b1 : tVal (xBin dEq (xVar 0) (xC (.str (tx "")))) [some (.str (numT n)), none] M = .ok false M := tVal_ok (by
    rw [xBin_ok v0 rfl, eq_str]
    rw [beq_eq_false_iff_ne.mpr (show numT n ≠ tx "" from hn)])
  have b2 : tVal (xBin dGt (xCall fLen (aCons (xVar 0) aNil)) (xC (.int 10))) [some (.str (numT n)), none] M = .ok false M := tVal_ok (by
    rw [xBin_ok (d := .int (numT n).length) (d1 := .int 10) (M1 := M) (M2 := M) (by
      rw [xCall1 v0]
      exact if_pos (show (numT n).length ≤ 16777216 by omega)) rfl]
    show Out.ok (D.bl (decide ((10 : Int) < (numT n).length))) M = _
    rw [decide_eq_false (by omega)])
  have lc := xLc_txt (j := 1) (x := xBin dIn (xVar 1) (xC (.str (tx "0123456789")))) (f := fun _ => .bl true) v0 (by omega) (fun c hc => by
    rw [xBin_ok (d := .str [c]) (d1 := .str (tx "0123456789")) (M1 := M) (M2 := M) rfl rfl]
    exact dig_in (List.all_eq_true.mp (numT_dig n) c hc) M)
  have b3 : tNot (tVal (xCall fAll (aCons (xLc (iTxt (xVar 0)) (gVar 1) tYes (xBin dIn (xVar 1) (xC (.str (tx "0123456789")))) [1]) aNil))) [some (.str (numT n)), none] M = .ok false M := tNot_ok (c := true) (tVal_ok (by
    rw [xCall1 lc, fAll_map (fun _ => true)]
    rw [List.all_eq_true.mpr fun _ _ => rfl]))
  obtain ⟨c, r, e⟩ : ∃ c r, numT n = c :: r := by
    cases q : numT n with
    | nil => exact absurd q hn
    | cons c r => exact ⟨c, r, rfl⟩
  have b4 : tAnd (tVal (xBin dEq (xBin dIx (xVar 0) (xC (.int 0))) (xC (.str (tx "0"))))) (tVal (xBin dNe (xVar 0) (xC (.str (tx "0"))))) [some (.str (numT n)), none] M = .ok false M := by
    have i0 : xBin dIx (xVar 0) (xC (.int 0)) [some (.str (numT n)), none] M = .ok (.str [c]) M := by
      rw [xBin_ok v0 rfl, e]
      have hz : (c :: r).length ≤ 16777216 := by rw [← e]; omega
      have hp : (0 : Int) < ((c :: r).length : Int) := by simp only [List.length_cons]; omega
      simp [dIx, ixAt, hp, sizeLim]
      simp only [List.length_cons] at hz
      omega
    by_cases q : c = 48
    · subst q
      have n0 : n = 0 := numT_head n (by rw [e]; rfl)
      subst n0
      rw [tAnd_t (tVal_ok (c := true) (by rw [xBin_ok i0 rfl]; rfl))]
      rfl
    · rw [tAnd_f (tVal_ok (c := false) (by
        rw [xBin_ok i0 rfl, eq_str]
        rw [beq_eq_false_iff_ne.mpr (show [c] ≠ tx "0" from fun z => q (List.cons.inj z).1)]))]
  refine run_rt ?_
  show sSeq _ (sSeq _ _) [some (.str (numT n)), none] M = _
  rw [sSeq_nx (e2 := [some (.str (numT n)), none]) (M1 := M) (by rw [sIf_f (by rw [tOr_f b1, tOr_f b2]; exact b3)]; rfl)]
  rw [sSeq_nx (e2 := [some (.str (numT n)), none]) (M1 := M) (by rw [sIf_f b4]; rfl)]
  refine sRet_ok ?_
  rw [xCall1 v0]
  unfold fInt
  dsimp only
  rw [if_pos (by
    rw [numT_dig, decide_eq_true (by omega), e]
    rfl), digVal_num]
theorem deed_in_ok {x : Deed} (h : x.ok) (M : Mh) : m_deed_in [.str x.text] M = .ok x.d M := by
  have sp : splT [32] 0 [] x.text = x.word :: x.args.map numT := splT_join1 (by simp) fun p hp => by
    rcases List.mem_cons.mp hp with rfl | hp
    · exact word_free x 32 (.inl rfl)
    · obtain ⟨n, hn, rfl⟩ := List.mem_map.mp hp
      exact numT_free (by omega)
  have hl := text_len h
  have s1 : xMeth "str" mSplit (xVar 0) (aCons (xC (.str (tx " "))) aNil) [some (.str x.text), none, none, none] M = .ok (.lst ((x.word :: x.args.map numT).map .str)) M := by
    rw [xMeth1 (d := .str x.text) (d1 := .str (tx " ")) (M1 := M) (M2 := M) rfl rfl rfl, ← sp]
    unfold mSplit
    dsimp only
    have hz : x.text.length + 2 ≤ sizeLim := by show _ ≤ 16777216; omega
    rw [if_pos (by rw [decide_eq_true hz]; rfl)]
    rfl
  have al := args_len x
  have g1 : sAsg (xMeth "str" mSplit (xVar 0) (aCons (xC (.str (tx " "))) aNil)) (gStar [(gVar 1)] (gVar 2)) [some (.str x.text), none, none, none] M = .nx [some (.str x.text), some (.str x.word), some (.lst (x.args.map fun n => .str (numT n))), none] M := by
    unfold sAsg
    rw [s1]
    have hz : x.args.length + 1 ≤ 16000 := by omega
    simp [lift, gStar, seqA, seqT, seqL, hz, gAll, gVar, noExc, Out.bind]
  refine run_rt ?_
  show sSeq _ _ [some (.str x.text), none, none, none] M = _
  rw [sSeq_nx g1]
  refine sRet_ok ?_
  have lc := xLc_map (j := 3) (x := xCall m_number_in (aCons (xVar 3) aNil)) (en := [some (.str x.text), some (.str x.word), some (.lst (x.args.map fun n => .str (numT n))), none]) (M := M) (a := xVar 2) (f := fun d => match m_number_in [d] M with
        | .ok v _ => v
        | _ => .non) rfl (show seqA M (.lst (x.args.map fun n => .str (numT n))) = some (x.args.map fun n => .str (numT n)) from rfl) (by simp; omega) (fun z hz => by
    obtain ⟨n, hn, rfl⟩ := List.mem_map.mp hz
    rw [xCall1 (d := .str (numT n)) (M1 := M) rfl]
    rw [number_ok (args_lt h n hn)])
  have lc2 : (x.args.map fun n => D.str (numT n)).map (fun d => match m_number_in [d] M with
        | .ok v _ => v
        | _ => .non) = x.args.map fun n : Nat => D.int (n : Int) := by
    rw [List.map_map]
    refine List.map_congr_left fun n hn => ?_
    show (match m_number_in [.str (numT n)] M with
        | .ok v _ => v
        | _ => D.non) = _
    rw [number_ok (args_lt h n hn)]
  rw [lc2] at lc
  have a1 : xBin dAdd (xLst (aCons (xVar 1) aNil)) (xLc (iSeq (xVar 2)) (gVar 3) tYes (xCall m_number_in (aCons (xVar 3) aNil)) [3]) [some (.str x.text), some (.str x.word), some (.lst (x.args.map fun n => .str (numT n))), none] M = .ok (.lst (.str x.word :: x.args.map fun n : Nat => .int (n : Int))) M := by
    rw [xBin_ok (d := .lst [.str x.word]) (M1 := M) rfl lc]
    have hz : 1 + x.args.length ≤ 16777216 := by omega
    simp [dAdd, seqO, sizeLim, hz]
  rw [xCall1 a1]
  rfl
theorem hand_in_ok {xs : List Deed} (h : HandOk xs) (M : Mh) : m_hand_in [.str (handT xs)] M = .ok (hd xs) M := by
  have v0 : xVar 0 [some (.str (handT xs)), none] M = .ok (.str (handT xs)) M := rfl
  refine run_rt ?_
  show sSeq _ _ [some (.str (handT xs)), none] M = _
  by_cases q : xs = []
  · subst q
    rfl
  · have hl := hand_len h
    have b1 : tVal (xBin dEq (xVar 0) (xC (.str (tx "-")))) [some (.str (handT xs)), none] M = .ok false M := tVal_ok (by
      rw [xBin_ok v0 rfl, eq_str]
      rw [beq_eq_false_iff_ne.mpr (show handT xs ≠ tx "-" from (handT_ne q).1)])
    rw [sSeq_nx (e2 := [some (.str (handT xs)), none]) (M1 := M) (by rw [sIf_f b1]; rfl)]
    refine sRet_ok ?_
    have sp : splT [32, 44, 32] 0 [] (handT xs) = xs.map Deed.text := by
      unfold handT
      rw [if_neg q]
      exact splT_join3 (by decide) (by simpa using q) fun p hp => by
        obtain ⟨x, hx, rfl⟩ := List.mem_map.mp hp
        exact text_free 44 (.inl rfl)
    have s1 : xMeth "str" mSplit (xVar 0) (aCons (xC (.str (tx " , "))) aNil) [some (.str (handT xs)), none] M = .ok (.lst ((xs.map Deed.text).map .str)) M := by
      rw [← sp]
      exact split_ok v0 rfl (by decide) (by show _ ≤ 16777216; omega)
    have lc := lc_call (l := xs) (f := m_deed_in) (j := 1) (fun x => .str x.text) Deed.d s1 (by rw [List.map_map]; rfl) (by have := h.1; omega) (by simp) fun x hx => deed_in_ok (h.2 x hx) M
    rw [xCall1 lc]
    rfl
theorem read_ok {ps : List (List Deed)} (h : ProgOk ps) (M : Mh) : m_read_programs [.str (progT ps)] M = .ok (pd ps) M := by
  have v0 : xVar 0 [some (.str (progT ps)), none, none] M = .ok (.str (progT ps)) M := rfl
  have hl : (progT ps).length ≤ 3000 := by
    have h1 := join_len (s := [32, 59, 32]) (ps := ps.map handT) (k := 288) (fun p hp => by
      obtain ⟨x, hx, rfl⟩ := List.mem_map.mp hp
      exact hand_len (h.2.2 x hx))
    have := h.2.1
    simp only [List.length_cons, List.length_map, List.length_nil] at h1
    exact Nat.le_trans h1 (by omega)
  have ne : ps ≠ [] := fun z => by have := h.1; rw [z] at this; simp at this
  have sp : splT [32, 59, 32] 0 [] (progT ps) = ps.map handT := splT_join3 (by decide) (by simpa using ne) fun p hp => by
    obtain ⟨x, hx, rfl⟩ := List.mem_map.mp hp
    exact hand_free
  have s1 : xMeth "str" mSplit (xVar 0) (aCons (xC (.str (tx " ; "))) aNil) [some (.str (progT ps)), none, none] M = .ok (.lst ((ps.map handT).map .str)) M := by
    rw [← sp]
    exact split_ok v0 rfl (by decide) (by show _ ≤ 16777216; omega)
  have lc := lc_call (l := ps) (f := m_hand_in) (j := 2) (fun x => .str (handT x)) hd s1 (by rw [List.map_map]; rfl) (by have := h.2.1; omega) (by simp) fun x hx => hand_in_ok (h.2.2 x hx) M
  refine run_rt ?_
  show sSeq _ (sSeq _ (sSeq _ _)) [some (.str (progT ps)), none, none] M = _
  rw [sSeq_nx (sDrop_ok (d := .non) (M1 := M) (by rw [xCall1 v0]; rfl))]
  rw [sSeq_nx (sAsg_var (d := pd ps) (M1 := M) (by rw [xCall1 lc]; rfl))]
  show sSeq _ _ [some (.str (progT ps)), some (pd ps), none] M = _
  rw [sSeq_nx (e2 := [some (.str (progT ps)), some (pd ps), none]) (M1 := M) (by
    rw [sIf_f (tNot_ok (c := true) (M1 := M) (tVal_ok (by rw [xCall1 (d := pd ps) (M1 := M) rfl]; exact are_good h M)))]
    rfl)]
  rfl
/-! ### the same? -/
def Same (n : Nat) (d : D) : Prop := ∀ M, m__law_same n [d, d] M = .ok (.bl true) M
theorem same_int (n : Nat) (i : Int) : Same (n + 1) (.int i) := fun M => by
  have e : m__law_same (n + 1) [.int i, .int i] M = .ok (.bl (i == i)) M := by kernel_rfl
  rw [e, beq_self_eq_true]
theorem same_str (n : Nat) (a : T) : Same (n + 1) (.str a) := fun M => by
  have e : m__law_same (n + 1) [.str a, .str a] M = .ok (.bl (a == a)) M := by kernel_rfl
  rw [e, beq_self_eq_true]
theorem same_tup {n : Nat} {xs : List D} (hl : xs.length ≤ 1000000) (h : ∀ x ∈ xs, Same n x) : Same (n + 1) (.tup xs) := fun M => by
  have v0 : xVar 0 [some (.tup xs), some (.tup xs), none, none] M = .ok (.tup xs) M := rfl
  have v1 : xVar 1 [some (.tup xs), some (.tup xs), none, none] M = .ok (.tup xs) M := rfl
  have e1 : tVal (xCall fIsi (aCons (xVar 1) (aCons (xC (.ty "tuple")) aNil))) [some (.tup xs), some (.tup xs), none, none] M = .ok true M := tVal_ok (by rw [xCall2 v1 rfl]; rfl)
  have e2 : tNot (tVal (xCall fIsi (aCons (xVar 0) (aCons (xC (.ty "tuple")) aNil)))) [some (.tup xs), some (.tup xs), none, none] M = .ok false M := tNot_ok (c := true) (tVal_ok (by rw [xCall2 v0 rfl]; rfl))
  have e3 : tVal (xBin dNe (xCall fLen (aCons (xVar 0) aNil)) (xCall fLen (aCons (xVar 1) aNil))) [some (.tup xs), some (.tup xs), none, none] M = .ok false M := tVal_ok (by
    rw [xBin_ok (d := .int xs.length) (d1 := .int xs.length) (M1 := M) (M2 := M) (by rw [xCall1 v0]; rfl) (by rw [xCall1 v1]; rfl)]
    show Out.ok (D.bl (!((xs.length : Int) == (xs.length : Int)))) M = _
    rw [beq_self_eq_true]
    rfl)
  have lc : xLc (iZip (aCons (xVar 0) (aCons (xVar 1) aNil))) (gTup [gVar 2, gVar 3]) tYes (xCall (m__law_same n) (aCons (xVar 2) (aCons (xVar 3) aNil))) [2, 3] [some (.tup xs), some (.tup xs), none, none] M = .ok (.lst (xs.map fun _ => .bl true)) M := by
    have e4 : iZip (aCons (xVar 0) (aCons (xVar 1) aNil)) [some (.tup xs), some (.tup xs), none, none] M = .ok (.zip (.tup xs) (.tup xs) (min xs.length xs.length)) M := rfl
    unfold xLc
    rw [e4]
    rw [Nat.min_self]
    show (if xs.length ≤ 1000000 then noExc ((lcFrom (.zip (.tup xs) (.tup xs) xs.length) (gTup [gVar 2, gVar 3]) tYes (xCall (m__law_same n) (aCons (xVar 2) (aCons (xVar 3) aNil))) [some (.tup xs), some (.tup xs), none, none] 0 xs.length M).bind fun ys M => Out.ok (D.lst ys) M) else Out.stk) = _
    have hi : ∀ i, i < (xs.map fun x => D.tup [x, x]).length → (Src.zip (.tup xs) (.tup xs) xs.length).item M i = (xs.map fun x => D.tup [x, x])[i]? := fun i hi => by
      rw [List.getElem?_map]
      show (match xs[i]?, xs[i]? with
        | some x, some y => some (D.tup [x, y])
        | _, _ => none) = _
      cases xs[i]? <;> rfl
    have ho : (Src.zip (.tup xs) (.tup xs) xs.length).over M (xs.map fun x => D.tup [x, x]).length = true := by
      show decide (min xs.length xs.length ≤ _) = true
      rw [List.length_map, Nat.min_self]
      exact decide_eq_true (Nat.le_refl _)
    have hx : ∀ z ∈ xs.map fun x => D.tup [x, x], ∃ e1, gTup [gVar 2, gVar 3] z [some (.tup xs), some (.tup xs), none, none] M = .ok e1 M ∧ xCall (m__law_same n) (aCons (xVar 2) (aCons (xVar 3) aNil)) e1 M = .ok ((fun _ => D.bl true) z) M := fun z hz => by
      obtain ⟨x, hx, rfl⟩ := List.mem_map.mp hz
      refine ⟨[some (.tup xs), some (.tup xs), some x, some x], rfl, ?_⟩
      rw [xCall2 (d := x) (e := x) (M1 := M) (M2 := M) rfl rfl]
      exact h x hx M
    rw [if_pos hl, lcFrom_map hi ho hx xs.length 0 (by rw [List.length_map]; omega), List.drop_zero, List.map_map]
    rfl
  refine run_rt ?_
  show sSeq (sIf _ (sSeq _ _) _) _ [some (.tup xs), some (.tup xs), none, none] M = _
  have k1 : sIf (tVal (xCall fIsi (aCons (xVar 1) (aCons (xC (.ty "tuple")) aNil)))) (sSeq (sIf (tOr (tNot (tVal (xCall fIsi (aCons (xVar 0) (aCons (xC (.ty "tuple")) aNil))))) (tVal (xBin dNe (xCall fLen (aCons (xVar 0) aNil)) (xCall fLen (aCons (xVar 1) aNil))))) (sRet (xC (.bl false))) sNil) (sRet (xCall fAll (aCons (xLc (iZip (aCons (xVar 0) (aCons (xVar 1) aNil))) (gTup [gVar 2, gVar 3]) tYes (xCall (m__law_same n) (aCons (xVar 2) (aCons (xVar 3) aNil))) [2, 3]) aNil)))) sNil [some (.tup xs), some (.tup xs), none, none] M = .rt (.bl true) M := by
    rw [sIf_t e1, sSeq_nx (e2 := [some (.tup xs), some (.tup xs), none, none]) (M1 := M) (by rw [sIf_f (by rw [tOr_f e2]; exact e3)]; rfl)]
    refine sRet_ok ?_
    rw [xCall1 lc, fAll_map (fun _ => true), List.all_eq_true.mpr fun _ _ => rfl]
  exact sSeq_rt k1
theorem same_deed {x : Deed} : Same 2 x.d := same_tup (by have := args_len x; simp; omega) fun z hz => by
  rcases List.mem_cons.mp hz with rfl | hz
  · exact same_str 0 _
  · obtain ⟨n, hn, rfl⟩ := List.mem_map.mp hz
    exact same_int 0 _
theorem same_hand {xs : List Deed} (h : HandOk xs) : Same 3 (hd xs) := same_tup (by have := h.1; rw [List.length_map]; omega) fun z hz => by
  obtain ⟨x, hx, rfl⟩ := List.mem_map.mp hz
  exact same_deed
theorem same_prog {ps : List (List Deed)} (h : ProgOk ps) : Same 4 (pd ps) := same_tup (by have := h.2.1; rw [List.length_map]; omega) fun z hz => by
  obtain ⟨x, hx, rfl⟩ := List.mem_map.mp hz
  exact same_hand (h.2.2 x hx)
/-! ### the law's own text -/
theorem own_text {ps : List (List Deed)} (h : ProgOk ps) (M : Mh) : m__law_programs_text [pd ps] M = .ok (.str (progT ps)) (M ++ [.lst (ps.map fun xs => .str (handT xs))]) := by
  refine run_rt ?_
  show sSeq _ (sSeq (sFor _ _ (sSeq (sAsg (xLc (iSeq (xVar 2)) (gVar 5) tYes _ [5]) (gVar 3)) _)) _) [some (pd ps), none, none, none, none, none] M = _
  rw [sSeq_nx (p := sAsg (xNew aNil) (gVar 1)) (en := [some (pd ps), none, none, none, none, none]) (M := M) (e2 := [some (pd ps), some (.ref M.length), none, none, none, none]) (M1 := M ++ [.lst []]) rfl]
  have hf := for_inv (src := .seq (pd ps) ps.length) (g := gVar 2) (N := ps.length) (b := sSeq (sAsg (xLc (iSeq (xVar 2)) (gVar 5) tYes (xMeth "str" mJoin (xC (.str (tx " "))) (aCons (xLc (iSeq (xVar 5)) (gVar 4) tYes (xCall fStr (aCons (xVar 4) aNil)) [4]) aNil)) [5]) (gVar 3)) (sDrop (xMeth "list" mAppend (xVar 1) (aCons (xBin dIx (xLst (aCons (xC (.str (tx "-"))) (aCons (xMeth "str" mJoin (xC (.str (tx " , "))) (aCons (xVar 3) aNil)) aNil))) (xCall fInt (aCons (xBin dNe (xVar 3) (xLst aNil)) aNil))) aNil))))
    (fun i e M' => e.length = 6 ∧ e[0]? = some (some (pd ps)) ∧ e[1]? = some (some (.ref M.length)) ∧ M' = M ++ [.lst ((ps.take i).map fun xs => .str (handT xs))])
    (fun i e M' hi ⟨h1, h2, h3, h4⟩ => by
      have hxs : HandOk ps[i] := h.2.2 _ (List.getElem_mem hi)
      refine ⟨hd ps[i], ?_, e.set 2 (some (hd ps[i])), rfl, (e.set 2 (some (hd ps[i]))).set 3 (some (.lst (ps[i].map fun x => .str x.text))), M ++ [.lst ((ps.take (i + 1)).map fun xs => .str (handT xs))], ?_, by simpa using h1, ?_, ?_, rfl⟩
      · show (some (ps.map hd)).bind (fun xs => xs[i]?) = _
        rw [Option.bind_some, List.getElem?_map, List.getElem?_eq_getElem hi]
        rfl
      · have l1 := lc_mapM (l := ps[i]) (j := 5) (x := xMeth "str" mJoin (xC (.str (tx " "))) (aCons (xLc (iSeq (xVar 5)) (gVar 4) tYes (xCall fStr (aCons (xVar 4) aNil)) [4]) aNil)) (a := xVar 2) (en := e.set 2 (some (hd ps[i]))) (M := M') Deed.d (fun x => .str x.text) (xVar_ok (d := hd ps[i]) (by rw [List.getElem?_set_self (by omega)])) rfl (by have := hxs.1; omega) (fun x hx => deed_join (hxs.2 x hx) (by rw [List.getElem?_set_self (by rw [List.length_set]; omega)]) (by rw [List.length_set, List.length_set]; omega))
        rw [sSeq_nx (sAsg_var l1)]
        refine sDrop_ok (d := .non) ?_
        generalize he : (e.set 2 (some (hd ps[i]))).set 3 (some (D.lst (ps[i].map fun x => .str x.text))) = e3
        have v1 : xVar 1 e3 M' = .ok (.ref M.length) M' := xVar_ok (by rw [← he, List.getElem?_set_ne (by decide), List.getElem?_set_ne (by decide)]; exact h3)
        have v3 : xVar 3 e3 M' = .ok (.lst (ps[i].map fun x => .str x.text)) M' := xVar_ok (by rw [← he, List.getElem?_set_self (by rw [List.length_set]; omega)])
        have hm : M'[M.length]? = some (.lst ((ps.take i).map fun xs => .str (handT xs))) := by rw [h4]; simp
        have jn : xMeth "str" mJoin (xC (.str (tx " , "))) (aCons (xVar 3) aNil) e3 M' = .ok (.str (joinT [32, 44, 32] (ps[i].map Deed.text))) M' := by
          refine xMeth_join (ps := ps[i].map Deed.text) rfl (by rw [v3, List.map_map]; rfl) ?_
          have h1 := sum_len (ps := ps[i].map Deed.text) (k := 33) (fun p hp => by
            obtain ⟨x, hx, rfl⟩ := List.mem_map.mp hp
            exact text_len (hxs.2 x hx))
          have := hxs.1
          simp only [List.length_map] at h1 ⊢
          show _ + ps[i].length * 3 ≤ 16777216
          omega
        have ls : xLst (aCons (xC (.str (tx "-"))) (aCons (xMeth "str" mJoin (xC (.str (tx " , "))) (aCons (xVar 3) aNil)) aNil)) e3 M' = .ok (.lst [.str [45], .str (joinT [32, 44, 32] (ps[i].map Deed.text))]) M' := by
          have t1 : tx "-" = [45] := rfl
          simp [xLst, aCons, aNil, jn, xC, Out.bind, sizeLim, t1]
        have ne : xBin dNe (xVar 3) (xLst aNil) e3 M' = .ok (.bl (!(ps[i].isEmpty))) M' := by
          rw [xBin_ok v3 (d1 := .lst []) (M2 := M') rfl]
          have q1 : flatOk (.lst (ps[i].map fun x => D.str x.text)) = true := by
            have := deps_str (ps[i].map Deed.text)
            rw [List.map_map] at this
            unfold flatOk dep
            rw [show (ps[i].map fun x => D.str x.text) = List.map (D.str ∘ Deed.text) ps[i] from rfl, this]
            rfl
          show (if flatOk (.lst (ps[i].map fun x => D.str x.text)) && flatOk (.lst []) then Out.ok (D.bl (!eqD (.lst (ps[i].map fun x => D.str x.text)) (.lst []))) M' else .stk) = _
          rw [q1, if_pos (by rfl)]
          cases ps[i] <;> rfl
        have ix : xBin dIx (xLst (aCons (xC (.str (tx "-"))) (aCons (xMeth "str" mJoin (xC (.str (tx " , "))) (aCons (xVar 3) aNil)) aNil))) (xCall fInt (aCons (xBin dNe (xVar 3) (xLst aNil)) aNil)) e3 M' = .ok (.str (handT ps[i])) M' := by
          rw [xBin_ok ls (d1 := .int (if (!ps[i].isEmpty) = true then 1 else 0)) (M2 := M') (by rw [xCall1 ne]; rfl)]
          unfold handT
          cases q : ps[i] with
          | nil => rfl
          | cons _ _ => rfl
        rw [xMeth1 v1 (by show (match M'[M.length]? with
          | some (.lst _) => some "list"
          | _ => none) = _; rw [hm]) ix]
        show (match M'[M.length]? with
          | some (.lst xs) => if xs.length < 1000000 then Out.ok D.non (M'.set M.length (O.lst (xs ++ [D.str (handT ps[i])]))) else Out.stk
          | _ => .stk) = _
        rw [hm]
        show (if _ then _ else _) = _
        rw [if_pos (by rw [List.length_map, List.length_take]; have := h.2.1; omega), h4]
        congr 1
        rw [List.set_append_right _ _ (Nat.le_refl _), Nat.sub_self, List.take_succ_eq_append_getElem hi, List.map_append]
        rfl
      · rw [List.getElem?_set_ne (by decide), List.getElem?_set_ne (by decide)]; exact h2
      · rw [List.getElem?_set_ne (by decide), List.getElem?_set_ne (by decide)]; exact h3)
    (fun e M' _ => by
      have := src_over (d := pd ps) (M := M') (xs := ps.map hd) rfl ps.length
      rw [List.length_map] at this
      exact this) ps.length 0 [some (pd ps), some (.ref M.length), none, none, none, none] (M ++ [.lst []]) ⟨rfl, rfl, rfl, rfl⟩ (by omega)
  obtain ⟨e', M', k1, k2, k3, k4, k5⟩ := hf
  have es := sFor_seq (g := gVar 2) (b := sSeq (sAsg (xLc (iSeq (xVar 2)) (gVar 5) tYes (xMeth "str" mJoin (xC (.str (tx " "))) (aCons (xLc (iSeq (xVar 5)) (gVar 4) tYes (xCall fStr (aCons (xVar 4) aNil)) [4]) aNil)) [5]) (gVar 3)) (sDrop (xMeth "list" mAppend (xVar 1) (aCons (xBin dIx (xLst (aCons (xC (.str (tx "-"))) (aCons (xMeth "str" mJoin (xC (.str (tx " , "))) (aCons (xVar 3) aNil)) aNil))) (xCall fInt (aCons (xBin dNe (xVar 3) (xLst aNil)) aNil))) aNil)))) (a := xVar 0) (e := [some (pd ps), some (.ref M.length), none, none, none, none]) (M := M ++ [.lst []]) (d := pd ps) rfl (show seqA _ (pd ps) = some (ps.map hd) from rfl)
  rw [List.length_map, k1] at es
  rw [sSeq_nx es]
  rw [List.take_length] at k5
  subst k5
  refine sRet_ok ?_
  have v1 : xVar 1 e' (M ++ [.lst (ps.map fun xs => .str (handT xs))]) = .ok (.ref M.length) (M ++ [.lst (ps.map fun xs => .str (handT xs))]) := xVar_ok k4
  have ms := xMeth1 (ty := "str") (f := mJoin) (x := xC (.str (tx " ; "))) (en := e') (M := M ++ [O.lst (ps.map fun xs => D.str (handT xs))]) (d := .str (tx " ; ")) (M1 := M ++ [O.lst (ps.map fun xs => D.str (handT xs))]) rfl rfl v1
  refine ms.trans ?_
  have hm : (M ++ [O.lst (ps.map fun xs => .str (handT xs))])[M.length]? = some (.lst (ps.map fun xs => .str (handT xs))) := by simp
  show (match (seqA (M ++ [.lst (ps.map fun xs => .str (handT xs))]) (.ref M.length)).bind allS with
    | some ps => if (ps.map (fun x : T => x.length)).sum + ps.length * (tx " ; ").length ≤ sizeLim then Out.ok (D.str (joinT (tx " ; ") ps)) (M ++ [O.lst (List.map (fun xs => D.str (handT xs)) _)]) else Out.stk
    | none => Out.stk) = _
  have hs : (seqA (M ++ [.lst (ps.map fun xs => .str (handT xs))]) (.ref M.length)).bind allS = some (ps.map handT) := by
    show (match (M ++ [O.lst (ps.map fun xs => .str (handT xs))])[M.length]? with
      | some (.lst xs) => some xs
      | _ => none).bind allS = _
    rw [hm]
    exact allS_map handT ps
  rw [hs]
  refine if_pos ?_
  have h1 := sum_len (ps := ps.map handT) (k := 288) (fun p hp => by
    obtain ⟨x, hx, rfl⟩ := List.mem_map.mp hp
    exact hand_len (h.2.2 x hx))
  have := h.2.1
  simp only [List.length_map] at h1 ⊢
  show _ + ps.length * 3 ≤ 16777216
  omega
/-! ### drawing -/
def Pot (p n : Nat) (M : Mh) : Prop := ∃ a b c : Int, M[p]? = some (.lst [.int a, .int b, .int c]) ∧ 0 ≤ a ∧ 0 ≤ b ∧ b < 2305843009213693951 ∧ 0 ≤ c ∧ c ≤ n
theorem Pot.mono {p n m : Nat} {M : Mh} (h : Pot p n M) (e : n ≤ m) : Pot p m M := by
  obtain ⟨a, b, c, h1, h2, h3, h4, h5, h6⟩ := h
  exact ⟨a, b, c, h1, h2, h3, h4, h5, by omega⟩
theorem Pot.append {p n : Nat} {M g : Mh} (h : Pot p n M) : Pot p n (M ++ g) := by
  obtain ⟨a, b, c, h1, h2⟩ := h
  refine ⟨a, b, c, ?_, h2⟩
  rw [List.getElem?_append_left (List.getElem?_eq_some_iff.mp h1).1]
  exact h1
theorem take_pos (M : Mh) (p : Nat) (a b c many : Int) (h : M[p]? = some (.lst [.int a, .int b, .int c])) (ha : 0 < a) (h1 : 0 < many) (h2 : many < 1073741824) : m__law_take [.ref p, .int many] M = .ok (.int (a % many)) (M.set p (.lst [.int (a / many), .int b, .int c])) := by
  simp [m__law_take, run, startE, sSeq, SO.seq, sIf, sAsg, sRet, sRetN, sDrop, sNil, sRaise, lift, noExc, tVal, tTru, tNot, tOr, tAnd, xVar, xC, xBin, xUn, xCall, xMeth, aNil, aCons, xTup, xLst, xIf, xAnd, xOr, xNot, xChain, oNone, oSome, gVar, gAll, gTup, gSubL, gStar, Out.bind, dBool, seqA, seqT, seqL, seqO, tyOf, dIx, atD, ixAt, dCmp, dAdd, dSub, dMod, dDiv, sizeLim, dEq, dNe, flatOk, res, dep, deps, eqD, eqDs, fLen, fIsi, kindIs, kinds, allTy, setL, h, ha, h1, h2]
theorem pow_ok {i : Int} {j : Nat} (hj : (j : Int) ≤ 1000) (hi : i.natAbs < 18446744073709551616) (M : Mh) : dPow (.int i) (.int (j : Int)) M = .ok (.int (i ^ j)) M := by
  unfold dPow
  dsimp only
  have e : (2 : Nat) ^ 64 = 18446744073709551616 := by decide
  rw [if_pos (by rw [Bool.and_eq_true, Bool.and_eq_true, Bool.or_eq_true, decide_eq_true_eq, decide_eq_true_eq, decide_eq_true_eq]; exact ⟨⟨by omega, hj⟩, .inl (by rw [e]; exact hi)⟩), Int.toNat_natCast]
theorem mul_ok {i j : Int} (hi : -18446744073709551616 < i) (hi2 : i < 18446744073709551616) (M : Mh) : dMul (.int i) (.int j) M = .ok (.int (i * j)) M := by
  unfold dMul
  dsimp only
  have e : (2 : Int) ^ 64 = 18446744073709551616 := by decide
  refine if_pos ?_
  unfold small64
  rw [e, decide_eq_true hi, decide_eq_true hi2]
  rfl
theorem take_zero (M : Mh) (p : Nat) (b c many : Int) (h : M[p]? = some (.lst [.int 0, .int b, .int c])) (hb : 0 ≤ b) (hb2 : b < 2305843009213693951) (hc : 0 ≤ c) (hc2 : c ≤ 200000) (h1 : 0 < many) : ∃ z : Int, m__law_take [.ref p, .int many] M = .ok (.int (z % many)) (M.set p (.lst [.int 0, .int b, .int (c + 1)])) := by
  have hp : p < M.length := (List.getElem?_eq_some_iff.mp h).1
  generalize hM : M.set p (.lst [.int 0, .int b, .int (c + 1)]) = M'
  have h' : M'[p]? = some (.lst [.int 0, .int b, .int (c + 1)]) := by rw [← hM, List.getElem?_set_self hp]
  have m1 : ∀ M, dMul (.int 104729) (.int (c + 1)) M = .ok (.int (104729 * (c + 1))) M := fun M => mul_ok (by decide) (by decide) M
  have m2 : ∀ M, dMul (.int 31) (.int (c + 1)) M = .ok (.int (31 * (c + 1))) M := fun M => mul_ok (by decide) (by decide) M
  have p1 : ∀ M, dPow (.int (b + 104729 * (c + 1))) (.int 3) M = .ok (.int ((b + 104729 * (c + 1)) ^ 3)) M := fun M => pow_ok (j := 3) (by decide) (by omega) M
  generalize ho : (b + 104729 * (c + 1)) ^ 3 % 2305843009213693921 = one
  have o1 : 0 ≤ one := by rw [← ho]; exact Int.emod_nonneg _ (by decide)
  have o2 : one < 2305843009213693921 := by rw [← ho]; exact Int.emod_lt_of_pos _ (by decide)
  have b1 : 0 ≤ b % 65537 := Int.emod_nonneg _ (by decide)
  have b2 : b % 65537 < 65537 := Int.emod_lt_of_pos _ (by decide)
  have p2 : ∀ M, dPow (.int (one + b % 65537 + 31 * (c + 1))) (.int 5) M = .ok (.int ((one + b % 65537 + 31 * (c + 1)) ^ 5)) M := fun M => pow_ok (j := 5) (by decide) (by omega) M
  refine ⟨(one + b % 65537 + 31 * (c + 1)) ^ 5 % 2305843009213693907 / 1024, ?_⟩
  refine run_rt ?_
  show sSeq _ (sSeq _ _) [some (.ref p), some (.int many), none, none, none] M = _
  rw [sSeq_nx (e2 := [some (.ref p), some (.int many), none, none, none]) (M1 := M) (by simp [run, startE, sSeq, SO.seq, sIf, sAsg, sRet, sRetN, sDrop, sNil, sRaise, lift, noExc, tVal, tTru, tNot, tOr, tAnd, xVar, xC, xBin, xUn, xCall, xMeth, aNil, aCons, xTup, xLst, xIf, xAnd, xOr, xNot, xChain, oNone, oSome, gVar, gAll, gTup, gSubL, gStar, Out.bind, dBool, seqA, seqT, seqL, seqO, tyOf, dIx, atD, ixAt, dCmp, dAdd, dSub, dMod, dDiv, sizeLim, dEq, dNe, flatOk, res, dep, deps, eqD, eqDs, fLen, fIsi, kindIs, kinds, allTy, h])]
  rw [sSeq_nx (e2 := [some (.ref p), some (.int many), none, none, none]) (M1 := M') (by simp [run, startE, sSeq, SO.seq, sIf, sAsg, sRet, sRetN, sDrop, sNil, sRaise, lift, noExc, tVal, tTru, tNot, tOr, tAnd, xVar, xC, xBin, xUn, xCall, xMeth, aNil, aCons, xTup, xLst, xIf, xAnd, xOr, xNot, xChain, oNone, oSome, gVar, gAll, gTup, gSubL, gStar, Out.bind, dBool, seqA, seqT, seqL, seqO, tyOf, dIx, atD, ixAt, dCmp, dAdd, dSub, dMod, dDiv, sizeLim, dEq, dNe, flatOk, res, dep, deps, eqD, eqDs, fLen, fIsi, kindIs, kinds, allTy, h, setL, hM])]
  simp [run, startE, sSeq, SO.seq, sIf, sAsg, sRet, sRetN, sDrop, sNil, sRaise, lift, noExc, tVal, tTru, tNot, tOr, tAnd, xVar, xC, xBin, xUn, xCall, xMeth, aNil, aCons, xTup, xLst, xIf, xAnd, xOr, xNot, xChain, oNone, oSome, gVar, gAll, gTup, gSubL, gStar, Out.bind, dBool, seqA, seqT, seqL, seqO, tyOf, dIx, atD, ixAt, dCmp, dAdd, dSub, dMod, dDiv, sizeLim, dEq, dNe, flatOk, res, dep, deps, eqD, eqDs, fLen, fIsi, kindIs, kinds, allTy, h', m1, p1, ho, m2, p2, h1]
theorem take_ok {p n : Nat} {M : Mh} {many : Int} (h : Pot p n M) (hn : n ≤ 100000) (h1 : 0 < many) (h2 : many < 1073741824) : ∃ r M', m__law_take [.ref p, .int many] M = .ok (.int r) M' ∧ 0 ≤ r ∧ r < many ∧ Pot p (n + 1) M' := by
  obtain ⟨a, b, c, k1, k2, k3, k4, k5, k6⟩ := h
  have hp : p < M.length := (List.getElem?_eq_some_iff.mp k1).1
  by_cases q : 0 < a
  · exact ⟨_, _, take_pos M p a b c many k1 q h1 h2, Int.emod_nonneg _ (by omega), Int.emod_lt_of_pos _ h1, a / many, b, c, by rw [List.getElem?_set_self hp], Int.ediv_nonneg k2 (by omega), k3, k4, k5, by omega⟩
  · have : a = 0 := by omega
    subst this
    obtain ⟨z, e⟩ := take_zero M p b c many k1 k3 k4 k5 (by omega) h1
    exact ⟨_, _, e, Int.emod_nonneg _ (by omega), Int.emod_lt_of_pos _ h1, 0, b, c + 1, by rw [List.getElem?_set_self hp], by omega, k3, k4, by omega, by omega⟩
theorem powB : ∃ B : Int, 0 < B ∧ ∀ (e : En) (M : Mh), xBin dPow (xBin dPow (xC (.int 10)) (xC (.int 60))) (xC (.int 10)) e M = .ok (.int B) M := ⟨(10 ^ 60) ^ 10, by decide +kernel, fun e M => by kernel_rfl⟩
theorem pow18 (e : En) (M : Mh) : xBin dPow (xC (.int 10)) (xC (.int 18)) e M = .ok (.int 1000000000000000000) M := by kernel_rfl
theorem pow9 (M : Mh) : dPow (.int 10) (.int 9) M = .ok (.int 1000000000) M := by kernel_rfl
theorem mul_ok2 {i j : Int} (hi : -18446744073709551616 < j) (hi2 : j < 18446744073709551616) (M : Mh) : dMul (.int i) (.int j) M = .ok (.int (i * j)) M := by
  unfold dMul
  dsimp only
  have e : (2 : Int) ^ 64 = 18446744073709551616 := by decide
  refine if_pos ?_
  unfold small64
  rw [e, decide_eq_true hi, decide_eq_true hi2, Bool.and_true, Bool.or_true]
theorem pot_ok (ns : List Int) (k : Nat) (hk : k < 63) (M : Mh) : ∃ o, m__law_pot [.frz (ns.map .int), .int (k : Int)] M = .ok (.ref M.length) (M ++ [o]) ∧ Pot M.length 0 (M ++ [o]) := by
  obtain ⟨B, hB, pB⟩ := powB
  have v0 : ∀ z, xVar 0 [some (.frz (ns.map .int)), some (.int (k : Int)), z] M = .ok (.frz (ns.map .int)) M := fun z => rfl
  have v1 : ∀ z, xVar 1 [some (.frz (ns.map .int)), some (.int (k : Int)), z] M = .ok (.int (k : Int)) M := fun z => rfl
  have hcell : ∃ cell : Int, 0 ≤ cell ∧ sIf (tVal (xBin dLt (xVar 1) (xCall fLen (aCons (xVar 0) aNil)))) (sAsg (xBin dMod (xCall fAbs (aCons (xBin dIx (xVar 0) (xVar 1)) aNil)) (xBin dPow (xBin dPow (xC (.int 10)) (xC (.int 60))) (xC (.int 10)))) (gVar 2)) sNil [some (.frz (ns.map .int)), some (.int (k : Int)), some (.int 0)] M = .nx [some (.frz (ns.map .int)), some (.int (k : Int)), some (.int cell)] M := by
    have lt : tVal (xBin dLt (xVar 1) (xCall fLen (aCons (xVar 0) aNil))) [some (.frz (ns.map .int)), some (.int (k : Int)), some (.int 0)] M = .ok (decide ((k : Int) < ns.length)) M := tVal_ok (by
      rw [xBin_ok (v1 _) (d1 := .int (ns.map D.int).length) (M2 := M) (by rw [xCall1 (v0 _)]; rfl), List.length_map]
      rfl)
    by_cases q : (k : Int) < ns.length
    · rw [decide_eq_true q] at lt
      have hk2 : k < ns.length := by omega
      have ix : xBin dIx (xVar 0) (xVar 1) [some (.frz (ns.map .int)), some (.int (k : Int)), some (.int 0)] M = .ok (.int ns[k]) M := by
        rw [xBin_ok (v0 _) (v1 _)]
        show (match atD (ns.map D.int) (k : Int) with
          | some d => Out.ok d M
          | none => .stk) = _
        have e : atD (ns.map D.int) (k : Int) = some (.int ns[k]) := by
          unfold atD ixAt
          rw [if_pos (by omega), if_pos (by rw [List.length_map]; exact q)]
          simp [hk2]
        rw [e]
      have ab : xCall fAbs (aCons (xBin dIx (xVar 0) (xVar 1)) aNil) [some (.frz (ns.map .int)), some (.int (k : Int)), some (.int 0)] M = .ok (.int (if ns[k] < 0 then -ns[k] else ns[k])) M := by rw [xCall1 ix]; rfl
      refine ⟨(if ns[k] < 0 then -ns[k] else ns[k]) % B, Int.emod_nonneg _ (by omega), ?_⟩
      rw [sIf_t lt, sAsg_var (d := .int ((if ns[k] < 0 then -ns[k] else ns[k]) % B)) (M1 := M)]
      · rfl
      · rw [xBin_ok ab (pB _ _)]
        show (if decide (0 < B) then Out.ok (D.int (_ % B)) M else .stk) = _
        rw [decide_eq_true hB]
        rfl
    · rw [decide_eq_false q] at lt
      refine ⟨0, by omega, ?_⟩
      rw [sIf_f lt]
      rfl
  obtain ⟨cell, hc, he⟩ := hcell
  have v2 : xVar 2 [some (.frz (ns.map .int)), some (.int (k : Int)), some (.int cell)] M = .ok (.int cell) M := rfl
  have A : ∃ a : Int, 0 ≤ a ∧ xBin dMul (xVar 2) (xCall fInt (aCons (xBin dGe (xVar 2) (xBin dPow (xC (.int 10)) (xC (.int 18)))) aNil)) [some (.frz (ns.map .int)), some (.int (k : Int)), some (.int cell)] M = .ok (.int a) M := by
    have g : xBin dGe (xVar 2) (xBin dPow (xC (.int 10)) (xC (.int 18))) [some (.frz (ns.map .int)), some (.int (k : Int)), some (.int cell)] M = .ok (.bl (decide ((1000000000000000000 : Int) ≤ cell))) M := by
      rw [xBin_ok v2 (pow18 _ _)]
      rfl
    have f : xCall fInt (aCons (xBin dGe (xVar 2) (xBin dPow (xC (.int 10)) (xC (.int 18)))) aNil) [some (.frz (ns.map .int)), some (.int (k : Int)), some (.int cell)] M = .ok (.int (if decide ((1000000000000000000 : Int) ≤ cell) = true then 1 else 0)) M := by rw [xCall1 g]; rfl
    refine ⟨cell * (if decide ((1000000000000000000 : Int) ≤ cell) = true then 1 else 0), ?_, ?_⟩
    · split <;> omega
    · rw [xBin_ok v2 f]
      exact mul_ok2 (by split <;> omega) (by split <;> omega) M
  obtain ⟨a, ha, hA⟩ := A
  have Bq : ∃ b : Int, 0 ≤ b ∧ b < 2305843009213693951 ∧ xBin dMod (xBin dPow (xBin dAdd (xBin dAdd (xBin dMod (xVar 2) (xC (.int 2147483629))) (xBin dMul (xC (.int 7919)) (xVar 1))) (xC (.int 1))) (xC (.int 5))) (xC (.int 2305843009213693951)) [some (.frz (ns.map .int)), some (.int (k : Int)), some (.int cell)] M = .ok (.int b) M := by
    have m1 : ∀ M, dMul (.int 7919) (.int (k : Int)) M = .ok (.int (7919 * (k : Int))) M := fun M => mul_ok (by decide) (by decide) M
    have c1 : 0 ≤ cell % 2147483629 := Int.emod_nonneg _ (by decide)
    have c2 : cell % 2147483629 < 2147483629 := Int.emod_lt_of_pos _ (by decide)
    have p1 : ∀ M, dPow (.int (cell % 2147483629 + 7919 * (k : Int) + 1)) (.int 5) M = .ok (.int ((cell % 2147483629 + 7919 * (k : Int) + 1) ^ 5)) M := fun M => pow_ok (j := 5) (by decide) (by omega) M
    refine ⟨(cell % 2147483629 + 7919 * (k : Int) + 1) ^ 5 % 2305843009213693951, Int.emod_nonneg _ (by decide), Int.emod_lt_of_pos _ (by decide), ?_⟩
    simp [run, startE, sSeq, SO.seq, sIf, sAsg, sRet, sRetN, sDrop, sNil, sRaise, lift, noExc, tVal, tTru, tNot, tOr, tAnd, xVar, xC, xBin, xUn, xCall, xMeth, aNil, aCons, xTup, xLst, xIf, xAnd, xOr, xNot, xChain, oNone, oSome, gVar, gAll, gTup, gSubL, gStar, Out.bind, dBool, seqA, seqT, seqL, seqO, tyOf, dIx, atD, ixAt, dCmp, dAdd, dSub, dMod, dDiv, sizeLim, dEq, dNe, flatOk, res, dep, deps, eqD, eqDs, fLen, fIsi, kindIs, kinds, allTy, m1, p1]
  obtain ⟨b, hb1, hb2, hBq⟩ := Bq
  refine ⟨.lst [.int a, .int b, .int 0], ?_, a, b, 0, by simp, ha, hb1, hb2, by omega, by omega⟩
  refine run_rt ?_
  show sSeq _ (sSeq _ _) [some (.frz (ns.map .int)), some (.int (k : Int)), none] M = _
  rw [sSeq_nx (p := sAsg (xC (.int 0)) (gVar 2)) (en := [some (.frz (ns.map .int)), some (.int (k : Int)), none]) (M := M) (e2 := [some (.frz (ns.map .int)), some (.int (k : Int)), some (.int 0)]) (M1 := M) rfl, sSeq_nx he]
  refine sRet_ok ?_
  exact xNew_ok (aCons_ok hA (aCons_ok hBq (aCons_ok (d := .int 0) (M1 := M) rfl rfl))) (by show 3 ≤ 16777216; decide)
abbrev prs (a : Int) : D := .tup [.tup [.int a, .int 0], .tup [.int 1000000000, .int 1]]
theorem four {r : Int} (h : 0 ≤ r) (h2 : r < 4) : r = 0 ∨ r = 1 ∨ r = 2 ∨ r = 3 := by omega
def wmm (x : Int) : Int := if (if 0 < x then x else 0) < 1000000000 then (if 0 < x then x else 0) else 1000000000
theorem wmm_le (x : Int) : 0 ≤ wmm x ∧ wmm x ≤ 1000000000 := by
  unfold wmm
  split <;> split <;> omega
theorem key_ok {p n : Nat} {M : Mh} {a : Int} (h : Pot p n M) (hn : n ≤ 50000) (ha : 0 ≤ a) (ha2 : a < 60) : ∃ (k : Nat) (M' : Mh), m__law_key [.ref p, prs a] M = .ok (.int (k : Int)) M' ∧ k ≤ 1000000000 ∧ Pot p (n + 4) M' := by
  obtain ⟨r1, M1, t1, q1, w1, P1⟩ := take_ok (many := 5) h (by omega) (by decide) (by decide)
  by_cases z : r1 = 0
  · subst z
    obtain ⟨r2, M2, t2, q2, w2, P2⟩ := take_ok (many := 60) P1 (by omega) (by decide) (by decide)
    obtain ⟨r3, M3, t3, q3, w3, P3⟩ := take_ok (many := 1000000001) P2 (by omega) (by decide) (by decide)
    obtain ⟨r4, M4, t4, q4, w4, P4⟩ := take_ok (many := 4) P3 (by omega) (by decide) (by decide)
    rcases four q4 w4 with rfl | rfl | rfl | rfl
    · refine ⟨r2.toNat, M4, ?_, by omega, P4⟩
      rw [Int.toNat_of_nonneg q2]
      simp [m__law_key, run, startE, sSeq, SO.seq, sIf, sAsg, sRet, sRetN, sDrop, sNil, sRaise, lift, noExc, tVal, tTru, tNot, tOr, tAnd, xVar, xC, xBin, xUn, xCall, xMeth, aNil, aCons, xTup, xLst, xIf, xAnd, xOr, xNot, xChain, oNone, oSome, gVar, gAll, gTup, gSubL, gStar, Out.bind, dBool, seqA, seqT, seqL, seqO, tyOf, dIx, atD, ixAt, dCmp, dAdd, dSub, dMod, dDiv, sizeLim, dEq, dNe, flatOk, res, dep, deps, eqD, eqDs, fLen, fIsi, kindIs, kinds, allTy, t1, t2, t3, t4, pow9]
    · refine ⟨r3.toNat, M4, ?_, by omega, P4⟩
      rw [Int.toNat_of_nonneg q3]
      simp [m__law_key, run, startE, sSeq, SO.seq, sIf, sAsg, sRet, sRetN, sDrop, sNil, sRaise, lift, noExc, tVal, tTru, tNot, tOr, tAnd, xVar, xC, xBin, xUn, xCall, xMeth, aNil, aCons, xTup, xLst, xIf, xAnd, xOr, xNot, xChain, oNone, oSome, gVar, gAll, gTup, gSubL, gStar, Out.bind, dBool, seqA, seqT, seqL, seqO, tyOf, dIx, atD, ixAt, dCmp, dAdd, dSub, dMod, dDiv, sizeLim, dEq, dNe, flatOk, res, dep, deps, eqD, eqDs, fLen, fIsi, kindIs, kinds, allTy, t1, t2, t3, t4, pow9]
    · refine ⟨0, M4, ?_, by omega, P4⟩
      simp [m__law_key, run, startE, sSeq, SO.seq, sIf, sAsg, sRet, sRetN, sDrop, sNil, sRaise, lift, noExc, tVal, tTru, tNot, tOr, tAnd, xVar, xC, xBin, xUn, xCall, xMeth, aNil, aCons, xTup, xLst, xIf, xAnd, xOr, xNot, xChain, oNone, oSome, gVar, gAll, gTup, gSubL, gStar, Out.bind, dBool, seqA, seqT, seqL, seqO, tyOf, dIx, atD, ixAt, dCmp, dAdd, dSub, dMod, dDiv, sizeLim, dEq, dNe, flatOk, res, dep, deps, eqD, eqDs, fLen, fIsi, kindIs, kinds, allTy, t1, t2, t3, t4, pow9]
    · refine ⟨1000000000, M4, ?_, by omega, P4⟩
      simp [m__law_key, run, startE, sSeq, SO.seq, sIf, sAsg, sRet, sRetN, sDrop, sNil, sRaise, lift, noExc, tVal, tTru, tNot, tOr, tAnd, xVar, xC, xBin, xUn, xCall, xMeth, aNil, aCons, xTup, xLst, xIf, xAnd, xOr, xNot, xChain, oNone, oSome, gVar, gAll, gTup, gSubL, gStar, Out.bind, dBool, seqA, seqT, seqL, seqO, tyOf, dIx, atD, ixAt, dCmp, dAdd, dSub, dMod, dDiv, sizeLim, dEq, dNe, flatOk, res, dep, deps, eqD, eqDs, fLen, fIsi, kindIs, kinds, allTy, t1, t2, t3, t4, pow9]
  · obtain ⟨r2, M2, t2, q2, w2, P2⟩ := take_ok (many := 2) P1 (by omega) (by decide) (by decide)
    have z2 : r2 = 0 ∨ r2 = 1 := by omega
    have z1 : r1 = 1 ∨ r1 = 2 ∨ r1 = 3 ∨ r1 = 4 := by omega
    have fin : ∀ x : Int, m__law_key [.ref p, prs a] M = .ok (.int (wmm x)) M2 → ∃ (k : Nat) (M' : Mh), m__law_key [.ref p, prs a] M = .ok (.int (k : Int)) M' ∧ k ≤ 1000000000 ∧ Pot p (n + 4) M' := fun x e => by
      obtain ⟨w1, w2⟩ := wmm_le x
      exact ⟨(wmm x).toNat, M2, by rw [Int.toNat_of_nonneg w1]; exact e, by omega, P2.mono (by omega)⟩
    rcases z2 with rfl | rfl <;> rcases z1 with rfl | rfl | rfl | rfl
    · exact fin a (by simp [m__law_key, run, startE, sSeq, SO.seq, sIf, sAsg, sRet, sRetN, sDrop, sNil, sRaise, lift, noExc, tVal, tTru, tNot, tOr, tAnd, xVar, xC, xBin, xUn, xCall, xMeth, aNil, aCons, xTup, xLst, xIf, xAnd, xOr, xNot, xChain, oNone, oSome, gVar, gAll, gTup, gSubL, gStar, Out.bind, dBool, seqA, seqT, seqL, seqO, tyOf, dIx, atD, ixAt, dCmp, dAdd, dSub, dMod, dDiv, sizeLim, dEq, dNe, flatOk, res, dep, deps, eqD, eqDs, fLen, fIsi, kindIs, kinds, allTy, dNeg, t1, t2, pow9, fMin2, fMax2, wmm])
    · exact fin a (by simp [m__law_key, run, startE, sSeq, SO.seq, sIf, sAsg, sRet, sRetN, sDrop, sNil, sRaise, lift, noExc, tVal, tTru, tNot, tOr, tAnd, xVar, xC, xBin, xUn, xCall, xMeth, aNil, aCons, xTup, xLst, xIf, xAnd, xOr, xNot, xChain, oNone, oSome, gVar, gAll, gTup, gSubL, gStar, Out.bind, dBool, seqA, seqT, seqL, seqO, tyOf, dIx, atD, ixAt, dCmp, dAdd, dSub, dMod, dDiv, sizeLim, dEq, dNe, flatOk, res, dep, deps, eqD, eqDs, fLen, fIsi, kindIs, kinds, allTy, dNeg, t1, t2, pow9, fMin2, fMax2, wmm])
    · exact fin (a + 1) (by simp [m__law_key, run, startE, sSeq, SO.seq, sIf, sAsg, sRet, sRetN, sDrop, sNil, sRaise, lift, noExc, tVal, tTru, tNot, tOr, tAnd, xVar, xC, xBin, xUn, xCall, xMeth, aNil, aCons, xTup, xLst, xIf, xAnd, xOr, xNot, xChain, oNone, oSome, gVar, gAll, gTup, gSubL, gStar, Out.bind, dBool, seqA, seqT, seqL, seqO, tyOf, dIx, atD, ixAt, dCmp, dAdd, dSub, dMod, dDiv, sizeLim, dEq, dNe, flatOk, res, dep, deps, eqD, eqDs, fLen, fIsi, kindIs, kinds, allTy, dNeg, t1, t2, pow9, fMin2, fMax2, wmm])
    · exact fin (a + -1) (by simp [m__law_key, run, startE, sSeq, SO.seq, sIf, sAsg, sRet, sRetN, sDrop, sNil, sRaise, lift, noExc, tVal, tTru, tNot, tOr, tAnd, xVar, xC, xBin, xUn, xCall, xMeth, aNil, aCons, xTup, xLst, xIf, xAnd, xOr, xNot, xChain, oNone, oSome, gVar, gAll, gTup, gSubL, gStar, Out.bind, dBool, seqA, seqT, seqL, seqO, tyOf, dIx, atD, ixAt, dCmp, dAdd, dSub, dMod, dDiv, sizeLim, dEq, dNe, flatOk, res, dep, deps, eqD, eqDs, fLen, fIsi, kindIs, kinds, allTy, dNeg, t1, t2, pow9, fMin2, fMax2, wmm])
    · exact fin 1000000000 (by simp [m__law_key, run, startE, sSeq, SO.seq, sIf, sAsg, sRet, sRetN, sDrop, sNil, sRaise, lift, noExc, tVal, tTru, tNot, tOr, tAnd, xVar, xC, xBin, xUn, xCall, xMeth, aNil, aCons, xTup, xLst, xIf, xAnd, xOr, xNot, xChain, oNone, oSome, gVar, gAll, gTup, gSubL, gStar, Out.bind, dBool, seqA, seqT, seqL, seqO, tyOf, dIx, atD, ixAt, dCmp, dAdd, dSub, dMod, dDiv, sizeLim, dEq, dNe, flatOk, res, dep, deps, eqD, eqDs, fLen, fIsi, kindIs, kinds, allTy, dNeg, t1, t2, pow9, fMin2, fMax2, wmm])
    · exact fin 1000000000 (by simp [m__law_key, run, startE, sSeq, SO.seq, sIf, sAsg, sRet, sRetN, sDrop, sNil, sRaise, lift, noExc, tVal, tTru, tNot, tOr, tAnd, xVar, xC, xBin, xUn, xCall, xMeth, aNil, aCons, xTup, xLst, xIf, xAnd, xOr, xNot, xChain, oNone, oSome, gVar, gAll, gTup, gSubL, gStar, Out.bind, dBool, seqA, seqT, seqL, seqO, tyOf, dIx, atD, ixAt, dCmp, dAdd, dSub, dMod, dDiv, sizeLim, dEq, dNe, flatOk, res, dep, deps, eqD, eqDs, fLen, fIsi, kindIs, kinds, allTy, dNeg, t1, t2, pow9, fMin2, fMax2, wmm])
    · exact fin 1000000001 (by simp [m__law_key, run, startE, sSeq, SO.seq, sIf, sAsg, sRet, sRetN, sDrop, sNil, sRaise, lift, noExc, tVal, tTru, tNot, tOr, tAnd, xVar, xC, xBin, xUn, xCall, xMeth, aNil, aCons, xTup, xLst, xIf, xAnd, xOr, xNot, xChain, oNone, oSome, gVar, gAll, gTup, gSubL, gStar, Out.bind, dBool, seqA, seqT, seqL, seqO, tyOf, dIx, atD, ixAt, dCmp, dAdd, dSub, dMod, dDiv, sizeLim, dEq, dNe, flatOk, res, dep, deps, eqD, eqDs, fLen, fIsi, kindIs, kinds, allTy, dNeg, t1, t2, pow9, fMin2, fMax2, wmm])
    · exact fin 999999999 (by simp [m__law_key, run, startE, sSeq, SO.seq, sIf, sAsg, sRet, sRetN, sDrop, sNil, sRaise, lift, noExc, tVal, tTru, tNot, tOr, tAnd, xVar, xC, xBin, xUn, xCall, xMeth, aNil, aCons, xTup, xLst, xIf, xAnd, xOr, xNot, xChain, oNone, oSome, gVar, gAll, gTup, gSubL, gStar, Out.bind, dBool, seqA, seqT, seqL, seqO, tyOf, dIx, atD, ixAt, dCmp, dAdd, dSub, dMod, dDiv, sizeLim, dEq, dNe, flatOk, res, dep, deps, eqD, eqDs, fLen, fIsi, kindIs, kinds, allTy, dNeg, t1, t2, pow9, fMin2, fMax2, wmm])
abbrev kindsD : D := .lst [.str (tx "find"), .str (tx "put"), .str (tx "drop"), .str (tx "span"), .str (tx "walk")]
theorem wn1 : tx "find" ≠ tx "put" := by decide
theorem wn2 : tx "drop" ≠ tx "put" := by decide
theorem wn3 : tx "span" ≠ tx "put" := by decide
theorem wn4 : tx "walk" ≠ tx "put" := by decide
theorem wn5 : tx "find" ≠ tx "span" := by decide
theorem wn6 : tx "drop" ≠ tx "span" := by decide
theorem wn7 : tx "find" ≠ tx "walk" := by decide
theorem wn8 : tx "drop" ≠ tx "walk" := by decide
theorem deed_drawn {p n : Nat} {M : Mh} {a : Int} (h : Pot p n M) (hn : n ≤ 40000) (ha : 0 ≤ a) (ha2 : a < 60) : ∃ (x : Deed) (M' : Mh), m__law_deed [.ref p, prs a, kindsD] M = .ok x.d M' ∧ x.ok ∧ Pot p (n + 9) M' := by
  obtain ⟨r1, M1, t1, q1, w1, P1⟩ := take_ok (many := 5) h (by omega) (by decide) (by decide)
  obtain ⟨k, M2, t2, w2, P2⟩ := key_ok P1 (by omega) ha ha2
  have z1 : r1 = 0 ∨ r1 = 1 ∨ r1 = 2 ∨ r1 = 3 ∨ r1 = 4 := by omega
  rcases z1 with rfl | rfl | rfl | rfl | rfl
  · exact ⟨.find k, M2, by simp [m__law_deed, run, startE, sSeq, SO.seq, sIf, sAsg, sRet, sRetN, sDrop, sNil, sRaise, lift, noExc, tVal, tTru, tNot, tOr, tAnd, xVar, xC, xBin, xUn, xCall, xMeth, aNil, aCons, xTup, xLst, xIf, xAnd, xOr, xNot, xChain, oNone, oSome, gVar, gAll, gTup, gSubL, gStar, Out.bind, dBool, seqA, seqT, seqL, seqO, tyOf, dIx, atD, ixAt, dCmp, dAdd, dSub, dMod, dDiv, sizeLim, dEq, dNe, flatOk, res, dep, deps, eqD, eqDs, fLen, fIsi, kindIs, kinds, allTy, Deed.d, Deed.word, Deed.args, t1, t2, dIn, flatD, wn1], w2, P2.mono (by omega)⟩
  · obtain ⟨r3, M3, t3, q3, w3, P3⟩ := take_ok (many := 5) P2 (by omega) (by decide) (by decide)
    obtain ⟨r4, M4, t4, q4, w4, P4⟩ := take_ok (many := 1000000001) P3 (by omega) (by decide) (by decide)
    obtain ⟨r5, M5, t5, q5, w5, P5⟩ := take_ok (many := 4) P4 (by omega) (by decide) (by decide)
    by_cases z : r5 = 0
    · subst z
      refine ⟨.put k r4.toNat, M5, ?_, ⟨w2, by omega⟩, P5.mono (by omega)⟩
      have e : ((r4.toNat : Nat) : Int) = r4 := Int.toNat_of_nonneg q4
      simp [m__law_deed, run, startE, sSeq, SO.seq, sIf, sAsg, sRet, sRetN, sDrop, sNil, sRaise, lift, noExc, tVal, tTru, tNot, tOr, tAnd, xVar, xC, xBin, xUn, xCall, xMeth, aNil, aCons, xTup, xLst, xIf, xAnd, xOr, xNot, xChain, oNone, oSome, gVar, gAll, gTup, gSubL, gStar, Out.bind, dBool, seqA, seqT, seqL, seqO, tyOf, dIx, atD, ixAt, dCmp, dAdd, dSub, dMod, dDiv, sizeLim, dEq, dNe, flatOk, res, dep, deps, eqD, eqDs, fLen, fIsi, kindIs, kinds, allTy, Deed.d, Deed.word, Deed.args, fInt, t1, t2, t3, t4, t5, pow9, e]
    · refine ⟨.put k r3.toNat, M5, ?_, ⟨w2, by omega⟩, P5.mono (by omega)⟩
      have e : ((r3.toNat : Nat) : Int) = r3 := Int.toNat_of_nonneg q3
      simp [m__law_deed, run, startE, sSeq, SO.seq, sIf, sAsg, sRet, sRetN, sDrop, sNil, sRaise, lift, noExc, tVal, tTru, tNot, tOr, tAnd, xVar, xC, xBin, xUn, xCall, xMeth, aNil, aCons, xTup, xLst, xIf, xAnd, xOr, xNot, xChain, oNone, oSome, gVar, gAll, gTup, gSubL, gStar, Out.bind, dBool, seqA, seqT, seqL, seqO, tyOf, dIx, atD, ixAt, dCmp, dAdd, dSub, dMod, dDiv, sizeLim, dEq, dNe, flatOk, res, dep, deps, eqD, eqDs, fLen, fIsi, kindIs, kinds, allTy, Deed.d, Deed.word, Deed.args, fInt, t1, t2, t3, t4, t5, pow9, e, z]
  · exact ⟨.drop k, M2, by simp [m__law_deed, run, startE, sSeq, SO.seq, sIf, sAsg, sRet, sRetN, sDrop, sNil, sRaise, lift, noExc, tVal, tTru, tNot, tOr, tAnd, xVar, xC, xBin, xUn, xCall, xMeth, aNil, aCons, xTup, xLst, xIf, xAnd, xOr, xNot, xChain, oNone, oSome, gVar, gAll, gTup, gSubL, gStar, Out.bind, dBool, seqA, seqT, seqL, seqO, tyOf, dIx, atD, ixAt, dCmp, dAdd, dSub, dMod, dDiv, sizeLim, dEq, dNe, flatOk, res, dep, deps, eqD, eqDs, fLen, fIsi, kindIs, kinds, allTy, Deed.d, Deed.word, Deed.args, t1, t2, dIn, flatD, wn2], w2, P2.mono (by omega)⟩
  · obtain ⟨r3, M3, t3, q3, w3, P3⟩ := take_ok (many := 4) P2 (by omega) (by decide) (by decide)
    obtain ⟨r4, M4, t4, q4, w4, P4⟩ := take_ok (many := 60) P3 (by omega) (by decide) (by decide)
    obtain ⟨r5, M5, t5, q5, w5, P5⟩ := take_ok (many := 3) P4 (by omega) (by decide) (by decide)
    have fin : ∀ x : Int, 0 ≤ x → m__law_deed [.ref p, prs a, kindsD] M = .ok (.tup [.str (tx "span"), .int (k : Int), .int (if (k : Int) + 1 + x < 1000000001 then (k : Int) + 1 + x else 1000000001)]) M5 → ∃ (x : Deed) (M' : Mh), m__law_deed [.ref p, prs a, kindsD] M = .ok x.d M' ∧ x.ok ∧ Pot p (n + 9) M' := fun x hx e => by
      refine ⟨.span k (if (k : Int) + 1 + x < 1000000001 then (k : Int) + 1 + x else 1000000001).toNat, M5, ?_, ?_, P5.mono (by omega)⟩
      · rw [e]
        simp only [Deed.d, Deed.word, Deed.args, List.map]
        rw [Int.toNat_of_nonneg (by split <;> omega)]
      · refine ⟨w2, ?_, ?_⟩ <;> split <;> omega
    have z5 : r5 = 0 ∨ r5 = 1 ∨ r5 = 2 := by omega
    rcases z5 with rfl | rfl | rfl
    · exact fin r3 q3 (by simp [m__law_deed, run, startE, sSeq, SO.seq, sIf, sAsg, sRet, sRetN, sDrop, sNil, sRaise, lift, noExc, tVal, tTru, tNot, tOr, tAnd, xVar, xC, xBin, xUn, xCall, xMeth, aNil, aCons, xTup, xLst, xIf, xAnd, xOr, xNot, xChain, oNone, oSome, gVar, gAll, gTup, gSubL, gStar, Out.bind, dBool, seqA, seqT, seqL, seqO, tyOf, dIx, atD, ixAt, dCmp, dAdd, dSub, dMod, dDiv, sizeLim, dEq, dNe, flatOk, res, dep, deps, eqD, eqDs, fLen, fIsi, kindIs, kinds, allTy, fMin2, t1, t2, t3, t4, t5, pow9, dIn, flatD, wn3, wn5, wn6])
    · exact fin r4 q4 (by simp [m__law_deed, run, startE, sSeq, SO.seq, sIf, sAsg, sRet, sRetN, sDrop, sNil, sRaise, lift, noExc, tVal, tTru, tNot, tOr, tAnd, xVar, xC, xBin, xUn, xCall, xMeth, aNil, aCons, xTup, xLst, xIf, xAnd, xOr, xNot, xChain, oNone, oSome, gVar, gAll, gTup, gSubL, gStar, Out.bind, dBool, seqA, seqT, seqL, seqO, tyOf, dIx, atD, ixAt, dCmp, dAdd, dSub, dMod, dDiv, sizeLim, dEq, dNe, flatOk, res, dep, deps, eqD, eqDs, fLen, fIsi, kindIs, kinds, allTy, fMin2, t1, t2, t3, t4, t5, pow9, dIn, flatD, wn3, wn5, wn6])
    · exact fin 1000000000 (by decide) (by simp [m__law_deed, run, startE, sSeq, SO.seq, sIf, sAsg, sRet, sRetN, sDrop, sNil, sRaise, lift, noExc, tVal, tTru, tNot, tOr, tAnd, xVar, xC, xBin, xUn, xCall, xMeth, aNil, aCons, xTup, xLst, xIf, xAnd, xOr, xNot, xChain, oNone, oSome, gVar, gAll, gTup, gSubL, gStar, Out.bind, dBool, seqA, seqT, seqL, seqO, tyOf, dIx, atD, ixAt, dCmp, dAdd, dSub, dMod, dDiv, sizeLim, dEq, dNe, flatOk, res, dep, deps, eqD, eqDs, fLen, fIsi, kindIs, kinds, allTy, fMin2, t1, t2, t3, t4, t5, pow9, dIn, flatD, wn3, wn5, wn6])
  · obtain ⟨r3, M3, t3, q3, w3, P3⟩ := take_ok (many := 4) P2 (by omega) (by decide) (by decide)
    obtain ⟨r4, M4, t4, q4, w4, P4⟩ := take_ok (many := 60) P3 (by omega) (by decide) (by decide)
    obtain ⟨r5, M5, t5, q5, w5, P5⟩ := take_ok (many := 3) P4 (by omega) (by decide) (by decide)
    have fin : ∀ x : Int, 0 ≤ x → m__law_deed [.ref p, prs a, kindsD] M = .ok (.tup [.str (tx "walk"), .int (k : Int), .int (if (k : Int) + 1 + x < 1000000001 then (k : Int) + 1 + x else 1000000001)]) M5 → ∃ (x : Deed) (M' : Mh), m__law_deed [.ref p, prs a, kindsD] M = .ok x.d M' ∧ x.ok ∧ Pot p (n + 9) M' := fun x hx e => by
      refine ⟨.walk k (if (k : Int) + 1 + x < 1000000001 then (k : Int) + 1 + x else 1000000001).toNat, M5, ?_, ?_, P5.mono (by omega)⟩
      · rw [e]
        simp only [Deed.d, Deed.word, Deed.args, List.map]
        rw [Int.toNat_of_nonneg (by split <;> omega)]
      · refine ⟨w2, ?_, ?_⟩ <;> split <;> omega
    have z5 : r5 = 0 ∨ r5 = 1 ∨ r5 = 2 := by omega
    rcases z5 with rfl | rfl | rfl
    · exact fin r3 q3 (by simp [m__law_deed, run, startE, sSeq, SO.seq, sIf, sAsg, sRet, sRetN, sDrop, sNil, sRaise, lift, noExc, tVal, tTru, tNot, tOr, tAnd, xVar, xC, xBin, xUn, xCall, xMeth, aNil, aCons, xTup, xLst, xIf, xAnd, xOr, xNot, xChain, oNone, oSome, gVar, gAll, gTup, gSubL, gStar, Out.bind, dBool, seqA, seqT, seqL, seqO, tyOf, dIx, atD, ixAt, dCmp, dAdd, dSub, dMod, dDiv, sizeLim, dEq, dNe, flatOk, res, dep, deps, eqD, eqDs, fLen, fIsi, kindIs, kinds, allTy, fMin2, t1, t2, t3, t4, t5, pow9, dIn, flatD, wn4, wn7, wn8])
    · exact fin r4 q4 (by simp [m__law_deed, run, startE, sSeq, SO.seq, sIf, sAsg, sRet, sRetN, sDrop, sNil, sRaise, lift, noExc, tVal, tTru, tNot, tOr, tAnd, xVar, xC, xBin, xUn, xCall, xMeth, aNil, aCons, xTup, xLst, xIf, xAnd, xOr, xNot, xChain, oNone, oSome, gVar, gAll, gTup, gSubL, gStar, Out.bind, dBool, seqA, seqT, seqL, seqO, tyOf, dIx, atD, ixAt, dCmp, dAdd, dSub, dMod, dDiv, sizeLim, dEq, dNe, flatOk, res, dep, deps, eqD, eqDs, fLen, fIsi, kindIs, kinds, allTy, fMin2, t1, t2, t3, t4, t5, pow9, dIn, flatD, wn4, wn7, wn8])
    · exact fin 1000000000 (by decide) (by simp [m__law_deed, run, startE, sSeq, SO.seq, sIf, sAsg, sRet, sRetN, sDrop, sNil, sRaise, lift, noExc, tVal, tTru, tNot, tOr, tAnd, xVar, xC, xBin, xUn, xCall, xMeth, aNil, aCons, xTup, xLst, xIf, xAnd, xOr, xNot, xChain, oNone, oSome, gVar, gAll, gTup, gSubL, gStar, Out.bind, dBool, seqA, seqT, seqL, seqO, tyOf, dIx, atD, ixAt, dCmp, dAdd, dSub, dMod, dDiv, sizeLim, dEq, dNe, flatOk, res, dep, deps, eqD, eqDs, fLen, fIsi, kindIs, kinds, allTy, fMin2, t1, t2, t3, t4, t5, pow9, dIn, flatD, wn4, wn7, wn8])
theorem rng_in (k : Nat) (hk : k ≤ 1000000) : (decide (-4611686018427387904 ≤ (k : Int)) && decide ((k : Int) < 4611686018427387904)) = true := by
  rw [Bool.and_eq_true, decide_eq_true_eq, decide_eq_true_eq]
  omega
theorem rng_ok {a : ME} {en : En} {M M1 : Mh} {k : Nat} (h : a en M = .ok (.int (k : Int)) M1) (hk : k ≤ 1000000) : iRng1 (aCons a aNil) en M = .ok (.rng 0 k) M1 := by
  have e := rng_in k hk
  simp only [iRng1, aCons, aNil, h, Out.bind, e, if_true, Int.toNat_natCast]
theorem hand_list : ∀ {ys : List D}, (∀ y ∈ ys, ∃ x : Deed, x.ok ∧ y = x.d) → ∃ xs : List Deed, ys = xs.map Deed.d ∧ ∀ x ∈ xs, x.ok
  | [], _ => ⟨[], rfl, fun x hx => by cases hx⟩
  | y :: ys, h => by
    obtain ⟨x, hx, rfl⟩ := h y List.mem_cons_self
    obtain ⟨xs, rfl, k⟩ := hand_list fun z hz => h z (List.mem_cons_of_mem _ hz)
    exact ⟨x :: xs, rfl, fun z hz => (List.mem_cons.mp hz).elim (fun e => e ▸ hx) (k z)⟩
theorem prog_list : ∀ {ys : List D}, (∀ y ∈ ys, ∃ xs : List Deed, HandOk xs ∧ y = hd xs) → ∃ ps : List (List Deed), ys = ps.map hd ∧ ∀ x ∈ ps, HandOk x
  | [], _ => ⟨[], rfl, fun x hx => by cases hx⟩
  | y :: ys, h => by
    obtain ⟨x, hx, rfl⟩ := h y List.mem_cons_self
    obtain ⟨xs, rfl, k⟩ := prog_list fun z hz => h z (List.mem_cons_of_mem _ hz)
    exact ⟨x :: xs, rfl, fun z hz => (List.mem_cons.mp hz).elim (fun e => e ▸ hx) (k z)⟩
theorem programs_drawn {p n hands most : Nat} {M : Mh} {a : Int} (h : Pot p n M) (hn : n ≤ 20000) (ha : 0 ≤ a) (ha2 : a < 60) (h1 : 1 ≤ hands) (h2 : hands ≤ 6) (h3 : most ≤ 8) : ∃ (ps : List (List Deed)) (M' : Mh), m__law_programs [.ref p, prs a, .int (hands : Int), .int (most : Int), kindsD] M = .ok (pd ps) M' ∧ ProgOk ps ∧ Pot p (n + 600) M' := by
  let en : En := [some (.ref p), some (prs a), some (.int (hands : Int)), some (.int (most : Int)), some kindsD, none, none]
  have inner : ∀ (n' : Nat) (e1 : En) (M1 : Mh), n' ≤ 30000 → Pot p n' M1 → e1.length = 7 → e1[0]? = some (some (.ref p)) → e1[1]? = some (some (prs a)) → e1[3]? = some (some (.int (most : Int))) → e1[4]? = some (some kindsD) →
      ∃ (xs : List Deed) (M2 : Mh), xCall fTuple (aCons (xLc (iRng1 (aCons (xCall m__law_take (aCons (xVar 0) (aCons (xBin dAdd (xVar 3) (xC (.int 1))) aNil))) aNil)) (gVar 5) tYes (xCall m__law_deed (aCons (xVar 0) (aCons (xVar 1) (aCons (xVar 4) aNil)))) [5]) aNil) e1 M1 = .ok (hd xs) M2 ∧ HandOk xs ∧ Pot p (n' + 90) M2 := by
    intro n' e1 M1 hn' hP l0 l1 l2 l3 l4
    obtain ⟨r, M2, t, q, w, P⟩ := take_ok (many := (most : Int) + 1) hP (by omega) (by omega) (by omega)
    obtain ⟨c, rfl⟩ : ∃ c : Nat, r = (c : Int) := ⟨r.toNat, (Int.toNat_of_nonneg q).symm⟩
    have src : iRng1 (aCons (xCall m__law_take (aCons (xVar 0) (aCons (xBin dAdd (xVar 3) (xC (.int 1))) aNil))) aNil) e1 M1 = .ok (.rng 0 c) M2 := rng_ok (by
      rw [xCall2 (xVar_ok l1) (e := .int ((most : Int) + 1)) (M2 := M1) (by rw [xBin_ok (xVar_ok l3) rfl]; rfl)]
      exact t) (by omega)
    obtain ⟨ys, M3, k1, k2, k3, k4⟩ := lc_inv (src := .rng 0 c) (g := gVar 5) (x := xCall m__law_deed (aCons (xVar 0) (aCons (xVar 1) (aCons (xVar 4) aNil)))) (e := wipeE e1 [5]) (N := c) (fun i M => Pot p (n' + 1 + 9 * i) M) (fun y => ∃ x : Deed, x.ok ∧ y = x.d) (fun i M hi hI => by
      obtain ⟨x, M', d1, d2, d3⟩ := deed_drawn hI (by omega) ha ha2
      refine ⟨.int (0 + (i : Int)), if_pos hi, (wipeE e1 [5]).set 5 (some (.int (0 + (i : Int)))), rfl, x.d, M', ?_, ⟨x, d2, rfl⟩, d3.mono (by omega)⟩
      have g : ∀ m, m ≠ 5 → ((wipeE e1 [5]).set 5 (some (D.int (0 + (i : Int)))))[m]? = e1[m]? := fun m hm => by
        show ((e1.set 5 none).set 5 (some (D.int (0 + (i : Int)))))[m]? = _
        rw [List.getElem?_set_ne (Ne.symm hm), List.getElem?_set_ne (Ne.symm hm)]
      rw [xCall3 (d := .ref p) (e := prs a) (k := kindsD) (M1 := M) (M2 := M) (M3 := M) (xVar_ok (by rw [g 0 (by decide)]; exact l1)) (xVar_ok (by rw [g 1 (by decide)]; exact l2)) (xVar_ok (by rw [g 4 (by decide)]; exact l4))]
      exact d1) (fun M _ => decide_eq_true (Nat.le_refl _)) c 0 M2 (P.mono (by omega)) (by omega)
    obtain ⟨xs, rfl, hx⟩ := hand_list k3
    have lc : xLc (iRng1 (aCons (xCall m__law_take (aCons (xVar 0) (aCons (xBin dAdd (xVar 3) (xC (.int 1))) aNil))) aNil)) (gVar 5) tYes (xCall m__law_deed (aCons (xVar 0) (aCons (xVar 1) (aCons (xVar 4) aNil)))) [5] e1 M1 = .ok (.lst (xs.map Deed.d)) M3 := by
      unfold xLc
      rw [src]
      show (if c ≤ 1000000 then noExc ((lcFrom (.rng 0 c) (gVar 5) tYes (xCall m__law_deed (aCons (xVar 0) (aCons (xVar 1) (aCons (xVar 4) aNil)))) (wipeE e1 [5]) 0 c M2).bind fun ys M => Out.ok (D.lst ys) M) else Out.stk) = _
      rw [if_pos (by omega), k1]
      rfl
    rw [List.length_map] at k2
    refine ⟨xs, M3, ?_, ⟨by omega, hx⟩, k4.mono (by omega)⟩
    rw [xCall1 lc]
    rfl
  have src : iRng1 (aCons (xVar 2) aNil) en M = .ok (.rng 0 hands) M := rng_ok rfl (by omega)
  obtain ⟨ys, M3, k1, k2, k3, k4⟩ := lc_inv (src := .rng 0 hands) (g := gVar 6) (x := xCall fTuple (aCons (xLc (iRng1 (aCons (xCall m__law_take (aCons (xVar 0) (aCons (xBin dAdd (xVar 3) (xC (.int 1))) aNil))) aNil)) (gVar 5) tYes (xCall m__law_deed (aCons (xVar 0) (aCons (xVar 1) (aCons (xVar 4) aNil)))) [5]) aNil)) (e := wipeE en [6]) (N := hands) (fun i M => Pot p (n + 90 * i) M) (fun y => ∃ xs : List Deed, HandOk xs ∧ y = hd xs) (fun i M hi hI => by
    obtain ⟨xs, M', d1, d2, d3⟩ := inner (n + 90 * i) [some (.ref p), some (prs a), some (.int (hands : Int)), some (.int (most : Int)), some kindsD, none, some (.int (0 + (i : Int)))] M (by omega) hI rfl rfl rfl rfl rfl
    exact ⟨.int (0 + (i : Int)), if_pos hi, _, rfl, hd xs, M', d1, ⟨xs, d2, rfl⟩, d3.mono (by omega)⟩) (fun M _ => decide_eq_true (Nat.le_refl _)) hands 0 M (h.mono (by omega)) (by omega)
  obtain ⟨ps, rfl, hx⟩ := prog_list k3
  rw [List.length_map] at k2
  refine ⟨ps, M3, ?_, ⟨by omega, by omega, hx⟩, k4.mono (by omega)⟩
  refine run_rt (sRet_ok ?_)
  show xCall fTuple (aCons (xLc _ _ _ _ _) aNil) en M = _
  have lc : xLc (iRng1 (aCons (xVar 2) aNil)) (gVar 6) tYes (xCall fTuple (aCons (xLc (iRng1 (aCons (xCall m__law_take (aCons (xVar 0) (aCons (xBin dAdd (xVar 3) (xC (.int 1))) aNil))) aNil)) (gVar 5) tYes (xCall m__law_deed (aCons (xVar 0) (aCons (xVar 1) (aCons (xVar 4) aNil)))) [5]) aNil)) [6] en M = .ok (.lst (ps.map hd)) M3 := by
    unfold xLc
    rw [src]
    show (if hands ≤ 1000000 then noExc ((lcFrom (.rng 0 hands) (gVar 6) tYes (xCall fTuple (aCons (xLc (iRng1 (aCons (xCall m__law_take (aCons (xVar 0) (aCons (xBin dAdd (xVar 3) (xC (.int 1))) aNil))) aNil)) (gVar 5) tYes (xCall m__law_deed (aCons (xVar 0) (aCons (xVar 1) (aCons (xVar 4) aNil)))) [5]) aNil)) (wipeE en [6]) 0 hands M).bind fun ys M => Out.ok (D.lst ys) M) else Out.stk) = _
    rw [if_pos (by omega), k1]
    rfl
  rw [xCall1 lc]
  rfl
/-! ### no programs -/
def V0 (z : D) : Bool := match m_is_deed [z] [] with
  | .ok (.bl b) _ => b
  | _ => false
def DV (z : D) : Prop := ∀ M, m_is_deed [z] M = .ok (.bl (V0 z)) M
theorem dv_of {z : D} {b : Bool} (h : ∀ M, m_is_deed [z] M = .ok (.bl b) M) : DV z ∧ V0 z = b := by
  have e : V0 z = b := by unfold V0; rw [h []]
  exact ⟨fun M => by rw [e]; exact h M, e⟩
abbrev odds : List D := [.non, .int 0, .lst [.str (tx "find"), .int 1], .tup [.str (tx "find")], .tup [.str (tx "find"), .int (-1)], .tup [.str (tx "find"), .bl true], .tup [.str (tx "span"), .int 3, .int 3], .tup [.str (tx "put"), .int 1], .tup [.str (tx "seek"), .int 1], .tup []]
theorem odd_no {d : D} (hd : d ∈ odds) (M : Mh) : m_is_deed [d] M = .ok (.bl false) M := by
  simp only [odds, List.mem_cons, List.not_mem_nil, or_false] at hd
  rcases hd with rfl | rfl | rfl | rfl | rfl | rfl | rfl | rfl | rfl | rfl <;> kernel_rfl
def Bad (v : D) : Prop := ∀ M, m_are_programs [v] M = .ok (.bl false) M
theorem tells_tup {zs : List D} (h : ∀ z ∈ zs, DV z) : Tells V0 (.tup zs) :=
  ⟨⟨"tuple", rfl, by decide, .inr ⟨_, rfl⟩⟩, (fun n z => by cases z), fun l e hl z hz M => by cases e; exact h z hz M⟩
theorem tells_hd {xs : List Deed} (h : HandOk xs) : Tells V0 (hd xs) := tells_tup fun z hz => by
  obtain ⟨x, hx, rfl⟩ := List.mem_map.mp hz
  exact (dv_of fun M => is_deed_ok (h.2 x hx) M).1
theorem tells_other {h : D} {t : String} (h1 : tyOf [] h = some t) (h2 : t ∈ kinds) (h3 : t ≠ "tuple") (h4 : ∀ n, h ≠ .ref n) : Tells V0 h :=
  ⟨⟨t, h1, h2, .inl h3⟩, h4, fun l e => by subst e; cases h1; exact absurd rfl h3⟩
theorem bad_tup {xs : List D} (h : ∀ z ∈ xs, Tells V0 z) (hl : xs.length ≤ 1000) (hb : xs.length < 1 ∨ 6 < xs.length ∨ ∃ z ∈ xs, handV V0 z = false) : Bad (.tup xs) := fun M => by
  rw [are_ok h M hl]
  congr 2
  rcases hb with z | z | ⟨z, hz, e⟩
  · rw [decide_eq_false (by omega)]; rfl
  · rw [decide_eq_false (show ¬ xs.length ≤ 6 by omega), Bool.and_false]; rfl
  · have : xs.all (handV V0) = false := by
      cases q : xs.all (handV V0) with
      | false => rfl
      | true => rw [List.all_eq_true.mp q z hz] at e; cases e
    rw [this, Bool.and_false]
theorem bad_splice {P L R : List D} {d : D} (hP : ∀ z ∈ P, Tells V0 z) (hL : ∀ z ∈ L, z ∈ P) (hR : ∀ z ∈ R, z ∈ P) (l1 : L.length ≤ 6) (l2 : R.length ≤ 6) (hd : Tells V0 d) (hv : handV V0 d = false) : Bad (.tup (L ++ [d] ++ R)) := by
  refine bad_tup (fun z hz => ?_) (by simp only [List.length_append, List.length_singleton]; omega) (.inr (.inr ⟨d, by simp, hv⟩))
  simp only [List.mem_append, List.mem_singleton] at hz
  rcases hz with (hz | rfl) | hz
  · exact hP z (hL z hz)
  · exact hd
  · exact hP z (hR z hz)
theorem splice {en : En} {x : ME} {M : Mh} {P : List D} {t : Nat} {d : D} (h1 : en[1]? = some (some (.tup P))) (h3 : en[3]? = some (some (.int (t : Int)))) (hl : P.length ≤ 6) (hx : x en M = .ok d M) :
    xBin dAdd (xBin dAdd (xCut (xVar 1) oNone (oSome (xVar 3))) (xTup (aCons x aNil))) (xCut (xVar 1) (oSome (xBin dAdd (xVar 3) (xC (.int 1)))) oNone) en M = .ok (.tup (cutD P none (some (t : Int)) ++ [d] ++ cutD P (some ((t : Int) + 1)) none)) M := by
  have a1 := xCut_ok (xVar_ok (M := M) h1) (lo := oNone) (hi := oSome (xVar 3)) (l := none) rfl (oSome_ok (xVar_ok h3))
  have a2 := xCut_ok (xVar_ok (M := M) h1) (lo := oSome (xBin dAdd (xVar 3) (xC (.int 1)))) (hi := oNone) (h := none) (oSome_ok (i := (t : Int) + 1) (by rw [xBin_ok (xVar_ok h3) rfl]; rfl)) rfl
  have b1 : (cutD P none (some (t : Int))).length ≤ 6 := Nat.le_trans cutD_len hl
  have b2 : (cutD P (some ((t : Int) + 1)) none).length ≤ 6 := Nat.le_trans cutD_len hl
  have a3 : xTup (aCons x aNil) en M = .ok (.tup [d]) M := xTup_ok (aCons_ok hx rfl) (by show 1 ≤ 16777216; decide)
  have a4 : xBin dAdd (xCut (xVar 1) oNone (oSome (xVar 3))) (xTup (aCons x aNil)) en M = .ok (.tup (cutD P none (some (t : Int)) ++ [d])) M := by
    rw [xBin_ok a1 a3, dAdd_tup (by simp only [List.length_singleton]; omega)]
  rw [xBin_ok a4 a2, dAdd_tup (by simp only [List.length_append, List.length_singleton]; omega)]
theorem no_programs {p n : Nat} {M : Mh} {ps : List (List Deed)} (h : Pot p n M) (hn : n ≤ 50000) (hp : ProgOk ps) : ∃ (v : D) (M' : Mh), m__law_no_programs [.ref p, pd ps] M = .ok v M' ∧ Bad v ∧ Pot p (n + 3) M' := by
  obtain ⟨g1, g2, g3⟩ := hp
  obtain ⟨r1, M1, t1, q1, w1, P1⟩ := take_ok (many := (ps.length : Int)) h (by omega) (by omega) (by omega)
  obtain ⟨t, rfl⟩ : ∃ c : Nat, r1 = (c : Int) := ⟨r1.toNat, (Int.toNat_of_nonneg q1).symm⟩
  obtain ⟨r2, M2, t2, q2, w2, P2⟩ := take_ok (many := 10) P1 (by omega) (by decide) (by decide)
  obtain ⟨o, rfl⟩ : ∃ c : Nat, r2 = (c : Int) := ⟨r2.toNat, (Int.toNat_of_nonneg q2).symm⟩
  obtain ⟨r3, M3, t3, q3, w3, P3⟩ := take_ok (many := 13) P2 (by omega) (by decide) (by decide)
  have ht : t < ps.length := by omega
  have ht2 : t < (ps.map hd).length := by rw [List.length_map]; exact ht
  have ho : o < odds.length := by show o < 10; omega
  have hl : (ps.map hd).length ≤ 6 := by rw [List.length_map]; exact g2
  have hh := g3 ps[t] (List.getElem_mem ht)
  generalize hde : cutD (ps[t].map Deed.d) none (some 7) ++ [odds[o]] = deeds
  have c7 : (cutD (ps[t].map Deed.d) none (some 7)).length ≤ 8 := Nat.le_trans cutD_len (by rw [List.length_map]; exact hh.1)
  -- the deeds
  have ix : ∀ (e : En) (M : Mh), e[1]? = some (some (pd ps)) → e[3]? = some (some (.int (t : Int))) → xBin dIx (xVar 1) (xVar 3) e M = .ok (hd ps[t]) M := fun e M e1 e3 => by
    rw [xBin_ok (xVar_ok e1) (xVar_ok e3)]
    show dIx (.tup (ps.map hd)) (.int (t : Int)) M = _
    rw [dIx_tup ht2, List.getElem_map]
  have s3 : xBin dAdd (xCut (xBin dIx (xVar 1) (xVar 3)) oNone (oSome (xC (.int 7)))) (xTup (aCons (xBin dIx (xVar 2) (xCall m__law_take (aCons (xVar 0) (aCons (xC (.int 10)) aNil)))) aNil)) [some (.ref p), some (pd ps), some (.lst odds), some (.int (t : Int)), none, none] M1 = .ok (.tup deeds) M2 := by
    have a1 := xCut_ok (a := xBin dIx (xVar 1) (xVar 3)) (en := [some (.ref p), some (pd ps), some (.lst odds), some (.int (t : Int)), none, none]) (M := M1) (lo := oNone) (hi := oSome (xC (.int 7))) (l := none) (h := some 7) (xs := ps[t].map Deed.d) (ix _ _ rfl rfl) rfl rfl
    have a2 : xBin dIx (xVar 2) (xCall m__law_take (aCons (xVar 0) (aCons (xC (.int 10)) aNil))) [some (.ref p), some (pd ps), some (.lst odds), some (.int (t : Int)), none, none] M1 = .ok odds[o] M2 := by
      rw [xBin_ok (d := .lst odds) (M1 := M1) rfl (by rw [xCall2 (d := .ref p) (e := .int 10) (M1 := M1) (M2 := M1) rfl rfl]; exact t2)]
      exact dIx_lst ho
    rw [xBin_ok a1 (xTup_ok (aCons_ok a2 rfl) (by show 1 ≤ 16777216; decide)), dAdd_tup (by simp only [List.length_singleton]; omega), hde]
  let en : En := [some (.ref p), some (pd ps), some (.lst odds), some (.int (t : Int)), some (.tup deeds), none]
  have sp : ∀ (e : En) (x : ME) (d : D), e[1]? = some (some (pd ps)) → e[3]? = some (some (.int (t : Int))) → x e M2 = .ok d M2 → xBin dAdd (xBin dAdd (xCut (xVar 1) oNone (oSome (xVar 3))) (xTup (aCons x aNil))) (xCut (xVar 1) (oSome (xBin dAdd (xVar 3) (xC (.int 1)))) oNone) e M2 = .ok (.tup (cutD (ps.map hd) none (some (t : Int)) ++ [d] ++ cutD (ps.map hd) (some ((t : Int) + 1)) none)) M2 := fun e x d e1 e3 hx => splice (en := e) (P := ps.map hd) (t := t) e1 e3 hl hx
  generalize hL : cutD (ps.map hd) none (some (t : Int)) = L at sp
  generalize hR : cutD (ps.map hd) (some ((t : Int) + 1)) none = R at sp
  have sA := sp en (xVar 4) (.tup deeds) rfl rfl rfl
  have sB := sp en (xCall fList (aCons (xBin dIx (xVar 1) (xVar 3)) aNil)) (.lst (ps[t].map Deed.d)) rfl rfl (by rw [xCall1 (ix en M2 rfl rfl)]; rfl)
  let l11 : List D := [.tup (L ++ [.tup deeds] ++ R), .tup (L ++ [.lst (ps[t].map Deed.d)] ++ R), .tup (L ++ [.tup (List.replicate 9 [D.tup [.str (tx "drop"), .int 1]]).flatten] ++ R), .tup (List.replicate 7 [D.tup []]).flatten, .tup [], .non, .lst (ps.map hd), .str (tx "-"), .tup (ps.map hd ++ [.non]), .emp, .tup [.str (tx "find"), .int 1]]
  have hP : ∀ z ∈ ps.map hd, Tells V0 z := fun z hz => by
    obtain ⟨x, hx, rfl⟩ := List.mem_map.mp hz
    exact tells_hd (g3 x hx)
  have mL : ∀ z ∈ L, z ∈ ps.map hd := fun z hz => cutD_mem (by rw [hL]; exact hz)
  have mR : ∀ z ∈ R, z ∈ ps.map hd := fun z hz => cutD_mem (by rw [hR]; exact hz)
  have lL : L.length ≤ 6 := by rw [← hL]; exact Nat.le_trans cutD_len hl
  have lR : R.length ≤ 6 := by rw [← hR]; exact Nat.le_trans cutD_len hl
  have odv := dv_of (odd_no (List.getElem_mem ho))
  have tD : Tells V0 (.tup deeds) := tells_tup fun z hz => by
    rw [← hde] at hz
    rcases List.mem_append.mp hz with hz | hz
    · obtain ⟨x, hx, rfl⟩ := List.mem_map.mp (cutD_mem hz)
      exact (dv_of fun M => is_deed_ok (hh.2 x hx) M).1
    · rw [List.mem_singleton.mp hz]
      exact odv.1
  have vD : handV V0 (.tup deeds) = false := by
    show (decide (deeds.length ≤ 8) && deeds.all V0) = false
    have : deeds.all V0 = false := by
      cases q : deeds.all V0 with
      | false => rfl
      | true =>
        have := List.all_eq_true.mp q odds[o] (by rw [← hde]; simp)
        rw [odv.2] at this
        cases this
    rw [this, Bool.and_false]
  have bad : ∀ v ∈ l11, Bad v := by
    intro v hv
    simp only [l11, List.mem_cons, List.not_mem_nil, or_false] at hv
    rcases hv with rfl | rfl | rfl | rfl | rfl | rfl | rfl | rfl | rfl | rfl | rfl
    · exact bad_splice hP mL mR lL lR tD vD
    · exact bad_splice hP mL mR lL lR (tells_other rfl (by decide) (by decide) (fun n z => by cases z)) rfl
    · refine bad_splice hP mL mR lL lR ⟨⟨"tuple", rfl, by decide, .inr ⟨_, rfl⟩⟩, (fun n z => by cases z), fun l e hl => ?_⟩ rfl
      cases e
      simp at hl
    · refine bad_tup (fun z hz => ?_) (by decide) (.inr (.inl (by decide)))
      have e : z = .tup [] := by simpa using hz
      rw [e]
      exact tells_tup fun z hz => by cases hz
    · exact bad_tup (fun z hz => by cases hz) (by decide) (.inl (by decide))
    · intro M; kernel_rfl
    · intro M; kernel_rfl
    · intro M; kernel_rfl
    · refine bad_tup (fun z hz => ?_) (by simp only [List.length_append, List.length_singleton]; omega) (.inr (.inr ⟨.non, by simp, rfl⟩))
      rcases List.mem_append.mp hz with hz | hz
      · exact hP z hz
      · rw [List.mem_singleton.mp hz]
        exact tells_other rfl (by decide) (by decide) (fun n z => by cases z)
    · intro M; kernel_rfl
    · refine bad_tup (fun z hz => ?_) (by decide) (.inr (.inr ⟨.int 1, by simp, rfl⟩))
      simp only [List.mem_cons, List.not_mem_nil, or_false] at hz
      rcases hz with rfl | rfl
      · exact tells_other rfl (by decide) (by decide) (fun n z => by cases z)
      · exact tells_other rfl (by decide) (by decide) (fun n z => by cases z)
  -- the last step
  obtain ⟨j, hj, hj2⟩ : ∃ j : Nat, j < 11 ∧ dIx (.lst [.int 0, .int 0, .int 0, .int 1, .int 2, .int 3, .int 4, .int 5, .int 6, .int 7, .int 8, .int 9, .int 10]) (.int r3) M3 = .ok (.int (j : Int)) M3 := by
    have z : r3 = 0 ∨ r3 = 1 ∨ r3 = 2 ∨ r3 = 3 ∨ r3 = 4 ∨ r3 = 5 ∨ r3 = 6 ∨ r3 = 7 ∨ r3 = 8 ∨ r3 = 9 ∨ r3 = 10 ∨ r3 = 11 ∨ r3 = 12 := by omega
    rcases z with rfl | rfl | rfl | rfl | rfl | rfl | rfl | rfl | rfl | rfl | rfl | rfl | rfl
    · exact ⟨0, by decide, rfl⟩
    · exact ⟨0, by decide, rfl⟩
    · exact ⟨0, by decide, rfl⟩
    · exact ⟨1, by decide, rfl⟩
    · exact ⟨2, by decide, rfl⟩
    · exact ⟨3, by decide, rfl⟩
    · exact ⟨4, by decide, rfl⟩
    · exact ⟨5, by decide, rfl⟩
    · exact ⟨6, by decide, rfl⟩
    · exact ⟨7, by decide, rfl⟩
    · exact ⟨8, by decide, rfl⟩
    · exact ⟨9, by decide, rfl⟩
    · exact ⟨10, by decide, rfl⟩
  have hj3 : j < l11.length := hj
  refine ⟨l11[j], M3, ?_, bad _ (List.getElem_mem hj3), P3.mono (by omega)⟩
  refine run_rt ?_
  show sSeq _ (sSeq _ (sSeq _ (sSeq _ (sSeq _ _)))) [some (.ref p), some (pd ps), none, none, none, none] M = _
  rw [sSeq_nx (sAsg_var (d := .lst odds) (M1 := M) rfl)]
  show sSeq _ (sSeq _ (sSeq _ (sSeq _ _))) [some (.ref p), some (pd ps), some (.lst odds), none, none, none] M = _
  rw [sSeq_nx (sAsg_var (d := .int (t : Int)) (M1 := M1) (by
    rw [xCall2 (d := .ref p) (e := .int (ps.length : Int)) (M1 := M) (M2 := M) rfl (by
      rw [xCall1 (d := pd ps) (M1 := M) rfl]
      show Out.ok (D.int ((ps.map hd).length : Int)) M = _
      rw [List.length_map])]
    exact t1))]
  show sSeq _ (sSeq _ (sSeq _ _)) [some (.ref p), some (pd ps), some (.lst odds), some (.int (t : Int)), none, none] M1 = _
  rw [sSeq_nx (sAsg_var s3)]
  show sSeq _ (sSeq _ _) en M2 = _
  rw [sSeq_nx (sAsg_var (d := .lst [.tup (L ++ [.tup deeds] ++ R), .tup (L ++ [.lst (ps[t].map Deed.d)] ++ R)]) (M1 := M2) (xLst_ok (aCons_ok sA (aCons_ok sB rfl)) (by show 2 ≤ 16777216; decide)))]
  generalize hAB : [D.tup (L ++ [.tup deeds] ++ R), .tup (L ++ [.lst (ps[t].map Deed.d)] ++ R)] = AB
  let en5 : En := [some (.ref p), some (pd ps), some (.lst odds), some (.int (t : Int)), some (.tup deeds), some (.lst AB)]
  show sSeq _ _ en5 M2 = _
  have sC := sp en5 (xBin dMul (xTup (aCons (xTup (aCons (xC (.str (tx "drop"))) (aCons (xC (.int 1)) aNil))) aNil)) (xC (.int 9))) (.tup (List.replicate 9 [D.tup [.str (tx "drop"), .int 1]]).flatten) rfl rfl rfl
  have l6 : xLst (aCons (xBin dAdd (xBin dAdd (xCut (xVar 1) oNone (oSome (xVar 3))) (xTup (aCons (xBin dMul (xTup (aCons (xTup (aCons (xC (.str (tx "drop"))) (aCons (xC (.int 1)) aNil))) aNil)) (xC (.int 9))) aNil))) (xCut (xVar 1) (oSome (xBin dAdd (xVar 3) (xC (.int 1)))) oNone)) (aCons (xBin dMul (xTup (aCons (xTup aNil) aNil)) (xC (.int 7))) (aCons (xTup aNil) (aCons (xC .non) (aCons (xCall fList (aCons (xVar 1) aNil)) (aCons (xC (.str (tx "-"))) aNil)))))) en5 M2 = .ok (.lst [.tup (L ++ [.tup (List.replicate 9 [D.tup [.str (tx "drop"), .int 1]]).flatten] ++ R), .tup (List.replicate 7 [D.tup []]).flatten, .tup [], .non, .lst (ps.map hd), .str (tx "-")]) M2 :=
    xLst_ok (aCons_ok sC (aCons_ok (d := .tup (List.replicate 7 [D.tup []]).flatten) (M1 := M2) rfl (aCons_ok (d := .tup []) (M1 := M2) rfl (aCons_ok (d := .non) (M1 := M2) rfl (aCons_ok (d := .lst (ps.map hd)) (M1 := M2) rfl (aCons_ok (d := .str (tx "-")) (M1 := M2) rfl rfl)))))) (by show 6 ≤ 16777216; decide)
  have v5 : xVar 5 en5 M2 = .ok (.lst AB) M2 := rfl
  have hab : AB.length = 2 := by rw [← hAB]; rfl
  generalize hC6 : [D.tup (L ++ [.tup (List.replicate 9 [D.tup [.str (tx "drop"), .int 1]]).flatten] ++ R), .tup (List.replicate 7 [D.tup []]).flatten, .tup [], .non, .lst (ps.map hd), .str (tx "-")] = C6 at l6
  have hc6 : C6.length = 6 := by rw [← hC6]; rfl
  have dA : ∀ (a b : List D) (M : Mh), a.length + b.length ≤ 16777216 → dAdd (.lst a) (.lst b) M = .ok (.lst (a ++ b)) M := fun a b M h => if_pos h
  rw [sSeq_nx (sAsg_var (d := .lst (AB ++ C6)) (M1 := M2) (by rw [xBin_ok v5 l6, dA _ _ _ (by omega)]))]
  let en6 : En := [some (.ref p), some (pd ps), some (.lst odds), some (.int (t : Int)), some (.tup deeds), some (.lst (AB ++ C6))]
  show sRet _ en6 M2 = _
  refine sRet_ok ?_
  have v6 : xVar 5 en6 M2 = .ok (.lst (AB ++ C6)) M2 := rfl
  have l3 : xLst (aCons (xBin dAdd (xVar 1) (xTup (aCons (xC .non) aNil))) (aCons xEmp (aCons (xTup (aCons (xC (.str (tx "find"))) (aCons (xC (.int 1)) aNil))) aNil))) en6 M2 = .ok (.lst [.tup (ps.map hd ++ [.non]), .emp, .tup [.str (tx "find"), .int 1]]) M2 :=
    xLst_ok (aCons_ok (d := .tup (ps.map hd ++ [.non])) (M1 := M2) (by
      rw [xBin_ok (d := pd ps) (d1 := .tup [.non]) (M1 := M2) (M2 := M2) rfl rfl]
      exact dAdd_tup (by simp only [List.length_singleton]; omega)) (aCons_ok (d := .emp) (M1 := M2) rfl (aCons_ok (d := .tup [.str (tx "find"), .int 1]) (M1 := M2) rfl rfl))) (by show 3 ≤ 16777216; decide)
  have l11e : xBin dAdd (xVar 5) (xLst (aCons (xBin dAdd (xVar 1) (xTup (aCons (xC .non) aNil))) (aCons xEmp (aCons (xTup (aCons (xC (.str (tx "find"))) (aCons (xC (.int 1)) aNil))) aNil)))) en6 M2 = .ok (.lst l11) M2 := by
    rw [xBin_ok v6 l3, dA _ _ _ (by simp only [List.length_append, List.length_cons, List.length_nil]; omega)]
    rw [← hAB, ← hC6]
    rfl
  have ixe : xBin dIx (xLst (aCons (xC (.int 0)) (aCons (xC (.int 0)) (aCons (xC (.int 0)) (aCons (xC (.int 1)) (aCons (xC (.int 2)) (aCons (xC (.int 3)) (aCons (xC (.int 4)) (aCons (xC (.int 5)) (aCons (xC (.int 6)) (aCons (xC (.int 7)) (aCons (xC (.int 8)) (aCons (xC (.int 9)) (aCons (xC (.int 10)) aNil)))))))))))))) (xCall m__law_take (aCons (xVar 0) (aCons (xC (.int 13)) aNil))) en6 M2 = .ok (.int (j : Int)) M3 := by
    rw [xBin_ok (d := .lst [.int 0, .int 0, .int 0, .int 1, .int 2, .int 3, .int 4, .int 5, .int 6, .int 7, .int 8, .int 9, .int 10]) (M1 := M2) rfl (by rw [xCall2 (d := .ref p) (e := .int 13) (M1 := M2) (M2 := M2) rfl rfl]; exact t3)]
    exact hj2
  rw [xBin_ok l11e ixe]
  exact dIx_lst hj3
/-! ### the law -/
theorem asked_ok {v : D} (h : Bad v) (M : Mh) : m__law_asked [v] M = .ok (.str (tx "programs")) M := by
  refine run_rt ?_
  show sSeq (sTry1 _ 1 lawFw) _ [some v, none] M = _
  refine sSeq_rt ?_
  have e : xCall m_programs_text (aCons (xVar 0) aNil) [some v, none] M = .exc ⟨"NoPrograms", none⟩ M := by
    rw [xCall1 (d := v) (M1 := M) rfl]
    exact text_no (h M)
  unfold sTry1
  rw [e]
  rfl
theorem prog_hand : progT [[.put 1 0, .walk 0 1000000001], [], [.find 12]] = tx "put 1 0 , walk 0 1000000001 ; - ; find 12" := by decide +kernel
theorem prog_one : progT [[]] = tx "-" := by decide +kernel
theorem prog_two : progT [[], []] = tx "- ; -" := by decide +kernel
theorem hand_nil : HandOk [] := ⟨by decide, fun x hx => by cases hx⟩
abbrev bodyLaw : MS := (sSeq (sAsg (xCall m__law_pot (aCons (xVar 0) (aCons (xVar 2) aNil))) (gVar 3)) (sSeq (sAsg (xTup (aCons (xTup (aCons (xCall m__law_take (aCons (xVar 3) (aCons (xC (.int 60)) aNil))) (aCons (xC (.int 0)) aNil))) (aCons (xTup (aCons (xBin dPow (xC (.int 10)) (xC (.int 9))) (aCons (xC (.int 1)) aNil))) aNil))) (gVar 4)) (sSeq (sAsg (xCall m__law_programs (aCons (xVar 3) (aCons (xVar 4) (aCons (xBin dAdd (xC (.int 1)) (xCall m__law_take (aCons (xVar 3) (aCons (xC (.int 6)) aNil)))) (aCons (xBin dIx (xLst (aCons (xC (.int 8)) (aCons (xC (.int 2)) aNil))) (xCall m__law_take (aCons (xVar 3) (aCons (xC (.int 2)) aNil)))) (aCons (xVar 1) aNil)))))) (gVar 5)) (sSeq (sAsg (xCall m__law_programs_text (aCons (xVar 5) aNil)) (gVar 6)) (sSeq (sIf (tOr (tNot (tVal (xCall (m__law_same 4) (aCons (xCall m_programs_text (aCons (xVar 5) aNil)) (aCons (xVar 6) aNil))))) (tNot (tVal (xCall (m__law_same 4) (aCons (xCall m_read_programs (aCons (xVar 6) aNil)) (aCons (xVar 5) aNil)))))) (sRet (xC (.bl false))) sNil) (sIf (tVal (xBin dNe (xCall m__law_asked (aCons (xCall m__law_no_programs (aCons (xVar 3) (aCons (xVar 5) aNil))) aNil)) (xC (.str (tx "programs"))))) (sRet (xC (.bl false))) sNil))))))
theorem body_law (ns : List Int) (i : Nat) (hi : i < 63) (x3 x4 x5 x6 x7 : Option D) (M : Mh) : ∃ y3 y4 y5 y6 y7 M', bodyLaw [some (.frz (ns.map .int)), some kindsD, some (.int (i : Int)), x3, x4, x5, x6, x7] M = .nx [some (.frz (ns.map .int)), some kindsD, some (.int (i : Int)), y3, y4, y5, y6, y7] M' := by
  obtain ⟨o, t1, P1⟩ := pot_ok ns i hi M
  generalize M ++ [o] = M1 at t1 P1
  generalize M.length = p at t1 P1
  obtain ⟨a, M2, t2, q2, w2, P2⟩ := take_ok (many := 60) P1 (by omega) (by decide) (by decide)
  obtain ⟨h, M3, t3, q3, w3, P3⟩ := take_ok (many := 6) P2 (by omega) (by decide) (by decide)
  obtain ⟨m, M4, t4, q4, w4, P4⟩ := take_ok (many := 2) P3 (by omega) (by decide) (by decide)
  have hm : ∃ most : Nat, most ≤ 8 ∧ dIx (.lst [.int 8, .int 2]) (.int m) M4 = .ok (.int (most : Int)) M4 := by
    have z : m = 0 ∨ m = 1 := by omega
    rcases z with rfl | rfl
    · exact ⟨8, by decide, rfl⟩
    · exact ⟨2, by decide, rfl⟩
  obtain ⟨most, m1, m2⟩ := hm
  obtain ⟨ps, M5, t5, g5, P5⟩ := programs_drawn (hands := h.toNat + 1) P4 (by omega) q2 w2 (by omega) (by omega) m1
  have eh : (1 : Int) + h = ((h.toNat + 1 : Nat) : Int) := by omega
  have t6 := own_text g5 M5
  have P6 : Pot p _ (M5 ++ [O.lst (ps.map fun xs => D.str (handT xs))]) := P5.append
  generalize M5 ++ [O.lst (ps.map fun xs => D.str (handT xs))] = M6 at t6 P6
  obtain ⟨v, M7, t7, b7, P7⟩ := no_programs P6 (by omega) g5
  refine ⟨some (.ref p), some (prs a), some (pd ps), some (.str (progT ps)), x7, M7, ?_⟩
  have e1 : xCall m__law_pot (aCons (xVar 0) (aCons (xVar 2) aNil)) [some (.frz (ns.map .int)), some kindsD, some (.int (i : Int)), x3, x4, x5, x6, x7] M = .ok (.ref p) M1 := by
    rw [xCall2 (d := .frz (ns.map .int)) (e := .int (i : Int)) (M1 := M) (M2 := M) rfl rfl]
    exact t1
  show sSeq _ (sSeq _ (sSeq _ (sSeq _ (sSeq _ _)))) _ M = _
  rw [sSeq_nx (sAsg_var e1)]
  show sSeq _ (sSeq _ (sSeq _ (sSeq _ _))) [some (.frz (ns.map .int)), some kindsD, some (.int (i : Int)), some (.ref p), x4, x5, x6, x7] M1 = _
  have e2 : xTup (aCons (xTup (aCons (xCall m__law_take (aCons (xVar 3) (aCons (xC (.int 60)) aNil))) (aCons (xC (.int 0)) aNil))) (aCons (xTup (aCons (xBin dPow (xC (.int 10)) (xC (.int 9))) (aCons (xC (.int 1)) aNil))) aNil)) [some (.frz (ns.map .int)), some kindsD, some (.int (i : Int)), some (.ref p), x4, x5, x6, x7] M1 = .ok (prs a) M2 := by
    refine xTup_ok (aCons_ok (M1 := M2) (xTup_ok (ds := [.int a, .int 0]) (aCons_ok (M1 := M2) ?_ rfl) (by show 2 ≤ 16777216; decide)) (aCons_ok (M1 := M2) (xTup_ok (ds := [.int 1000000000, .int 1]) (aCons_ok (M1 := M2) ?_ rfl) (by show 2 ≤ 16777216; decide)) rfl)) (by show 2 ≤ 16777216; decide)
    · rw [xCall2 (d := .ref p) (e := .int 60) (M1 := M1) (M2 := M1) rfl rfl]
      exact t2
    · rw [xBin_ok (d := .int 10) (d1 := .int 9) (M1 := M2) (M2 := M2) rfl rfl]
      exact pow9 M2
  rw [sSeq_nx (sAsg_var e2)]
  show sSeq _ (sSeq _ (sSeq _ _)) [some (.frz (ns.map .int)), some kindsD, some (.int (i : Int)), some (.ref p), some (prs a), x5, x6, x7] M2 = _
  have e3 : xCall m__law_programs (aCons (xVar 3) (aCons (xVar 4) (aCons (xBin dAdd (xC (.int 1)) (xCall m__law_take (aCons (xVar 3) (aCons (xC (.int 6)) aNil)))) (aCons (xBin dIx (xLst (aCons (xC (.int 8)) (aCons (xC (.int 2)) aNil))) (xCall m__law_take (aCons (xVar 3) (aCons (xC (.int 2)) aNil)))) (aCons (xVar 1) aNil))))) [some (.frz (ns.map .int)), some kindsD, some (.int (i : Int)), some (.ref p), some (prs a), x5, x6, x7] M2 = .ok (pd ps) M5 := by
    rw [xCall_ok (ds := [.ref p, prs a, .int ((h.toNat + 1 : Nat) : Int), .int (most : Int), kindsD]) (M1 := M4) (aCons_ok (M1 := M2) rfl (aCons_ok (M1 := M2) rfl (aCons_ok (M1 := M3) ?_ (aCons_ok (M1 := M4) ?_ (aCons_ok (M1 := M4) rfl rfl)))))]
    · exact t5
    · rw [xBin_ok (d := .int 1) (d1 := .int h) (M1 := M2) (M2 := M3) rfl (by
        rw [xCall2 (d := .ref p) (e := .int 6) (M1 := M2) (M2 := M2) rfl rfl]
        exact t3)]
      show Out.ok (D.int (1 + h)) M3 = _
      rw [eh]
    · rw [xBin_ok (d := .lst [.int 8, .int 2]) (d1 := .int m) (M1 := M3) (M2 := M4) rfl (by
        rw [xCall2 (d := .ref p) (e := .int 2) (M1 := M3) (M2 := M3) rfl rfl]
        exact t4)]
      exact m2
  rw [sSeq_nx (sAsg_var e3)]
  show sSeq _ (sSeq _ _) [some (.frz (ns.map .int)), some kindsD, some (.int (i : Int)), some (.ref p), some (prs a), some (pd ps), x6, x7] M5 = _
  rw [sSeq_nx (sAsg_var (d := .str (progT ps)) (M1 := M6) (by rw [xCall1 (d := pd ps) (M1 := M5) rfl]; exact t6))]
  show sSeq _ _ [some (.frz (ns.map .int)), some kindsD, some (.int (i : Int)), some (.ref p), some (prs a), some (pd ps), some (.str (progT ps)), x7] M6 = _
  generalize hen : ([some (.frz (ns.map .int)), some kindsD, some (.int (i : Int)), some (.ref p), some (prs a), some (pd ps), some (.str (progT ps)), x7] : En) = en
  have v3 : ∀ M, xVar 3 en M = .ok (.ref p) M := fun M => by rw [← hen]; rfl
  have v5 : ∀ M, xVar 5 en M = .ok (pd ps) M := fun M => by rw [← hen]; rfl
  have v6 : ∀ M, xVar 6 en M = .ok (.str (progT ps)) M := fun M => by rw [← hen]; rfl
  have c1 : tNot (tVal (xCall (m__law_same 4) (aCons (xCall m_programs_text (aCons (xVar 5) aNil)) (aCons (xVar 6) aNil)))) en M6 = .ok false M6 := tNot_ok (c := true) (tVal_ok (by
    rw [xCall2 (d := .str (progT ps)) (M1 := M6) (by rw [xCall1 (v5 M6)]; exact text_ok g5 M6) (v6 M6)]
    exact same_str 3 _ M6))
  have c2 : tNot (tVal (xCall (m__law_same 4) (aCons (xCall m_read_programs (aCons (xVar 6) aNil)) (aCons (xVar 5) aNil)))) en M6 = .ok false M6 := tNot_ok (c := true) (tVal_ok (by
    rw [xCall2 (d := pd ps) (M1 := M6) (by rw [xCall1 (v6 M6)]; exact read_ok g5 M6) (v5 M6)]
    exact same_prog g5 M6))
  rw [sSeq_nx (e2 := en) (M1 := M6) (by rw [sIf_f (by rw [tOr_f c1]; exact c2)]; rfl)]
  have c3 : tVal (xBin dNe (xCall m__law_asked (aCons (xCall m__law_no_programs (aCons (xVar 3) (aCons (xVar 5) aNil))) aNil)) (xC (.str (tx "programs")))) en M6 = .ok false M7 := tVal_ok (by
    rw [xBin_ok (d := .str (tx "programs")) (d1 := .str (tx "programs")) (M1 := M7) (M2 := M7) (by
      rw [xCall1 (d := v) (M1 := M7) (by rw [xCall2 (v3 M6) (v5 M6)]; exact t7)]
      exact asked_ok b7 M7) rfl]
    rfl)
  rw [sIf_f c3]
  rfl
theorem law_true (ns : List Int) (hn : ns.length ≤ 63) : ∃ M, m_law [.frz (ns.map .int)] [] = .ok (.bl true) M := by
  obtain ⟨N, hN, hr⟩ : ∃ N : Nat, N ≤ 63 ∧ iRng1 (aCons (xCall fMax2 (aCons (xC (.int 1)) (aCons (xCall fMin2 (aCons (xC (.int 63)) (aCons (xCall fLen (aCons (xVar 0) aNil)) aNil))) aNil))) aNil) [some (.frz (ns.map .int)), some kindsD, none, none, none, none, none, none] [] = .ok (.rng 0 N) [] := by
    refine ⟨max 1 ns.length, by omega, rng_ok ?_ (by omega)⟩
    rw [xCall2 (d := .int 1) (e := .int ns.length) (M1 := []) (M2 := []) rfl (by
      rw [xCall2 (d := .int 63) (e := .int ns.length) (M1 := []) (M2 := []) rfl (by
        rw [xCall1 (d := .frz (ns.map .int)) (M1 := []) rfl]
        show Out.ok (D.int ((ns.map D.int).length : Int)) [] = _
        rw [List.length_map])]
      show Out.ok (D.int (if (ns.length : Int) < 63 then (ns.length : Int) else 63)) [] = _
      congr 2
      split <;> omega)]
    show Out.ok (D.int (if (1 : Int) < (ns.length : Int) then (ns.length : Int) else 1)) [] = _
    congr 2
    split <;> omega
  obtain ⟨e', M', k1, x2, x3, x4, x5, x6, x7, k2⟩ := for_inv (src := .rng 0 N) (g := gVar 2) (b := bodyLaw) (N := N) (fun i e M => ∃ x2 x3 x4 x5 x6 x7, e = [some (.frz (ns.map .int)), some kindsD, x2, x3, x4, x5, x6, x7]) (fun i e M hi ⟨x2, x3, x4, x5, x6, x7, he⟩ => by
    subst he
    obtain ⟨y3, y4, y5, y6, y7, M2, hb⟩ := body_law ns i (by omega) x3 x4 x5 x6 x7 M
    refine ⟨.int (0 + (i : Int)), if_pos hi, [some (.frz (ns.map .int)), some kindsD, some (.int (i : Int)), x3, x4, x5, x6, x7], by rw [Int.zero_add]; rfl, _, M2, hb, _, _, _, _, _, _, rfl⟩) (fun e M _ => decide_eq_true (Nat.le_refl _)) N 0 [some (.frz (ns.map .int)), some kindsD, none, none, none, none, none, none] [] ⟨_, _, _, _, _, _, rfl⟩ (by omega)
  subst k2
  refine ⟨M', run_rt ?_⟩
  show sSeq _ (sSeq (sFor _ _ bodyLaw) (sSeq _ (sSeq _ _))) [some (.frz (ns.map .int)), none, none, none, none, none, none, none] [] = _
  rw [sSeq_nx (sAsg_var (d := kindsD) (M1 := []) rfl)]
  show sSeq (sFor _ _ bodyLaw) (sSeq _ (sSeq _ _)) [some (.frz (ns.map .int)), some kindsD, none, none, none, none, none, none] [] = _
  rw [sSeq_nx (e2 := [some (.frz (ns.map .int)), some kindsD, x2, x3, x4, x5, x6, x7]) (M1 := M') (by
    unfold sFor
    rw [hr]
    exact k1)]
  have pw : xBin dAdd (xBin dPow (xC (.int 10)) (xC (.int 9))) (xC (.int 1)) [some (.frz (ns.map .int)), some kindsD, x2, x3, x4, x5, x6, x7] M' = .ok (.int 1000000001) M' := by
    rw [xBin_ok (d := .int 1000000000) (d1 := .int 1) (M1 := M') (M2 := M') (by rw [xBin_ok (d := .int 10) (d1 := .int 9) (M1 := M') (M2 := M') rfl rfl]; exact pow9 M') rfl]
    rfl
  have l2 : (2 : Nat) ≤ sizeLim := by show 2 ≤ 16777216; decide
  have l3 : (3 : Nat) ≤ sizeLim := by show 3 ≤ 16777216; decide
  have l1 : (1 : Nat) ≤ sizeLim := by show 1 ≤ 16777216; decide
  have hx : xTup (aCons (xTup (aCons (xTup (aCons (xC (.str (tx "put"))) (aCons (xC (.int 1)) (aCons (xC (.int 0)) aNil)))) (aCons (xTup (aCons (xC (.str (tx "walk"))) (aCons (xC (.int 0)) (aCons (xBin dAdd (xBin dPow (xC (.int 10)) (xC (.int 9))) (xC (.int 1))) aNil)))) aNil))) (aCons (xTup aNil) (aCons (xTup (aCons (xTup (aCons (xC (.str (tx "find"))) (aCons (xC (.int 12)) aNil))) aNil)) aNil))) [some (.frz (ns.map .int)), some kindsD, x2, x3, x4, x5, x6, x7] M' = .ok (pd [[.put 1 0, .walk 0 1000000001], [], [.find 12]]) M' := by
    refine xTup_ok (aCons_ok (M1 := M') (xTup_ok (aCons_ok (d := (Deed.put 1 0).d) (M1 := M') rfl (aCons_ok (d := (Deed.walk 0 1000000001).d) (M1 := M') (xTup_ok (aCons_ok (M1 := M') rfl (aCons_ok (M1 := M') rfl (aCons_ok (M1 := M') pw rfl))) l3) rfl)) l2) (aCons_ok (d := .tup []) (M1 := M') rfl (aCons_ok (d := hd [.find 12]) (M1 := M') rfl rfl))) l3
  rw [sSeq_nx (sAsg_var hx)]
  show sSeq _ _ [some (.frz (ns.map .int)), some kindsD, x2, x3, x4, x5, x6, some (pd [[.put 1 0, .walk 0 1000000001], [], [.find 12]])] M' = _
  have pg : ProgOk [[.put 1 0, .walk 0 1000000001], [], [.find 12]] := by
    refine ⟨by decide, by decide, fun xs hx => ?_⟩
    simp only [List.mem_cons, List.not_mem_nil, or_false] at hx
    rcases hx with rfl | rfl | rfl
    · refine ⟨by decide, fun x hx => ?_⟩
      simp only [List.mem_cons, List.not_mem_nil, or_false] at hx
      rcases hx with rfl | rfl
      · exact ⟨by decide, by decide⟩
      · exact ⟨by decide, by decide, by decide⟩
    · exact hand_nil
    · refine ⟨by decide, fun x hx => ?_⟩
      have e : x = .find 12 := by simpa using hx
      subst e
      show 12 ≤ 1000000000
      decide
  have c1 : tVal (xBin dNe (xCall m_programs_text (aCons (xVar 7) aNil)) (xC (.str (tx "put 1 0 , walk 0 1000000001 ; - ; find 12")))) [some (.frz (ns.map .int)), some kindsD, x2, x3, x4, x5, x6, some (pd [[.put 1 0, .walk 0 1000000001], [], [.find 12]])] M' = .ok false M' := tVal_ok (by
    rw [xBin_ok (d := .str (progT [[.put 1 0, .walk 0 1000000001], [], [.find 12]])) (M1 := M') (by rw [xCall1 (d := pd [[.put 1 0, .walk 0 1000000001], [], [.find 12]]) (M1 := M') rfl]; exact text_ok pg M') rfl, ne_str, prog_hand, beq_self_eq_true]
    rfl)
  rw [sSeq_nx (e2 := [some (.frz (ns.map .int)), some kindsD, x2, x3, x4, x5, x6, some (pd [[.put 1 0, .walk 0 1000000001], [], [.find 12]])]) (M1 := M') (by rw [sIf_f c1]; rfl)]
  refine sRet_ok ?_
  have p1 : ProgOk [[]] := ⟨by decide, by decide, fun xs hx => by
    have e : xs = [] := by simpa using hx
    rw [e]; exact hand_nil⟩
  have p2 : ProgOk [[], []] := ⟨by decide, by decide, fun xs hx => by
    have e : xs = [] := by simpa using hx
    rw [e]; exact hand_nil⟩
  rw [xAnd_t (M1 := M') (by
    rw [xBin_ok (d := .str (progT [[]])) (d1 := .str (tx "-")) (M1 := M') (M2 := M') (by rw [xCall1 (d := pd [[]]) (M1 := M') rfl]; exact text_ok p1 M') rfl, eq_str, prog_one, beq_self_eq_true])]
  rw [xBin_ok (d := pd [[], []]) (d1 := .tup [.tup [], .tup []]) (M1 := M') (M2 := M') (by rw [xCall1 (d := .str (progT [[], []])) (M1 := M') (by rw [prog_two]; rfl)]; exact read_ok p2 M') rfl]
  rfl
end G.K86
set_option Elab.async false
set_option linter.all false
set_option maxRecDepth 100000
set_option maxHeartbeats 0
namespace G.K86
open PySem PySem.Spec PyProof.Rows L2
def d_is_whole : He.DefD := ⟨(Str.ofString "is_whole", none), Str.ofString "is_whole", Str.ofString "is_whole", defArgs (top 28), defBody (top 28), defScope (top 28), [], []⟩
def d_is_within : He.DefD := ⟨(Str.ofString "is_within", none), Str.ofString "is_within", Str.ofString "is_within", defArgs (top 29), defBody (top 29), defScope (top 29), [], []⟩
def d_is_key : He.DefD := ⟨(Str.ofString "is_key", none), Str.ofString "is_key", Str.ofString "is_key", defArgs (top 30), defBody (top 30), defScope (top 30), [], []⟩
def d_is_value : He.DefD := ⟨(Str.ofString "is_value", none), Str.ofString "is_value", Str.ofString "is_value", defArgs (top 31), defBody (top 31), defScope (top 31), [], []⟩
def d_is_pair : He.DefD := ⟨(Str.ofString "is_pair", none), Str.ofString "is_pair", Str.ofString "is_pair", defArgs (top 32), defBody (top 32), defScope (top 32), [], []⟩
def d_is_stretch : He.DefD := ⟨(Str.ofString "is_stretch", none), Str.ofString "is_stretch", Str.ofString "is_stretch", defArgs (top 34), defBody (top 34), defScope (top 34), [], []⟩
def d_is_of_key : He.DefD := ⟨(Str.ofString "is_of_key", none), Str.ofString "is_of_key", Str.ofString "is_of_key", defArgs (top 36), defBody (top 36), defScope (top 36), [], []⟩
def d_is_of_pair : He.DefD := ⟨(Str.ofString "is_of_pair", none), Str.ofString "is_of_pair", Str.ofString "is_of_pair", defArgs (top 37), defBody (top 37), defScope (top 37), [], []⟩
def d_is_of_stretch : He.DefD := ⟨(Str.ofString "is_of_stretch", none), Str.ofString "is_of_stretch", Str.ofString "is_of_stretch", defArgs (top 38), defBody (top 38), defScope (top 38), [], []⟩
def d_is_deed : He.DefD := ⟨(Str.ofString "is_deed", none), Str.ofString "is_deed", Str.ofString "is_deed", defArgs (top 40), defBody (top 40), defScope (top 40), [], []⟩
def d_are_programs : He.DefD := ⟨(Str.ofString "are_programs", none), Str.ofString "are_programs", Str.ofString "are_programs", defArgs (top 44), defBody (top 44), defScope (top 44), [], []⟩
def d_need_programs : He.DefD := ⟨(Str.ofString "need_programs", none), Str.ofString "need_programs", Str.ofString "need_programs", defArgs (top 45), defBody (top 45), defScope (top 45), [], []⟩
def d_number_in : He.DefD := ⟨(Str.ofString "number_in", none), Str.ofString "number_in", Str.ofString "number_in", defArgs (top 52), defBody (top 52), defScope (top 52), [], []⟩
def d_need_words : He.DefD := ⟨(Str.ofString "need_words", none), Str.ofString "need_words", Str.ofString "need_words", defArgs (top 53), defBody (top 53), defScope (top 53), [], []⟩
def d_hand_text : He.DefD := ⟨(Str.ofString "hand_text", none), Str.ofString "hand_text", Str.ofString "hand_text", defArgs (top 54), defBody (top 54), defScope (top 54), [], []⟩
def d_programs_text : He.DefD := ⟨(Str.ofString "programs_text", none), Str.ofString "programs_text", Str.ofString "programs_text", defArgs (top 55), defBody (top 55), defScope (top 55), [], []⟩
def d_deed_in : He.DefD := ⟨(Str.ofString "deed_in", none), Str.ofString "deed_in", Str.ofString "deed_in", defArgs (top 56), defBody (top 56), defScope (top 56), [], []⟩
def d_hand_in : He.DefD := ⟨(Str.ofString "hand_in", none), Str.ofString "hand_in", Str.ofString "hand_in", defArgs (top 57), defBody (top 57), defScope (top 57), [], []⟩
def d_read_programs : He.DefD := ⟨(Str.ofString "read_programs", none), Str.ofString "read_programs", Str.ofString "read_programs", defArgs (top 58), defBody (top 58), defScope (top 58), [], []⟩
def d__law_pot : He.DefD := ⟨(Str.ofString "_law_pot", none), Str.ofString "_law_pot", Str.ofString "_law_pot", defArgs (top 60), defBody (top 60), defScope (top 60), [], []⟩
def d__law_take : He.DefD := ⟨(Str.ofString "_law_take", none), Str.ofString "_law_take", Str.ofString "_law_take", defArgs (top 61), defBody (top 61), defScope (top 61), [], []⟩
def d__law_key : He.DefD := ⟨(Str.ofString "_law_key", none), Str.ofString "_law_key", Str.ofString "_law_key", defArgs (top 62), defBody (top 62), defScope (top 62), [], []⟩
def d__law_deed : He.DefD := ⟨(Str.ofString "_law_deed", none), Str.ofString "_law_deed", Str.ofString "_law_deed", defArgs (top 63), defBody (top 63), defScope (top 63), [], []⟩
def d__law_programs : He.DefD := ⟨(Str.ofString "_law_programs", none), Str.ofString "_law_programs", Str.ofString "_law_programs", defArgs (top 64), defBody (top 64), defScope (top 64), [], []⟩
def d__law_same : He.DefD := ⟨(Str.ofString "_law_same", none), Str.ofString "_law_same", Str.ofString "_law_same", defArgs (top 65), defBody (top 65), defScope (top 65), [], []⟩
def d__law_programs_text : He.DefD := ⟨(Str.ofString "_law_programs_text", none), Str.ofString "_law_programs_text", Str.ofString "_law_programs_text", defArgs (top 66), defBody (top 66), defScope (top 66), [], []⟩
def d__law_word : He.DefD := ⟨(Str.ofString "_law_word", none), Str.ofString "_law_word", Str.ofString "_law_word", defArgs (top 67), defBody (top 67), defScope (top 67), [], []⟩
def d__law_asked : He.DefD := ⟨(Str.ofString "_law_asked", none), Str.ofString "_law_asked", Str.ofString "_law_asked", defArgs (top 68), defBody (top 68), defScope (top 68), [], []⟩
def d__law_no_programs : He.DefD := ⟨(Str.ofString "_law_no_programs", none), Str.ofString "_law_no_programs", Str.ofString "_law_no_programs", defArgs (top 69), defBody (top 69), defScope (top 69), [], []⟩
def d_law : He.DefD := ⟨(Str.ofString "law", none), Str.ofString "law", Str.ofString "law", defArgs (top 70), defBody (top 70), defScope (top 70), [], []⟩
def fn : List He.DefD := [d_is_whole, d_is_within, d_is_key, d_is_value, d_is_pair, d_is_stretch, d_is_of_key, d_is_of_pair, d_is_of_stretch, d_is_deed, d_are_programs, d_need_programs, d_number_in, d_need_words, d_hand_text, d_programs_text, d_deed_in, d_hand_in, d_read_programs, d__law_pot, d__law_take, d__law_key, d__law_deed, d__law_programs, d__law_same, d__law_programs_text, d__law_word, d__law_asked, d__law_no_programs, d_law]
def fa : List He.Fa := [.free (Str.ofString "ValueError"), .free (Str.ofString "abs"), .free (Str.ofString "all"), .free (Str.ofString "bool"), .free (Str.ofString "int"), .free (Str.ofString "isinstance"), .free (Str.ofString "len"), .free (Str.ofString "list"), .free (Str.ofString "max"), .free (Str.ofString "min"), .free (Str.ofString "range"), .free (Str.ofString "str"), .free (Str.ofString "tuple"), .free (Str.ofString "zip"), .int (Str.ofString "MOST_KEY") 1000000000, .int (Str.ofString "MOST_HANDS") 6, .int (Str.ofString "MOST_DEEDS") 8, .int (Str.ofString "MOST_FIGURES") 10, .str (Str.ofString "FIGURES") (Str.ofString "0123456789"), .str (Str.ofString "NOTHING") (Str.ofString "-"), .str (Str.ofString "BETWEEN_DEEDS") (Str.ofString " , "), .str (Str.ofString "BETWEEN_HANDS") (Str.ofString " ; "), .glo (Str.ofString "GroveError"), .glo (Str.ofString "NoRoom"), .glo (Str.ofString "NoKey"), .glo (Str.ofString "NoValue"), .glo (Str.ofString "NoPage"), .glo (Str.ofString "NoTree"), .glo (Str.ofString "NoStretch"), .glo (Str.ofString "NoDeed"), .glo (Str.ofString "NoPairs"), .glo (Str.ofString "TooMany"), .glo (Str.ofString "NoNumber"), .glo (Str.ofString "NoShape"), .glo (Str.ofString "NoHand"), .glo (Str.ofString "Waits"), .glo (Str.ofString "Holds"), .glo (Str.ofString "HoldsNot"), .glo (Str.ofString "NoPlans"), .glo (Str.ofString "TooWide"), .glo (Str.ofString "NoPrograms"), .exc (Str.ofString "NoPrograms"), .glo (Str.ofString "NoRule"), .glo (Str.ofString "NoRecords"), .glo (Str.ofString "NoDisk"), .glo (Str.ofString "NoEvent"), .glo (Str.ofString "NoText"), .exc (Str.ofString "NoText"), .glo (Str.ofString "NoCut"), .glo (Str.ofString "is_whole"), .glo (Str.ofString "is_within"), .glo (Str.ofString "is_key"), .glo (Str.ofString "is_value"), .glo (Str.ofString "is_pair"), .glo (Str.ofString "is_stretch"), .glo (Str.ofString "is_of_key"), .glo (Str.ofString "is_of_pair"), .glo (Str.ofString "is_of_stretch"), .glo (Str.ofString "is_deed"), .glo (Str.ofString "are_programs"), .glo (Str.ofString "need_programs"), .glo (Str.ofString "number_in"), .glo (Str.ofString "need_words"), .glo (Str.ofString "hand_text"), .glo (Str.ofString "programs_text"), .glo (Str.ofString "deed_in"), .glo (Str.ofString "hand_in"), .glo (Str.ofString "read_programs"), .glo (Str.ofString "_law_pot"), .glo (Str.ofString "_law_take"), .glo (Str.ofString "_law_key"), .glo (Str.ofString "_law_deed"), .glo (Str.ofString "_law_programs"), .glo (Str.ofString "_law_same"), .glo (Str.ofString "_law_programs_text"), .glo (Str.ofString "_law_word"), .glo (Str.ofString "_law_asked"), .glo (Str.ofString "_law_no_programs"), .glo (Str.ofString "law"), .glo (Str.ofString "FORMS"), .exm (Str.ofString "NoPrograms") (Str.ofString "GroveError") true]
def ts : List He.Tab := [(fun K => He.ga K (Str.ofString "FORMS"), t_FORMS.map fun p => Str.ofString p.1)]
def ex (K : PySem.W.Frag) : Bool := He.valsB K (He.ga K (Str.ofString "FORMS")) (kvT t_FORMS) && kitBB K ["NoPrograms"] ["NoRoom", "NoKey", "NoValue", "NoPage", "NoTree", "NoStretch", "NoDeed", "NoPairs", "TooMany", "NoNumber", "NoShape", "NoHand", "Waits", "Holds", "HoldsNot", "NoPlans", "TooWide", "NoPrograms", "NoRule", "NoRecords", "NoDisk", "NoEvent", "NoText", "NoCut", "ValueError"] && true
def loose0 : List PySem.Str := [Str.ofString "GroveError", Str.ofString "NoRoom", Str.ofString "NoKey", Str.ofString "NoValue", Str.ofString "NoPage", Str.ofString "NoTree", Str.ofString "NoStretch", Str.ofString "NoDeed", Str.ofString "NoPairs", Str.ofString "TooMany", Str.ofString "NoNumber", Str.ofString "NoShape", Str.ofString "NoHand", Str.ofString "Waits", Str.ofString "Holds", Str.ofString "HoldsNot", Str.ofString "NoPlans", Str.ofString "TooWide", Str.ofString "NoPrograms", Str.ofString "NoRule", Str.ofString "NoRecords", Str.ofString "NoDisk", Str.ofString "NoEvent", Str.ofString "NoText", Str.ofString "NoCut", Str.ofString "MOST_KEY", Str.ofString "is_whole", Str.ofString "is_within", Str.ofString "is_key", Str.ofString "is_value", Str.ofString "is_pair", Str.ofString "is_stretch", Str.ofString "is_of_key", Str.ofString "is_of_pair", Str.ofString "is_of_stretch", Str.ofString "FORMS", Str.ofString "is_deed", Str.ofString "MOST_HANDS", Str.ofString "MOST_DEEDS", Str.ofString "are_programs"]
def loose1 : List PySem.Str := [Str.ofString "need_programs", Str.ofString "FIGURES", Str.ofString "MOST_FIGURES", Str.ofString "NOTHING", Str.ofString "BETWEEN_DEEDS", Str.ofString "BETWEEN_HANDS", Str.ofString "number_in", Str.ofString "need_words", Str.ofString "hand_text", Str.ofString "programs_text", Str.ofString "deed_in", Str.ofString "hand_in", Str.ofString "read_programs", Str.ofString "_law_pot", Str.ofString "_law_take", Str.ofString "_law_key", Str.ofString "_law_deed", Str.ofString "_law_programs", Str.ofString "_law_same", Str.ofString "_law_programs_text", Str.ofString "_law_word", Str.ofString "_law_asked", Str.ofString "_law_no_programs"]
def loose : List PySem.Str := loose0 ++ loose1
abbrev R : PySem.W.OpenRow := PySem.W.OpenLaw.row PySem.Challenge.rw_latchgrove_k86_programs_written_and_read
abbrev hk : PySem.W.Hook := He.hookX 4 fa fn ts [] ex
def ob (s : PySem.W.SharedT) : He.AlX := He.obsX 4 fa fn ts [] ex (HandSHeadRun.getT s)
theorem ob_eq (s : PySem.W.SharedT) : ob s = hk.obs s.abs := He.obsX_eq (HandSHeadRun.getT_eq s)
theorem run (w : World) : HandSHeadRun.RunEq R (PySem.W.view R.prog [70]) hk ob 8000 loose w :=
  PySem.W.byRow2 "special-get-raises" (P := fun w => HandSHeadRun.RunEq R (PySem.W.view R.prog [70]) hk ob 8000 loose w) (fun w => by
    intro os
    kernel_rfl) (fun w => by
    intro os
    kernel_rfl) w
section
variable {w : World} {K : PySem.W.Frag} {h : Heap} {mg : Str → Option Value}
theorem env_of (X : K.In h) (G0 : h.Ns mainGlobals mg) (c : He.SaysX fa fn ts [] ex w h K) : Env w K mg := by
  have cd := c.t.d
  have hm := c.more
  unfold ex at hm
  obtain ⟨hm, e2⟩ := He.ba hm
  obtain ⟨hm, e1⟩ := He.ba hm
  have e0 := hm
  have et : ts.map (fun t => He.dicW K (t.1 K)) = ts.map fun t => some (He.keysIn w.params t.2) := congrArg (fun z : He.AlT => z.2) c.t
  exact {
    fr_ValueError := He.free_ok X G0 (cd.fact 0 rfl)
    fr_abs := He.free_ok X G0 (cd.fact 1 rfl)
    fr_all := He.free_ok X G0 (cd.fact 2 rfl)
    fr_bool := He.free_ok X G0 (cd.fact 3 rfl)
    fr_int := He.free_ok X G0 (cd.fact 4 rfl)
    fr_isinstance := He.free_ok X G0 (cd.fact 5 rfl)
    fr_len := He.free_ok X G0 (cd.fact 6 rfl)
    fr_list := He.free_ok X G0 (cd.fact 7 rfl)
    fr_max := He.free_ok X G0 (cd.fact 8 rfl)
    fr_min := He.free_ok X G0 (cd.fact 9 rfl)
    fr_range := He.free_ok X G0 (cd.fact 10 rfl)
    fr_str := He.free_ok X G0 (cd.fact 11 rfl)
    fr_tuple := He.free_ok X G0 (cd.fact 12 rfl)
    fr_zip := He.free_ok X G0 (cd.fact 13 rfl)
    gi_MOST_KEY := He.int_ok X G0 (cd.fact 14 rfl)
    gi_MOST_HANDS := He.int_ok X G0 (cd.fact 15 rfl)
    gi_MOST_DEEDS := He.int_ok X G0 (cd.fact 16 rfl)
    gi_MOST_FIGURES := He.int_ok X G0 (cd.fact 17 rfl)
    gs_FIGURES := He.str_ok X G0 (cd.fact 18 rfl)
    gs_NOTHING := He.str_ok X G0 (cd.fact 19 rfl)
    gs_BETWEEN_DEEDS := He.str_ok X G0 (cd.fact 20 rfl)
    gs_BETWEEN_HANDS := He.str_ok X G0 (cd.fact 21 rfl)
    mg_GroveError := He.glo_ok X G0 (cd.fact 22 rfl)
    mg_NoRoom := He.glo_ok X G0 (cd.fact 23 rfl)
    mg_NoKey := He.glo_ok X G0 (cd.fact 24 rfl)
    mg_NoValue := He.glo_ok X G0 (cd.fact 25 rfl)
    mg_NoPage := He.glo_ok X G0 (cd.fact 26 rfl)
    mg_NoTree := He.glo_ok X G0 (cd.fact 27 rfl)
    mg_NoStretch := He.glo_ok X G0 (cd.fact 28 rfl)
    mg_NoDeed := He.glo_ok X G0 (cd.fact 29 rfl)
    mg_NoPairs := He.glo_ok X G0 (cd.fact 30 rfl)
    mg_TooMany := He.glo_ok X G0 (cd.fact 31 rfl)
    mg_NoNumber := He.glo_ok X G0 (cd.fact 32 rfl)
    mg_NoShape := He.glo_ok X G0 (cd.fact 33 rfl)
    mg_NoHand := He.glo_ok X G0 (cd.fact 34 rfl)
    mg_Waits := He.glo_ok X G0 (cd.fact 35 rfl)
    mg_Holds := He.glo_ok X G0 (cd.fact 36 rfl)
    mg_HoldsNot := He.glo_ok X G0 (cd.fact 37 rfl)
    mg_NoPlans := He.glo_ok X G0 (cd.fact 38 rfl)
    mg_TooWide := He.glo_ok X G0 (cd.fact 39 rfl)
    mg_NoPrograms := He.glo_ok X G0 (cd.fact 40 rfl)
    er_NoPrograms := erC_of X G0 (cd.fact 40 rfl) (cd.fact 41 rfl)
    mg_NoRule := He.glo_ok X G0 (cd.fact 42 rfl)
    mg_NoRecords := He.glo_ok X G0 (cd.fact 43 rfl)
    mg_NoDisk := He.glo_ok X G0 (cd.fact 44 rfl)
    mg_NoEvent := He.glo_ok X G0 (cd.fact 45 rfl)
    mg_NoText := He.glo_ok X G0 (cd.fact 46 rfl)
    er_NoText := erC_of X G0 (cd.fact 46 rfl) (cd.fact 47 rfl)
    mg_NoCut := He.glo_ok X G0 (cd.fact 48 rfl)
    mg_is_whole := He.glo_ok X G0 (cd.fact 49 rfl)
    fn_is_whole := cd.def_ 0 (d := d_is_whole) rfl
    mg_is_within := He.glo_ok X G0 (cd.fact 50 rfl)
    fn_is_within := cd.def_ 1 (d := d_is_within) rfl
    mg_is_key := He.glo_ok X G0 (cd.fact 51 rfl)
    fn_is_key := cd.def_ 2 (d := d_is_key) rfl
    mg_is_value := He.glo_ok X G0 (cd.fact 52 rfl)
    fn_is_value := cd.def_ 3 (d := d_is_value) rfl
    mg_is_pair := He.glo_ok X G0 (cd.fact 53 rfl)
    fn_is_pair := cd.def_ 4 (d := d_is_pair) rfl
    mg_is_stretch := He.glo_ok X G0 (cd.fact 54 rfl)
    fn_is_stretch := cd.def_ 5 (d := d_is_stretch) rfl
    mg_is_of_key := He.glo_ok X G0 (cd.fact 55 rfl)
    fn_is_of_key := cd.def_ 6 (d := d_is_of_key) rfl
    mg_is_of_pair := He.glo_ok X G0 (cd.fact 56 rfl)
    fn_is_of_pair := cd.def_ 7 (d := d_is_of_pair) rfl
    mg_is_of_stretch := He.glo_ok X G0 (cd.fact 57 rfl)
    fn_is_of_stretch := cd.def_ 8 (d := d_is_of_stretch) rfl
    mg_is_deed := He.glo_ok X G0 (cd.fact 58 rfl)
    fn_is_deed := cd.def_ 9 (d := d_is_deed) rfl
    mg_are_programs := He.glo_ok X G0 (cd.fact 59 rfl)
    fn_are_programs := cd.def_ 10 (d := d_are_programs) rfl
    mg_need_programs := He.glo_ok X G0 (cd.fact 60 rfl)
    fn_need_programs := cd.def_ 11 (d := d_need_programs) rfl
    mg_number_in := He.glo_ok X G0 (cd.fact 61 rfl)
    fn_number_in := cd.def_ 12 (d := d_number_in) rfl
    mg_need_words := He.glo_ok X G0 (cd.fact 62 rfl)
    fn_need_words := cd.def_ 13 (d := d_need_words) rfl
    mg_hand_text := He.glo_ok X G0 (cd.fact 63 rfl)
    fn_hand_text := cd.def_ 14 (d := d_hand_text) rfl
    mg_programs_text := He.glo_ok X G0 (cd.fact 64 rfl)
    fn_programs_text := cd.def_ 15 (d := d_programs_text) rfl
    mg_deed_in := He.glo_ok X G0 (cd.fact 65 rfl)
    fn_deed_in := cd.def_ 16 (d := d_deed_in) rfl
    mg_hand_in := He.glo_ok X G0 (cd.fact 66 rfl)
    fn_hand_in := cd.def_ 17 (d := d_hand_in) rfl
    mg_read_programs := He.glo_ok X G0 (cd.fact 67 rfl)
    fn_read_programs := cd.def_ 18 (d := d_read_programs) rfl
    mg__law_pot := He.glo_ok X G0 (cd.fact 68 rfl)
    fn__law_pot := cd.def_ 19 (d := d__law_pot) rfl
    mg__law_take := He.glo_ok X G0 (cd.fact 69 rfl)
    fn__law_take := cd.def_ 20 (d := d__law_take) rfl
    mg__law_key := He.glo_ok X G0 (cd.fact 70 rfl)
    fn__law_key := cd.def_ 21 (d := d__law_key) rfl
    mg__law_deed := He.glo_ok X G0 (cd.fact 71 rfl)
    fn__law_deed := cd.def_ 22 (d := d__law_deed) rfl
    mg__law_programs := He.glo_ok X G0 (cd.fact 72 rfl)
    fn__law_programs := cd.def_ 23 (d := d__law_programs) rfl
    mg__law_same := He.glo_ok X G0 (cd.fact 73 rfl)
    fn__law_same := cd.def_ 24 (d := d__law_same) rfl
    mg__law_programs_text := He.glo_ok X G0 (cd.fact 74 rfl)
    fn__law_programs_text := cd.def_ 25 (d := d__law_programs_text) rfl
    mg__law_word := He.glo_ok X G0 (cd.fact 75 rfl)
    fn__law_word := cd.def_ 26 (d := d__law_word) rfl
    mg__law_asked := He.glo_ok X G0 (cd.fact 76 rfl)
    fn__law_asked := cd.def_ 27 (d := d__law_asked) rfl
    mg__law_no_programs := He.glo_ok X G0 (cd.fact 77 rfl)
    fn__law_no_programs := cd.def_ 28 (d := d__law_no_programs) rfl
    mg_law := He.glo_ok X G0 (cd.fact 78 rfl)
    fn_law := cd.def_ 29 (d := d_law) rfl
    mg_FORMS := He.glo_ok X G0 (cd.fact 79 rfl)
    tab_FORMS := tabF_of (List.cons.inj et).1 e0
    kitB := kitB_ok e1
    exm := He.exm_ok (cd.fact 80 rfl)
  }
end
end G.K86
open PySem PySem.W PySem.Calls PyProof.Rows
theorem PySem.Challenge.cw_latchgrove_k86_programs_written_and_read_holds : PySem.Challenge.rw_latchgrove_k86_programs_written_and_read.Holds := by
  w_on; o_law
  refine HandSHeadRun.head_any (r := OpenLaw.row PySem.Challenge.rw_latchgrove_k86_programs_written_and_read) (q := view (OpenLaw.row PySem.Challenge.rw_latchgrove_k86_programs_written_and_read).prog [70]) (H := G.K86.hk) (ob := G.K86.ob) (M := 8000) (loose := G.K86.loose) (d := HandSHeadRun.topDef (OpenLaw.row PySem.Challenge.rw_latchgrove_k86_programs_written_and_read).prog 70) (kwd := []) G.K86.ob_eq
    (by kernel_rfl) (fun s => by kernel_rfl) G.K86.run (by kernel_rfl) (by kernel_rfl) (by kernel_rfl) (by rfl) (by first | assumption | decide +kernel) (by decide +kernel) ⟨rfl, rfl, rfl, rfl, rfl, by decide +kernel⟩ ?hw ?hc
  case hw => w_witness2
  case hc =>
    refine L2.walk_ofE (l := PySem.Challenge.rw_latchgrove_k86_programs_written_and_read) (n := 63) (k := 11) (x := "script") (CX := G.CXe (PySem.Challenge.rw_latchgrove_k86_programs_written_and_read).prog) rfl (by decide) (by kernel_rfl) ⟨rfl, by decide, by decide⟩ ?F G.cxe_no
    intro w mg fa h Y G0 hmg0
    obtain ⟨K, KX, c⟩ := Y
    have hmg : mg (PySem.Str.ofString "law") = some (.ref fa) := by
      have e : (HandSHeadRun.topDef (OpenLaw.row PySem.Challenge.rw_latchgrove_k86_programs_written_and_read).prog 70).name = PySem.Str.ofString "law" := by kernel_rfl
      rw [← e]
      exact hmg0
    have V := G.K86.env_of KX G0 c
    have e := hmg.symm.trans V.mg_law
    cases e
    obtain ⟨fd, F⟩ := V.fn_law
    have b := L2.FunD.bindsA (ps := [PySem.Str.ofString "script"]) F fun _ _ _ _ _ _ us hl => match us, hl with | [_], _ => rfl
    refine ⟨K, fd, G.spD K G.K86.m_law 1, KX, fun s v => b s [v] rfl, G.law_end G.K86.law_true, fun base kb mb => ?_⟩
    exact G.fn_any (G.K86.fn_law V F)
