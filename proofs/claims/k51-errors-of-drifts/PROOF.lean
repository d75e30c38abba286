import PyProof.Rows.All
import Wide.All
import OpenK.AllK
import Wide.FinOn
import HandS.ForMost
import HandS.Flow
import HandS.TupAny
import HandS.TupMul
import HandS.TupLe
import HandS.Conv
import HandS.Walk
import HandS.NoneIn
import HandS.Wide
import HandS.IsInst
import HandS.Deep
import HandS.RaiseMore
import HandS.SortInts
import HandS.More
import HandS.Dict
import KE.SortData
import KE.GoesEnum
import KE.GoesNew
import HandS.Lambda
import HandS.HotCalls
import HandS.ExcCtx
import KE.KExcIs
import HandS.Words
import KE.KRevSl
import HandS.DictComp
import HandS.Hot
import HandS.SetFor
import HandS.Strs
import HandS.RevRange
import HandS.Small
import HandS.Style
import HandS.WordsExc
import HandS.ExcIs
import HandS.Text
import HandS.EndTab
import HandS.HeadHook4
import PySem.Challenge.RW_strongroom_k51_errors_of_drifts
set_option Elab.async false
set_option linter.all false
set_option maxRecDepth 100000
set_option maxHeartbeats 4000000
namespace Q
open PySem

abbrev D := PyData
/-! dicts of int or text keys -/
abbrev Key := L2.Key
def keyD : Key → D
  | .inl i => .int i
  | .inr x => .str x
/-- what stands for a def of the module, taken as a value -/
abbrev fnD (f : String) : D := .dict [(.none, .str (Str.ofString f))]
def isF : List (D × D) → Bool
  | (.none, _) :: _ => true
  | _ => false
def isFd : D → Bool
  | .dict kvs => isF kvs
  | _ => false
def dictD (kvs : List (Key × D)) : D := .dict (kvs.map fun p => (keyD p.1, p.2))
/-- what a slot holds: data that nobody changes, a list or dict that the slot alone owns -/
inductive SV where
  | d (x : D) | ml (xs : List D) | md (kvs : List (Key × D)) | rl (xs : List D)
def SV.own : SV → Bool
  | .ml _ => true
  | .md _ => true
  | _ => false
def SV.frz : SV → SV
  | .ml xs => .d (.list xs)
  | .md kvs => .d (dictD kvs)
  | s => s
def SV.dat : SV → Option D
  | .d x => some x
  | .ml xs => some (.list xs)
  | .md kvs => some (dictD kvs)
  | _ => none
abbrev Rho := List (Option SV)
structure Exn where
  cls : String
  args : List D
inductive Res (α : Type) where
  | ok (a : α) (ρ : Rho) | exc (e : Exn) (ρ : Rho) | bad
def Res.bind {α β : Type} (r : Res α) (f : α → Rho → Res β) : Res β := match r with
  | .ok a ρ => f a ρ
  | .exc e ρ => .exc e ρ
  | .bad => .bad
/-- no exception comes out -/
def Res.nox {α : Type} (r : Res α) : Res α := match r with
  | .exc _ _ => .bad
  | r => r
def optR {α β : Type} (o : Option α) (f : α → Res β) : Res β := match o with
  | some a => f a
  | none => .bad
/-- an expression's value: its own, or that of the slot -/
inductive Opd where
  | v (s : SV) | s (i : Nat)
inductive COut where
  | ret (r : SV) (outs : List SV) | exc (e : Exn) (outs : List SV) | bad
abbrev Call := String → List SV → COut
/-- words for classes of exceptions, and the word of none -/
structure WT where
  tab : List (String × Str)
  dflt : Str
  deriving DecidableEq

def gt (ρ : Rho) (i : Nat) : Option SV := match ρ[i]? with
  | some (some s) => some s
  | _ => none
/-- what an operand is worth -/
def peek (ρ : Rho) : Opd → Option SV
  | .v s => some s
  | .s i => gt ρ i
/-- a slot's thing gets a second reader: it stays as it is from now on -/
def frzAt (ρ : Rho) (i : Nat) : Rho := match gt ρ i with
  | some s => if s.own then ρ.set i (some s.frz) else ρ
  | none => ρ
/-- an operand handed on: data -/
def take (o : Opd) (ρ : Rho) : Res D := match o with
  | .v s => match s.dat with
    | some x => .ok x ρ
    | none => .bad
  | .s i => match gt ρ i with
    | some s => match s.dat with
      | some x => .ok x (frzAt ρ i)
      | none => .bad
    | none => .bad
def takes : List Opd → Rho → Res (List D)
  | [], ρ => .ok [] ρ
  | o :: os, ρ => (take o ρ).bind fun x ρ => (takes os ρ).bind fun xs ρ => .ok (x :: xs) ρ
def lift {α : Type} (o : Option α) (ρ : Rho) : Res α := match o with
  | some a => .ok a ρ
  | none => .bad

/-! ### the syntax -/
inductive Bf where
  | len | abs | int | str | bool | tuple | list | sorted | sum | all | any | max | min | dict
  deriving DecidableEq
mutual
inductive Tg where
  | n (i : Nat) | t (ts : Tgs)
inductive Tgs where
  | n | c (a : Tg) (r : Tgs)
end
mutual
inductive E where
  | k (d : D)
  | v (i : Nat)
  | g (x : Str) (d : D)
  | tup (es : Es)
  | lst (es : Es)
  | bin (op : Operator) (a b : E)
  | neg (a : E)
  | not (a : E)
  | and (a b : E)
  | or (a b : E)
  | ite (c a b : E)
  | cmp (op : CmpOp) (a b : E)
  | chn (o1 o2 : CmpOp) (a b c : E)
  | ix (a i : E)
  | sl (a : E) (lo hi : Oe)
  | call (f : String) (es : Es)
  | bi (b : Bf) (es : Es)
  | isi (a : E) (T : String)
  | dic (a : E)
  | srt (a : E)
  | dn
  | rg1 (t : Bool) (a : E)
  | rg2 (t : Bool) (a b : E)
  | rev (a st : E)
  | lc (elt : E) (tg : Tg) (it : It) (cs : Es) (vs : List Nat)
  | lc2 (elt : E) (tg : Tg) (it : It) (cs : Es) (tg1 : Tg) (it1 : It) (cs1 : Es) (vs vs1 : List Nat)
  | dcm (kx vx : E) (tg : Tg) (it : It) (cs : Es) (vs : List Nat)
  | fnv (f : String)
  | sset (a : E)
  | slr (a lo st : E)
  | idx (a b : E)
  | wd (f : String) (t : WT) (vs : List Nat) (e : E)
  | cv (i : Nat) (fs : List String) (es : Es)
inductive Es where
  | n | c (a : E) (r : Es)
inductive Oe where
  | no | so (e : E)
inductive It where
  | seq (a : E) | rg (es : Es) | zip (es : Es) | enum (a : E)
end
mutual
inductive S where
  | set (tg : Tg) (e : E)
  | par (js : List Nat) (es : Es)
  | sub (i : Nat) (ie e : E)
  | aug (i : Nat) (op : Operator) (e : E)
  | ex (e : E)
  | app (i : Nat) (e : E)
  | ite (c : E) (a b : Ss)
  | wh (c : E) (b : Ss)
  | for_ (tg : Tg) (it : It) (b : Ss)
  | ret (e : E)
  | retN
  | raise (cls : String) (a : E)
  | never
  | brk
  | cnt
  | pass
inductive Ss where
  | n | c (s : S) (r : Ss)
end

/-! ### what operations are worth -/
abbrev SZ : Nat := 16777216
mutual
/-- no dict within, at most n deep -/
def gd : Nat → D → Bool
  | _, .none => true
  | _, .bool _ => true
  | _, .int _ => true
  | _, .str _ => true
  | 0, .list _ => false
  | 0, .tuple _ => false
  | n + 1, .list xs => gdAll n xs
  | n + 1, .tuple xs => gdAll n xs
  | _, .dict _ => false
def gdAll : Nat → List D → Bool
  | _, [] => true
  | n, x :: xs => gd n x && gdAll n xs
end
def cmpOk (a b : D) : Bool := gd 60 a && gd 60 b
def intOp : Operator → Int → Int → Option Int
  | .Add, i, j => some (i + j)
  | .Sub, i, j => some (i - j)
  | .Mult, i, j => if (-(2 ^ 64) < i ∧ i < 2 ^ 64) ∨ (-(2 ^ 64) < j ∧ j < 2 ^ 64) then some (i * j) else none
  | .FloorDiv, i, j => if 0 < j ∧ j < 1073741824 then some (i / j) else none
  | .Mod, i, j => if 0 < j then some (i % j) else none
  | .Pow, i, j => if 0 ≤ j ∧ j ≤ 1000000 ∧ i.natAbs < 2 ^ 64 then some (i ^ j.toNat) else none
  | _, _, _ => none
def SV.seqL : SV → Option (List D)
  | .ml xs => some xs
  | .d (.list xs) => some xs
  | _ => none
def binSem (op : Operator) (x y : SV) : Option SV := match x, y with
  | .d (.int i), .d (.int j) => (intOp op i j).map fun k => .d (.int k)
  | .d (.str a), .d (.str b) => match op with
    | .Add => if a.length + b.length ≤ SZ then some (.d (.str (a ++ b))) else none
    | _ => none
  | .d (.tuple a), .d (.tuple b) => match op with
    | .Add => if a.length + b.length ≤ SZ then some (.d (.tuple (a ++ b))) else none
    | _ => none
  | .d (.tuple a), .d (.int k) => match op with
    | .Mult => if k = 1 then some (.d (.tuple a)) else if a ≠ [] ∧ 2 ≤ k ∧ k ≤ 1000 ∧ a.length ≤ 1000 then some (.d (.tuple (List.replicate k.toNat a).flatten)) else none
    | _ => none
  | .ml a, .d (.int k) => match op with
    | .Mult => if -(2 ^ 63) ≤ k ∧ k < 2 ^ 63 ∧ a.length * k.toNat ≤ SZ then some (.ml (List.replicate k.toNat a).flatten) else none
    | _ => none
  | x, y => match x.seqL, y.seqL, op with
    | some a, some b, .Add => if a.length + b.length ≤ SZ then some (.ml (a ++ b)) else none
    | _, _, _ => none
def truth : SV → Option Bool
  | .d .none => some false
  | .d (.bool b) => some b
  | .d (.int i) => some (i != 0)
  | .d (.str x) => some (x.length != 0)
  | .d (.list xs) => some (!xs.isEmpty)
  | .d (.tuple xs) => some (!xs.isEmpty)
  | .ml xs => some (!xs.isEmpty)
  | _ => none
def asKey : D → Option Key
  | .int i => some (.inl i)
  | .str x => some (.inr x)
  | _ => none
def asKeys : List (D × D) → Option (List (Key × D))
  | [] => some []
  | (k, v) :: r => match asKey k, asKeys r with
    | some k, some r => some ((k, v) :: r)
    | _, _ => none
/-- what a dict holds at a key -/
def valG {β : Type} (kvs : List (Key × β)) (k : Key) : Option β := (kvs.find? fun kv => decide (kv.1 = k)).map (·.2)
def getK (kvs : List (D × D)) (y : D) : Option D := match asKey y, asKeys kvs with
  | some k, some ks => valG ks k
  | _, _ => none
def hasK (kvs : List (D × D)) (y : D) : Option Bool := match asKey y, asKeys kvs with
  | some k, some ks => some (valG ks k).isSome
  | _, _ => none
/-- one sign in a text -/
def hasC (x z : Str) : Option Bool := match x.cps.toList with
  | [c] => some (decide (c ∈ z.cps.toList))
  | _ => none
def inSeq (x : D) (ys : List D) : Bool := ys.any fun y => PyData.eqv y x
def isSem (x : D) : D → Option Bool
  | .none => match x with
    | .none => some true
    | _ => some false
  | .bool b => match x with
    | .bool c => some (c == b)
    | _ => some false
  | _ => none
def cmpSem (op : CmpOp) (x y : SV) : Option Bool := match op with
  | .Eq => match x.dat, y.dat with
    | some a, some b => if cmpOk a b then some (PyData.eqv a b) else none
    | _, _ => none
  | .NotEq => match x.dat, y.dat with
    | some a, some b => if cmpOk a b then some (!PyData.eqv a b) else none
    | _, _ => none
  | .Lt => match x, y with
    | .d (.int i), .d (.int j) => some (decide (i < j))
    | .d (.str i), .d (.str j) => some (decide (i.cps.toList < j.cps.toList))
    | _, _ => none
  | .LtE => match x, y with
    | .d (.int i), .d (.int j) => some (decide (i ≤ j))
    | _, _ => none
  | .Gt => match x, y with
    | .d (.int i), .d (.int j) => some (decide (j < i))
    | _, _ => none
  | .GtE => match x, y with
    | .d (.int i), .d (.int j) => some (decide (j ≤ i))
    | _, _ => none
  | .Is => match x.dat, y with
    | some a, .d b => isSem a b
    | _, _ => none
  | .IsNot => match x.dat, y with
    | some a, .d b => (isSem a b).map (!·)
    | _, _ => none
  | .In => match x.dat, y.dat with
    | some a, some (.list ys) => if gd 60 a && gdAll 59 ys then some (inSeq a ys) else none
    | some a, some (.tuple ys) => if gd 60 a && gdAll 59 ys then some (inSeq a ys) else none
    | some a, some (.dict kvs) => hasK kvs a
    | some (.str a), some (.str b) => hasC a b
    | _, _ => none
  | .NotIn => match x.dat, y.dat with
    | some a, some (.list ys) => if gd 60 a && gdAll 59 ys then some (!inSeq a ys) else none
    | some a, some (.tuple ys) => if gd 60 a && gdAll 59 ys then some (!inSeq a ys) else none
    | some a, some (.dict kvs) => (hasK kvs a).map (!·)
    | some (.str a), some (.str b) => (hasC a b).map (!·)
    | _, _ => none
def atD (xs : List D) (i : Int) : Option D := if 0 ≤ i then xs[i.toNat]? else if -(xs.length : Int) ≤ i then xs[(i + xs.length).toNat]? else none
/-- a sign of a text -/
def atC (z : Str) (i : Int) : Option Nat := L2.atI z.cps.toList i
def ixSem (x y : SV) : Option SV := match x.dat, y with
  | some (.list xs), .d (.int i) => (atD xs i).map .d
  | some (.tuple xs), .d (.int i) => (atD xs i).map .d
  | some (.str z), .d (.int i) => (atC z i).map fun c => .d (.str ⟨#[c]⟩)
  | some (.dict kvs), .d y => (getK kvs y).map .d
  | _, _ => none
def cutD (xs : List D) (lo hi : Option Int) : List D := (xs.drop (HT.sIx xs.length 0 lo)).take (HT.sIx xs.length xs.length hi - HT.sIx xs.length 0 lo)
def slSem (x : SV) (lo hi : Option Int) : Option SV := match x.dat with
  | some (.list xs) => some (.ml (cutD xs lo hi))
  | some (.tuple xs) => some (.d (.tuple (cutD xs lo hi)))
  | _ => none
def revSem (s : SV) : Option SV := match s.dat with
  | some (.list xs) => some (.ml xs.reverse)
  | some (.tuple xs) => some (.d (.tuple xs.reverse))
  | _ => none
def intsOf : List D → Option (List Int)
  | [] => some []
  | .int i :: r => (intsOf r).map (i :: ·)
  | _ => none
def boolsOf : List D → Option (List Bool)
  | [] => some []
  | .bool i :: r => (boolsOf r).map (i :: ·)
  | _ => none
def strsOf : List D → Option (List Str)
  | [] => some []
  | .str i :: r => (strsOf r).map (i :: ·)
  | _ => none
def items? : SV → Option (List D)
  | .d (.list xs) => some xs
  | .d (.tuple xs) => some xs
  | .ml xs => some xs
  | _ => none
def un1 (f : SV → Option SV) : List SV → Option SV
  | [x] => f x
  | _ => none
def biLen (x : SV) : Option SV := match x.dat with
  | some (.list xs) => some (.d (.int xs.length))
  | some (.tuple xs) => some (.d (.int xs.length))
  | some (.str xs) => some (.d (.int xs.length))
  | some (.dict kvs) => if isF kvs = true then none else some (.d (.int kvs.length))
  | _ => none
def biAbs : SV → Option SV
  | .d (.int i) => some (.d (.int (if i < 0 then -i else i)))
  | _ => none
def biInt : SV → Option SV
  | .d (.int i) => some (.d (.int i))
  | .d (.bool b) => some (.d (.int (if b then 1 else 0)))
  | _ => none
def biTuple (x : SV) : Option SV := (items? x).map fun ys => .d (.tuple ys)
def biList : SV → Option SV
  | .rl xs => some (.ml xs)
  | x => (items? x).map fun ys => .ml ys
def biSum (x : SV) : Option SV := match x.seqL with
  | some ys => (intsOf ys).map fun ns => .d (.int ns.sum)
  | none => none
def biAll (x : SV) : Option SV := match x.seqL with
  | some ys => (boolsOf ys).map fun ns => .d (.bool (ns.all id))
  | none => none
def biAny (x : SV) : Option SV := match x.seqL with
  | some ys => (boolsOf ys).map fun ns => .d (.bool (ns.any id))
  | none => none
/-- the greatest of ints -/
def maxL : List Int → Int
  | [] => 0
  | [x] => x
  | x :: y :: r => max x (maxL (y :: r))
def minL : List Int → Int
  | [] => 0
  | [x] => x
  | x :: y :: r => min x (minL (y :: r))
def biMax : List SV → Option SV
  | [x] => match x.seqL with
    | some ys => match intsOf ys with
      | some (n :: ns) => some (.d (.int (maxL (n :: ns))))
      | _ => none
    | none => none
  | [.d (.int i), .d (.int j)] => some (.d (.int (if j > i then j else i)))
  | _ => none
def biMin : List SV → Option SV
  | [x] => match x.seqL with
    | some ys => match intsOf ys with
      | some (n :: ns) => some (.d (.int (minL (n :: ns))))
      | _ => none
    | none => none
  | [.d (.int i), .d (.int j)] => some (.d (.int (if j < i then j else i)))
  | _ => none
def biStr : SV → Option SV
  | .d (.str x) => some (.d (.str x))
  | .d (.int i) => if i.natAbs.log2 < 1920 then some (.d (.str (toString i))) else none
  | _ => none
def biSem : Bf → List SV → Option SV
  | .len => un1 biLen
  | .abs => un1 biAbs
  | .int => un1 biInt
  | .str => un1 biStr
  | .bool => fun _ => none
  | .tuple => un1 biTuple
  | .list => un1 biList
  | .sorted => fun _ => none
  | .sum => un1 biSum
  | .all => un1 biAll
  | .any => un1 biAny
  | .max => biMax
  | .min => biMin
  | .dict => fun _ => none
/-- in its place, or at the end -/
def putG {β : Type} (kvs : List (Key × β)) (k : Key) (v : β) : List (Key × β) :=
  if (kvs.any fun kv => decide (kv.1 = k)) = true then kvs.map (fun kv => if kv.1 = k then (kv.1, v) else kv) else kvs ++ [(k, v)]
def mergeG {β : Type} (kvs more : List (Key × β)) : List (Key × β) := more.foldl (fun acc kv => putG acc kv.1 kv.2) kvs
def pairsK : List D → Option (List (Key × D))
  | [] => some []
  | .tuple [k, v] :: r => match asKey k, pairsK r with
    | some k, some r => some ((k, v) :: r)
    | _, _ => none
  | _ => none
def dicSem (x : SV) : Option D := match x.seqL with
  | some ys => (pairsK ys).map fun kvs => dictD (mergeG [] kvs)
  | none => none
def insI (x : Int) : List Int → List Int
  | [] => [x]
  | y :: r => if x ≤ y then x :: y :: r else y :: insI x r
def sortI : List Int → List Int
  | [] => []
  | x :: r => insI x (sortI r)
def intKeys : List (D × D) → Option (List Int)
  | [] => some []
  | (.int i, _) :: r => (intKeys r).map (i :: ·)
  | _ => none
def srtSem (x : SV) : Option (List D) := match x with
  | .d (.dict kvs) => match intKeys kvs with
    | some ns => if ns.length < 64 then some ((sortI ns).map .int) else none
    | none => none
  | x => match x.seqL with
    | some ys => (intsOf ys).map fun ns => (sortI ns).map .int
    | none => none
/-- without doubles -/
def ddI : List Int → List Int
  | [] => []
  | x :: r => if x ∈ r then ddI r else x :: ddI r
def ssetSem (x : SV) : Option (List D) := match x.seqL with
  | some ys => match intsOf ys with
    | some ns => if ns.length < 64 then some ((sortI (ddI ns)).map .int) else none
    | none => none
  | none => none
/-- the first place of a like value -/
def idxD (x : D) : List D → Nat → Option Nat
  | [], _ => none
  | y :: r, k => if PyData.eqv y x then some k else idxD x r (k + 1)
def idxSem (x y : SV) : Option SV := match x.dat, y.dat with
  | some (.list ys), some a => if gd 60 a && gdAll 59 ys then (idxD a ys 0).map fun k => .d (.int (k : Nat)) else none
  | _, _ => none
def slrSem (s : SV) : Option SV := match s.dat with
  | some (.list xs) => some (.ml (xs.take (xs.length - 1)).reverse)
  | _ => none
def isiS (x : D) (T : String) : Option Bool :=
  if T = "int" then some (match x with | .int _ => true | .bool _ => true | _ => false)
  else if T = "bool" then some (match x with | .bool _ => true | _ => false)
  else if T = "str" then some (match x with | .str _ => true | _ => false)
  else if T = "tuple" then some (match x with | .tuple _ => true | _ => false)
  else if T = "list" then some (match x with | .list _ => true | _ => false)
  else none

def isiSem (x : D) (T : String) : Option Bool := if isFd x = true then none else isiS x T

/-! ### targets -/
mutual
def setTg : Tg → D → Rho → Option Rho
  | .n i, x, ρ => some (ρ.set i (some (.d x)))
  | .t ts, x, ρ => match x with
    | .tuple xs => setTgs ts xs ρ
    | _ => none
def setTgs : Tgs → List D → Rho → Option Rho
  | .n, [], ρ => some ρ
  | .c a r, x :: xs, ρ => match setTg a x ρ with
    | some ρ => setTgs r xs ρ
    | none => none
  | _, _, _ => none
end
mutual
def Tg.slots : Tg → List Nat
  | .n i => [i]
  | .t ts => ts.slots
def Tgs.slots : Tgs → List Nat
  | .n => []
  | .c a r => a.slots ++ r.slots
end
def Tgs.len : Tgs → Nat
  | .n => 0
  | .c _ r => r.len + 1
def wipeR (ρ : Rho) : List Nat → Rho
  | [] => ρ
  | v :: vs => (wipeR ρ vs).set v none
/-- ρ, but at vs as in ρ0 -/
def backR (ρ0 ρ : Rho) : List Nat → Rho
  | [] => ρ
  | v :: vs => (backR ρ0 ρ vs).set v ((ρ0[v]?).getD none)

/-! ### calls: what is handed over, what comes back -/
def slotsOf : List Opd → List Nat
  | [] => []
  | .s i :: r => i :: slotsOf r
  | .v _ :: r => slotsOf r
def peeks (ρ : Rho) : List Opd → Option (List SV)
  | [] => some []
  | o :: r => match peek ρ o, peeks ρ r with
    | some s, some ss => some (s :: ss)
    | _, _ => none
/-- what was lent comes back -/
def backs (ρ : Rho) : List Opd → List SV → List SV → Rho
  | .s i :: os, s :: ss, t :: ts => if s.own then (backs ρ os ss ts).set i (some t) else backs ρ os ss ts
  | .v _ :: os, _ :: ss, _ :: ts => backs ρ os ss ts
  | _, _, _ => ρ
def callSem (C : Call) (f : String) (os : List Opd) (ρ : Rho) : Res Opd := optR (peeks ρ os) fun ss => if (slotsOf os).Nodup then
      match C f ss with
      | .ret r outs => .ok (.v r) (backs ρ os ss outs)
      | .exc e outs => .exc e (backs ρ os ss outs)
      | .bad => .bad
    else .bad

/-- the def that a slot holds -/
def cvSem (fs : List String) : Option SV → Option String
  | some (.d (.dict [(.none, .str s)])) => fs.find? fun f => decide (Str.ofString f = s)
  | _ => none
/-- without what slots own -/
def cleanR (ρ : Rho) : Rho := ρ.map fun
  | some s => if s.own then none else some s
  | none => none
/-- what a lambda of the slots vs sees -/
def keepR (ρ : Rho) (vs : List Nat) : Rho := backR ρ (cleanR ρ) vs
/-- the word of what a call of a lambda raises -/
def wdSem (t : WT) (r : Res Opd) (ρ : Rho) (vs : List Nat) : Res Opd := match r with
  | .ok _ ρ' => .ok (.v (.d (.str t.dflt))) (backR ρ' ρ vs)
  | .exc x _ => match t.tab.lookup x.cls with
    | some w => .ok (.v (.d (.str w))) (backR (cleanR ρ) ρ vs)
    | none => .bad
  | .bad => .bad
def tst (m : Bool) (r : Res Opd) : Res Opd := match m with
  | false => r
  | true => r.bind fun o ρ => optR (peek ρ o) fun s => optR (truth s) fun b => .ok (.v (.d (.bool b))) ρ
def boolOf (r : Res Opd) : Res Bool := r.bind fun o ρ => match o with
  | .v (.d (.bool b)) => .ok b ρ
  | _ => .bad
def lcGo (step : D → Rho → Res (Option D)) : List D → Rho → Res (List D)
  | [], ρ => .ok [] ρ
  | x :: xs, ρ => (step x ρ).bind fun y ρ => (lcGo step xs ρ).bind fun ys ρ => .ok (y.toList ++ ys) ρ
/-- within the inner for: what has come so far is handed on -/
def lcIn (step : D → Rho → Res (Option D)) : List D → List D → Rho → Res (List D)
  | [], acc, ρ => .ok acc ρ
  | x :: xs, acc, ρ => (step x ρ).bind fun o ρ => match o with
    | some y => if acc.length < SZ then lcIn step xs (acc ++ [y]) ρ else .bad
    | none => lcIn step xs acc ρ
def lcOut (step : D → List D → Rho → Res (List D)) : List D → List D → Rho → Res (List D)
  | [], acc, ρ => .ok acc ρ
  | x :: xs, acc, ρ => (step x acc ρ).bind fun acc ρ => lcOut step xs acc ρ
def dcGo (step : D → Rho → Res (Option (Key × D))) : List D → List (Key × D) → Rho → Res (List (Key × D))
  | [], acc, ρ => .ok acc ρ
  | x :: xs, acc, ρ => (step x ρ).bind fun o ρ => match o with
    | some p => if acc.length < SZ then dcGo step xs (putG acc p.1 p.2) ρ else .bad
    | none => dcGo step xs acc ρ
def zip2D : List D → List D → List D
  | x :: xs, y :: ys => .tuple [x, y] :: zip2D xs ys
  | _, _ => []
def zip3D : List D → List D → List D → List D
  | x :: xs, y :: ys, z :: zs => .tuple [x, y, z] :: zip3D xs ys zs
  | _, _, _ => []
def enumD (k : Int) : List D → List D
  | [] => []
  | x :: xs => .tuple [.int k, x] :: enumD (k + 1) xs
def rangeD (lo : Int) (n : Nat) : List D := (List.range n).map fun k => .int (lo + (k : Nat))
def rgOk (i : Int) : Bool := decide (-(2 ^ 62) ≤ i) && decide (i < 2 ^ 62)
def rgSem : List SV → Option (List D)
  | [.d (.int j)] => if rgOk j && decide (j ≤ 16777216) then some (rangeD 0 j.toNat) else none
  | [.d (.int i), .d (.int j)] => if rgOk i && rgOk j && decide (j - i ≤ 16777216) then some (rangeD i (j - i).toNat) else none
  | [.d (.int i), .d (.int j), .d (.int k)] => if decide (k = -1) && (rgOk i && rgOk j && decide (i - j ≤ 16777216)) then some ((List.range (i - j).toNat).map fun m => .int (i + (m : Nat) * (-1))) else none
  | _ => none
def itemsD : D → Option (List D)
  | .list xs => some xs
  | .tuple xs => some xs
  | _ => none
/-- what a for walks: also a dict's keys, a text's signs -/
def seqD : D → Option (List D)
  | .list xs => some xs
  | .tuple xs => some xs
  | .dict kvs => if kvs.length ≤ SZ ∧ isF kvs = false then some (kvs.map (·.1)) else none
  | .str z => some (z.cps.toList.map fun c => .str ⟨#[c]⟩)
  | _ => none
def zipSem : List D → Option (List D)
  | [a, b] => match itemsD a, itemsD b with
    | some xs, some ys => some (zip2D xs ys)
    | _, _ => none
  | [a, b, c] => match itemsD a, itemsD b, itemsD c with
    | some xs, some ys, some zs => some (zip3D xs ys zs)
    | _, _, _ => none
  | _ => none
def partOf (o : Opd) : Option Int := match o with
  | .v (.d (.int i)) => some i
  | _ => none

mutual
def ev (C : Call) : Bool → E → Rho → Res Opd
  | m, .k d, ρ => tst m (.ok (.v (.d d)) ρ)
  | m, .v i, ρ => tst m (optR (gt ρ i) fun s => if s.own then .ok (.s i) ρ else .ok (.v s) ρ)
  | m, .g _ d, ρ => tst m (.ok (.v (.d d)) ρ)
  | m, .tup es, ρ => tst m ((evs C es ρ).bind fun os ρ => (takes os ρ).bind fun xs ρ => .ok (.v (.d (.tuple xs))) ρ)
  | m, .lst es, ρ => tst m ((evs C es ρ).bind fun os ρ => (takes os ρ).bind fun xs ρ => .ok (.v (.ml xs)) ρ)
  | m, .bin op a b, ρ => tst m ((ev C false a ρ).bind fun x ρ => (ev C false b ρ).bind fun y ρ => optR (peek ρ x) fun s => optR (peek ρ y) fun t => optR (binSem op s t) fun r => .ok (.v r) ρ)
  | m, .neg a, ρ => tst m ((ev C false a ρ).bind fun x ρ => optR (partOf x) fun i => .ok (.v (.d (.int (-i)))) ρ)
  | m, .not a, ρ => (boolOf (match m with
    | true => ev C true a ρ
    | false => tst true (ev C false a ρ))).bind fun b ρ => .ok (.v (.d (.bool (!b)))) ρ
  | m, .and a b, ρ => match m with
    | true => (boolOf (ev C true a ρ)).bind fun c ρ => if c then ev C true b ρ else .ok (.v (.d (.bool false))) ρ
    | false => (ev C false a ρ).bind fun x ρ => optR (peek ρ x) fun s => optR (truth s) fun c => if c then ev C false b ρ else .ok x ρ
  | m, .or a b, ρ => match m with
    | true => (boolOf (ev C true a ρ)).bind fun c ρ => if c then .ok (.v (.d (.bool true))) ρ else ev C true b ρ
    | false => (ev C false a ρ).bind fun x ρ => optR (peek ρ x) fun s => optR (truth s) fun c => if c then .ok x ρ else ev C false b ρ
  | m, .ite c a b, ρ => (boolOf (ev C true c ρ)).bind fun t ρ => if t then ev C m a ρ else ev C m b ρ
  | _, .cmp op a b, ρ => (ev C false a ρ).bind fun x ρ => (ev C false b ρ).bind fun y ρ => optR (peek ρ x) fun s => optR (peek ρ y) fun t => optR (cmpSem op s t) fun k => .ok (.v (.d (.bool k))) ρ
  | _, .chn o1 o2 a b c, ρ => (ev C false a ρ).bind fun x ρ => (ev C false b ρ).bind fun y ρ => optR (peek ρ x) fun s => optR (peek ρ y) fun t => optR (cmpSem o1 s t) fun k =>
      if k then (ev C false c ρ).bind fun z ρ => optR (peek ρ y) fun t => optR (peek ρ z) fun u => optR (cmpSem o2 t u) fun k => .ok (.v (.d (.bool k))) ρ
      else .ok (.v (.d (.bool false))) ρ
  | m, .ix a i, ρ => tst m ((ev C false a ρ).bind fun x ρ => (ev C false i ρ).bind fun y ρ => optR (peek ρ x) fun s => optR (peek ρ y) fun t => optR (ixSem s t) fun r => .ok (.v r) ρ)
  | m, .sl a lo hi, ρ => tst m ((ev C false a ρ).bind fun x ρ => (evO C lo ρ).bind fun l ρ => (evO C hi ρ).bind fun h ρ => optR (peek ρ x) fun s => optR (slSem s l h) fun r => .ok (.v r) ρ)
  | m, .call f es, ρ => tst m ((evs C es ρ).bind fun os ρ => callSem C f os ρ)
  | m, .bi b es, ρ => tst m ((evs C es ρ).bind fun os ρ => optR (peeks ρ os) fun ss => optR (biSem b ss) fun r => .ok (.v r) ρ)
  | m, .isi a T, ρ => tst m ((ev C false a ρ).bind fun x ρ => optR (peek ρ x) fun s => optR s.dat fun x => optR (isiSem x T) fun k => .ok (.v (.d (.bool k))) ρ)
  | m, .dic a, ρ => tst m ((ev C false a ρ).bind fun o ρ => optR (peek ρ o) fun s => optR (dicSem s) fun x => .ok (.v (.d x)) ρ)
  | m, .srt a, ρ => tst m ((ev C false a ρ).bind fun o ρ => optR (peek ρ o) fun s => optR (srtSem s) fun xs => .ok (.v (.ml xs)) ρ)
  | m, .rev a st, ρ => tst m ((ev C false a ρ).bind fun o ρ => (ev C false st ρ).bind fun k ρ => optR (partOf k) fun i => if i = -1 then optR (peek ρ o) fun s => optR (revSem s) fun r => .ok (.v r) ρ else .bad)
  | m, .fnv f, ρ => tst m (.ok (.v (.d (fnD f))) ρ)
  | m, .cv i fs es, ρ => tst m (optR (cvSem fs (gt ρ i)) fun f => (evs C es ρ).bind fun os ρ => callSem C f os ρ)
  | m, .wd _ t vs e, ρ => tst m (wdSem t (ev C false e (keepR ρ vs)) ρ vs)
  | m, .sset a, ρ => tst m ((ev C false a ρ).bind fun o ρ => optR (peek ρ o) fun s => optR (ssetSem s) fun xs => .ok (.v (.ml xs)) ρ)
  | m, .slr a lo st, ρ => tst m ((ev C false a ρ).bind fun o ρ => (ev C false lo ρ).bind fun l ρ => optR (partOf l) fun j => (ev C false st ρ).bind fun k ρ => optR (partOf k) fun i => if i = -1 ∧ j = -2 then optR (peek ρ o) fun s => optR (slrSem s) fun r => .ok (.v r) ρ else .bad)
  | m, .idx a b, ρ => tst m ((ev C false a ρ).bind fun x ρ => optR ((peek ρ x).bind SV.seqL) fun _ => (ev C false b ρ).bind fun y ρ => optR (peek ρ x) fun s => optR (peek ρ y) fun t => optR (idxSem s t) fun r => .ok (.v r) ρ)
  | m, .dn, ρ => tst m (.ok (.v (.md [])) ρ)
  | m, .rg1 t a, ρ => tst m ((ev C false a ρ).bind fun o ρ => optR (partOf o) fun j => optR (rgSem [.d (.int j)]) fun xs => .ok (.v (if t then .d (.tuple xs) else .ml xs)) ρ)
  | m, .rg2 t a b, ρ => tst m ((ev C false a ρ).bind fun o ρ => (ev C false b ρ).bind fun o2 ρ => optR (partOf o) fun i => optR (partOf o2) fun j => optR (rgSem [.d (.int i), .d (.int j)]) fun xs => .ok (.v (if t then .d (.tuple xs) else .ml xs)) ρ)
  | m, .lc elt tg it cs vs, ρ => tst m ((evI C it ρ).bind fun xs ρ1 =>
      (lcGo (fun x ρ => optR (setTg tg x (wipeR ρ vs)) fun ρ => (evC C cs ρ).bind fun k ρ => if k then (ev C false elt ρ).bind fun o ρ => (take o ρ).bind fun y ρ => .ok (some y) ρ else .ok none ρ) xs ρ1).nox.bind
      fun ys ρ2 => .ok (.v (.ml ys)) (backR ρ1 ρ2 vs))
  | m, .lc2 elt tg it cs tg1 it1 cs1 vs vs1, ρ => tst m ((evI C it ρ).bind fun xs ρ1 =>
      (lcOut (fun x acc ρ => optR (setTg tg x (wipeR ρ vs)) fun ρ => (evC C cs ρ).bind fun k ρ => if k then (evI C it1 ρ).bind fun zs ρ =>
        lcIn (fun z ρ => optR (setTg tg1 z (wipeR ρ vs1)) fun ρ => (evC C cs1 ρ).bind fun k ρ => if k then (ev C false elt ρ).bind fun o ρ => (take o ρ).bind fun y ρ => .ok (some y) ρ else .ok none ρ) zs acc ρ else .ok acc ρ) xs [] ρ1).nox.bind
      fun ys ρ2 => .ok (.v (.ml ys)) (backR ρ1 ρ2 vs))
  | m, .dcm kx vx tg it cs vs, ρ => tst m ((evI C it ρ).bind fun xs ρ1 =>
      (dcGo (fun x ρ => optR (setTg tg x (wipeR ρ vs)) fun ρ => (evC C cs ρ).bind fun t ρ => if t then (ev C false kx ρ).bind fun o ρ => (take o ρ).bind fun y ρ => optR (asKey y) fun k => (ev C false vx ρ).bind fun o ρ => (take o ρ).bind fun z ρ => .ok (some (k, z)) ρ else .ok none ρ) xs [] ρ1).nox.bind
      fun kvs ρ2 => .ok (.v (.md kvs)) (backR ρ1 ρ2 vs))
def evs (C : Call) : Es → Rho → Res (List Opd)
  | .n, ρ => .ok [] ρ
  | .c a r, ρ => (ev C false a ρ).bind fun x ρ => (evs C r ρ).bind fun xs ρ => .ok (x :: xs) ρ
/-- a comprehension's tests -/
def evC (C : Call) : Es → Rho → Res Bool
  | .n, ρ => .ok true ρ
  | .c a r, ρ => (boolOf (ev C true a ρ)).bind fun k ρ => if k then evC C r ρ else .ok false ρ
def evO (C : Call) : Oe → Rho → Res (Option Int)
  | .no, ρ => .ok none ρ
  | .so e, ρ => (ev C false e ρ).bind fun x ρ => optR (partOf x) fun i => .ok (some i) ρ
def evI (C : Call) : It → Rho → Res (List D)
  | .seq a, ρ => (ev C false a ρ).bind fun o ρ => (take o ρ).bind fun x ρ => lift (seqD x) ρ
  | .rg es, ρ => (evs C es ρ).bind fun os ρ => optR (peeks ρ os) fun ss => lift (rgSem ss) ρ
  | .zip es, ρ => (evs C es ρ).bind fun os ρ => (takes os ρ).bind fun xs ρ => lift (zipSem xs) ρ
  | .enum a, ρ => (ev C false a ρ).bind fun o ρ => (take o ρ).bind fun x ρ => lift ((itemsD x).map (enumD 0)) ρ
end

/-! ### statements -/
inductive Fl where
  | nx | brk | cnt | ret (r : SV)
def forGo (step : D → Rho → Res Fl) : List D → Rho → Res Fl
  | [], ρ => .ok .nx ρ
  | x :: xs, ρ => (step x ρ).bind fun f ρ => match f with
    | .nx => forGo step xs ρ
    | .cnt => forGo step xs ρ
    | .brk => .ok .nx ρ
    | .ret r => .ok (.ret r) ρ
/-- one turn of a while: on, or an end -/
inductive Wt where
  | on (ρ : Rho) | end_ (r : Res Fl)
def iterW (step : Rho → Wt) : Nat → Rho → Option (Res Fl)
  | 0, _ => none
  | n + 1, ρ => match step ρ with
    | .on ρ => iterW step n ρ
    | .end_ r => some r
def WF : Nat := 4611686018427387904
/-- at most so many turns -/
def whileR (step : Rho → Wt) (ρ : Rho) : Res Fl := (iterW step WF ρ).getD .bad
def whStep (c : Res Opd) (b : Rho → Res Fl) : Wt := match boolOf c with
  | .ok true ρ => match b ρ with
    | .ok .nx ρ => .on ρ
    | .ok .cnt ρ => .on ρ
    | .ok .brk ρ => .end_ (.ok .nx ρ)
    | r => .end_ r
  | .ok false ρ => .end_ (.ok .nx ρ)
  | .exc e ρ => .end_ (.exc e ρ)
  | .bad => .end_ .bad
/-- np: the parameters; x of a local is handed out as it is, of a parameter it is frozen -/
def retSem (np : Nat) (o : Opd) (ρ : Rho) : Res Fl := match o with
  | .v s => .ok (.ret s) ρ
  | .s i => if i < np then (take (.s i) ρ).bind fun x ρ => .ok (.ret (.d x)) ρ else optR (gt ρ i) fun s => .ok (.ret s) ρ
/-- a name is stored: a list or dict of its own keeps it alone -/
def setOpd (i : Nat) (o : Opd) (ρ : Rho) : Res Fl := match o with
  | .v s => .ok .nx (ρ.set i (some s))
  | .s j => (take (.s j) ρ).bind fun x ρ => .ok .nx (ρ.set i (some (.d x)))
def setSem (tg : Tg) (o : Opd) (ρ : Rho) : Res Fl := match tg with
  | .n i => setOpd i o ρ
  | .t ts => (take o ρ).bind fun x ρ => optR (setTg (.t ts) x ρ) fun ρ => .ok .nx ρ
/-- own things are handed on, slots are frozen -/
def movesR : List Opd → Rho → Res (List SV)
  | [], ρ => .ok [] ρ
  | .v s :: os, ρ => (movesR os ρ).bind fun ss ρ => .ok (s :: ss) ρ
  | .s i :: os, ρ => (take (.s i) ρ).bind fun x ρ => (movesR os ρ).bind fun ss ρ => .ok (.d x :: ss) ρ
def setAll : List Nat → List SV → Rho → Option Rho
  | [], [], ρ => some ρ
  | i :: is, s :: ss, ρ => setAll is ss (ρ.set i (some s))
  | _, _, _ => none
def ixPut (xs : List D) (i : Int) (x : D) : Option (List D) := if 0 ≤ i then (if i < xs.length then some (xs.set i.toNat x) else none) else if -(xs.length : Int) ≤ i then some (xs.set (i + xs.length).toNat x) else none
def subSem (s : SV) (i : SV) (x : D) : Option SV := match s, i with
  | .ml xs, .d (.int k) => (ixPut xs k x).map .ml
  | .md kvs, .d y => match asKey y with
    | some k => if kvs.length < SZ then some (.md (putG kvs k x)) else none
    | none => none
  | _, _ => none
def appSem (s : SV) (x : D) : Option SV := match s with
  | .ml xs => if xs.length < SZ then some (.ml (xs ++ [x])) else none
  | _ => none
def augSem (op : Operator) (s t : SV) : Option SV := match s, t with
  | .d (.int i), .d (.int j) => match op with
    | .Add => some (.d (.int (i + j)))
    | .Sub => some (.d (.int (i - j)))
    | _ => none
  | .d (.str a), .d (.str b) => match op with
    | .Add => if a.length + b.length ≤ SZ then some (.d (.str (a ++ b))) else none
    | _ => none
  | _, _ => none
/-- the slot has a list of its own -/
def mlAt (ρ : Rho) (i : Nat) : Option Unit := match gt ρ i with
  | some (.ml _) => some ()
  | _ => none
def datOf : Opd → Option D
  | .v (.d x) => some x
  | _ => none
mutual
def evS (C : Call) (np : Nat) : S → Rho → Res Fl
  | .set tg e, ρ => (ev C false e ρ).bind fun o ρ => setSem tg o ρ
  | .par js es, ρ => (evs C es ρ).bind fun os ρ => (movesR os ρ).bind fun ss ρ => optR (setAll js ss ρ) fun ρ => .ok .nx ρ
  | .sub i ie e, ρ => (ev C false e ρ).bind fun o ρ => (take o ρ).bind fun x ρ => optR (gt ρ i) fun _ => (ev C false ie ρ).bind fun k ρ => optR (gt ρ i) fun s => optR (peek ρ k) fun t => optR (subSem s t x) fun s' => .ok .nx (ρ.set i (some s'))
  | .aug i op e, ρ => optR (gt ρ i) fun s => (ev C false e ρ).bind fun o ρ => optR (peek ρ o) fun t => optR (augSem op s t) fun r => .ok .nx (ρ.set i (some r))
  | .ex e, ρ => (ev C false e ρ).bind fun _ ρ => .ok .nx ρ
  | .app i e, ρ => optR (mlAt ρ i) fun _ => (ev C false e ρ).bind fun o ρ => (take o ρ).bind fun x ρ => optR (gt ρ i) fun s => optR (appSem s x) fun s' => .ok .nx (ρ.set i (some s'))
  | .ite c a b, ρ => (boolOf (ev C true c ρ)).bind fun t ρ => if t then evSs C np a ρ else evSs C np b ρ
  | .wh c b, ρ => whileR (fun ρ => whStep (ev C true c ρ) fun ρ => evSs C np b ρ) ρ
  | .for_ tg it b, ρ => (evI C it ρ).bind fun xs ρ => forGo (fun x ρ => optR (setTg tg x ρ) fun ρ => evSs C np b ρ) xs ρ
  | .ret e, ρ => (ev C false e ρ).bind fun o ρ => retSem np o ρ
  | .retN, ρ => .ok (.ret (.d .none)) ρ
  | .raise c a, ρ => (ev C false a ρ).bind fun o ρ => optR (datOf o) fun x => .exc ⟨c, [x]⟩ ρ
  | .never, _ => .bad
  | .brk, ρ => .ok .brk ρ
  | .cnt, ρ => .ok .cnt ρ
  | .pass, ρ => .ok .nx ρ
def evSs (C : Call) (np : Nat) : Ss → Rho → Res Fl
  | .n, ρ => .ok .nx ρ
  | .c s r, ρ => (evS C np s ρ).bind fun f ρ => match f with
    | .nx => evSs C np r ρ
    | f => .ok f ρ
end

/-! ### defs -/
structure Fn where
  np : Nat
  ns : Nat
  asg : List Nat
  body : Ss
abbrev Prog := List (String × Fn)
def frzL : List Nat → Rho → Rho
  | [], ρ => ρ
  | i :: is, ρ => frzL is (frzAt ρ i)
/-- the parameters behind the body -/
def outsOf (asg : List Nat) (ρ : Rho) : Nat → List SV → List SV
  | _, [] => []
  | k, s :: ss => (if k ∈ asg then s.frz else (gt ρ k).getD s) :: outsOf asg ρ (k + 1) ss
def parOk (np : Nat) (ρ : Rho) : Bool := (List.range np).all fun k => (gt ρ k).isSome
def callFn (C : Call) (f : Fn) (ss : List SV) : COut :=
  if ss.length = f.np then
    match evSs C (if ss.any SV.own then f.ns else f.np) f.body (frzL f.asg (ss.map some ++ List.replicate (f.ns - f.np) none)) with
    | .ok (.ret r) ρ => if parOk f.np ρ then .ret r (outsOf f.asg ρ 0 ss) else .bad
    | .ok .nx ρ => if parOk f.np ρ then .ret (.d .none) (outsOf f.asg ρ 0 ss) else .bad
    | .ok _ _ => .bad
    | .exc e ρ => if parOk f.np ρ then .exc e (outsOf f.asg ρ 0 ss) else .bad
    | .bad => .bad
  else .bad
def callN (P : Prog) : Nat → Call
  | 0 => fun _ _ => .bad
  | n + 1 => fun f ss => match P.lookup f with
    | some fn => callFn (callN P n) fn ss
    | none => .bad
end Q

namespace Q
open PySem L2
/-! ### that a text is the given syntax -/
structure Kx where
  N : List Str
  fs : List String
  cs : List (Str × D)
  /-- classes of exceptions -/
  es : List String
  /-- defs that tell a word of what a lambda raises -/
  ws : List (String × WT)
def visB (sc : Scope) (x : Str) : Bool := match sc.names.lookup x with
  | some .local => true
  | some .cell => true
  | some .free => true
  | _ => false
def locB (sc : Scope) (x : Str) : Bool := match sc.names.lookup x with
  | some .local => true
  | some .cell => true
  | _ => false
def isLocal (sc : Scope) (x : Str) : Bool := match sc.names.lookup x with
  | some .local => true
  | _ => false
def glB (sc : Scope) (x : Str) : Bool := match sc.names.lookup x with
  | some .globalImplicit => true
  | _ => false
def strB (x y : Str) : Bool := decide (x = y)
def natB (x y : Nat) : Bool := decide (x = y)
def okName (x : Str) : Bool := !(x == ("__debug__" : Str)) && !(x == ("__classdict__" : Str)) && !strB x "__name__" && !strB x "<lambda>"
abbrev lamN : Str := "<lambda>"
/-- within a comprehension; at lamN: whether a lambda may be made -/
def cfn (fn : Str → Bool) (scope : Scope) (x : Str) : Bool := if x = lamN then fn lamN else scope.names.lookup x == some .cell
def noArgs : Arguments → Bool
  | ⟨[], [], none, [], [], none, []⟩ => true
  | _ => false
def okWord (x : Str) : Bool := x.cps.all (· < 0x110000) && decide (x.length ≤ 1000)
/-- x is the name of slot i, read -/
def rdB (Γ : Kx) (sc : Scope) (i : Nat) (e : Expr) : Bool := match e with
  | .Name x _ => decide (Γ.N[i]? = some x) && visB sc x && okName x
  | _ => false
/-- .. stored -/
def stB (Γ : Kx) (sc : Scope) (fn : Str → Bool) (i : Nat) (e : Expr) : Bool := match e with
  | .Name x _ => decide (Γ.N[i]? = some x) && locB sc x && (fn x || isLocal sc x) && okName x
  | _ => false
/-- a built-in's name -/
def blB (sc : Scope) (b : String) (e : Expr) : Bool := match e with
  | .Name x _ => strB x (Str.ofString b) && glB sc x && okName x
  | _ => false
def dEq : D → Const → Bool
  | .none, .none => true
  | .bool a, .bool b => a == b
  | .int a, .int b => decide (a = b)
  | .str a, .str b => strB a b && a.cps.all (· < 0x110000) && decide (a.length ≤ 1000)
  | _, _ => false
def Bf.nm : Bf → String
  | .len => "len" | .abs => "abs" | .int => "int" | .str => "str" | .bool => "bool" | .tuple => "tuple" | .list => "list" | .sorted => "sorted" | .sum => "sum" | .all => "all" | .any => "any" | .max => "max" | .min => "min" | .dict => "dict"
mutual
def chkT (Γ : Kx) (sc : Scope) (fn : Str → Bool) : Tg → Expr → Bool
  | .n i, e => stB Γ sc fn i e
  | .t ts, e => match e with
    | .Tuple es _ _ => chkTs Γ sc fn ts es
    | _ => false
def chkTs (Γ : Kx) (sc : Scope) (fn : Str → Bool) : Tgs → List Expr → Bool
  | .n, es => match es with
    | [] => true
    | _ => false
  | .c a r, es => match es with
    | e :: es => chkT Γ sc fn a e && chkTs Γ sc fn r es
    | [] => false
end
def ownN (Γ : Kx) (vs : List Nat) : List (Str × Nat) := vs.map fun i => (Γ.N.getD i "", i)
mutual
def chk (Γ : Kx) (sc : Scope) (fn : Str → Bool) : E → Expr → Bool
  | .k d, e => match e with
    | .Constant c _ _ => dEq d c
    | _ => false
  | .v i, e => rdB Γ sc i e
  | .g x d, e => match e with
    | .Name y _ => strB x y && glB sc y && okName y && (match Γ.cs.lookup y with
      | some c => (match d, c with | .int a, .int b => decide (a = b) | .str a, .str b => strB a b && a.cps.all (· < 0x110000) && decide (a.length ≤ 1000) | _, _ => false)
      | none => false)
    | _ => false
  | .tup es, e => match e with
    | .Tuple xs _ _ => chkEs Γ sc fn es xs && decide (xs.length ≤ 1000)
    | _ => false
  | .lst es, e => match e with
    | .List xs _ => chkEs Γ sc fn es xs && decide (xs.length ≤ 1000)
    | _ => false
  | .bin op a b, e => match e with
    | .BinOp x o y _ => decide (op = o) && chk Γ sc fn a x && chk Γ sc fn b y
    | _ => false
  | .neg a, e => match e with
    | .UnaryOp .USub x _ => chk Γ sc fn a x
    | _ => false
  | .not a, e => match e with
    | .UnaryOp .Not x _ => chk Γ sc fn a x
    | _ => false
  | .and a b, e => match e with
    | .BoolOp .And (x :: y :: r) p => chk Γ sc fn a x && (match r with
      | [] => chk Γ sc fn b y
      | _ :: _ => chk Γ sc fn b (.BoolOp .And (y :: r) p))
    | _ => false
  | .or a b, e => match e with
    | .BoolOp .Or (x :: y :: r) p => chk Γ sc fn a x && (match r with
      | [] => chk Γ sc fn b y
      | _ :: _ => chk Γ sc fn b (.BoolOp .Or (y :: r) p))
    | _ => false
  | .ite c a b, e => match e with
    | .IfExp x y z _ => chk Γ sc fn c x && chk Γ sc fn a y && chk Γ sc fn b z
    | _ => false
  | .cmp op a b, e => match e with
    | .Compare x [o] [y] _ => decide (op = o) && chk Γ sc fn a x && chk Γ sc fn b y
    | _ => false
  | .chn o1 o2 a b c, e => match e with
    | .Compare x [p1, p2] [y, z] _ => decide (o1 = p1) && decide (o2 = p2) && chk Γ sc fn a x && chk Γ sc fn b y && chk Γ sc fn c z
    | _ => false
  | .ix a i, e => match e with
    | .Subscript x y _ => chk Γ sc fn a x && chk Γ sc fn i y
    | _ => false
  | .sl a lo hi, e => match e with
    | .Subscript x (.Slice l h none _) _ => chk Γ sc fn a x && chkO Γ sc fn lo l && chkO Γ sc fn hi h
    | _ => false
  | .call f es, e => match e with
    | .Call (.Name x _) xs [] _ => decide (f ∈ Γ.fs) && strB x (Str.ofString f) && glB sc x && okName x && chkEs Γ sc fn es xs
    | _ => false
  | .fnv f, e => match e with
    | .Name x _ => decide (f ∈ Γ.fs) && strB x (Str.ofString f) && glB sc x && okName x
    | _ => false
  | .cv i fs es, e => match e with
    | .Call (.Name x q) (y :: xs) [] _ => rdB Γ sc i (.Name x q) && fs.all (fun f => decide (f ∈ Γ.fs)) && chkEs Γ sc fn es (y :: xs)
    | _ => false
  | .wd f t vs b, e => match e with
    | .Call (.Name y _) [.Lambda ps body scope _] [] _ => fn lamN && decide (Γ.ws.lookup f = some t) && strB y (Str.ofString f) && glB sc y && okName y && noArgs ps && LamX.lamSB sc scope && okWord t.dflt && t.tab.all (fun p => okWord p.2) && chk Γ scope (fun _ => false) b body
    | _ => false
  | .sset a, e => match e with
    | .Call y [.Call z [x] [] _] [] _ => blB sc "sorted" y && blB sc "set" z && chk Γ sc fn a x
    | _ => false
  | .slr a lo st, e => match e with
    | .Subscript x (.Slice (some l) none (some z) _) _ => chk Γ sc fn a x && chk Γ sc fn lo l && chk Γ sc fn st z
    | _ => false
  | .idx a b, e => match e with
    | .Call (.Attribute x m p) [v] [] q => rdB Γ sc (match a with | .v i => i | _ => Γ.N.length) x && chk Γ sc fn a x && strB m "index" && (p.endLine == q.line) && chk Γ sc fn b v
    | _ => false
  | .bi b es, e => match e with
    | .Call y (x :: xs) [] _ => blB sc b.nm y && chkEs Γ sc fn es (x :: xs)
    | _ => false
  | .isi a T, e => match e with
    | .Call y [x, t] [] _ => blB sc "isinstance" y && chk Γ sc fn a x && blB sc T t && decide (T ∈ ["int", "bool", "str", "tuple", "list"])
    | _ => false
  | .dic a, e => match e with
    | .Call y [x] [] _ => blB sc "dict" y && chk Γ sc fn a x
    | _ => false
  | .srt a, e => match e with
    | .Call y [x] [] _ => blB sc "sorted" y && chk Γ sc fn a x
    | _ => false
  | .rev a st, e => match e with
    | .Subscript x (.Slice none none (some z) _) _ => chk Γ sc fn a x && chk Γ sc fn st z
    | _ => false
  | .dn, e => match e with
    | .Dict [] [] _ => true
    | _ => false
  | .rg1 t a, e => match e with
    | .Call y [.Call z [x] [] _] [] _ => blB sc (if t then "tuple" else "list") y && blB sc "range" z && chk Γ sc fn a x
    | _ => false
  | .rg2 t a b, e => match e with
    | .Call y [.Call z [x, w] [] _] [] _ => blB sc (if t then "tuple" else "list") y && blB sc "range" z && chk Γ sc fn a x && chk Γ sc fn b w
    | _ => false
  | .lc elt tg it cs vs, e => match e with
    | .ListComp x [⟨t, i, ifs, n⟩] scope _ => decide (n = 0) && vs.all (fun j => decide (j < Γ.N.length)) && tg.slots.all (fun j => decide (j ∈ vs)) && blkC Γ.N sc scope (ownN Γ vs) &&
      chkI Γ sc fn it t i && chkT Γ (relS scope sc) (cfn fn scope) tg t &&
      decide (ifs.length ≤ 1) && chkEs Γ (relS scope sc) (cfn fn scope) cs ifs && chk Γ (relS scope sc) (cfn fn scope) elt x
    | _ => false
  | .lc2 elt tg it cs tg1 it1 cs1 vs vs1, e => match e with
    | .ListComp x [⟨t, i, ifs, n⟩, ⟨t1, i1, ifs1, n1⟩] scope _ => decide (n = 0) && decide (n1 = 0) && vs.all (fun j => decide (j < Γ.N.length)) && tg.slots.all (fun j => decide (j ∈ vs)) && tg1.slots.all (fun j => decide (j ∈ vs1)) && vs1.all (fun j => decide (j ∈ vs)) && blkC Γ.N sc scope (ownN Γ vs) &&
      chkI Γ sc fn it t i && chkT Γ (relS scope sc) (cfn fn scope) tg t &&
      decide (ifs.length ≤ 1) && chkEs Γ (relS scope sc) (cfn fn scope) cs ifs &&
      chkI Γ (relS scope sc) (cfn fn scope) it1 t1 i1 && chkT Γ (relS scope sc) (cfn fn scope) tg1 t1 &&
      decide (ifs1.length ≤ 1) && chkEs Γ (relS scope sc) (cfn fn scope) cs1 ifs1 && chk Γ (relS scope sc) (cfn fn scope) elt x
    | _ => false
  | .dcm kx vx tg it cs vs, e => match e with
    | .DictComp kk x [⟨t, i, ifs, n⟩] scope _ => decide (n = 0) && vs.all (fun j => decide (j < Γ.N.length)) && tg.slots.all (fun j => decide (j ∈ vs)) && blkC Γ.N sc scope (ownN Γ vs) &&
      chkI Γ sc fn it t i && chkT Γ (relS scope sc) (cfn fn scope) tg t &&
      decide (ifs.length ≤ 1) && chkEs Γ (relS scope sc) (cfn fn scope) cs ifs && chk Γ (relS scope sc) (cfn fn scope) kx kk && chk Γ (relS scope sc) (cfn fn scope) vx x
    | _ => false
def chkEs (Γ : Kx) (sc : Scope) (fn : Str → Bool) : Es → List Expr → Bool
  | .n, es => match es with
    | [] => true
    | _ => false
  | .c a r, es => match es with
    | e :: es => chk Γ sc fn a e && chkEs Γ sc fn r es
    | [] => false
def chkO (Γ : Kx) (sc : Scope) (fn : Str → Bool) : Oe → Option Expr → Bool
  | .no, e => match e with
    | none => true
    | _ => false
  | .so a, e => match e with
    | some e => chk Γ sc fn a e
    | none => false
def chkI (Γ : Kx) (sc : Scope) (fn : Str → Bool) : It → Expr → Expr → Bool
  | .seq a, _, e => chk Γ sc fn a e
  | .rg es, _, e => match e with
    | .Call y [x] [] _ => blB sc "range" y && chkEs Γ sc fn es [x]
    | .Call y [x, z] [] _ => blB sc "range" y && chkEs Γ sc fn es [x, z]
    | .Call y [x, z, w] [] _ => blB sc "range" y && chkEs Γ sc fn es [x, z, w]
    | _ => false
  | .zip es, t, e => match t, e with
    | .Tuple _ _ _, .Call y [x, z] [] _ => blB sc "zip" y && chkEs Γ sc fn es [x, z]
    | .Tuple _ _ _, .Call y [x, z, w] [] _ => blB sc "zip" y && chkEs Γ sc fn es [x, z, w]
    | _, _ => false
  | .enum a, t, e => match t, e with
    | .Tuple _ _ _, .Call y [x] [] _ => blB sc "enumerate" y && chk Γ sc fn a x
    | _, _ => false
end
/-- the stores of a tuple of names from a tuple display: exchanged, or in their order -/
def swNames (sc : Scope) (ts : List Expr) : List Str := ts.filterMap fun
  | .Name id pos => if (sc.names.lookup id == some .local) && (pos.line == (ts.head?.map (·.pos.line)).getD 0) then some id else none
  | _ => none
def swNone (sc : Scope) (ts vs : List Expr) : Bool :=
  (!(ts.length == 2 || ts.length == 3) || vs.length != ts.length) || ((swNames sc ts).length != ts.length || (swNames sc ts).eraseDups.length != (swNames sc ts).length) || vs.all (foldedForSure 8)
def isComp : Expr → Bool
  | .ListComp .. => true
  | .SetComp .. => true
  | .DictComp .. => true
  | _ => false
def isTup : Expr → Bool
  | .Tuple .. => true
  | _ => false
/-- the comprehension's value goes straight into the local name -/
def swYes (sc : Scope) (y : Expr) (v : Expr) : Bool := match y, v with
  | .Name t pos, .ListComp _ _ scope p => (sc.names.lookup t == some .local) && (pos.line == p.line) && !(scope.names.any fun (n, k) => n == t && (k == .local || k == .cell))
  | _, _ => false
def noStar : List Expr → Bool
  | [] => true
  | .Starred .. :: _ => false
  | _ :: r => noStar r
mutual
def chkS (Γ : Kx) (sc : Scope) : S → Stmt → Bool
  | .set tg e, st => match st with
    | .Assign [t] v _ => chkT Γ sc (fun _ => true) tg t && chk Γ sc (fun _ => true) e v && (match tg with | .n _ => true | .t _ => !isTup v)
    | _ => false
  | .par js es, st => match st with
    | .Assign [.Tuple ts _ _] (.Tuple vs _ _) _ => chkTs Γ sc (fun _ => true) (js.foldr (fun j r => .c (.n j) r) .n) ts && chkEs Γ sc (fun _ => true) es vs && decide (ts.length = vs.length) && decide (vs.length ≤ 1000) &&
      (swNone sc ts vs || ((ts.length == 2 || ts.length == 3) && !vs.all (constantsAlone 8) && decide js.Nodup))
    | _ => false
  | .sub i ie e, st => match st with
    | .Assign [.Subscript x k _] v _ => rdB Γ sc i x && chk Γ sc (fun _ => true) ie k && chk Γ sc (fun _ => true) e v
    | _ => false
  | .aug i op e, st => match st with
    | .AugAssign x o v _ => stB Γ sc (fun _ => true) i x && decide (op = o) && chk Γ sc (fun _ => true) e v
    | _ => false
  | .ex e, st => match st with
    | .Expr v _ => chk Γ sc (fun _ => true) e v && !isComp v
    | _ => false
  | .app i e, st => match st with
    | .Expr (.Call (.Attribute x m p) [v] [] q) _ => rdB Γ sc i x && strB m "append" && (p.endLine == q.line) && chk Γ sc (fun _ => true) e v
    | _ => false
  | .ite c a b, st => match st with
    | .If x y z _ => chk Γ sc (fun _ => true) c x && chkSs Γ sc a y && chkSs Γ sc b z
    | _ => false
  | .wh c b, st => match st with
    | .While x y [] _ => chk Γ sc (fun _ => true) c x && chkSs Γ sc b y
    | _ => false
  | .for_ tg it b, st => match st with
    | .For t i y [] _ => chkT Γ sc (fun _ => true) tg t && chkI Γ sc (fun _ => true) it t i && chkSs Γ sc b y
    | _ => false
  | .ret e, st => match st with
    | .Return (some v) _ => chk Γ sc (fun _ => true) e v
    | _ => false
  | .retN, st => match st with
    | .Return none _ => true
    | _ => false
  | .raise k e, st => match st with
    | .Raise (some (.Call (.Name x _) [a] [] _)) none _ => decide (k ∈ Γ.es) && strB x (Str.ofString k) && glB sc x && okName x && chk Γ sc (fun _ => true) e a
    | _ => false
  | .never, _ => true
  | .brk, st => match st with
    | .Break _ => true
    | _ => false
  | .cnt, st => match st with
    | .Continue _ => true
    | _ => false
  | .pass, st => match st with
    | .Pass _ => true
    | _ => false
def chkSs (Γ : Kx) (sc : Scope) : Ss → List Stmt → Bool
  | .n, st => match st with
    | [] => true
    | _ => false
  | .c s r, st => match st with
    | x :: xs => chkS Γ sc s x && chkSs Γ sc r xs
    | [] => false
end
end Q

namespace Q
open PySem PySem.Spec PyProof.Rows L2
abbrev St := L2.St
/-! ### what stands for data -/
def FzL (H : Hp) (a : Addr) (xs : List V) : Prop := ∃ o, H a = some (.frz o (.lst xs))
theorem FzL.rd {H : Hp} {a : Addr} {xs : List V} (h : FzL H a xs) : Rd H a (.lst xs) := .inr h
theorem FzL.sq {K : PySem.W.Frag} {H : Hp} {a : Addr} {xs : List V} (h : FzL H a xs) : SqL K H a xs := .inl (.inr h)
def strOk (x : Str) : Prop := x.cps.all (· < 0x110000) = true ∧ x.length ≤ sizeLine
/-- a dict that nobody changes -/
def FzD (H : Hp) (a : Addr) (ks : List (L2.Key × V)) : Prop := ∃ o, H a = some (.frz o (.dK ks))
theorem FzD.rd {H : Hp} {a : Addr} {ks : List (L2.Key × V)} (h : FzD H a ks) : Rd H a (.dK ks) := .inr h
def keyOk : L2.Key → Prop
  | .inl _ => True
  | .inr x => strOk x
mutual
inductive RepD (K : PySem.W.Frag) (H : Hp) : V → D → Prop
  | non : RepD K H .non .none
  | bl (b : Bool) : RepD K H (.bl b) (.bool b)
  | int (i : Int) : RepD K H (.int i) (.int i)
  | str (x : Str) : strOk x → RepD K H (.str x) (.str x)
  | lst {a : Addr} {xs : List V} {ds : List D} : FzL H a xs → xs.length ≤ sizeLine → RepDs K H xs ds → RepD K H (.ref a) (.list ds)
  | tup {a : Addr} {xs : List V} {ds : List D} : SqT K H a xs → xs.length ≤ sizeLine → RepDs K H xs ds → RepD K H (.ref a) (.tuple ds)
  | dct {a : Addr} {ks : List (L2.Key × V)} {kds : List (L2.Key × D)} : FzD H a ks → RepKs K H ks kds → RepD K H (.ref a) (.dict (kds.map fun p => (keyD p.1, p.2)))
  | fn {f : String} {a : Addr} : PySem.W.nsIn K mainGlobals (Str.ofString f) = some (some (.ref a)) → RepD K H (.ref a) (fnD f)
inductive RepDs (K : PySem.W.Frag) (H : Hp) : List V → List D → Prop
  | nil : RepDs K H [] []
  | cons {v : V} {vs : List V} {d : D} {ds : List D} : RepD K H v d → RepDs K H vs ds → RepDs K H (v :: vs) (d :: ds)
inductive RepKs (K : PySem.W.Frag) (H : Hp) : List (L2.Key × V) → List (L2.Key × D) → Prop
  | nil : RepKs K H [] []
  | cons {k : L2.Key} {v : V} {ks : List (L2.Key × V)} {d : D} {kds : List (L2.Key × D)} : keyOk k → RepD K H v d → RepKs K H ks kds → RepKs K H ((k, v) :: ks) ((k, d) :: kds)
end
/-- what never changes stays -/
def Im (H H' : Hp) : Prop := (∀ a xs, Rd H a (.tup xs) → Rd H' a (.tup xs)) ∧ ∀ a o u, H a = some (.frz o u) → H' a = some (.frz o u)
theorem Im.refl (H : Hp) : Im H H := ⟨fun _ _ h => h, fun _ _ _ h => h⟩
theorem Im.trans {H H1 H2 : Hp} (a : Im H H1) (b : Im H1 H2) : Im H H2 := ⟨fun x y h => b.1 x y (a.1 x y h), fun x y z h => b.2 x y z (a.2 x y z h)⟩
theorem FzL.im {H H' : Hp} {a : Addr} {xs : List V} (i : Im H H') (h : FzL H a xs) : FzL H' a xs := let ⟨o, h⟩ := h; ⟨o, i.2 _ _ _ h⟩
theorem FzD.im {H H' : Hp} {a : Addr} {ks : List (L2.Key × V)} (i : Im H H') (h : FzD H a ks) : FzD H' a ks := let ⟨o, h⟩ := h; ⟨o, i.2 _ _ _ h⟩
theorem SqT.im {K : PySem.W.Frag} {H H' : Hp} {a : Addr} {xs : List V} (i : Im H H') (h : SqT K H a xs) : SqT K H' a xs := by
  rcases h with h | h
  · exact .inl (i.1 _ _ h)
  · exact .inr h
mutual
theorem RepD.im {K : PySem.W.Frag} {H H' : Hp} (i : Im H H') : ∀ {v : V} {d : D}, RepD K H v d → RepD K H' v d
  | _, _, .non => .non
  | _, _, .bl b => .bl b
  | _, _, .int k => .int k
  | _, _, .str x h => .str x h
  | _, _, .lst h z r => .lst (h.im i) z (RepDs.im i r)
  | _, _, .tup h z r => .tup (SqT.im i h) z (RepDs.im i r)
  | _, _, .dct h r => .dct (h.im i) (RepKs.im i r)
  | _, _, .fn h => .fn h
theorem RepDs.im {K : PySem.W.Frag} {H H' : Hp} (i : Im H H') : ∀ {v : List V} {d : List D}, RepDs K H v d → RepDs K H' v d
  | _, _, .nil => .nil
  | _, _, .cons h r => .cons (RepD.im i h) (RepDs.im i r)
theorem RepKs.im {K : PySem.W.Frag} {H H' : Hp} (i : Im H H') : ∀ {v : List (L2.Key × V)} {d : List (L2.Key × D)}, RepKs K H v d → RepKs K H' v d
  | _, _, .nil => .nil
  | _, _, .cons o h r => .cons o (RepD.im i h) (RepKs.im i r)
end
theorem RepDs.length {K : PySem.W.Frag} {H : Hp} : ∀ {vs : List V} {ds : List D}, RepDs K H vs ds → vs.length = ds.length
  | _, _, .nil => rfl
  | _, _, .cons _ r => by simp [RepDs.length r]
theorem RepDs.get {K : PySem.W.Frag} {H : Hp} : ∀ {vs : List V} {ds : List D} {i : Nat} {d : D}, RepDs K H vs ds → ds[i]? = some d → ∃ v, vs[i]? = some v ∧ RepD K H v d
  | _, _, i, d, .nil, h => by simp at h
  | _, _, 0, d, .cons h _, e => by simp at e; subst e; exact ⟨_, rfl, h⟩
  | _, _, i + 1, d, .cons _ r, e => by
    obtain ⟨v, h1, h2⟩ := RepDs.get (i := i) r (by simpa using e)
    exact ⟨v, by simpa using h1, h2⟩
theorem RepDs.getV {K : PySem.W.Frag} {H : Hp} : ∀ {vs : List V} {ds : List D} {i : Nat} {v : V}, RepDs K H vs ds → vs[i]? = some v → ∃ d, ds[i]? = some d ∧ RepD K H v d
  | _, _, i, d, .nil, h => by simp at h
  | _, _, 0, d, .cons h _, e => by simp at e; subst e; exact ⟨_, rfl, h⟩
  | _, _, i + 1, d, .cons _ r, e => by
    obtain ⟨v, h1, h2⟩ := RepDs.getV (i := i) r (by simpa using e)
    exact ⟨v, by simpa using h1, h2⟩
theorem RepDs.append {K : PySem.W.Frag} {H : Hp} : ∀ {vs ws : List V} {ds es : List D}, RepDs K H vs ds → RepDs K H ws es → RepDs K H (vs ++ ws) (ds ++ es)
  | _, _, _, _, .nil, s => s
  | _, _, _, _, .cons h r, s => .cons h (RepDs.append r s)
theorem RepDs.take {K : PySem.W.Frag} {H : Hp} : ∀ {vs : List V} {ds : List D} (n : Nat), RepDs K H vs ds → RepDs K H (vs.take n) (ds.take n)
  | _, _, 0, _ => .nil
  | _, _, _ + 1, .nil => .nil
  | _, _, n + 1, .cons r t => .cons r (RepDs.take n t)
theorem RepDs.drop {K : PySem.W.Frag} {H : Hp} : ∀ {vs : List V} {ds : List D} (n : Nat), RepDs K H vs ds → RepDs K H (vs.drop n) (ds.drop n)
  | _, _, 0, r => r
  | _, _, _ + 1, .nil => .nil
  | _, _, n + 1, .cons _ t => RepDs.drop n t
theorem RepDs.set {K : PySem.W.Frag} {H : Hp} {v : V} {d : D} (h : RepD K H v d) : ∀ {vs : List V} {ds : List D} (n : Nat), RepDs K H vs ds → RepDs K H (vs.set n v) (ds.set n d)
  | _, _, _, .nil => .nil
  | _, _, 0, .cons _ t => .cons h t
  | _, _, n + 1, .cons r t => .cons r (RepDs.set h n t)
theorem RepDs.flat {K : PySem.W.Frag} {H : Hp} {vs : List V} {ds : List D} (h : RepDs K H vs ds) : ∀ k : Nat, RepDs K H (List.replicate k vs).flatten (List.replicate k ds).flatten
  | 0 => .nil
  | k + 1 => by simpa [List.replicate_succ] using h.append (RepDs.flat h k)
theorem RepDs.ints {K : PySem.W.Frag} {H : Hp} : ∀ {vs : List V} {ds : List D} {ns : List Int}, RepDs K H vs ds → intsOf ds = some ns → vs = ns.map V.int
  | _, _, _, .nil, e => by simp [intsOf] at e; subst e; rfl
  | _, _, ns, .cons (d := .int i) h r, e => by
    simp only [intsOf, Option.map_eq_some_iff] at e
    obtain ⟨m, e1, e2⟩ := e
    subst e2
    cases h
    rw [RepDs.ints r e1]; rfl
  | _, _, _, .cons (d := .none) _ _, e => by simp [intsOf] at e
  | _, _, _, .cons (d := .bool _) _ _, e => by simp [intsOf] at e
  | _, _, _, .cons (d := .str _) _ _, e => by simp [intsOf] at e
  | _, _, _, .cons (d := .list _) _ _, e => by simp [intsOf] at e
  | _, _, _, .cons (d := .tuple _) _ _, e => by simp [intsOf] at e
  | _, _, _, .cons (d := .dict _) _ _, e => by simp [intsOf] at e
theorem RepDs.bools {K : PySem.W.Frag} {H : Hp} : ∀ {vs : List V} {ds : List D} {ns : List Bool}, RepDs K H vs ds → boolsOf ds = some ns → vs = ns.map V.bl
  | _, _, _, .nil, e => by simp [boolsOf] at e; subst e; rfl
  | _, _, ns, .cons (d := .bool i) h r, e => by
    simp only [boolsOf, Option.map_eq_some_iff] at e
    obtain ⟨m, e1, e2⟩ := e
    subst e2
    cases h
    rw [RepDs.bools r e1]; rfl
  | _, _, _, .cons (d := .none) _ _, e => by simp [boolsOf] at e
  | _, _, _, .cons (d := .int _) _ _, e => by simp [boolsOf] at e
  | _, _, _, .cons (d := .str _) _ _, e => by simp [boolsOf] at e
  | _, _, _, .cons (d := .list _) _ _, e => by simp [boolsOf] at e
  | _, _, _, .cons (d := .tuple _) _ _, e => by simp [boolsOf] at e
  | _, _, _, .cons (d := .dict _) _ _, e => by simp [boolsOf] at e
mutual
theorem RepD.dp {K : PySem.W.Frag} {H : Hp} : ∀ {v : V} {d : D} {n : Nat}, RepD K H v d → gd n d = true → Dp K H v d
  | _, _, _, .non, _ => .non
  | _, _, _, .bl b, _ => .bl b
  | _, _, _, .int k, _ => .int k
  | _, _, _, .str x h, _ => .str x
  | _, _, 0, .lst h z r, e => by simp [gd] at e
  | _, _, 0, .tup h z r, e => by simp [gd] at e
  | _, _, n + 1, .lst h z r, e => .lst h.sq (RepDs.dp r (n := n) (by simpa [gd] using e))
  | _, _, n + 1, .tup h z r, e => .tup h (RepDs.dp r (n := n) (by simpa [gd] using e))
  | _, _, _, .dct h r, e => by simp [gd] at e
  | _, _, _, .fn h, e => by simp [gd] at e
theorem RepDs.dp {K : PySem.W.Frag} {H : Hp} : ∀ {v : List V} {d : List D} {n : Nat}, RepDs K H v d → gdAll n d = true → DpAll K H v d
  | _, _, _, .nil, _ => .nil
  | _, _, n, .cons h r, e => by
    simp only [gdAll, Bool.and_eq_true] at e
    exact .cons (RepD.dp h e.1) (RepDs.dp r e.2)
end
mutual
theorem RepD.lay {K : PySem.W.Frag} {H : Hp} : ∀ {v : V} {d : D} {n : Nat}, RepD K H v d → gd n d = true → d.canLay0 = true ∧ d.depth ≤ n
  | _, _, _, .non, _ => by simp [PyData.canLay0, PyData.depth]
  | _, _, _, .bl b, _ => by simp [PyData.canLay0, PyData.depth]
  | _, _, _, .int k, _ => by simp [PyData.canLay0, PyData.depth]
  | _, _, _, .str x h, _ => ⟨by simpa only [PyData.canLay0, PyData.strOk] using h.1, by simp [PyData.depth]⟩
  | _, _, 0, .lst h z r, e => by simp [gd] at e
  | _, _, 0, .tup h z r, e => by simp [gd] at e
  | _, _, n + 1, .lst h z r, e => by
    obtain ⟨h1, h2⟩ := RepDs.lay r (by simpa [gd] using e)
    simp only [PyData.canLay0, PyData.depth]
    exact ⟨h1, by omega⟩
  | _, _, n + 1, .tup h z r, e => by
    obtain ⟨h1, h2⟩ := RepDs.lay r (by simpa [gd] using e)
    simp only [PyData.canLay0, PyData.depth]
    exact ⟨h1, by omega⟩
  | _, _, _, .dct h r, e => by simp [gd] at e
  | _, _, _, .fn h, e => by simp [gd] at e
theorem RepDs.lay {K : PySem.W.Frag} {H : Hp} : ∀ {v : List V} {d : List D} {n : Nat}, RepDs K H v d → gdAll n d = true → PyData.canLayAll0 d = true ∧ PyData.depthAll d ≤ n
  | _, _, _, .nil, _ => by simp [PyData.canLayAll0, PyData.depthAll]
  | _, _, n, .cons h r, e => by
    simp only [gdAll, Bool.and_eq_true] at e
    obtain ⟨a1, a2⟩ := RepD.lay h e.1
    obtain ⟨b1, b2⟩ := RepDs.lay r e.2
    simp only [PyData.canLayAll0, PyData.depthAll, a1, b1]
    exact ⟨rfl, by omega⟩
end
theorem RepD.shaped {K : PySem.W.Frag} {H : Hp} {v : V} {d : D} (r : RepD K H v d) (g : gd 60 d = true) : SeqAt.shaped d = true := by
  obtain ⟨h1, h2⟩ := r.lay g
  simp only [SeqAt.shaped, h1, Bool.true_and, decide_eq_true_eq]
  omega
/-- a list that is only read -/
def RoL (K : PySem.W.Frag) (H : Hp) (a : Addr) (xs : List V) : Prop := FzL H a xs ∨ ∃ (o : Obj) (its : Array Value) (n : Nat), K.lookup a = some o ∧ o.cls = .type "list" ∧ o.dict = none ∧ o.data = .seq its n ∧ its.size ≤ sizeLine ∧ Vals xs its.toList
theorem RoL.sq {K : PySem.W.Frag} {H : Hp} {a : Addr} {xs : List V} (h : RoL K H a xs) : SqL K H a xs := h.elim (fun h => FzL.sq h) .inr
theorem RoL.im {K : PySem.W.Frag} {H H' : Hp} {a : Addr} {xs : List V} (i : Im H H') (h : RoL K H a xs) : RoL K H' a xs := h.elim (fun h => .inl (FzL.im i h)) .inr
/-- what stands for a slot's content -/
def RepS (K : PySem.W.Frag) (H : Hp) (v : V) : SV → Prop
  | .d x => RepD K H v x
  | .ml xs => ∃ a vs, v = .ref a ∧ H a = some (.lst vs) ∧ vs.length ≤ sizeLine ∧ RepDs K H vs xs
  | .md kvs => ∃ a ks, v = .ref a ∧ H a = some (.dK ks) ∧ RepKs K H ks kvs
  | .rl xs => ∃ a vs, v = .ref a ∧ RoL K H a vs ∧ vs.length ≤ sizeLine ∧ RepDs K H vs xs
theorem RepS.rlIm {K : PySem.W.Frag} {H H' : Hp} {v : V} {xs : List D} (i : Im H H') (r : RepS K H v (.rl xs)) : RepS K H' v (.rl xs) := by
  obtain ⟨a, vs, h1, h2, h3, h4⟩ := r
  exact ⟨a, vs, h1, h2.im i, h3, h4.im i⟩
theorem Same.im {H H' : Hp} (e : Same H H') : Im H H' := ⟨fun a xs h => by
  rcases h with h | ⟨o, h⟩
  · exact .inl (e _ _ h)
  · exact .inr ⟨o, e _ _ h⟩, fun a o u h => e _ _ h⟩
theorem RepS.same {K : PySem.W.Frag} {H H' : Hp} {v : V} {s : SV} (e : Same H H') (r : RepS K H v s) : RepS K H' v s := by
  cases s with
  | d x => exact RepD.im (Same.im e) r
  | ml xs =>
    obtain ⟨a, vs, h1, h2, h3, h4⟩ := r
    exact ⟨a, vs, h1, e _ _ h2, h3, h4.im (Same.im e)⟩
  | md _ =>
    obtain ⟨a, ks, h1, h2, h3⟩ := r
    exact ⟨a, ks, h1, e _ _ h2, h3.im (Same.im e)⟩
  | rl _ => exact RepS.rlIm (Same.im e) r
theorem same_upd {H : Hp} {p : Addr} {o : HO} (h : H p = none) : Same H (upd H p o) := fun b x e => by
  rw [upd_ne (ne_of_none e h)]
  exact e
/-- not a table of code objects -/
def NT (u : HO) : Prop := ∀ ps, u ≠ .tbl ps
/-- a thing that a slot may own -/
def OwnK (u : HO) : Prop := (∃ vs, u = .lst vs) ∨ ∃ ks, u = .dK ks
theorem OwnK.mu {u : HO} (h : OwnK u) : Mut (some u) := by
  rcases h with ⟨_, rfl⟩ | ⟨_, rfl⟩ <;> trivial
theorem OwnK.nt {u : HO} (h : OwnK u) : NT u := by
  rcases h with ⟨_, rfl⟩ | ⟨_, rfl⟩ <;> nofun
theorem OwnK.nx {u : HO} (h : OwnK u) : ∀ φ, u ≠ .ext φ := by
  rcases h with ⟨_, rfl⟩ | ⟨_, rfl⟩ <;> nofun
theorem tabs_upd {T : List (Addr × Str)} {H : Hp} {a : Addr} {u w : HO} (t : LamX.Tabs T H) (e : H a = some u) (k : OwnK u) : LamX.Tabs T (upd H a w) := by
  intro p hp
  obtain ⟨ps, h1, h2, h3⟩ := t p hp
  have n1 : p.1 ≠ a := fun z => by
    rw [z, e] at h1
    exact k.nt _ (Option.some.inj h1)
  refine ⟨ps, by rw [upd_ne n1]; exact h1, h2, fun pos cv hc => ?_⟩
  obtain ⟨c, e1, e2⟩ := h3 pos cv hc
  have n2 : c ≠ a := fun z => by
    rw [z, e] at e2
    exact k.nx _ (Option.some.inj e2)
  exact ⟨c, e1, by rw [upd_ne n2]; exact e2⟩
/-- the tables of code objects in which the text's lambdas stand -/
class LamT where
  T : List (Addr × Str)
abbrev TabsOk [LamT] (H : Hp) : Prop := LamX.Tabs LamT.T H
variable [LamT]
def OwnA (σ : St) (ρ : Rho) (a : Addr) : Prop := ∃ i s, gt ρ i = some s ∧ s.own = true ∧ σ[i]? = some (some (.ref a))
structure RelE (K : PySem.W.Frag) (σ : St) (H : Hp) (ρ : Rho) : Prop where
  len : σ.length = ρ.length
  at_ : ∀ i s, gt ρ i = some s → ∃ v, σ[i]? = some (some v) ∧ RepS K H v s
  dis : ∀ i j s t a, gt ρ i = some s → gt ρ j = some t → s.own = true → t.own = true → σ[i]? = some (some (.ref a)) → σ[j]? = some (some (.ref a)) → i = j
  tab : TabsOk H
/-- from ρ, H to ρ', H': nothing but own things has changed -/
structure Aft (K : PySem.W.Frag) (σ : St) (ρ : Rho) (H : Hp) (ρ' : Rho) (H' : Hp) : Prop where
  kp : ∀ a u, H a = some u → ¬ OwnA σ ρ a → ∀ (_nt : NT u := by first | assumption | nofun), H' a = some u
  rel : RelE K σ H' ρ'
  sub : ∀ a, OwnA σ ρ' a → OwnA σ ρ a
  trk : ∀ a, H' a = none → H a = none
theorem OwnA.lst {K : PySem.W.Frag} {σ : St} {H : Hp} {ρ : Rho} {a : Addr} (r : RelE K σ H ρ) (h : OwnA σ ρ a) : (∃ vs, H a = some (.lst vs)) ∨ ∃ ks, H a = some (.dK ks) := by
  obtain ⟨i, s, e, o, e2⟩ := h
  obtain ⟨v, e3, rs⟩ := r.at_ i s e
  rw [e2] at e3
  cases e3
  cases s with
  | ml xs =>
    obtain ⟨b, vs, h1, h2, _⟩ := rs
    cases h1
    exact .inl ⟨vs, h2⟩
  | md _ =>
    obtain ⟨b, ks, h1, h2, _⟩ := rs
    cases h1
    exact .inr ⟨ks, h2⟩
  | d _ => cases o
  | rl _ => cases o
theorem Aft.refl {K : PySem.W.Frag} {σ : St} {H : Hp} {ρ : Rho} (r : RelE K σ H ρ) : Aft K σ ρ H ρ H := ⟨fun _ _ h _ _ => h, r, fun _ h => h, fun _ h => h⟩
theorem Aft.trans {K : PySem.W.Frag} {σ : St} {ρ ρ1 ρ2 : Rho} {H H1 H2 : Hp} (a : Aft K σ ρ H ρ1 H1) (b : Aft K σ ρ1 H1 ρ2 H2) : Aft K σ ρ H ρ2 H2 :=
  ⟨fun x u h n nt => b.kp x u (a.kp x u h n) fun q => n (a.sub x q), b.rel, fun x h => a.sub x (b.sub x h), fun x h => a.trk x (b.trk x h)⟩
theorem Aft.im {K : PySem.W.Frag} {σ : St} {ρ ρ' : Rho} {H H' : Hp} (r : RelE K σ H ρ) (a : Aft K σ ρ H ρ' H') : Im H H' := by
  refine ⟨fun x xs h => ?_, fun x o u h => ?_⟩
  · rcases h with h | ⟨o, h⟩
    · refine .inl (a.kp _ _ h fun q => ?_)
      rcases q.lst r with ⟨vs, e⟩ | ⟨vs, e⟩ <;> (rw [h] at e; cases e)
    · refine .inr ⟨o, a.kp _ _ h fun q => ?_⟩
      rcases q.lst r with ⟨vs, e⟩ | ⟨vs, e⟩ <;> (rw [h] at e; cases e)
  · refine a.kp _ _ h fun q => ?_
    rcases q.lst r with ⟨vs, e⟩ | ⟨vs, e⟩ <;> (rw [h] at e; cases e)
theorem RelE.same {K : PySem.W.Frag} {σ : St} {H H' : Hp} {ρ : Rho} (r : RelE K σ H ρ) (e : Same H H') : RelE K σ H' ρ :=
  ⟨r.len, fun i s h => let ⟨v, h1, h2⟩ := r.at_ i s h; ⟨v, h1, h2.same e⟩, r.dis, r.tab.ext e⟩
theorem Aft.same {K : PySem.W.Frag} {σ : St} {H H' : Hp} {ρ : Rho} (r : RelE K σ H ρ) (e : Same H H') : Aft K σ ρ H ρ H' :=
  ⟨fun a u h _ _ => e a u h, r.same e, fun _ h => h, fun a h => e.free h⟩
/-- an operand's value -/
def RepO (K : PySem.W.Frag) (H : Hp) (σ : St) (ρ : Rho) (v : V) : Opd → Prop
  | .v s => RepS K H v s ∧ (s.own = true → ∀ a, v = .ref a → ¬ OwnA σ ρ a)
  | .s i => σ[i]? = some (some v)
def Fresh (H : Hp) (v : V) : Opd → Prop
  | .v s => s.own = true → ∀ a, v = .ref a → H a = none
  | .s _ => True
theorem RepS.own_ref {K : PySem.W.Frag} {H : Hp} {v : V} {s : SV} (r : RepS K H v s) (o : s.own = true) : ∃ a u, v = .ref a ∧ H a = some u ∧ Mut (some u) ∧ ((∃ vs, u = .lst vs) ∨ ∃ ks, u = .dK ks) := by
  cases s with
  | ml xs => obtain ⟨a, vs, h1, h2, _⟩ := r; exact ⟨a, _, h1, h2, trivial, .inl ⟨_, rfl⟩⟩
  | md _ => obtain ⟨a, vs, h1, h2, _⟩ := r; exact ⟨a, _, h1, h2, trivial, .inr ⟨_, rfl⟩⟩
  | d _ => cases o
  | rl _ => cases o
theorem RepO.aft {K : PySem.W.Frag} {σ : St} {ρ ρ' : Rho} {H H' : Hp} {v : V} {o : Opd} (r : RelE K σ H ρ) (a : Aft K σ ρ H ρ' H') (h : RepO K H σ ρ v o) : RepO K H' σ ρ' v o := by
  cases o with
  | s i => exact h
  | v s =>
    obtain ⟨h1, h2⟩ := h
    refine ⟨?_, fun o b e q => h2 o b e (a.sub b q)⟩
    cases s with
    | d x => exact RepD.im (a.im r) h1
    | ml xs =>
      obtain ⟨b, vs, e1, e2, e3, e4⟩ := h1
      exact ⟨b, vs, e1, a.kp _ _ e2 (h2 rfl b e1), e3, e4.im (a.im r)⟩
    | md _ =>
      obtain ⟨b, ks, e1, e2, e3⟩ := h1
      exact ⟨b, ks, e1, a.kp _ _ e2 (h2 rfl b e1), e3.im (a.im r)⟩
    | rl _ => exact RepS.rlIm (a.im r) h1
theorem RepO.peek {K : PySem.W.Frag} {σ : St} {ρ : Rho} {H : Hp} {v : V} {o : Opd} {s : SV} (r : RelE K σ H ρ) (h : RepO K H σ ρ v o) (e : peek ρ o = some s) : RepS K H v s := by
  cases o with
  | v t => cases e; exact h.1
  | s i =>
    obtain ⟨w, e1, e2⟩ := r.at_ i s e
    have h : σ[i]? = some (some v) := h
    rw [h] at e1
    cases e1
    exact e2
theorem Fresh.aft {K : PySem.W.Frag} {σ : St} {ρ ρ' : Rho} {H H' : Hp} {v : V} {o : Opd} (a : Aft K σ ρ H ρ' H') (h : Fresh H' v o) : Fresh H v o := by
  cases o with
  | s i => trivial
  | v s => exact fun o b e => a.trk b (h o b e)
/-! ### ends of a run -/
def Res.good {α : Type} (r : Res α) (P : α → Rho → Prop) : Prop := match r with
  | .ok a ρ => P a ρ
  | _ => False
theorem Res.good.mono {α : Type} {r : Res α} {P P' : α → Rho → Prop} (h : r.good P) (f : ∀ a ρ, P a ρ → P' a ρ) : r.good P' := by
  cases r with
  | ok a ρ => exact f _ _ h
  | exc e ρ => exact h
  | bad => exact h
theorem good_bind {α β : Type} {r : Res α} {f : α → Rho → Res β} {P : β → Rho → Prop} : (r.bind f).good P ↔ r.good fun a ρ => (f a ρ).good P := by
  cases r <;> exact Iff.rfl
theorem good_lift {α : Type} {o : Option α} {ρ : Rho} {P : α → Rho → Prop} : (lift o ρ).good P ↔ ∃ a, o = some a ∧ P a ρ := by
  cases o with
  | none => exact ⟨fun h => h.elim, fun ⟨_, h, _⟩ => nomatch h⟩
  | some a => exact ⟨fun h => ⟨a, rfl, h⟩, fun ⟨b, h, q⟩ => by cases h; exact q⟩
/-- .. or an exception that W bears -/
def Res.gx {α : Type} {W : Exn → Prop} (r : Res α) (P : α → Rho → Prop) : Prop := match r with
  | .ok a ρ => P a ρ
  | .exc e _ => W e
  | .bad => False
/-- kept, but for own things -/
structure Kp (σ : St) (ρ : Rho) (H H' : Hp) : Prop where
  kp : ∀ a u, H a = some u → ¬ OwnA σ ρ a → ∀ (_nt : NT u := by first | assumption | nofun), H' a = some u
  trk : ∀ a, H' a = none → H a = none
  tab : TabsOk H'
abbrev ZT := Exn → St → Hp → Prop
/-- nothing may be raised -/
def Z0 : ZT := fun _ _ _ => False
/-- what is raised behind ρ, H -/
def zk (Z : ZT) (σ : St) (ρ : Rho) (H : Hp) : Exn → Prop := fun e => ∀ H', Kp σ ρ H H' → Z e σ H'
theorem Aft.kpr {K : PySem.W.Frag} {σ : St} {ρ ρ' : Rho} {H H' : Hp} (a : Aft K σ ρ H ρ' H') : Kp σ ρ H H' := ⟨fun _ _ h n _ => a.kp _ _ h n, a.trk, a.rel.tab⟩
theorem zk.aft {K : PySem.W.Frag} {Z : ZT} {σ : St} {ρ ρ' : Rho} {H H' : Hp} {e : Exn} (a : Aft K σ ρ H ρ' H') (h : zk Z σ ρ H e) : zk Z σ ρ' H' e := fun H2 k => h H2 ⟨fun x u hx n nt => k.kp x u (a.kp x u hx n) fun q => n (a.sub x q), fun x hx => a.trk x (k.trk x hx), k.tab⟩
structure AftS (K : PySem.W.Frag) (W : Nat → Prop) (σ : St) (ρ : Rho) (H : Hp) (σ' : St) (ρ' : Rho) (H' : Hp) : Prop where
  kp : ∀ a u, H a = some u → ¬ OwnA σ ρ a → ∀ (_nt : NT u := by first | assumption | nofun), H' a = some u
  rel : RelE K σ' H' ρ'
  sub : ∀ a, OwnA σ' ρ' a → OwnA σ ρ a ∨ H a = none
  trk : ∀ a, H' a = none → H a = none
  fix : ∀ k, ¬ W k → σ'[k]? = σ[k]?
  len : σ'.length = σ.length
theorem AftS.of {K : PySem.W.Frag} {W : Nat → Prop} {σ : St} {ρ ρ' : Rho} {H H' : Hp} (a : Aft K σ ρ H ρ' H') : AftS K W σ ρ H σ ρ' H' := ⟨fun _ _ h n _ => a.kp _ _ h n, a.rel, fun x h => .inl (a.sub x h), a.trk, fun _ _ => rfl, rfl⟩
theorem AftS.trans {K : PySem.W.Frag} {W : Nat → Prop} {σ σ1 σ2 : St} {ρ ρ1 ρ2 : Rho} {H H1 H2 : Hp} (a : AftS K W σ ρ H σ1 ρ1 H1) (b : AftS K W σ1 ρ1 H1 σ2 ρ2 H2) : AftS K W σ ρ H σ2 ρ2 H2 := by
  refine ⟨fun x u h n nt => b.kp x u (a.kp x u h n) fun q => ?_, b.rel, fun x h => ?_, fun x h => a.trk x (b.trk x h), fun k n => (b.fix k n).trans (a.fix k n), b.len.trans a.len⟩
  · rcases a.sub x q with z | z
    · exact n z
    · rw [h] at z; cases z
  · rcases b.sub x h with z | z
    · exact a.sub x z
    · exact .inr (a.trk x z)
/-- kept, but for own things and the slots of W -/
structure KpS (W : Nat → Prop) (σ : St) (ρ : Rho) (H : Hp) (σ' : St) (H' : Hp) : Prop where
  tab : TabsOk H'
  kp : ∀ a u, H a = some u → ¬ OwnA σ ρ a → ∀ (_nt : NT u := by first | assumption | nofun), H' a = some u
  trk : ∀ a, H' a = none → H a = none
  fix : ∀ k, ¬ W k → σ'[k]? = σ[k]?
  len : σ'.length = σ.length
def zkS (W : Nat → Prop) (Z : ZT) (σ : St) (ρ : Rho) (H : Hp) : Exn → Prop := fun e => ∀ σ' H', KpS W σ ρ H σ' H' → Z e σ' H'
theorem zkS.e {W : Nat → Prop} {Z : ZT} {σ : St} {ρ : Rho} {H : Hp} {x : Exn} (h : zkS W Z σ ρ H x) : zk Z σ ρ H x := fun H' k => h σ H' ⟨k.tab, fun _ _ h n _ => k.kp _ _ h n, k.trk, fun _ _ => rfl, rfl⟩
theorem zkS.aft {K : PySem.W.Frag} {W : Nat → Prop} {Z : ZT} {σ σ1 : St} {ρ ρ1 : Rho} {H H1 : Hp} {x : Exn} (a : AftS K W σ ρ H σ1 ρ1 H1) (h : zkS W Z σ ρ H x) : zkS W Z σ1 ρ1 H1 x := fun σ2 H2 k => h σ2 H2 ⟨k.tab, fun y u hy n nt => k.kp y u (a.kp y u hy n) fun q => (a.sub y q).elim n fun z => (by rw [hy] at z; cases z), fun y hy => a.trk y (k.trk y hy), fun i n => (k.fix i n).trans (a.fix i n), k.len.trans a.len⟩
theorem Res.gx.mono {α : Type} {W W' : Exn → Prop} {r : Res α} {P P' : α → Rho → Prop} (h : r.gx (W := W) P) (f : ∀ a ρ, P a ρ → P' a ρ) (w : ∀ e, W e → W' e := by first | exact fun _ h => h | exact fun _ h => zk.aft (by assumption) h | exact fun _ h => zk.aft (Aft.trans (by assumption) (by assumption)) h | exact fun _ h => zkS.e h | exact fun _ h => zk.aft (by assumption) (zkS.e h) | exact fun _ h => zk.aft (Aft.trans (by assumption) (by assumption)) (zkS.e h) | exact fun _ h => zkS.aft (by assumption) h | exact fun _ h => zkS.aft (AftS.of (by assumption)) h | exact fun _ h => zkS.aft (AftS.trans (by assumption) (by assumption)) h | exact fun _ h => False.elim h) : r.gx (W := W') P' := by
  cases r with
  | ok a ρ => exact f _ _ h
  | exc e ρ => exact w _ h
  | bad => exact h
theorem gx_bind {α β : Type} {W : Exn → Prop} {r : Res α} {f : α → Rho → Res β} {P : β → Rho → Prop} : (r.bind f).gx (W := W) P ↔ r.gx (W := W) fun a ρ => (f a ρ).gx (W := W) P := by
  cases r <;> exact Iff.rfl
theorem gx_nox {α : Type} {W : Exn → Prop} {r : Res α} {P : α → Rho → Prop} : r.nox.gx (W := W) P ↔ r.gx (W := fun _ => False) P := by
  cases r <;> exact Iff.rfl
theorem gx_lift {α : Type} {W : Exn → Prop} {o : Option α} {ρ : Rho} {P : α → Rho → Prop} : (lift o ρ).gx (W := W) P ↔ ∃ a, o = some a ∧ P a ρ := by
  cases o with
  | none => exact ⟨fun h => h.elim, fun ⟨_, h, _⟩ => nomatch h⟩
  | some a => exact ⟨fun h => ⟨a, rfl, h⟩, fun ⟨b, h, q⟩ => by cases h; exact q⟩
abbrev PoE (K : PySem.W.Frag) (σ : St) (ρ : Rho) (H : Hp) (Q : VK) : Opd → Rho → Prop := fun o ρ' => ∀ v H', Aft K σ ρ H ρ' H' → RepO K H' σ ρ' v o → Fresh H v o → Q v H'
def tE (K : PySem.W.Frag) (Z : ZT) (C : Call) (m : Bool) (e : E) : TE := fun σ H Q => ∃ ρ, RelE K σ H ρ ∧ (ev C m e ρ).gx (W := zk Z σ ρ H) (PoE K σ ρ H Q)
theorem PE.weak {X : Cx} {e : Expr} {t t' : TE} (h : PE X e t) (w : ∀ σ H Q, t' σ H Q → t σ H Q) : PE X e t' := ⟨fun pins s σ H Q I q => h.run pins s σ H Q I (w σ H Q q)⟩
theorem PT.weak {X : Cx} {e : Expr} {t t' : TT} (h : PT X e t) (w : ∀ σ H Q, t' σ H Q → t σ H Q) : PT X e t' := ⟨fun pins s σ H Q I q => h.run pins s σ H Q I (w σ H Q q)⟩
theorem PA.weak {X : Cx} {e : List Expr} {t t' : TA} (h : PA X e t) (w : ∀ σ H Q, t' σ H Q → t σ H Q) : PA X e t' := ⟨fun pos pins s σ H Q I q => h.run pos pins s σ H Q I (w σ H Q q)⟩
theorem PS.weak {X : Cx} {e : Stmt} {t t' : TS} (h : PS X e t) (w : ∀ D σ H, t' D σ H → t D σ H) : PS X e t' := ⟨fun pins s σ H D I q => h.run pins s σ H D I (w D σ H q)⟩
theorem PSs.weak {X : Cx} {e : List Stmt} {t t' : TS} (h : PSs X e t) (w : ∀ D σ H, t' D σ H → t D σ H) : PSs X e t' := ⟨fun pins s σ H D I q => h.run pins s σ H D I (w D σ H q)⟩
/-- a test's reading -/
def tTB (K : PySem.W.Frag) (Z : ZT) (C : Call) (e : E) : TT := fun σ H Q => ∃ ρ, RelE K σ H ρ ∧ (boolOf (ev C true e ρ)).gx (W := zk Z σ ρ H) fun b ρ' => ∀ H', Aft K σ ρ H ρ' H' → Q b H'
theorem gt_lt {ρ : Rho} {i : Nat} {s : SV} (h : gt ρ i = some s) : i < ρ.length := by
  unfold gt at h
  split at h
  · exact (List.getElem?_eq_some_iff.mp (by assumption)).1
  · cases h
theorem gt_set_same {ρ : Rho} {i : Nat} {s : Option SV} (h : i < ρ.length) : gt (ρ.set i s) i = s := by
  unfold gt
  rw [List.getElem?_set_self h]
  cases s <;> rfl
theorem gt_set_ne {ρ : Rho} {i j : Nat} {s : Option SV} (h : i ≠ j) : gt (ρ.set i s) j = gt ρ j := by
  unfold gt
  rw [List.getElem?_set_ne h]
theorem frzAt_len (ρ : Rho) (i : Nat) : (frzAt ρ i).length = ρ.length := by
  unfold frzAt
  split
  · split
    · rw [List.length_set]
    · rfl
  · rfl
theorem SV.own_frz (s : SV) : s.frz.own = false := by cases s <;> rfl
theorem SV.frz_of {s : SV} (h : s.own = false) : s.frz = s := by cases s <;> first | rfl | cases h
/-- the slot i frozen -/
theorem gt_frzAt {ρ : Rho} {i j : Nat} : gt (frzAt ρ i) j = if j = i then (gt ρ i).map SV.frz else gt ρ j := by
  unfold frzAt
  cases e : gt ρ i with
  | none =>
    by_cases h : j = i
    · subst h; simp [e]
    · simp [h]
  | some s =>
    cases ho : s.own with
    | true =>
      simp only [ho, if_true]
      by_cases h : j = i
      · subst h
        simp only [if_true, Option.map_some]
        exact gt_set_same (gt_lt e)
      · rw [if_neg h]
        exact gt_set_ne (Ne.symm h)
    | false =>
      simp only [ho, Bool.false_eq_true, if_false]
      by_cases h : j = i
      · subst h
        simp only [if_true, Option.map_some, e, SV.frz_of ho]
      · rw [if_neg h]
/-! ### freezing while the text runs -/
inductive FzQ (R : Hp → Prop) : Hp → Prop
  | done {H : Hp} : R H → FzQ R H
  | step {H : Hp} {a : Addr} {u : HO} : H a = some u → Mut (some u) → (∀ od, FzQ R (upd H a (.frz od u))) → FzQ R H
theorem FzQ.run {X : Cx} {pins : List (Addr × Obj)} {σ : St} {s : Shared} {R : Hp → Prop} {H : Hp} (f : FzQ R H) : Inv X pins σ H s → ∃ H', Inv X pins σ H' s ∧ R H' := by
  induction f with
  | done r => exact fun I => ⟨_, I, r⟩
  | step h mu _ ih =>
    intro I
    obtain ⟨od, I2⟩ := I.lock h mu
    exact ih od I2
theorem FzQ.mono {R R' : Hp → Prop} {H : Hp} (f : FzQ R H) (h : ∀ H, R H → R' H) : FzQ R' H := by
  induction f with
  | done r => exact .done (h _ r)
  | step e mu _ ih => exact .step e mu ih
def tFz (t : TE) : TE := fun σ H Q => t σ H fun v H1 => FzQ (Q v) H1
def tFzA (t : TA) : TA := fun σ H Q => t σ H fun v H1 => FzQ (Q v) H1
theorem pe_fz {X : Cx} {e : Expr} {t : TE} (h : PE X e t) : PE X e (tFz t) := by
  refine ⟨fun pins s σ H Q I q => thn (h.run pins s σ H _ I q) fun u s1 ⟨v, H1, I1, r, q1⟩ => ?_⟩
  obtain ⟨H2, I2, q2⟩ := FzQ.run q1 I1
  exact ⟨v, H2, I2, r, q2⟩
theorem pa_fz {X : Cx} {e : List Expr} {t : TA} (h : PA X e t) : PA X e (tFzA t) := by
  refine ⟨fun pos pins s σ H Q I q => thn (h.run pos pins s σ H _ I q) fun u s1 ⟨v, H1, I1, r, q1⟩ => ?_⟩
  obtain ⟨H2, I2, q2⟩ := FzQ.run q1 I1
  exact ⟨v, H2, I2, r, q2⟩
theorem im_frz {H : Hp} {a : Addr} {od : Obj} {u : HO} (h : H a = some u) (mu : Mut (some u)) : Im H (upd H a (.frz od u)) := by
  refine ⟨fun b xs e => ?_, fun b o w e => ?_⟩
  · have hb : b ≠ a := fun z => by
      subst z
      rcases e with e | ⟨o, e⟩ <;> (rw [h] at e; cases e; exact mu.elim)
    rcases e with e | ⟨o, e⟩
    · exact .inl (by rw [upd_ne hb]; exact e)
    · exact .inr ⟨o, by rw [upd_ne hb]; exact e⟩
  · have hb : b ≠ a := fun z => by
      subst z
      rw [h] at e; cases e; exact mu.elim
    rw [upd_ne hb]; exact e
end Q

namespace Q
open PySem PySem.Spec PyProof.Rows L2
variable [LamT]
/-! ### operations by values -/
def After (K : PySem.W.Frag) (H : Hp) (r : SV) (Q : VK) : Prop := ∀ v H', Same H H' → RepS K H' v r → (r.own = true → ∀ a, v = .ref a → H a = none) → Q v H'
theorem After.dat {K : PySem.W.Frag} {H : Hp} {x : D} {Q : VK} {v : V} (h : After K H (.d x) Q) (r : RepD K H v x) : Q v H := h v H (Same.refl H) r fun z => nomatch z
theorem After.newT {K : PySem.W.Frag} {H : Hp} {xs : List D} {Q : VK} {vs : List V} (h : After K H (.d (.tuple xs)) Q) (r : RepDs K H vs xs) (z : vs.length ≤ sizeLine) : ∀ p, H p = none → Q (.ref p) (upd H p (.tup vs)) := fun p hp =>
  h _ _ (same_upd hp) (.tup (SqT.of upd_same) z (r.im (Same.im (same_upd hp)))) fun q => nomatch q
theorem After.newL {K : PySem.W.Frag} {H : Hp} {xs : List D} {Q : VK} {vs : List V} (h : After K H (.ml xs) Q) (r : RepDs K H vs xs) (z : vs.length ≤ sizeLine) : ∀ p, H p = none → Q (.ref p) (upd H p (.lst vs)) := fun p hp =>
  h _ _ (same_upd hp) ⟨p, vs, rfl, upd_same, z, r.im (Same.im (same_upd hp))⟩ fun _ a e => by cases e; exact hp
theorem sz_eq : SZ = sizeLine := by rw [sizeLine_eq]
/-- a list as it is read -/
theorem RepS.seqL {K : PySem.W.Frag} {H : Hp} {v : V} {s : SV} {xs : List D} (r : RepS K H v s) (e : s.seqL = some xs) : ∃ a vs, v = .ref a ∧ Rd H a (.lst vs) ∧ vs.length ≤ sizeLine ∧ RepDs K H vs xs := by
  cases s with
  | ml ys =>
    simp only [SV.seqL, Option.some.injEq] at e; subst e
    obtain ⟨a, vs, h1, h2, h3, h4⟩ := r
    exact ⟨a, vs, h1, .inl h2, h3, h4⟩
  | d x =>
    cases x with
    | list ys =>
      simp only [SV.seqL, Option.some.injEq] at e; subst e
      have r : RepD K H v (.list _) := r
      cases r with
      | lst h z r => exact ⟨_, _, rfl, h.rd, z, r⟩
    | _ => simp [SV.seqL] at e
  | md _ => simp [SV.seqL] at e
  | rl _ => simp [SV.seqL] at e
/-- a datum, or an own list, as data -/
theorem RepS.datR {K : PySem.W.Frag} {H : Hp} {v : V} {s : SV} {x : D} {n : Nat} (r : RepS K H v s) (e : s.dat = some x) (g : gd n x = true) : Dp K H v x := by
  cases s with
  | d y => simp only [SV.dat, Option.some.injEq] at e; subst e; exact RepD.dp r g
  | ml ys =>
    simp only [SV.dat, Option.some.injEq] at e; subst e
    obtain ⟨a, vs, rfl, h2, h3, h4⟩ := r
    cases n with
    | zero => simp [gd] at g
    | succ n => exact .lst (SqL.of h2) (RepDs.dp h4 (n := n) (by simpa [gd] using g))
  | md _ => simp only [SV.dat, Option.some.injEq] at e; subst e; simp [gd, dictD] at g
  | rl _ => simp [SV.dat] at e
theorem RepS.layD {K : PySem.W.Frag} {H : Hp} {v : V} {s : SV} {x : D} {n : Nat} (r : RepS K H v s) (e : s.dat = some x) (g : gd n x = true) : x.canLay0 = true ∧ x.depth ≤ n := by
  cases s with
  | d y => simp only [SV.dat, Option.some.injEq] at e; subst e; exact RepD.lay r g
  | ml ys =>
    simp only [SV.dat, Option.some.injEq] at e; subst e
    obtain ⟨a, vs, rfl, h2, h3, h4⟩ := r
    cases n with
    | zero => simp [gd] at g
    | succ n =>
      obtain ⟨h5, h6⟩ := h4.lay (n := n) (by simpa [gd] using g)
      have e : PyData.depth (.list ys) = PyData.depthAll ys + 1 := by simp [PyData.depth]
      refine ⟨by simpa [PyData.canLay0] using h5, by omega⟩
  | md _ => simp only [SV.dat, Option.some.injEq] at e; subst e; simp [gd, dictD] at g
  | rl _ => simp [SV.dat] at e
theorem RepS.shaped {K : PySem.W.Frag} {H : Hp} {v : V} {s : SV} {x : D} (r : RepS K H v s) (e : s.dat = some x) (g : gd 60 x = true) : SeqAt.shaped x = true := by
  obtain ⟨h1, h2⟩ := r.layD e g
  simp only [SeqAt.shaped, h1, Bool.true_and, decide_eq_true_eq]
  omega
section
variable {X : Cx}
theorem Inv.isL {pins : List (Addr × Obj)} {σ : St} {H : Hp} {s : Shared} {a : Addr} {xs : List V} (I : Inv X pins σ H s) (h : Rd H a (.lst xs)) : ∃ (its : List Value) (n : Nat), Vals xs its ∧ xs.length = its.length ∧ IsL s.heap a its.toArray n := by
  obtain ⟨z, its, n, r, e⟩ := h.ok I.hok
  exact ⟨its, n, r, r.length, e⟩
theorem op_catQ : OpR X (binaryOp .Add) (fun x y H Q => ∃ l b xs zs, x = .ref l ∧ y = .ref b ∧ Rd H l (.lst xs) ∧ Rd H b (.lst zs) ∧ xs.length + zs.length ≤ sizeLine ∧ ∀ p, H p = none → Q (.ref p) (upd H p (.lst (xs ++ zs)))) := by
  intro pins s σ H x y v u Q I rx ry h
  obtain ⟨l, b, xs, zs, rfl, rfl, hH, hB, hz, q⟩ := h
  cases rx
  cases ry
  obtain ⟨its, n, r, hl, e⟩ := Inv.isL I hH
  obtain ⟨its2, n2, r2, hl2, e2⟩ := Inv.isL I hB
  refine PySem.P.add_list e e2 ?_ (by rw [List.size_toArray, List.size_toArray]; omega)
  have ea : its.toArray ++ its2.toArray = (its ++ its2).toArray := by simp
  rw [ea]
  exact ⟨.ref _, _, I.lnew (t' := s.toks) (r.append r2) (by rw [List.length_append]; omega), rfl, q _ I.fresh⟩
theorem strOk_app {a b : Str} (ha : strOk a) (hb : strOk b) (h : a.length + b.length ≤ SZ) : strOk (a ++ b) := by
  have e : (a ++ b).cps = a.cps ++ b.cps := rfl
  refine ⟨?_, ?_⟩
  · have h1 := ha.1
    have h2 := hb.1
    rw [e, Array.all_append, h1, h2]; rfl
  · have e2 : (a ++ b).length = a.length + b.length := by
      show (a ++ b).cps.size = a.cps.size + b.cps.size
      rw [e, Array.size_append]
    rw [e2]
    rw [sz_eq] at h
    exact h
theorem tuple_mul1 (l : Addr) (items : Array Value) (n : Nat) (dd : Option Addr) (sl : Array (Option Value)) (x : Int) (u : Tok) (c0 : (decide (x < -(2 ^ 63)) || decide (x ≥ 2 ^ 63)) = false) (c1 : (items.isEmpty || x == 1) = true) :
    Meets (Builtin.«tuple.__mul__» ⟨[.ref l, .int x u], []⟩) (fun _ R s => s.heap.get? l = some { cls := .type "tuple", dict := dd, data := .seq items n, slots := sl } ∧
      R (.ok (.ret (Value.ref l))) s) :=
  .of_wp fun prog w A R s h => by
    obtain ⟨hp, g, d, tk, os⟩ := s
    obtain ⟨hl, h⟩ := h
    have f1 := AutoSeq1.idx_int
    wp_walk using wpAny_loadPart' hl
    repeat (first
      | (refine wpAny_ite_false (decide_eq_false (by rw [c0]; exact Bool.false_ne_true)) ?_; wp_walk using wpAny_loadPart' hl)
      | (refine wpAny_ite_true (decide_eq_true (by rw [c1])) ?_; wp_walk using wpAny_loadPart' hl))
    exact ⟨_, rfl, h⟩
theorem op_repT1 : OpR X (binaryOp .Mult) (fun x y H Q => ∃ l xs, x = .ref l ∧ y = .int 1 ∧ SqT X.K H l xs ∧ Q (.ref l) H) := by
  intro pins s σ H x y v u Q I rx ry h
  obtain ⟨l, xs, rfl, rfl, hT, q⟩ := h
  cases rx
  obtain ⟨t, rfl⟩ := ry
  obtain ⟨its, r, ⟨⟨cls, dd, data, sl⟩, ho, hc, n, hd⟩, hs⟩ := I.tuple hT
  simp only at hc hd
  subst hc hd
  have c0 : (decide ((1 : Int) < -(2 ^ 63)) || decide ((1 : Int) ≥ 2 ^ 63)) = false := by decide
  have c1 : (its.toArray.isEmpty || (1 : Int) == 1) = true := by simp
  refine wpAny_binaryOp_repeat_ref (T := "tuple") (U := "int") (by decide) ⟨_, ho, rfl⟩ (fun s' => typeIs_int s' 1 t) noFill_tuple_mul F.fills_int_mul F.slot_int_rmul repeat_tuple F.slot_int_index.lookup
    (call_meets F.slot_int_rmul (typeIs_int s 1 t) F.entry_int_rmul (F.args_int_rmul_2 _ _) (int_rmul_tuple 1 t l its.toArray n dd sl)
      ⟨ho, rfl, ⟨_, ho, rfl⟩, call_meets F.slot_tuple_mul ⟨_, ho, rfl⟩ F.entry_tuple_mul (F.args_tuple_mul_2 _ _) (tuple_mul1 l its.toArray n dd sl 1 t c0 c1) ⟨ho, ?_⟩⟩)
  exact ⟨.ref l, H, I, rfl, q⟩
/-- a binary operation -/
theorem op_binQ (op : Operator) : OpR X (binaryOp op) (fun x y H Q => ∃ s t r, RepS X.K H x s ∧ RepS X.K H y t ∧ binSem op s t = some r ∧ After X.K H r Q) := by
  intro pins s σ H x y v u Q I rx ry h
  obtain ⟨a, b, r, ra, rb, e, q⟩ := h
  unfold binSem at e
  split at e
  · -- ints
    rename_i i j
    have ra : RepD X.K H x (.int i) := ra
    have rb : RepD X.K H y (.int j) := rb
    cases ra; cases rb
    simp only [Option.map_eq_some_iff] at e
    obtain ⟨k, e1, rfl⟩ := e
    have q' : Q (.int k) H := q.dat (.int k)
    cases op with
    | Add => simp only [intOp, Option.some.injEq] at e1; subst e1; exact op_add pins s σ H _ _ v u Q I rx ry ⟨i, j, rfl, rfl, q'⟩
    | Sub => simp only [intOp, Option.some.injEq] at e1; subst e1; exact op_sub pins s σ H _ _ v u Q I rx ry ⟨i, j, rfl, rfl, q'⟩
    | Mult =>
      simp only [intOp] at e1
      split at e1
      · rename_i hc
        cases e1
        exact op_mul pins s σ H _ _ v u Q I rx ry ⟨i, j, rfl, rfl, hc, q'⟩
      · cases e1
    | FloorDiv =>
      simp only [intOp] at e1
      split at e1
      · rename_i hc
        cases e1
        exact op_fdiv pins s σ H _ _ v u Q I rx ry ⟨i, j, rfl, rfl, hc, q'⟩
      · cases e1
    | Mod =>
      simp only [intOp] at e1
      split at e1
      · rename_i hc
        cases e1
        exact op_mod pins s σ H _ _ v u Q I rx ry ⟨i, j, rfl, rfl, hc, q'⟩
      · cases e1
    | Pow =>
      simp only [intOp] at e1
      split at e1
      · rename_i hc
        cases e1
        exact op_pow pins s σ H _ _ v u Q I rx ry ⟨i, j, rfl, rfl, hc, q'⟩
      · cases e1
    | _ => simp [intOp] at e1
  · -- texts
    rename_i i j
    split at e
    · split at e
      · rename_i hz
        cases e
        have ra : RepD X.K H x (.str i) := ra
        have rb : RepD X.K H y (.str j) := rb
        cases ra with | str _ oa =>
        cases rb with | str _ ob =>
        exact op_add_str pins s σ H _ _ v u Q I rx ry ⟨i, j, rfl, rfl, by rw [← sz_eq]; exact hz, q.dat (.str _ (strOk_app oa ob hz))⟩
      · cases e
    · cases e
  · -- tuples
    rename_i i j
    split at e
    · split at e
      · rename_i hz
        cases e
        have ra : RepD X.K H x (.tuple i) := ra
        have rb : RepD X.K H y (.tuple j) := rb
        cases ra with | @tup aa xs _ ha za da =>
        cases rb with | @tup ab ys _ hb zb db =>
        rw [sz_eq] at hz
        refine op_catA pins s σ H _ _ v u Q I rx ry ⟨_, _, _, _, rfl, rfl, ha, hb, by rw [da.length, db.length]; exact hz, fun e => ?_, fun _ e => ?_, fun _ _ => q.newT (da.append db) (by rw [List.length_append, da.length, db.length]; exact hz)⟩
        · subst e
          cases da
          exact q.dat (.tup hb zb db)
        · subst e
          cases db
          simp only [List.append_nil] at q
          exact q.dat (.tup ha za da)
      · cases e
    · cases e
  · -- tuple times int
    rename_i i j
    split at e
    · split at e
      · rename_i h1
        cases e
        subst h1
        have ra : RepD X.K H x (.tuple i) := ra
        have rb : RepD X.K H y (.int 1) := rb
        have ra' := ra
        cases ra with | @tup aa xs _ ha za da =>
        cases rb
        exact op_repT1 pins s σ H _ _ v u Q I rx ry ⟨_, _, rfl, rfl, ha, q.dat ra'⟩
      split at e
      · rename_i hz
        cases e
        have ra : RepD X.K H x (.tuple i) := ra
        have rb : RepD X.K H y (.int j) := rb
        cases ra with | @tup aa xs _ ha za da =>
        cases rb
        obtain ⟨h1, h2, h3, h4⟩ := hz
        have hlen := da.length
        refine op_repT pins s σ H _ _ v u Q I rx ry ⟨_, _, _, rfl, rfl, ha, fun e => ?_, h2, h3, by rw [hlen]; exact h4, q.newT (da.flat j.toNat) ?_⟩
        · subst e
          cases da
          exact h1 rfl
        · have e1 : (List.replicate j.toNat xs).flatten.length = j.toNat * xs.length := by simp
          rw [e1, sizeLine_eq]
          have h5 : j.toNat ≤ 1000 := by omega
          have h6 : xs.length ≤ 1000 := by rw [hlen]; exact h4
          calc j.toNat * xs.length ≤ 1000 * 1000 := Nat.mul_le_mul h5 h6
            _ ≤ 16777216 := by decide
      · cases e
    · cases e
  · -- list times int
    rename_i i j
    split at e
    · split at e
      · rename_i hz
        cases e
        obtain ⟨l, vs, rfl, h2, h3, h4⟩ := ra
        have rb : RepD X.K H y (.int j) := rb
        cases rb
        obtain ⟨k1, k2, k3⟩ := hz
        have hlen := h4.length
        refine op_rep pins s σ H _ _ v u Q I rx ry ⟨l, j, vs, rfl, rfl, h2, k1, k2, by rw [hlen, ← sz_eq]; exact k3, q.newL (h4.flat j.toNat) ?_⟩
        have e1 : (List.replicate j.toNat vs).flatten.length = j.toNat * vs.length := by simp
        rw [e1, hlen, Nat.mul_comm, ← sz_eq]
        exact k3
      · cases e
    · cases e
  · -- lists
    split at e
    · rename_i xs ys e1 e2
      split at e
      · rename_i hz
        cases e
        obtain ⟨la, va, rfl, ha, za, da⟩ := ra.seqL e1
        obtain ⟨lb, vb, rfl, hb, zb, db⟩ := rb.seqL e2
        rw [sz_eq] at hz
        exact op_catQ pins s σ H _ _ v u Q I rx ry ⟨_, _, _, _, rfl, rfl, ha, hb, by rw [da.length, db.length]; exact hz, q.newL (da.append db) (by rw [List.length_append, da.length, db.length]; exact hz)⟩
      · cases e
    · cases e
/-- what a test asks for -/
theorem RepS.tru {K : PySem.W.Frag} {H : Hp} {v : V} {s : SV} {b : Bool} (r : RepS K H v s) (e : truth s = some b) : TruV K v H b := by
  cases s with
  | ml xs =>
    simp only [truth, Option.some.injEq] at e
    obtain ⟨a, vs, rfl, h2, h3, h4⟩ := r
    have hl := h4.length
    refine .inl ⟨vs, SqL.of h2, ?_⟩
    rw [← e]
    cases h4 <;> rfl
  | md _ => simp [truth] at e
  | rl _ => simp [truth] at e
  | d x =>
    have r' : RepD K H v x := r
    clear r
    cases r' with
    | non => simp only [truth, Option.some.injEq] at e; exact e.symm
    | bl b => simp only [truth, Option.some.injEq] at e; exact e.symm
    | int i => simp only [truth, Option.some.injEq] at e; exact e.symm
    | str x h =>
      simp only [truth, Option.some.injEq] at e
      refine ⟨h.2, ?_⟩
      rw [← e]
      by_cases h0 : x.length = 0
      · rw [h0]; rfl
      · have h1 : ((x.length : Int)) ≠ 0 := by omega
        rw [bne_iff_ne.mpr h0, bne_iff_ne.mpr h1]
    | dct h rr => simp [truth] at e
    | fn h => simp [truth] at e
    | lst h z rr =>
      simp only [truth, Option.some.injEq] at e
      refine .inl ⟨_, h.sq, ?_⟩
      rw [← e]
      cases rr <;> rfl
    | tup h z rr =>
      simp only [truth, Option.some.injEq] at e
      refine .inr (.inl ⟨_, h, ?_⟩)
      rw [← e]
      cases rr <;> rfl
theorem plainIs_of {x : V} {v : Value} {b : Bool} (r : RelV x v) : plainIs v (.bool b) = true := by
  cases x with
  | bl c => cases r; rfl
  | non => cases r; rfl
  | int i => obtain ⟨t, q⟩ := r; cases q; rfl
  | str i => obtain ⟨t, q⟩ := r; cases q; rfl
  | byt i => obtain ⟨t, q⟩ := r; cases q; rfl
  | flt i => obtain ⟨t, q⟩ := r; cases q; rfl
  | ref a => cases r; rfl
  | ty n => cases r; rfl
theorem RelV_ne_bool {x : V} {v : Value} {b : Bool} (r : RelV x v) (h : ∀ c, x ≠ .bl c) : v ≠ .bool b := by
  intro e
  subst e
  cases x with
  | bl c => exact h c rfl
  | non => cases r
  | int i => obtain ⟨t, q⟩ := r; cases q
  | str i => obtain ⟨t, q⟩ := r; cases q
  | byt i => obtain ⟨t, q⟩ := r; cases q
  | flt i => obtain ⟨t, q⟩ := r; cases q
  | ref a => cases r
  | ty n => cases r
theorem op_isB {b : Bool} {neg : Bool} {pins : List (Addr × Obj)} {s : Shared} {σ : St} {H : Hp} {x : V} {v : Value} {Q : VK} (I : Inv X pins σ H s) (rx : RelV x v) (q : Q (.bl (decide (x = .bl b) != neg)) H) :
    wpAny (model X.prog X.w) X.A (compareOp (if neg then .IsNot else .Is) v (.bool b)) (EP X pins σ Q) X.xe s := by
  by_cases e : x = .bl b
  · subst e
    cases (show v = Value.bool b from rx)
    cases neg
    · exact wpAny_is_self rfl ⟨.bl true, H, I, rfl, by simpa using q⟩
    · exact wpAny_isNot_self rfl ⟨.bl false, H, I, rfl, by simpa using q⟩
  · have hv : v ≠ .bool b := by
      by_cases hc : ∃ c, x = .bl c
      · obtain ⟨c, rfl⟩ := hc
        cases (show v = Value.bool c from rx)
        exact fun z => e (by cases z; rfl)
      · exact RelV_ne_bool rx fun c z => hc ⟨c, z⟩
    have hp : plainIs v (.bool b) = true := plainIs_of rx
    cases neg
    · exact wpAny_is_other hp hv ⟨.bl false, H, I, rfl, by simpa [e] using q⟩
    · exact wpAny_isNot_other hp hv ⟨.bl true, H, I, rfl, by simpa [e] using q⟩
end
end Q

namespace Q
open PySem PySem.Spec PyProof.Rows L2
variable [LamT]
section
variable {X : Cx}
theorem isB_dat {K : PySem.W.Frag} {H : Hp} {v : V} {s : SV} {x : D} {b k : Bool} (r : RepS K H v s) (e : s.dat = some x) (h : isSem x (.bool b) = some k) : decide (v = .bl b) = k := by
  cases s with
  | ml ys =>
    simp only [SV.dat, Option.some.injEq] at e; subst e
    obtain ⟨a, vs, rfl, _⟩ := r
    simp only [isSem, Option.some.injEq] at h
    subst h
    exact decide_eq_false fun z => nomatch z
  | md _ =>
    simp only [SV.dat, Option.some.injEq] at e; subst e
    obtain ⟨a, vs, rfl, _⟩ := r
    simp only [isSem, dictD, Option.some.injEq] at h
    subst h
    exact decide_eq_false fun z => nomatch z
  | rl _ => simp [SV.dat] at e
  | d y =>
    simp only [SV.dat, Option.some.injEq] at e; subst e
    have r' : RepD K H v y := r
    cases r' with
    | bl c =>
      simp only [isSem, Option.some.injEq] at h
      subst h
      cases c <;> cases b <;> rfl
    | _ => simp only [isSem, Option.some.injEq] at h; subst h; exact decide_eq_false fun z => nomatch z
theorem isN_dat {K : PySem.W.Frag} {H : Hp} {v : V} {s : SV} {x : D} {k : Bool} (r : RepS K H v s) (e : s.dat = some x) (h : isSem x .none = some k) : decide (v = .non) = k := by
  cases s with
  | ml ys =>
    simp only [SV.dat, Option.some.injEq] at e; subst e
    obtain ⟨a, vs, rfl, _⟩ := r
    simp only [isSem, Option.some.injEq] at h
    subst h
    exact decide_eq_false fun z => nomatch z
  | md _ =>
    simp only [SV.dat, Option.some.injEq] at e; subst e
    obtain ⟨a, vs, rfl, _⟩ := r
    simp only [isSem, dictD, Option.some.injEq] at h
    subst h
    exact decide_eq_false fun z => nomatch z
  | rl _ => simp [SV.dat] at e
  | d y =>
    simp only [SV.dat, Option.some.injEq] at e; subst e
    have r' : RepD K H v y := r
    cases r' <;> (simp only [isSem, Option.some.injEq] at h; subst h; rfl)
theorem RepS.int {K : PySem.W.Frag} {H : Hp} {v : V} {i : Int} (r : RepS K H v (.d (.int i))) : v = .int i := by
  have r' : RepD K H v (.int i) := r
  cases r'; rfl
theorem RepS.str {K : PySem.W.Frag} {H : Hp} {v : V} {i : Str} (r : RepS K H v (.d (.str i))) : v = .str i ∧ strOk i := by
  have r' : RepD K H v (.str i) := r
  cases r'; exact ⟨rfl, by assumption⟩
theorem inSeq_any (a : D) (ys : List D) : inSeq a ys = ys.any fun y => PyData.eqv y a := rfl
theorem RepS.listT {K : PySem.W.Frag} {H : Hp} {v : V} {s : SV} {xs : List D} (r : RepS K H v s) (e : s.dat = some (.list xs)) : ∃ a vs, v = .ref a ∧ Rd H a (.lst vs) ∧ vs.length ≤ sizeLine ∧ RepDs K H vs xs := by
  cases s with
  | ml ys =>
    simp only [SV.dat, Option.some.injEq] at e; cases e
    obtain ⟨a, vs, h1, h2, h3, h4⟩ := r
    exact ⟨a, vs, h1, .inl h2, h3, h4⟩
  | d x =>
    simp only [SV.dat, Option.some.injEq] at e; subst e
    have r' : RepD K H v (.list _) := r
    cases r' with | lst h z r => exact ⟨_, _, rfl, h.rd, z, r⟩
  | md _ => simp [SV.dat, dictD] at e
  | rl _ => simp [SV.dat] at e
theorem RepS.tupT {K : PySem.W.Frag} {H : Hp} {v : V} {s : SV} {xs : List D} (r : RepS K H v s) (e : s.dat = some (.tuple xs)) : ∃ a vs, v = .ref a ∧ SqT K H a vs ∧ vs.length ≤ sizeLine ∧ RepDs K H vs xs ∧ s = .d (.tuple xs) := by
  cases s with
  | ml ys => simp [SV.dat] at e
  | d x =>
    simp only [SV.dat, Option.some.injEq] at e; subst e
    have r' : RepD K H v (.tuple _) := r
    cases r' with | tup h z r => exact ⟨_, _, rfl, h, z, r, rfl⟩
  | md _ => simp [SV.dat, dictD] at e
  | rl _ => simp [SV.dat] at e
theorem RepKs.length {K : PySem.W.Frag} {H : Hp} : ∀ {ks : List (L2.Key × V)} {kds : List (L2.Key × D)}, RepKs K H ks kds → ks.length = kds.length
  | _, _, .nil => rfl
  | _, _, .cons _ _ r => by simp [RepKs.length r]
theorem keys_nf {kvs : List (D × D)} {ks : List (Key × D)} (e : asKeys kvs = some ks) : isF kvs = false := by
  cases kvs with
  | nil => rfl
  | cons p r =>
    obtain ⟨k, v⟩ := p
    cases k <;> first | rfl | simp [asKeys, asKey] at e
theorem hasK_nf {kvs : List (D × D)} {y : D} {b : Bool} (e : hasK kvs y = some b) : isF kvs = false := by
  unfold hasK at e
  split at e
  · exact keys_nf (by assumption)
  · cases e
theorem getK_nf {kvs : List (D × D)} {y z : D} (e : getK kvs y = some z) : isF kvs = false := by
  unfold getK at e
  split at e
  · exact keys_nf (by assumption)
  · cases e
theorem RepKs.nf {kds : List (L2.Key × D)} : isF (kds.map fun p => (keyD p.1, p.2)) = false := by
  cases kds with
  | nil => rfl
  | cons p r => obtain ⟨k | k, v⟩ := p <;> rfl
theorem RepS.dctT {K : PySem.W.Frag} {H : Hp} {v : V} {s : SV} {kvs : List (D × D)} (r : RepS K H v s) (e : s.dat = some (.dict kvs)) (nf : isF kvs = false) : ∃ a ks kds, v = .ref a ∧ Rd H a (.dK ks) ∧ RepKs K H ks kds ∧ kvs = kds.map fun p => (keyD p.1, p.2) := by
  cases s with
  | ml ys => simp [SV.dat] at e
  | d x =>
    simp only [SV.dat, Option.some.injEq] at e; subst e
    have r' : RepD K H v (.dict kvs) := r
    cases r' with
    | dct h rk => exact ⟨_, _, _, rfl, h.rd, rk, rfl⟩
    | fn h => cases nf
  | md _ =>
    simp only [SV.dat, Option.some.injEq] at e; cases e
    obtain ⟨a, ks, h1, h2, h3⟩ := r
    exact ⟨a, ks, _, h1, .inl h2, h3, rfl⟩
  | rl _ => simp [SV.dat] at e
theorem RepS.strT {K : PySem.W.Frag} {H : Hp} {v : V} {s : SV} {x : Str} (r : RepS K H v s) (e : s.dat = some (.str x)) : v = .str x ∧ strOk x := by
  cases s with
  | ml ys => simp [SV.dat] at e
  | d y =>
    simp only [SV.dat, Option.some.injEq] at e; subst e
    exact RepS.str r
  | md _ => simp [SV.dat, dictD] at e
  | rl _ => simp [SV.dat] at e
theorem key_rep {K : PySem.W.Frag} {H : Hp} {v : V} {d : D} {k : L2.Key} (r : RepD K H v d) (e : asKey d = some k) : v = kV k ∧ keyOk k ∧ d = keyD k := by
  cases r with
  | int i => simp only [asKey, Option.some.injEq] at e; subst e; exact ⟨rfl, trivial, rfl⟩
  | str x h => simp only [asKey, Option.some.injEq] at e; subst e; exact ⟨rfl, h, rfl⟩
  | _ => simp [asKey] at e
theorem asKeys_map : ∀ kds : List (Key × D), asKeys (kds.map fun p => (keyD p.1, p.2)) = some kds
  | [] => rfl
  | (.inl i, v) :: r => by
    show (match asKey (PyData.int i), asKeys (List.map (fun p => (keyD p.1, p.2)) r) with | some k, some r => some ((k, v) :: r) | _, _ => none) = _
    rw [asKeys_map r]; rfl
  | (.inr x, v) :: r => by
    show (match asKey (PyData.str x), asKeys (List.map (fun p => (keyD p.1, p.2)) r) with | some k, some r => some ((k, v) :: r) | _, _ => none) = _
    rw [asKeys_map r]; rfl
theorem valG_eq (kvs : List (L2.Key × V)) (k : L2.Key) : valV kvs k = valG kvs k := rfl
theorem valG_cons {β : Type} (j : Key) (v : β) (r : List (Key × β)) (k : Key) : valG ((j, v) :: r) k = if j = k then some v else valG r k := by
  unfold valG
  rw [List.find?_cons]
  by_cases h : j = k
  · simp only [h, decide_true, if_true]; rfl
  · simp only [h, decide_false, if_false]
theorem valG_rep {K : PySem.W.Frag} {H : Hp} {k : L2.Key} : ∀ {ks : List (L2.Key × V)} {kds : List (L2.Key × D)}, RepKs K H ks kds → (valG ks k = none ∧ valG kds k = none) ∨ ∃ v d, valG ks k = some v ∧ valG kds k = some d ∧ RepD K H v d
  | _, _, .nil => .inl ⟨rfl, rfl⟩
  | _, _, .cons (k := j) o h r => by
    rw [valG_cons, valG_cons]
    by_cases e : j = k
    · rw [if_pos e, if_pos e]
      exact .inr ⟨_, _, rfl, rfl, h⟩
    · rw [if_neg e, if_neg e]
      exact valG_rep r
theorem getK_rep {K : PySem.W.Frag} {H : Hp} {v : V} {y x : D} {a : Addr} {ks : List (L2.Key × V)} {kds : List (L2.Key × D)} (hd : Rd H a (.dK ks)) (rk : RepKs K H ks kds) (ry : RepD K H v y) (e : getK (kds.map fun p => (keyD p.1, p.2)) y = some x) : ∃ w, DGet H a v (some w) ∧ RepD K H w x := by
  unfold getK at e
  split at e
  · rename_i k ks' e1 e2
    rw [asKeys_map] at e2
    cases e2
    obtain ⟨rfl, _, _⟩ := key_rep ry e1
    rcases valG_rep (k := k) rk with ⟨_, q⟩ | ⟨w, d, q1, q2, q3⟩
    · rw [e] at q; cases q
    · rw [e] at q2; cases q2
      exact ⟨w, .inl ⟨ks, k, hd, rfl, q1.symm⟩, q3⟩
  · cases e
theorem hasK_rep {K : PySem.W.Frag} {H : Hp} {v : V} {y : D} {b : Bool} {a : Addr} {ks : List (L2.Key × V)} {kds : List (L2.Key × D)} (hd : Rd H a (.dK ks)) (rk : RepKs K H ks kds) (ry : RepD K H v y) (e : hasK (kds.map fun p => (keyD p.1, p.2)) y = some b) : ∃ o, DGet H a v o ∧ o.isSome = b := by
  unfold hasK at e
  split at e
  · rename_i k ks' e1 e2
    rw [asKeys_map] at e2
    cases e2
    cases e
    obtain ⟨rfl, _, _⟩ := key_rep ry e1
    refine ⟨_, .inl ⟨ks, k, hd, rfl, rfl⟩, ?_⟩
    rw [valG_eq]
    rcases valG_rep (k := k) rk with ⟨q1, q2⟩ | ⟨w, d, q1, q2, _⟩ <;> rw [q1, q2] <;> rfl
  · cases e
theorem hasC_one {x z : Str} {b : Bool} (e : hasC x z = some b) : ∃ c, x = ⟨#[c]⟩ ∧ b = decide (c ∈ z.cps.toList) := by
  unfold hasC at e
  split at e
  · rename_i c h
    cases e
    refine ⟨c, ?_, rfl⟩
    obtain ⟨cs⟩ := x
    have : cs = #[c] := Array.toList_inj.mp h
    rw [this]
  · cases e
theorem RepS.datD {K : PySem.W.Frag} {H : Hp} {v : V} {s : SV} {x : D} {k : L2.Key} (r : RepS K H v s) (e : s.dat = some x) (h : asKey x = some k) : RepD K H v x := by
  cases s with
  | d y => simp only [SV.dat, Option.some.injEq] at e; subst e; exact r
  | ml _ => simp only [SV.dat, Option.some.injEq] at e; subst e; cases h
  | md _ => simp only [SV.dat, Option.some.injEq] at e; subst e; cases h
  | rl _ => cases e
theorem hasK_key {kvs : List (D × D)} {y : D} {b : Bool} (e : hasK kvs y = some b) : ∃ k, asKey y = some k := by
  unfold hasK at e
  split at e
  · exact ⟨_, by assumption⟩
  · cases e
/-- a comparison -/
theorem op_cmpQ (hu : X.A.units + 65 < cLine) (op : CmpOp) : OpR X (compareOp op) (fun x y H Q => ∃ s t k, RepS X.K H x s ∧ RepS X.K H y t ∧ cmpSem op s t = some k ∧ Q (.bl k) H) := by
  intro pins s σ H x y v u Q I rx ry h
  obtain ⟨a, b, k, ra, rb, e, q⟩ := h
  cases op with
  | Eq =>
    simp only [cmpSem] at e
    split at e
    · rename_i da db e1 e2
      split at e
      · rename_i hc
        cases e
        simp only [cmpOk, Bool.and_eq_true] at hc
        exact op_eqD (by omega) pins s σ H x y v u Q I rx ry ⟨da, db, ra.datR e1 hc.1, rb.datR e2 hc.2, ra.shaped e1 hc.1, rb.shaped e2 hc.2, q⟩
      · cases e
    · cases e
  | NotEq =>
    simp only [cmpSem] at e
    split at e
    · rename_i da db e1 e2
      split at e
      · rename_i hc
        cases e
        simp only [cmpOk, Bool.and_eq_true] at hc
        exact op_neD (by omega) pins s σ H x y v u Q I rx ry ⟨da, db, ra.datR e1 hc.1, rb.datR e2 hc.2, ra.shaped e1 hc.1, rb.shaped e2 hc.2, q⟩
      · cases e
    · cases e
  | Lt =>
    simp only [cmpSem] at e
    split at e
    · cases e; exact op_lt pins s σ H x y v u Q I rx ry ⟨_, _, ra.int, rb.int, q⟩
    · cases e; exact op_lt_str pins s σ H x y v u Q I rx ry ⟨_, _, ra.str.1, rb.str.1, q⟩
    · cases e
  | LtE =>
    simp only [cmpSem] at e
    split at e
    · cases e; exact op_le pins s σ H x y v u Q I rx ry ⟨_, _, ra.int, rb.int, q⟩
    · cases e
  | Gt =>
    simp only [cmpSem] at e
    split at e
    · cases e; exact op_gt pins s σ H x y v u Q I rx ry ⟨_, _, ra.int, rb.int, q⟩
    · cases e
  | GtE =>
    simp only [cmpSem] at e
    split at e
    · cases e; exact op_ge pins s σ H x y v u Q I rx ry ⟨_, _, ra.int, rb.int, q⟩
    · cases e
  | Is =>
    simp only [cmpSem] at e
    split at e
    · rename_i da db e1
      have rb' : RepD X.K H y db := rb
      cases rb' with
      | non => exact op_isN pins s σ H x _ v u Q I rx ry ⟨rfl, by rw [isN_dat ra e1 e]; exact q⟩
      | bl c =>
        cases ry
        exact op_isB (neg := false) I rx (by rw [isB_dat ra e1 e]; simpa using q)
      | _ => simp [isSem] at e
    · cases e
  | IsNot =>
    simp only [cmpSem] at e
    split at e
    · rename_i da db e1
      simp only [Option.map_eq_some_iff] at e
      obtain ⟨k', e, rfl⟩ := e
      have rb' : RepD X.K H y db := rb
      cases rb' with
      | non => exact op_notN pins s σ H x _ v u Q I rx ry ⟨rfl, by rw [isN_dat ra e1 e]; exact q⟩
      | bl c =>
        cases ry
        exact op_isB (neg := true) I rx (by rw [isB_dat ra e1 e]; simpa using q)
      | _ => simp [isSem] at e
    · cases e
  | In =>
    simp only [cmpSem] at e
    split at e
    · rename_i da ys e1 e2
      split at e
      · rename_i hc
        cases e
        simp only [Bool.and_eq_true] at hc
        obtain ⟨as, r1⟩ := Dp.reads I da x v (ra.datR e1 hc.1) rx
        obtain ⟨bs, r2⟩ := Dp.reads I (.list ys) y u (rb.datR e2 (n := 60) (by simpa [gd] using hc.2)) ry
        obtain ⟨l1, l2⟩ := ra.layD (n := 60) e1 hc.1
        obtain ⟨m1, m2⟩ := rb.layD (n := 60) e2 (by simpa [gd] using hc.2)
        exact SeqAt.in_list_reads r2 r1 (by simpa [PyData.canLay0] using m1) l1 (by omega) ⟨.bl _, H, I, rfl, q⟩
      · cases e
    · rename_i da ys e1 e2
      split at e
      · rename_i hc
        cases e
        simp only [Bool.and_eq_true] at hc
        obtain ⟨as, r1⟩ := Dp.reads I da x v (ra.datR e1 hc.1) rx
        obtain ⟨bs, r2⟩ := Dp.reads I (.tuple ys) y u (rb.datR e2 (n := 60) (by simpa [gd] using hc.2)) ry
        obtain ⟨l1, l2⟩ := ra.layD (n := 60) e1 hc.1
        obtain ⟨m1, m2⟩ := rb.layD (n := 60) e2 (by simpa [gd] using hc.2)
        exact SeqAt.in_tuple_reads r2 r1 (by simpa [PyData.canLay0] using m1) l1 (by omega) ⟨.bl _, H, I, rfl, q⟩
      · cases e
    · rename_i da kvs e1 e2
      obtain ⟨k0, hk⟩ := hasK_key e
      obtain ⟨p, ks, kds, rfl, h1, h2, rfl⟩ := rb.dctT e2 (hasK_nf e)
      obtain ⟨o, g, rfl⟩ := hasK_rep h1 h2 (ra.datD e1 hk) e
      cases (show u = Value.ref p from ry)
      exact d_in (by omega) I g rx fun s' I' => ⟨.bl _, H, I', rfl, q⟩
    · rename_i sa sb e1 e2
      obtain ⟨c, rfl, rfl⟩ := hasC_one e
      exact op_in_sign pins s σ H x y v u Q I rx ry ⟨c, sb, (ra.strT e1).1, (rb.strT e2).1, q⟩
    · cases e
  | NotIn =>
    simp only [cmpSem] at e
    split at e
    · rename_i da ys e1 e2
      split at e
      · rename_i hc
        cases e
        simp only [Bool.and_eq_true] at hc
        obtain ⟨as, r1⟩ := Dp.reads I da x v (ra.datR e1 hc.1) rx
        obtain ⟨bs, r2⟩ := Dp.reads I (.list ys) y u (rb.datR e2 (n := 60) (by simpa [gd] using hc.2)) ry
        obtain ⟨l1, l2⟩ := ra.layD (n := 60) e1 hc.1
        obtain ⟨m1, m2⟩ := rb.layD (n := 60) e2 (by simpa [gd] using hc.2)
        exact SeqAt.notIn_list_reads r2 r1 (by simpa [PyData.canLay0] using m1) l1 (by omega) ⟨.bl _, H, I, rfl, q⟩
      · cases e
    · rename_i da ys e1 e2
      split at e
      · rename_i hc
        cases e
        simp only [Bool.and_eq_true] at hc
        obtain ⟨as, r1⟩ := Dp.reads I da x v (ra.datR e1 hc.1) rx
        obtain ⟨bs, r2⟩ := Dp.reads I (.tuple ys) y u (rb.datR e2 (n := 60) (by simpa [gd] using hc.2)) ry
        obtain ⟨l1, l2⟩ := ra.layD (n := 60) e1 hc.1
        obtain ⟨m1, m2⟩ := rb.layD (n := 60) e2 (by simpa [gd] using hc.2)
        exact SeqAt.notIn_tuple_reads r2 r1 (by simpa [PyData.canLay0] using m1) l1 (by omega) ⟨.bl _, H, I, rfl, q⟩
      · cases e
    · rename_i da kvs e1 e2
      simp only [Option.map_eq_some_iff] at e
      obtain ⟨k', e, rfl⟩ := e
      obtain ⟨k0, hk⟩ := hasK_key e
      obtain ⟨p, ks, kds, rfl, h1, h2, rfl⟩ := rb.dctT e2 (hasK_nf e)
      obtain ⟨o, g, rfl⟩ := hasK_rep h1 h2 (ra.datD e1 hk) e
      cases (show u = Value.ref p from ry)
      exact d_notIn (by omega) I g rx fun s' I' => ⟨.bl _, H, I', rfl, q⟩
    · rename_i sa sb e1 e2
      simp only [Option.map_eq_some_iff] at e
      obtain ⟨k', e, rfl⟩ := e
      obtain ⟨c, rfl, rfl⟩ := hasC_one e
      exact op_notIn_sign pins s σ H x y v u Q I rx ry ⟨c, sb, (ra.strT e1).1, (rb.strT e2).1, q⟩
    · cases e
/-- a value that is a list or a tuple -/
theorem Rd.sq {K : PySem.W.Frag} {H : Hp} {a : Addr} {xs : List V} (h : Rd H a (.lst xs)) : SqL K H a xs := .inl h
theorem atD_rep {K : PySem.W.Frag} {H : Hp} {vs : List V} {xs : List D} {i : Int} {x : D} (r : RepDs K H vs xs) (e : atD xs i = some x) : ∃ v, atI vs i = some v ∧ RepD K H v x := by
  have hl := r.length
  unfold atD at e
  split at e
  · rename_i h0
    obtain ⟨v, h1, h2⟩ := r.get e
    have hlt := (List.getElem?_eq_some_iff.mp h1).1
    refine ⟨v, ?_, h2⟩
    unfold atI ixN
    rw [if_pos h0, if_pos (by omega)]
    exact h1
  · rename_i h0
    split at e
    · rename_i h1
      obtain ⟨v, h2, h3⟩ := r.get e
      refine ⟨v, ?_, h3⟩
      unfold atI ixN
      rw [if_neg h0, if_pos (by omega)]
      simp only [Option.bind_some]
      rw [hl]; exact h2
    · cases e
theorem ix_dQ (hu : X.A.units + 1 < cLine) : IxR X (fun x y H Q => ∃ a w, x = .ref a ∧ DGet H a y (some w) ∧ Q w H) := by
  intro vl sl pins s σ H x y v u Q I rx ry h hs
  obtain ⟨a, w, rfl, g, q⟩ := h
  cases (show v = Value.ref a from rx)
  have hty := dict_typeIs I g
  unfold subscriptTail
  refine wpAny_bind ?_
  rw [getitemInPython_of_ne hty.not_modules]
  refine wpAny_bind (wpAny_specialOf hty PySem.F.slot_dict_getitem.lookup ?_)
  have fn : wpAny (model X.prog X.w) X.A (subscripted sl false (.ref a) u) (fun r s3 => wpAny (model X.prog X.w) X.A (letTemporaryGo vl (.ref a) r >>= fun _ => pure r) (EP X pins σ Q) X.xe s3) X.xe s := by
    rw [hs]
    exact wpAny_operating (wpAny_mono (d_getItem hu I g ry fun w' s3 I3 rw' => ⟨w, H, I3, rw', q⟩) (fun r s4 h4 => wpAny_bind (wpAny_letTemporaryGo (wpAny_pure h4))) fun _ _ x => x)
  first
    | exact wpAny_pure (wpAny_bind fn)
    | exact wpAny_bind (wpAny_pure (wpAny_bind fn))
    | exact wpAny_bind fn
theorem sign_ok {z : Str} {i : Int} {c : Nat} (h : strOk z) (e : atC z i = some c) : strOk ⟨#[c]⟩ := by
  have hm : c ∈ z.cps.toList := by
    unfold atC atI at e
    rw [Option.bind_eq_some_iff] at e
    obtain ⟨j, _, e⟩ := e
    exact List.mem_of_getElem? e
  refine ⟨?_, ?_⟩
  · have := Array.all_eq_true'.mp h.1 c (by simpa using hm)
    simpa using this
  · show 1 ≤ sizeLine
    rw [sizeLine_eq]; decide
theorem getK_key {kvs : List (D × D)} {y x : D} (e : getK kvs y = some x) : ∃ k, asKey y = some k := by
  unfold getK at e
  split at e
  · exact ⟨_, by assumption⟩
  · cases e
theorem ix_Q (hu : X.A.units + 1 < cLine) : IxR X (fun x y H Q => ∃ s t r, RepS X.K H x s ∧ RepS X.K H y t ∧ ixSem s t = some r ∧ After X.K H r Q) := by
  intro va sl pins s σ H x y v u Q I rx ry h hs
  obtain ⟨a, b, r, ra, rb, e, q⟩ := h
  unfold ixSem at e
  split at e
  · rename_i xs i e1
    simp only [Option.map_eq_some_iff] at e
    obtain ⟨z, e2, rfl⟩ := e
    obtain ⟨la, va, rfl, h1, h2, h3⟩ := ra.listT e1
    obtain ⟨w, h4, h5⟩ := atD_rep h3 e2
    exact ix_list _ _ pins s σ H _ y v u Q I rx ry ⟨la, va, i, w, rfl, rb.int, Rd.sq h1, h4, q.dat h5⟩ hs
  · rename_i xs i e1
    simp only [Option.map_eq_some_iff] at e
    obtain ⟨z, e2, rfl⟩ := e
    obtain ⟨la, va, rfl, h1, h2, h3, _⟩ := ra.tupT e1
    obtain ⟨w, h4, h5⟩ := atD_rep h3 e2
    exact ix_tup _ _ pins s σ H _ y v u Q I rx ry ⟨la, va, i, w, rfl, rb.int, h1, h4, q.dat h5⟩ hs
  · rename_i z i e1
    simp only [Option.map_eq_some_iff] at e
    obtain ⟨c, e2, rfl⟩ := e
    obtain ⟨rfl, hok⟩ := ra.strT e1
    refine ix_str _ _ pins s σ H _ y v u Q I rx ry ⟨z, i, c, rfl, rb.int, hok.2, e2, q.dat (.str _ (sign_ok hok e2))⟩ hs
  · rename_i kvs dy e1
    simp only [Option.map_eq_some_iff] at e
    obtain ⟨z, e2, rfl⟩ := e
    obtain ⟨p, ks, kds, rfl, h1, h2, rfl⟩ := ra.dctT e1 (getK_nf e2)
    obtain ⟨w, g, hw⟩ := getK_rep h1 h2 rb e2
    exact ix_dQ hu _ _ pins s σ H _ y v u Q I rx ry ⟨p, w, rfl, g, q.dat hw⟩ hs
  · cases e
theorem cut_rep {K : PySem.W.Frag} {H : Hp} {vs : List V} {xs : List D} (lo hi : Option Int) (r : RepDs K H vs xs) : RepDs K H (cutV vs lo hi) (cutD xs lo hi) := by
  unfold cutV cutD
  rw [r.length]
  exact (r.drop _).take _
theorem sl_Q : SlR X (fun x lo hi H Q => ∃ s r, RepS X.K H x s ∧ slSem s lo hi = some r ∧ After X.K H r Q) := by
  intro pins s σ H x v vl vu lo hi sl Q I rx hs pl pu h
  obtain ⟨a, r, ra, e, q⟩ := h
  unfold slSem at e
  split at e
  · rename_i xs e1
    cases e
    obtain ⟨la, va, rfl, h1, h2, h3⟩ := ra.listT e1
    exact sl_list pins s σ H _ v vl vu lo hi sl Q I rx hs pl pu ⟨la, va, rfl, Rd.sq h1, q.newL (cut_rep lo hi h3) (Nat.le_trans (cutV_length va lo hi) h2)⟩
  · rename_i xs e1
    cases e
    obtain ⟨la, va, rfl, h1, h2, h3, _⟩ := ra.tupT e1
    have hl := h3.length
    refine sl_tupA pins s σ H _ v vl vu lo hi sl Q I rx hs pl pu ⟨la, va, rfl, h1, fun hw => ?_, fun hw => q.newT (cut_rep lo hi h3) (Nat.le_trans (cutV_length va lo hi) h2)⟩
    have e2 : cutD xs lo hi = xs := by
      unfold cutD
      rw [← hl, hw.1, hw.2, hl]
      simp
    rw [e2] at q
    exact q.dat (.tup h1 h2 h3)
  · cases e
theorem un_negQ : UnR X (unaryOp .USub) (fun x H Q => ∃ i, RepS X.K H x (.d (.int i)) ∧ After X.K H (.d (.int (-i))) Q) := by
  intro pins s σ H x v Q I rx h
  obtain ⟨i, r, q⟩ := h
  exact un_neg pins s σ H x v Q I rx ⟨i, r.int, q.dat (.int _)⟩
end
end Q

namespace Q
open PySem PySem.Spec PyProof.Rows L2
variable [LamT]
section
variable {X : Cx}
inductive RepSs (K : PySem.W.Frag) (H : Hp) : List V → List SV → Prop
  | nil : RepSs K H [] []
  | cons {v : V} {vs : List V} {s : SV} {ss : List SV} : RepS K H v s → RepSs K H vs ss → RepSs K H (v :: vs) (s :: ss)
abbrev rBi (K : PySem.W.Frag) (b : Bf) : List V → Hp → VK → Prop := fun xs H Q => ∃ ss r, RepSs K H xs ss ∧ biSem b ss = some r ∧ After K H r Q
def Bf.val : Bf → Value
  | .len => .builtin "len" | .abs => .builtin "abs" | .int => .type "int" | .str => .type "str" | .bool => .type "bool" | .tuple => .type "tuple" | .list => .type "list" | .sorted => .builtin "sorted" | .sum => .builtin "sum" | .all => .builtin "all" | .any => .builtin "any" | .max => .builtin "max" | .min => .builtin "min" | .dict => .type "dict"
theorem RepSs.one {K : PySem.W.Frag} {H : Hp} {vs : List V} {s : SV} (r : RepSs K H vs [s]) : ∃ v, vs = [v] ∧ RepS K H v s := by
  cases r with | cons h t => cases t; exact ⟨_, rfl, h⟩
theorem RepSs.two {K : PySem.W.Frag} {H : Hp} {vs : List V} {s t : SV} (r : RepSs K H vs [s, t]) : ∃ v w, vs = [v, w] ∧ RepS K H v s ∧ RepS K H w t := by
  cases r with | cons h r => cases r with | cons h2 r => cases r; exact ⟨_, _, rfl, h, h2⟩
theorem RepS.bl {K : PySem.W.Frag} {H : Hp} {v : V} {i : Bool} (r : RepS K H v (.d (.bool i))) : v = .bl i := by
  have r' : RepD K H v (.bool i) := r
  cases r'; rfl
/-- a list or a tuple: its items -/
theorem RepS.items {K : PySem.W.Frag} {H : Hp} {v : V} {s : SV} {ys : List D} (r : RepS K H v s) (e : items? s = some ys) :
    (∃ a vs, v = .ref a ∧ Rd H a (.lst vs) ∧ vs.length ≤ sizeLine ∧ RepDs K H vs ys) ∨ (s = .d (.tuple ys) ∧ ∃ a vs, v = .ref a ∧ SqT K H a vs ∧ vs.length ≤ sizeLine ∧ RepDs K H vs ys) := by
  cases s with
  | ml xs =>
    simp only [items?, Option.some.injEq] at e; subst e
    exact .inl (RepS.listT r rfl)
  | d x =>
    cases x with
    | list xs => simp only [items?, Option.some.injEq] at e; subst e; exact .inl (RepS.listT r rfl)
    | tuple xs =>
      simp only [items?, Option.some.injEq] at e; subst e
      obtain ⟨a, vs, h1, h2, h3, h4, _⟩ := RepS.tupT r rfl
      exact .inr ⟨rfl, a, vs, h1, h2, h3, h4⟩
    | _ => simp [items?] at e
  | md _ => simp [items?] at e
  | rl _ => simp [items?] at e
theorem un1_of {f : SV → Option SV} {ss : List SV} {r : SV} (e : un1 f ss = some r) : ∃ s, ss = [s] ∧ f s = some r := by
  unfold un1 at e
  split at e
  · exact ⟨_, rfl, e⟩
  · cases e
theorem bi_un {c : Value} {f : SV → Option SV} (h : ∀ (pins : List (Addr × Obj)) (s : Shared) (σ : St) (H : Hp) (x : V) (us : List Value) (Q : VK) (a r : SV), Inv X pins σ H s → Vals [x] us → RepS X.K H x a → f a = some r → After X.K H r Q →
    wpAny (model X.prog X.w) X.A (call c us) (EP X pins σ Q) X.xe s) : CallR X c (fun xs H Q => ∃ ss r, RepSs X.K H xs ss ∧ un1 f ss = some r ∧ After X.K H r Q) := by
  intro pins s σ H xs us Q I r h'
  obtain ⟨ss, r0, rs, e, q⟩ := h'
  obtain ⟨a, rfl, e⟩ := un1_of e
  obtain ⟨v, rfl, rv⟩ := rs.one
  exact h pins s σ H v us Q a r0 I r rv e q
theorem bi_len : CallR X (Bf.val .len) (rBi X.K .len) := bi_un fun pins s σ H x us Q a r0 I r rv e q => by
  unfold biLen at e
  split at e
  · rename_i ys e1
    cases e
    obtain ⟨a, vs, rfl, h1, h2, h3⟩ := rv.listT e1
    refine call_len_seq pins s σ H _ us Q I r ⟨a, vs, rfl, .inl (Rd.sq h1), ?_⟩
    rw [h3.length]; exact q.dat (.int _)
  · rename_i ys e1
    cases e
    obtain ⟨a, vs, rfl, h1, h2, h3, _⟩ := rv.tupT e1
    refine call_len_seq pins s σ H _ us Q I r ⟨a, vs, rfl, .inr h1, ?_⟩
    rw [h3.length]; exact q.dat (.int _)
  · rename_i ys e1
    cases e
    obtain ⟨rfl, h2⟩ := rv.strT e1
    exact call_len_str pins s σ H _ us Q I r ⟨_, rfl, h2.2, q.dat (.int _)⟩
  · rename_i kvs e1
    split at e
    · cases e
    rename_i nf
    cases e
    obtain ⟨a, ks, kds, rfl, h1, h2, rfl⟩ := rv.dctT e1 (by simpa using nf)
    obtain ⟨u, eu, rx⟩ := vals1 r
    subst eu
    cases rx
    refine d_len I h1 fun t s' I' => ⟨.int ks.length, H, I', ⟨t, rfl⟩, ?_⟩
    have hl := h2.length
    rw [List.length_map, ← hl] at q
    exact q.dat (.int _)
  · cases e
theorem bi_abs : CallR X (Bf.val .abs) (rBi X.K .abs) := bi_un fun pins s σ H x us Q a r0 I r rv e q => by
  unfold biAbs at e
  split at e
  · cases e
    rw [rv.int] at r
    exact call_abs pins s σ H _ us Q I r ⟨_, rfl, q.dat (.int _)⟩
  · cases e
theorem bi_int : CallR X (Bf.val .int) (rBi X.K .int) := bi_un fun pins s σ H x us Q a r0 I r rv e q => by
  unfold biInt at e
  split at e
  · cases e
    rw [rv.int] at r
    exact call_int1 pins s σ H _ us Q I r (.inl ⟨_, rfl, q.dat (.int _)⟩)
  · cases e
    rw [rv.bl] at r
    exact call_int1 pins s σ H _ us Q I r (.inr ⟨_, rfl, q.dat (.int _)⟩)
  · cases e
theorem bi_tuple : CallR X (Bf.val .tuple) (rBi X.K .tuple) := bi_un fun pins s σ H x us Q a r0 I r rv e q => by
  unfold biTuple at e
  simp only [Option.map_eq_some_iff] at e
  obtain ⟨ys, e, rfl⟩ := e
  rcases rv.items e with ⟨a, vs, rfl, h1, h2, h3⟩ | ⟨_, a, vs, rfl, h1, h2, h3⟩
  · exact call_tuple_of pins s σ H _ us Q I r ⟨a, vs, rfl, .inl ⟨Rd.sq h1, q.newT h3 h2⟩⟩
  · exact call_tuple_of pins s σ H _ us Q I r ⟨a, vs, rfl, .inr ⟨h1, q.dat (.tup h1 h2 h3)⟩⟩
theorem bi_list : CallR X (Bf.val .list) (rBi X.K .list) := bi_un fun pins s σ H x us Q a r0 I r rv e q => by
  unfold biList at e
  split at e
  · cases e
    obtain ⟨a, vs, rfl, h1, h2, h3⟩ := rv
    exact call_list_of pins s σ H _ us Q I r ⟨a, vs, rfl, .inl h1.sq, q.newL h3 h2⟩
  simp only [Option.map_eq_some_iff] at e
  obtain ⟨ys, e, rfl⟩ := e
  rcases rv.items e with ⟨a, vs, rfl, h1, h2, h3⟩ | ⟨_, a, vs, rfl, h1, h2, h3⟩
  · exact call_list_of pins s σ H _ us Q I r ⟨a, vs, rfl, .inl (Rd.sq h1), q.newL h3 h2⟩
  · exact call_list_of pins s σ H _ us Q I r ⟨a, vs, rfl, .inr h1, q.newL h3 h2⟩
theorem bi_sum (hc : X.calm = true) : CallR X (Bf.val .sum) (rBi X.K .sum) := bi_un fun pins s σ H x us Q a r0 I r rv e q => by
  unfold biSum at e
  split at e
  · rename_i ys e1
    simp only [Option.map_eq_some_iff] at e
    obtain ⟨ns, e, rfl⟩ := e
    obtain ⟨a, vs, rfl, h1, h2, h3⟩ := rv.seqL e1
    cases h3.ints e
    exact cr_sum hc pins s σ H _ us Q I r ⟨a, ns, rfl, Rd.sq h1, q.dat (.int _)⟩
  · cases e
theorem bi_all (hc : X.calm = true) : CallR X (Bf.val .all) (rBi X.K .all) := bi_un fun pins s σ H x us Q a r0 I r rv e q => by
  unfold biAll at e
  split at e
  · rename_i ys e1
    simp only [Option.map_eq_some_iff] at e
    obtain ⟨ns, e, rfl⟩ := e
    obtain ⟨a, vs, rfl, h1, h2, h3⟩ := rv.seqL e1
    cases h3.bools e
    exact cr_all hc pins s σ H _ us Q I r ⟨a, ns, rfl, Rd.sq h1, q.dat (.bl _)⟩
  · cases e
theorem bi_any (hc : X.calm = true) : CallR X (Bf.val .any) (rBi X.K .any) := bi_un fun pins s σ H x us Q a r0 I r rv e q => by
  unfold biAny at e
  split at e
  · rename_i ys e1
    simp only [Option.map_eq_some_iff] at e
    obtain ⟨ns, e, rfl⟩ := e
    obtain ⟨a, vs, rfl, h1, h2, h3⟩ := rv.seqL e1
    cases h3.bools e
    exact cr_any hc pins s σ H _ us Q I r ⟨a, ns, rfl, Rd.sq h1, q.dat (.bl _)⟩
  · cases e
theorem maxL_spec : ∀ (n : Int) (ns : List Int), maxL (n :: ns) ∈ n :: ns ∧ ∀ y ∈ n :: ns, y ≤ maxL (n :: ns)
  | n, [] => by simp [maxL]
  | n, m :: r => by
    obtain ⟨h1, h2⟩ := maxL_spec m r
    have e : maxL (n :: m :: r) = max n (maxL (m :: r)) := rfl
    rw [e]
    refine ⟨?_, fun y hy => ?_⟩
    · by_cases h : n ≤ maxL (m :: r)
      · rw [Int.max_eq_right h]; exact List.mem_cons_of_mem _ h1
      · rw [Int.max_eq_left (by omega)]; exact List.mem_cons_self ..
    · rcases List.mem_cons.mp hy with rfl | hy
      · omega
      · have := h2 y hy; omega
theorem minL_spec : ∀ (n : Int) (ns : List Int), minL (n :: ns) ∈ n :: ns ∧ ∀ y ∈ n :: ns, minL (n :: ns) ≤ y
  | n, [] => by simp [minL]
  | n, m :: r => by
    obtain ⟨h1, h2⟩ := minL_spec m r
    have e : minL (n :: m :: r) = min n (minL (m :: r)) := rfl
    rw [e]
    refine ⟨?_, fun y hy => ?_⟩
    · by_cases h : n ≤ minL (m :: r)
      · rw [Int.min_eq_left h]; exact List.mem_cons_self ..
      · rw [Int.min_eq_right (by omega)]; exact List.mem_cons_of_mem _ h1
    · rcases List.mem_cons.mp hy with rfl | hy
      · omega
      · have := h2 y hy; omega
theorem bi_max (hc : X.calm = true) : CallR X (Bf.val .max) (rBi X.K .max) := by
  intro pins s σ H xs us Q I r h'
  obtain ⟨ss, r0, rs, e, q⟩ := h'
  have e : biMax ss = some r0 := e
  unfold biMax at e
  split at e
  · rename_i x
    obtain ⟨v, rfl, rv⟩ := rs.one
    split at e
    · rename_i ys e1
      split at e
      · rename_i n ns e2
        cases e
        obtain ⟨a, vs, rfl, h1, h2, h3⟩ := rv.seqL e1
        cases h3.ints e2
        refine cr_max hc pins s σ H _ us Q I r ⟨a, n :: ns, rfl, Rd.sq h1, by simp, fun m hm hle => ?_⟩
        obtain ⟨k1, k2⟩ := maxL_spec n ns
        have : m = maxL (n :: ns) := Int.le_antisymm (k2 m hm) (hle _ k1)
        rw [this]; exact q.dat (.int _)
      · cases e
    · cases e
  · cases e
    obtain ⟨v, w, rfl, r1, r2⟩ := rs.two
    rw [r1.int, r2.int] at r
    exact call_max2 hc pins s σ H _ us Q I r ⟨_, _, rfl, q.dat (.int _)⟩
  · cases e
theorem bi_min (hc : X.calm = true) : CallR X (Bf.val .min) (rBi X.K .min) := by
  intro pins s σ H xs us Q I r h'
  obtain ⟨ss, r0, rs, e, q⟩ := h'
  have e : biMin ss = some r0 := e
  unfold biMin at e
  split at e
  · rename_i x
    obtain ⟨v, rfl, rv⟩ := rs.one
    split at e
    · rename_i ys e1
      split at e
      · rename_i n ns e2
        cases e
        obtain ⟨a, vs, rfl, h1, h2, h3⟩ := rv.seqL e1
        cases h3.ints e2
        refine cr_min hc pins s σ H _ us Q I r ⟨a, n :: ns, rfl, Rd.sq h1, by simp, fun m hm hle => ?_⟩
        obtain ⟨k1, k2⟩ := minL_spec n ns
        have : m = minL (n :: ns) := Int.le_antisymm (hle _ k1) (k2 m hm)
        rw [this]; exact q.dat (.int _)
      · cases e
    · cases e
  · cases e
    obtain ⟨v, w, rfl, r1, r2⟩ := rs.two
    rw [r1.int, r2.int] at r
    exact call_min2 hc pins s σ H _ us Q I r ⟨_, _, rfl, q.dat (.int _)⟩
  · cases e
end
end Q

namespace Q
open PySem PySem.Spec PyProof.Rows L2
variable [LamT]
/-! ### several operands -/
def isTmp : Opd → Bool
  | .v s => s.own
  | .s _ => false
/-- no own thing of os stands at a -/
def FreeOf (a : Addr) (vs : List V) (os : List Opd) : Prop := ∀ (j : Nat) (o : Opd), os[j]? = some o → isTmp o = true → vs[j]? ≠ some (.ref a)
inductive RepOs (K : PySem.W.Frag) (H : Hp) (σ : St) (ρ : Rho) : List V → List Opd → Prop
  | nil : RepOs K H σ ρ [] []
  | cons {v : V} {vs : List V} {o : Opd} {os : List Opd} : RepO K H σ ρ v o → RepOs K H σ ρ vs os → (isTmp o = true → ∀ a, v = .ref a → FreeOf a vs os) → RepOs K H σ ρ (v :: vs) (o :: os)
def FreshL (H : Hp) (vs : List V) (os : List Opd) : Prop := ∀ (j : Nat) (v : V) (o : Opd), vs[j]? = some v → os[j]? = some o → Fresh H v o
theorem RepOs.length {K : PySem.W.Frag} {H : Hp} {σ : St} {ρ : Rho} : ∀ {vs : List V} {os : List Opd}, RepOs K H σ ρ vs os → vs.length = os.length
  | _, _, .nil => rfl
  | _, _, .cons _ r _ => by simp [r.length]
theorem RepO.stay {K : PySem.W.Frag} {H H' : Hp} {σ : St} {ρ ρ' : Rho} {v : V} {o : Opd} (r : RepO K H σ ρ v o) (i : Im H H') (sub : ∀ a, OwnA σ ρ' a → OwnA σ ρ a) (k : isTmp o = true → ∀ a u, v = .ref a → H a = some u → H' a = some u) : RepO K H' σ ρ' v o := by
  cases o with
  | s i => exact r
  | v s =>
    obtain ⟨h1, h2⟩ := r
    refine ⟨?_, fun o a e q => h2 o a e (sub a q)⟩
    cases s with
    | d x => exact RepD.im i h1
    | ml xs =>
      obtain ⟨b, vs, e1, e2, e3, e4⟩ := h1
      exact ⟨b, vs, e1, k rfl _ _ e1 e2, e3, e4.im i⟩
    | md _ =>
      obtain ⟨b, ks, e1, e2, e3⟩ := h1
      exact ⟨b, ks, e1, k rfl _ _ e1 e2, e3.im i⟩
    | rl _ => exact RepS.rlIm i h1
theorem RepOs.stay {K : PySem.W.Frag} {H H' : Hp} {σ : St} {ρ ρ' : Rho} (i : Im H H') (sub : ∀ a, OwnA σ ρ' a → OwnA σ ρ a) : ∀ {vs : List V} {os : List Opd}, RepOs K H σ ρ vs os →
    (∀ (j : Nat) (o : Opd) a u, os[j]? = some o → isTmp o = true → vs[j]? = some (.ref a) → H a = some u → H' a = some u) → RepOs K H' σ ρ' vs os
  | _, _, .nil, _ => .nil
  | _, _, .cons h r f, k => .cons (h.stay i sub fun t a u e q => k 0 _ a u rfl t (by rw [e]; rfl) q) (RepOs.stay i sub r fun j o a u h1 h2 h3 h4 => k (j + 1) o a u (by simpa using h1) h2 (by simpa using h3) h4) f
theorem RepOs.aft {K : PySem.W.Frag} {σ : St} {ρ ρ' : Rho} {H H' : Hp} (r0 : RelE K σ H ρ) (a : Aft K σ ρ H ρ' H') : ∀ {vs : List V} {os : List Opd}, RepOs K H σ ρ vs os → RepOs K H' σ ρ' vs os
  | _, _, .nil => .nil
  | _, _, .cons h r f => .cons (h.aft r0 a) (RepOs.aft r0 a r) f
theorem RepOs.peeks {K : PySem.W.Frag} {σ : St} {ρ : Rho} {H : Hp} (r0 : RelE K σ H ρ) : ∀ {vs : List V} {os : List Opd} {ss : List SV}, RepOs K H σ ρ vs os → peeks ρ os = some ss → RepSs K H vs ss
  | _, _, ss, .nil, e => by
    simp only [Q.peeks, Option.some.injEq] at e
    subst e; exact .nil
  | _, _, ss, .cons h r f, e => by
    simp only [Q.peeks] at e
    split at e
    · rename_i s ss' e1 e2
      cases e
      exact .cons (h.peek r0 e1) (r.peeks r0 e2)
    · cases e
/-- one thing frozen: a slot's, or an own one -/
theorem RepS.mut {K : PySem.W.Frag} {H : Hp} {a : Addr} {s : SV} {u : HO} (r : RepS K H (.ref a) s) (o : s.own = true) (h : H a = some u) : Mut (some u) := by
  obtain ⟨b, w, e1, e2, e3, _⟩ := r.own_ref o
  cases e1
  rw [h] at e2; cases e2
  exact e3
theorem RepS.frzH {K : PySem.W.Frag} {H : Hp} {a : Addr} {s : SV} {u : HO} {od : Obj} (r : RepS K H (.ref a) s) (o : s.own = true) (h : H a = some u) : RepS K (upd H a (.frz od u)) (.ref a) s.frz := by
  have im : Im H (upd H a (.frz od u)) := im_frz h (r.mut o h)
  cases s with
  | d _ => cases o
  | rl _ => cases o
  | ml xs =>
    obtain ⟨a', vs', q1, q2, q3, q4⟩ := r
    cases q1
    rw [h] at q2; cases q2
    exact RepD.lst ⟨od, upd_same⟩ q3 (q4.im im)
  | md kvs =>
    obtain ⟨a', ks, q1, q2, q3⟩ := r
    cases q1
    rw [h] at q2; cases q2
    exact RepD.dct ⟨od, upd_same⟩ (q3.im im)
/-- another thing at a: what stands apart from it -/
theorem RepS.apart {K : PySem.W.Frag} {H : Hp} {v : V} {s : SV} {a : Addr} {u : HO} (im : Im H (upd H a u)) (r : RepS K H v s) (n : s.own = true → v ≠ .ref a) : RepS K (upd H a u) v s := by
  cases s with
  | d x => exact RepD.im im r
  | rl _ => exact RepS.rlIm im r
  | ml ys =>
    obtain ⟨a', vs', q1, q2, q3, q4⟩ := r
    have ne : a' ≠ a := fun z => n rfl (by rw [q1, z])
    exact ⟨a', vs', q1, by rw [upd_ne ne]; exact q2, q3, q4.im im⟩
  | md ys =>
    obtain ⟨a', ks, q1, q2, q3⟩ := r
    have ne : a' ≠ a := fun z => n rfl (by rw [q1, z])
    exact ⟨a', ks, q1, by rw [upd_ne ne]; exact q2, q3.im im⟩
theorem own_frz_slot {K : PySem.W.Frag} {σ : St} {ρ : Rho} {H : Hp} {i : Nat} {s0 : SV} {a : Addr} {u : HO} {od : Obj} (r : RelE K σ H ρ) (e : gt ρ i = some s0) (o0 : s0.own = true) (ea : σ[i]? = some (some (.ref a))) (h : H a = some u) :
    RelE K σ (upd H a (.frz od u)) (frzAt ρ i) ∧ (∀ b, OwnA σ (frzAt ρ i) b → OwnA σ ρ b) := by
  have rs0 : RepS K H (.ref a) s0 := by
    obtain ⟨v, e2, rs⟩ := r.at_ i _ e
    rw [ea] at e2; cases e2
    exact rs
  have im : Im H (upd H a (.frz od u)) := im_frz h (rs0.mut o0 h)
  have oa : OwnA σ ρ a := ⟨i, _, e, o0, ea⟩
  have mk : OwnK u := by
    obtain ⟨_, _, z1, z2, _, z3⟩ := rs0.own_ref o0
    cases z1
    rw [h] at z2; cases z2
    exact z3
  refine ⟨⟨r.len.trans (frzAt_len ρ i).symm, fun j s hs => ?_, fun j k s t b h1 h2 o1 o2 e1 e2 => ?_, tabs_upd r.tab h mk⟩, fun b ⟨j, s, hs, ho, hb⟩ => ?_⟩
  · rw [gt_frzAt] at hs
    by_cases hj : j = i
    · subst hj
      rw [if_pos rfl, e] at hs
      cases hs
      exact ⟨.ref a, ea, rs0.frzH o0 h⟩
    · rw [if_neg hj] at hs
      obtain ⟨v, e2, rs⟩ := r.at_ j s hs
      exact ⟨v, e2, rs.apart im fun o z => hj (r.dis j i _ _ a hs e o o0 (by rw [e2, z]) ea)⟩
  · rw [gt_frzAt] at h1 h2
    by_cases hj : j = i
    · subst hj
      rw [if_pos rfl, e] at h1
      cases h1; rw [SV.own_frz] at o1; cases o1
    · by_cases hk : k = i
      · subst hk
        rw [if_pos rfl, e] at h2
        cases h2; rw [SV.own_frz] at o2; cases o2
      · rw [if_neg hj] at h1
        rw [if_neg hk] at h2
        exact r.dis j k s t b h1 h2 o1 o2 e1 e2
  · rw [gt_frzAt] at hs
    by_cases hj : j = i
    · subst hj
      rw [if_pos rfl, e] at hs
      cases hs; rw [SV.own_frz] at ho; cases ho
    · rw [if_neg hj] at hs
      exact ⟨j, s, hs, ho, hb⟩
theorem rel_tmp {K : PySem.W.Frag} {σ : St} {ρ : Rho} {H : Hp} {a : Addr} {u : HO} {od : Obj} (r : RelE K σ H ρ) (n : ¬ OwnA σ ρ a) (h : H a = some u) (mk : OwnK u) : RelE K σ (upd H a (.frz od u)) ρ := by
  have im : Im H (upd H a (.frz od u)) := im_frz h mk.mu
  refine ⟨r.len, fun j s hs => ?_, r.dis, tabs_upd r.tab h mk⟩
  obtain ⟨v, e2, rs⟩ := r.at_ j s hs
  exact ⟨v, e2, rs.apart im fun o z => n ⟨j, _, hs, o, by rw [e2, z]⟩⟩
theorem frzAt_data {ρ : Rho} {i : Nat} {s : SV} (e : gt ρ i = some s) (h : s.own = false) : frzAt ρ i = ρ := by
  unfold frzAt
  rw [e]
  simp only [h, Bool.false_eq_true, if_false]
/-- an operand handed on as data -/
theorem take_fz {K : PySem.W.Frag} {σ : St} {ρ0 ρ : Rho} {H0 H : Hp} {v : V} {o : Opd} {R : Hp → Prop} {P : D → Rho → Prop} {Wx : Exn → Prop} (base : Aft K σ ρ0 H0 ρ H) (r : RepO K H σ ρ v o) (fr : Fresh H0 v o) (g : (take o ρ).gx (W := Wx) P)
    (q : ∀ x ρ' H', P x ρ' → Aft K σ ρ0 H0 ρ' H' → Im H H' → (∀ a, OwnA σ ρ' a → OwnA σ ρ a) → RepD K H' v x → (∀ b u, H b = some u → ¬ OwnA σ ρ b → (isTmp o = true → v ≠ .ref b) → H' b = some u) → FzQ R H') : FzQ R H := by
  cases o with
  | v s =>
    obtain ⟨h1, h2⟩ := r
    have own : ∀ x, s.own = true → s.dat = some x → P x ρ → FzQ R H := fun x o ex g => by
      obtain ⟨a, u, e1, e2, mu, mk⟩ := h1.own_ref o
      subst e1
      refine .step e2 mu fun od => ?_
      have im := im_frz (od := od) e2 mu
      have nO : ¬ OwnA σ ρ a := h2 o a rfl
      have n0 : H0 a = none := fr o a rfl
      refine q _ ρ _ g ⟨fun b u h n nt => ?_, rel_tmp base.rel nO e2 mk, base.sub, fun b h => ?_⟩ im (fun _ z => z) ?_ fun b u hb _ ht => ?_
      · have ne : b ≠ a := fun z => by subst z; rw [n0] at h; cases h
        rw [upd_ne ne]; exact base.kp b u h n
      · have ne : b ≠ a := fun z => by subst z; rw [upd_same] at h; cases h
        rw [upd_ne ne] at h; exact base.trk b h
      · have := h1.frzH (od := od) o e2
        cases s <;> first | (cases ex; exact this) | cases o
      · rw [upd_ne (fun z => ht o (by rw [z]))]; exact hb
    cases s with
    | d x => exact q x ρ H g base (Im.refl H) (fun _ z => z) h1 fun _ _ z _ _ => z
    | md _ => exact own _ rfl rfl g
    | rl _ => exact g.elim
    | ml xs => exact own _ rfl rfl g
  | s i =>
    have r : σ[i]? = some (some v) := r
    unfold take at g
    cases e : gt ρ i with
    | none => simp only [e] at g; exact g.elim
    | some s =>
      simp only [e] at g
      obtain ⟨w, w1, rs⟩ := base.rel.at_ i s e
      rw [r] at w1; cases w1
      have own : ∀ x, s.own = true → s.dat = some x → P x (frzAt ρ i) → FzQ R H := fun x o ex g => by
        obtain ⟨a, u, e1, e2, mu, _⟩ := rs.own_ref o
        subst e1
        refine .step e2 mu fun od => ?_
        have im := im_frz (od := od) e2 mu
        obtain ⟨rel', sub'⟩ := own_frz_slot (od := od) base.rel e o r e2
        have oa : OwnA σ ρ a := ⟨i, _, e, o, r⟩
        refine q _ _ _ g ⟨fun b u h n nt => ?_, rel', fun b h => base.sub b (sub' b h), fun b h => ?_⟩ im sub' ?_ fun b u hb hn _ => ?_
        · have ne : b ≠ a := fun z => by subst z; exact n (base.sub b oa)
          rw [upd_ne ne]; exact base.kp b u h n
        · have ne : b ≠ a := fun z => by subst z; rw [upd_same] at h; cases h
          rw [upd_ne ne] at h; exact base.trk b h
        · have := rs.frzH (od := od) o e2
          cases s <;> first | (cases ex; exact this) | cases o
        · rw [upd_ne (fun z => hn (by rw [z]; exact oa))]; exact hb
      cases s with
      | d x =>
        simp only [SV.dat] at g
        rw [frzAt_data e rfl] at g
        exact q x ρ H g base (Im.refl H) (fun _ z => z) rs fun _ _ z _ _ => z
      | md _ => exact own _ rfl rfl g
      | rl _ => simp only [SV.dat] at g; exact g.elim
      | ml xs => exact own _ rfl rfl g
theorem takes_fz {K : PySem.W.Frag} {σ : St} {ρ0 : Rho} {H0 : Hp} {R : Hp → Prop} : ∀ {vs : List V} {os : List Opd} {ρ : Rho} {H : Hp} {P : List D → Rho → Prop} {Wx : Exn → Prop}, Aft K σ ρ0 H0 ρ H → RepOs K H σ ρ vs os → FreshL H0 vs os → (takes os ρ).gx (W := Wx) P →
    (∀ xs ρ' H', P xs ρ' → Aft K σ ρ0 H0 ρ' H' → Im H H' → RepDs K H' vs xs → FzQ R H') → FzQ R H
  | _, _, ρ, H, P, Wx, base, .nil, _, g, q => q [] ρ H g base (Im.refl H) .nil
  | _, _, ρ, H, P, Wx, base, .cons (v := v) (vs := vs) (o := o) (os := os) h r f, fr, g, q => by
    simp only [takes] at g
    rw [gx_bind] at g
    refine take_fz base h (fr 0 _ _ rfl rfl) g fun x ρ1 H1 g1 b1 i1 sub1 rx k1 => ?_
    rw [gx_bind] at g1
    have r1 : RepOs K H1 σ ρ1 vs os := r.stay i1 sub1 fun j o' a u e1 e2 e3 e4 => by
      refine k1 a u e4 (fun z => ?_) fun t z => f t a z j o' e1 e2 e3
      -- an own one is no slot's
      have := e1
      have hj : ∃ v', vs[j]? = some v' ∧ RepO K H σ ρ v' o' := by
        clear fr g g1 q
        clear rx k1 b1 i1 sub1 f h base
        induction r generalizing j with
        | nil => simp at e1
        | cons h0 r0 f0 ih =>
          cases j with
          | zero => simp at e1; subst e1; exact ⟨_, rfl, h0⟩
          | succ j => exact ih j (by simpa using e1) (by simpa using e3) (by simpa using e1)
      obtain ⟨v', ev, ro⟩ := hj
      rw [e3] at ev; cases ev
      cases o' with
      | s _ => cases e2
      | v s' => exact ro.2 e2 a rfl z
    refine takes_fz b1 r1 (fun j v' o' e1 e2 => fr (j + 1) v' o' (by simpa using e1) (by simpa using e2)) g1 fun xs ρ2 H2 g2 b2 i2 r2 => ?_
    exact q _ ρ2 H2 g2 b2 (i1.trans i2) (.cons (rx.im i2) r2)
end Q

namespace Q
open PySem PySem.Spec PyProof.Rows L2
variable [LamT]
/-! ### what a call promises -/
def OwnL (vs : List V) (ss : List SV) (a : Addr) : Prop := ∃ (i : Nat) (s : SV), ss[i]? = some s ∧ s.own = true ∧ vs[i]? = some (.ref a)
structure RepArgs (K : PySem.W.Frag) (H : Hp) (vs : List V) (ss : List SV) : Prop where
  rep : RepSs K H vs ss
  tab : TabsOk H
  dis : ∀ (i j : Nat) (s t : SV) (a : Addr), ss[i]? = some s → ss[j]? = some t → s.own = true → t.own = true → vs[i]? = some (.ref a) → vs[j]? = some (.ref a) → i = j
structure Back (K : PySem.W.Frag) (H : Hp) (vs : List V) (ss : List SV) (v : V) (r : SV) (outs : List SV) (H' : Hp) : Prop where
  kp : ∀ a u, H a = some u → ¬ OwnL vs ss a → ∀ (_nt : NT u := by first | assumption | nofun), H' a = some u
  trk : ∀ a, H' a = none → H a = none
  tab : TabsOk H'
  res : RepS K H' v r
  fr : r.own = true → ∀ a, v = .ref a → H a = none
  len : outs.length = ss.length
  outs : ∀ (i : Nat) (s o : SV) (w : V), ss[i]? = some s → s.own = true → outs[i]? = some o → vs[i]? = some w → RepS K H' w o
/-- behind a call that let an exception out -/
structure BackX (H : Hp) (vs : List V) (ss : List SV) (H' : Hp) : Prop where
  kp : ∀ a u, H a = some u → ¬ OwnL vs ss a → ∀ (_nt : NT u := by first | assumption | nofun), H' a = some u
  trk : ∀ a, H' a = none → H a = none
  tab : TabsOk H'
/-- the class that stands for e's -/
def ExR (K : PySem.W.Frag) (e : Exn) (cls : Value) (d : Option Addr) : Prop := d = none ∧ ∃ C, PySem.W.nsIn K mainGlobals (Str.ofString e.cls) = some (some (.ref C)) ∧ cls = .ref C
def spQ (K : PySem.W.Frag) (C : Call) (f : String) : Sp := fun vs H Q E => ∃ ss, RepArgs K H vs ss ∧ ((∃ r outs, C f ss = .ret r outs ∧ ∀ v H', Back K H vs ss v r outs H' → Q v H') ∨ ∃ e outs, C f ss = .exc e outs ∧ ∀ cls d H', ExR K e cls d → BackX H vs ss H' → E cls d H')
theorem RepSs.length {K : PySem.W.Frag} {H : Hp} : ∀ {vs : List V} {ss : List SV}, RepSs K H vs ss → vs.length = ss.length
  | _, _, .nil => rfl
  | _, _, .cons _ r => by simp [RepSs.length r]
theorem RepSs.get {K : PySem.W.Frag} {H : Hp} : ∀ {vs : List V} {ss : List SV} {i : Nat} {s : SV}, RepSs K H vs ss → ss[i]? = some s → ∃ v, vs[i]? = some v ∧ RepS K H v s
  | _, _, i, d, .nil, h => by simp at h
  | _, _, 0, d, .cons h _, e => by simp at e; subst e; exact ⟨_, rfl, h⟩
  | _, _, i + 1, d, .cons _ r, e => by
    obtain ⟨v, h1, h2⟩ := RepSs.get (i := i) r (by simpa using e)
    exact ⟨v, by simpa using h1, h2⟩
/-- the context of a text: what the module's names are worth, the callees' promises -/
def bnames : List String := ["len", "abs", "int", "str", "bool", "tuple", "list", "sorted", "sum", "all", "any", "max", "min", "dict", "isinstance", "range", "zip", "enumerate", "set"]
structure CallOk (K : PySem.W.Frag) (C : Call) (X : Cx) (f : String) (x : Str) : Prop where
  ex : ∃ (fa : Addr) (fd : FuncData) (ps : List Str) (k : Nat), X.mg x = some (.ref fa) ∧ PySem.W.nsIn X.K mainGlobals x = some (some (.ref fa)) ∧ PySem.W.keepIn X.K (.ref fa) = true ∧ FnOk X.prog X.w X.K X.mg X.base (L2N.CX X.prog X.w) k fa fd ps (spQ K C f) ∧ Room k X.A ∧ Binds X.K fd ps []
/-- a class of exceptions of the program, without an own __init__ -/
structure ErrOk (X : Cx) (k : String) : Prop where
  ex : ∃ (C : Addr) (bmB : List Value) (B newId initId : String), X.mg (Str.ofString k) = some (.ref C) ∧ PySem.W.nsIn X.K mainGlobals (Str.ofString k) = some (some (.ref C)) ∧ ExcBaseFacts B newId initId bmB ∧ PySem.W.excIn X.K C bmB newId = true ∧
    PySem.W.keepIn X.K (.ref C) = true ∧ PySem.W.subIn X.K (.ref C) (.type "BaseException") = some true ∧ PySem.W.typeIn X.K (.ref C) = some (.type "type")
/-- what a def's body may let out -/
def zE (K : PySem.W.Frag) (E : XK) : ZT := fun e _ H' => ∀ cls d, ExR K e cls d → E cls d H'
/-- what a def makes of a lambda that it gets -/
def TTw (K : PySem.W.Frag) (t : WT) : (XK → Hp → VK → Prop) → Hp → VK → Prop := fun tl H Q => tl (fun cls d H' => ∃ e w, ExR K e cls d ∧ t.tab.lookup e.cls = some w ∧ ∀ H'', Same H' H'' → Q (.str w) H'') H fun _ H' => Q (.str t.dflt) H'
def GivesN (P : Program) (w : World) (K : PySem.W.Frag) (mg : Str → Option Value) (base : Heap) (Nw : List Str) (xw : Str) (sw : Scope) (gw : Addr) (cw : Value) (bw : List Stmt) (aw : Str) (TT : (XK → Hp → VK → Prop) → Hp → VK → Prop) : Prop :=
  ∀ (q : Str) (A : Around) (stk : List Env) (f c' : Addr) (s : Shared) (H : Hp) (Q : VK) (tl : XK → Hp → VK → Prop), Room 0 (A.deeper (envOfC xw sw s.heap.objs.size gw cw)) →
    (∀ (W : WX) (pn : List (Addr × Obj)) (xe : Value → Shared → Prop) (E : XK) (p1 p2 : Pos), L2N.Takes ((cxOf C8.CX0 P w K mg base Nw xw sw gw cw A stk s H C8.E0).tr pn xe) W → (∀ cls d σ' H', E cls d H' → W cls d σ' H') →
      PE ((cxOf C8.CX0 P w K mg base Nw xw sw gw cw A stk s H C8.E0).tr pn xe) (.Call (.Name aw p1) [] [] p2) (fun σZ HZ Q => σZ[0]? = some (some (.ref f)) ∧ HZ c' = some (LamX.CodeO c' q) ∧ tl E HZ Q)) →
    H c' = some (LamX.CodeO c' q) → TT tl H Q →
    ∃ t, PSs (cxOf C8.CX0 P w K mg base Nw xw sw gw cw A stk s H C8.E0).nox bw t ∧ t { nx := fun _ H' => Q .non H', rt := Q } (L2.start Nw [.ref f]) H
/-- a def that tells a word of what the lambda raises that it gets -/
structure WdOk (P : Program) (w : World) (K : PySem.W.Frag) (mg : Str → Option Value) (base : Heap) (f : String) (t : WT) : Prop where
  ex : ∃ (g : Addr) (fd : FuncData) (st : Stmt) (Nw : List Str) (a : Str), Fun K (Str.ofString f) (Str.ofString f) st g fd ∧ mg (Str.ofString f) = some (.ref g) ∧ Binds K fd [a] [] ∧ FnScope Nw [a] (defScope st) ∧ Nw[0]? = some a ∧ okName a = true ∧
    ∀ cw, GivesN P w K mg base Nw (Str.ofString f) (defScope st) g cw (defBody st) a (TTw K t)
/-- where a lambda's code object stands -/
structure LamOk (X : Cx) : Prop where
  rm : Room 1 X.A
  ex : ∃ (c P : Addr), LamX.TabB X.base X.mg c P ∧ X.env.code = .ref c ∧ (P, X.env.qual ++ "<lambda>") ∈ LamT.T ∧ ∀ p ∈ LamT.T, p.1 = P → p.2 = X.env.qual ++ "<lambda>"
structure CtxOk (Γ : Kx) (C : Call) (Z : ZT) (sc : Scope) (fn : Str → Bool) (X : Cx) : Prop where
  N : X.N = Γ.N
  nd : Γ.N.Nodup
  hsc : X.env.scope = sc
  kind : sc.kind = .function
  fnX : ∀ x, x ≠ lamN → X.fn x = fn x
  calm : X.calm = true
  hu : X.A.units + 65 < cLine
  bl : ∀ b ∈ bnames, X.mg (Str.ofString b) = none
  cs : ∀ x d, Γ.cs.lookup x = some d → ∃ u v, X.mg x = some u ∧ RelV v u ∧ ∀ K H, RepD K H v d
  call : ∀ f ∈ Γ.fs, CallOk X.K C X f (Str.ofString f)
  er : ∀ k ∈ Γ.es, ErrOk X k
  lm : fn lamN = true → Γ.ws ≠ [] → LamOk X
  sp : fn lamN = true → Γ.ws ≠ [] → ∀ f ∈ Γ.fs, ∀ e1 e2, CallOk X.K C { X with A := (X.A.deeper e1).deeper e2 } f (Str.ofString f)
  wd : ∀ f t, Γ.ws.lookup f = some t → WdOk X.prog X.w X.K X.mg X.base f t
  tk : L2N.Takes X fun cls d σ H => ∃ e, ExR X.K e cls d ∧ Z e σ H
/-! ### readings -/
def tEs (K : PySem.W.Frag) (Z : ZT) (C : Call) (es : Es) : TA := fun σ H Q => ∃ ρ, RelE K σ H ρ ∧ (evs C es ρ).gx (W := zk Z σ ρ H) fun os ρ' => ∀ vs H', Aft K σ ρ H ρ' H' → RepOs K H' σ ρ' vs os → FreshL H vs os → Q vs H'
def tCs (K : PySem.W.Frag) (Z : ZT) (C : Call) (es : Es) : TT := fun σ H Q => ∃ ρ, RelE K σ H ρ ∧ (evC C es ρ).gx (W := zk Z σ ρ H) fun b ρ' => ∀ H', Aft K σ ρ H ρ' H' → Q b H'
def tO (K : PySem.W.Frag) (Z : ZT) (C : Call) (e : Oe) : TO := fun σ H Q => ∃ ρ, RelE K σ H ρ ∧ (evO C e ρ).gx (W := zk Z σ ρ H) fun b ρ' => ∀ H', Aft K σ ρ H ρ' H' → Q b H'
/-- what is walked hands out these data, whatever happens beside -/
structure Yields (K : PySem.W.Frag) (J : L2.It) (xs : List D) (H0 : Hp) : Prop where
  len : xs.length ≤ sizeLine
  go : ∀ (i : Nat) (H : Hp), Im H0 H → i < xs.length → J.go i H
  stop : ∀ (H : Hp), Im H0 H → J.stop xs.length H
  yld : ∀ (i : Nat) (H : Hp) (v : V) (H' : Hp) (x : D), Im H0 H → xs[i]? = some x → J.yld i H v H' → Same H H' ∧ RepD K H' v x
def tI (K : PySem.W.Frag) (Z : ZT) (C : Call) (e : It) : TI := fun σ H R => ∃ ρ, RelE K σ H ρ ∧ (evI C e ρ).gx (W := zk Z σ ρ H) fun xs ρ' => ∀ (J : L2.It) H', Aft K σ ρ H ρ' H' → Yields K J xs H' → R J H'
theorem tst_false (r : Res Opd) : tst false r = r := rfl
theorem gx_boolOf {W : Exn → Prop} {r : Res Opd} {G : Bool → Rho → Prop} : (boolOf r).gx (W := W) G ↔ r.gx (W := W) fun o ρ => ∃ b, o = .v (.d (.bool b)) ∧ G b ρ := by
  unfold boolOf
  rw [gx_bind]
  cases r with
  | ok o ρ =>
    cases o with
    | s i => exact ⟨fun h => h.elim, fun ⟨b, h, _⟩ => nomatch h⟩
    | v s =>
      cases s with
      | d x =>
        cases x with
        | bool b => exact ⟨fun h => ⟨b, rfl, h⟩, fun ⟨c, h, q⟩ => by cases h; exact q⟩
        | _ => exact ⟨fun h => h.elim, fun ⟨b, h, _⟩ => nomatch h⟩
      | _ => exact ⟨fun h => h.elim, fun ⟨b, h, _⟩ => nomatch h⟩
  | exc e ρ => exact Iff.rfl
  | bad => exact Iff.rfl
theorem gx_optR {α β : Type} {W : Exn → Prop} {o : Option α} {f : α → Res β} {P : β → Rho → Prop} : (optR o f).gx (W := W) P ↔ ∃ a, o = some a ∧ (f a).gx (W := W) P := by
  cases o with
  | none => exact ⟨fun h => h.elim, fun ⟨_, h, _⟩ => nomatch h⟩
  | some a => exact ⟨fun h => ⟨a, rfl, h⟩, fun ⟨b, h, q⟩ => by cases h; exact q⟩
theorem gx_ok {α : Type} {W : Exn → Prop} {a : α} {ρ : Rho} {P : α → Rho → Prop} : (Res.ok a ρ).gx (W := W) P ↔ P a ρ := Iff.rfl
theorem gx_tst {W : Exn → Prop} {r : Res Opd} {G : Bool → Rho → Prop} : (boolOf (tst true r)).gx (W := W) G ↔ r.gx (W := W) fun o ρ => ∃ s b, peek ρ o = some s ∧ truth s = some b ∧ G b ρ := by
  rw [gx_boolOf]
  simp only [tst, gx_bind, gx_optR, gx_ok]
  constructor
  · exact fun h => h.mono fun o ρ ⟨s, e1, b, e2, c, e3, q⟩ => by cases e3; exact ⟨s, b, e1, e2, q⟩
  · exact fun h => h.mono fun o ρ ⟨s, b, e1, e2, q⟩ => ⟨s, e1, b, e2, b, rfl, q⟩
section
variable {X : Cx} {K : PySem.W.Frag} {Z : ZT} {C : Call}
/-- a test that is its value's truth -/
theorem pt_plain {x : Expr} {e : E} (h : PE X x (tE X.K Z C false e)) (ht : ∀ ρ, ev C true e ρ = tst true (ev C false e ρ)) (he : ∀ whole, isTrue x X.env whole = (do let v ← whole; standAt x.pos; holding [v] (truthy v))) : PT X x (tTB X.K Z C e) := by
  refine PT.weak (pt_truth h he) fun σ H Q ⟨ρ, rel, g⟩ => ⟨ρ, rel, ?_⟩
  rw [ht, gx_tst] at g
  refine g.mono fun o ρ' ⟨s, b, h1, h2, q⟩ v H' aft rep _ => ⟨b, (rep.peek aft.rel h1).tru h2, q H' aft⟩
theorem pt_ifE {c a b : Expr} {pos : Pos} {tc ta tb : TT} (hc : PT X c tc) (ha : PT X a ta) (hb : PT X b tb) : PT X (.IfExp c a b pos) (fun σ H Q => tc σ H fun k H1 => if k = true then ta σ H1 Q else tb σ H1 Q) := by
  refine ⟨fun pins s σ H Q I h => ?_⟩
  show wpAny _ _ (do if ← isTrue c X.env (eval c X.env) then isTrue a X.env (eval a X.env) else isTrue b X.env (eval b X.env)) _ _ _
  refine wpAny_bind (thn (hc.run pins s σ H _ I h) fun d s1 ⟨H1, I1, q1⟩ => ?_)
  cases d with
  | true => exact ha.run pins s1 σ H1 Q I1 q1
  | false => exact hb.run pins s1 σ H1 Q I1 q1
theorem pw_of {op : BoolOp} {es : List Expr} {p : Pos} {t : TT} (h : PT X (.BoolOp op es p) t) : PW X (.BoolOp op es p) t := ⟨fun wh pins s σ H Q I q => h.run pins s σ H Q I q⟩
/-! what cannot stand for one of ours -/
theorem chk_set {Γ : Kx} {sc : Scope} {fn : Str → Bool} {e : E} {a : List Expr} {b : Nat} {c : Pos} : chk Γ sc fn e (.Set a b c) = false := by cases e <;> rfl
theorem chk_star {Γ : Kx} {sc : Scope} {fn : Str → Bool} {e : E} {a : Expr} {c : Pos} : chk Γ sc fn e (.Starred a c) = false := by cases e <;> rfl
theorem chk_slice {Γ : Kx} {sc : Scope} {fn : Str → Bool} {e : E} {a b c : Option Expr} {p : Pos} : chk Γ sc fn e (.Slice a b c p) = false := by cases e <;> rfl
theorem mark_of {Γ : Kx} {sc : Scope} {fn : Str → Bool} {e : E} {x : Expr} (h : chk Γ sc fn e x = true) (op : CmpOp) : behindInMarks op x = false := by
  cases x <;> first | rfl | (rw [chk_set] at h; cases h)
theorem fold_of {Γ : Kx} {sc : Scope} {fn : Str → Bool} {e : E} {x : Expr} (h : chk Γ sc fn e x = true) (env : PySem.Env) (v : Value) : foldedSetIterable x env v = pure v := by
  cases x <;> first | rfl | (rw [chk_set] at h; cases h)
theorem star_of {Γ : Kx} {sc : Scope} {fn : Str → Bool} {e : E} {x : Expr} (h : chk Γ sc fn e x = true) (env : PySem.Env) (r : List Expr) : starEach (x :: r) env = (false, eval x env) :: starEach r env := by
  cases x <;> first | rfl | (rw [chk_star] at h; cases h)
theorem stars_of {Γ : Kx} {sc : Scope} {fn : Str → Bool} (env : PySem.Env) (pos : Pos) : ∀ {es : Es} {xs : List Expr}, chkEs Γ sc fn es xs = true → (backTo pos (starEach xs env)).any (·.1) = false
  | .n, xs, h => by
    cases xs with
    | nil => rfl
    | cons _ _ => cases h
  | .c a r, [], h => by cases h
  | .c a r, x :: xs, h => by
    simp only [chkEs, Bool.and_eq_true] at h
    rw [star_of h.1]
    simp only [backTo, List.map_cons, List.any_cons, Bool.false_or]
    exact stars_of env pos h.2
theorem plainIx_of {Γ : Kx} {sc : Scope} {fn : Str → Bool} {e : E} {x : Expr} (h : chk Γ sc fn e x = true) : PlainIx x := by
  cases x <;> first | exact fun _ _ => rfl | (rw [chk_slice] at h; cases h)
/-! names -/
theorem vis_of {sc : Scope} {x : Str} (h : visB sc x = true) : Vis sc x := by
  unfold visB at h
  split at h <;> first | exact .inl (by assumption) | exact .inr (.inl (by assumption)) | exact .inr (.inr (by assumption)) | cases h
theorem loc_of {sc : Scope} {x : Str} (h : locB sc x = true) : Loc sc x := by
  unfold locB at h
  split at h <;> first | exact .inl (by assumption) | exact .inr (by assumption) | cases h
theorem local_of {sc : Scope} {x : Str} (h : isLocal sc x = true) : sc.names.lookup x = some .local := by
  unfold isLocal at h
  split at h <;> first | assumption | cases h
theorem gl_of {sc : Scope} {x : Str} (h : glB sc x = true) : sc.names.lookup x = some .globalImplicit := by
  unfold glB at h
  split at h <;> first | assumption | cases h
theorem okName_of {x : Str} (h : okName x = true) : (x == ("__debug__" : Str)) = false ∧ (x == ("__classdict__" : Str)) = false ∧ x ≠ "__name__" := by
  unfold okName strB at h
  simp only [Bool.and_eq_true, Bool.not_eq_true', decide_eq_false_iff_not] at h
  exact ⟨h.1.1.1, h.1.1.2, h.1.2⟩
theorem okName_lam {x : Str} (h : okName x = true) : x ≠ lamN := by
  unfold okName strB at h
  simp only [Bool.and_eq_true, Bool.not_eq_true', decide_eq_false_iff_not] at h
  exact h.2
theorem Gl_of {Γ : Kx} {sc : Scope} {fn : Str → Bool} (c : CtxOk Γ C Z sc fn X) {x : Str} (h : glB sc x = true) : Gl X x := by
  show X.env.scope.names.lookup x = _
  rw [c.hsc]; exact gl_of h
end
end Q

namespace Q
open PySem PySem.Spec PyProof.Rows L2
variable [LamT]
/-! ### what is walked: lists and tuples that stay, ranges, pairs and triples of them -/
inductive Sk where
  | L | T
def Src (K : PySem.W.Frag) (H : Hp) (a : Addr) (vs : List V) : Sk → Prop
  | .L => FzL H a vs
  | .T => SqT K H a vs
theorem Src.im {K : PySem.W.Frag} {H H' : Hp} {a : Addr} {vs : List V} {k : Sk} (i : Im H H') (h : Src K H a vs k) : Src K H' a vs k := by
  cases k with
  | L => exact FzL.im i h
  | T => exact SqT.im i h
def itObj (a : Addr) : Sk → Obj
  | .L => { cls := .type "list_iterator", data := .fields #[.ref a, .int 0 0] }
  | .T => { cls := .type "tuple_iterator", data := .fields #[.ref a, .int 0 0] }
def itAt (h : Heap) (it a : Addr) (i : Nat) : Sk → Prop
  | .L => h.IsListIter it a i
  | .T => h.IsTupleIter it a i
def HasIs (h : Heap) (a : Addr) (its : Array Value) : Sk → Prop
  | .L => h.IsList a its
  | .T => h.IsTuple a its
theorem Src.has {X : Cx} {pins : List (Addr × Obj)} {σ : St} {H : Hp} {s : Shared} {a : Addr} {vs : List V} {k : Sk} (I : Inv X pins σ H s) (h : Src X.K H a vs k) : ∃ its : List Value, Vals vs its ∧ HasIs s.heap a its.toArray k := by
  cases k with
  | L =>
    obtain ⟨its, r, p, _⟩ := I.list (FzL.sq h)
    exact ⟨its, r, p.isList⟩
  | T =>
    obtain ⟨its, r, p, _⟩ := I.tuple h
    exact ⟨its, r, p⟩
theorem begins_of (a : Addr) (its : Array Value) (k : Sk) : Begins (.ref a) (itObj a k) fun h => HasIs h a its k := by
  cases k with
  | L => exact begins_list a its
  | T => exact begins_tuple a its
theorem draws_of {P : Program} {w : World} {A : Around} (hh : A.handled = none) (it a : Addr) (ne : a ≠ it) (its : Array Value) (k : Sk) :
    Draws P w A it [it, a] its.size (fun i v => its[i]? = some v) (fun i h => itAt h it a i k ∧ HasIs h a its k) := by
  cases k with
  | L => exact Draws.list hh it a ne its
  | T => exact Draws.tuple hh it a ne its
theorem itAt.start {h : Heap} {it a : Addr} {k : Sk} (e : h.get? it = some (itObj a k)) : itAt h it a 0 k := by
  cases k with
  | L => exact ⟨_, e, rfl, rfl⟩
  | T => exact ⟨_, e, rfl, rfl⟩
theorem itAt.obj {h : Heap} {it a : Addr} {i : Nat} {k : Sk} (e : itAt h it a i k) : ∃ o, h.get? it = some o ∧ ∀ v, o.data ≠ .cell v := by
  cases k with
  | L => obtain ⟨o, e, c, d⟩ := e; exact ⟨o, e, fun v z => by rw [d] at z; cases z⟩
  | T => obtain ⟨o, e, c, d⟩ := e; exact ⟨o, e, fun v z => by rw [d] at z; cases z⟩
theorem itAt.keep {h h' : Heap} {it a : Addr} {i : Nat} {k : Sk} (e : itAt h it a i k) (q : ∀ o, h.get? it = some o → h'.get? it = some o) : itAt h' it a i k := by
  cases k with
  | L => obtain ⟨o, e, c, d⟩ := e; exact ⟨o, q o e, c, d⟩
  | T => obtain ⟨o, e, c, d⟩ := e; exact ⟨o, q o e, c, d⟩
theorem HasIs.lt {h : Heap} {a : Addr} {its : Array Value} {k : Sk} (e : HasIs h a its k) : a < h.objs.size := by
  cases k with
  | L => obtain ⟨o, e, _⟩ := e; exact Heap.lt_size e
  | T => obtain ⟨o, e, _⟩ := e; exact Heap.lt_size e
/-! pairs -/
def Jz (K : PySem.W.Frag) (k1 k2 : Sk) (a b : Addr) (vs ws : List V) : L2.It :=
  ⟨fun i H => Src K H a vs k1 ∧ Src K H b ws k2 ∧ i < min vs.length ws.length,
    fun i H v H' => ∃ T x y, v = .ref T ∧ H T = none ∧ H' = upd H T (.tup [x, y]) ∧ vs[i]? = some x ∧ ws[i]? = some y,
    fun i H => Src K H a vs k1 ∧ Src K H b ws k2 ∧ i = min vs.length ws.length⟩
theorem Vals.at {vs : List V} {its : List Value} (r : Vals vs its) {i : Nat} {v : Value} (e : its.toArray[i]? = some v) : ∃ x, vs[i]? = some x ∧ RelV x v := by
  have e' : its[i]? = some v := by simpa using e
  have hl : i < vs.length := by rw [r.length]; exact (List.getElem?_eq_some_iff.mp e').1
  obtain ⟨u, h1, h2⟩ := r.get (List.getElem?_eq_getElem hl)
  rw [e'] at h1; cases h1
  exact ⟨_, List.getElem?_eq_getElem hl, h2⟩
theorem turn_z {P : Program} {w : World} {K : PySem.W.Frag} {elts : List Expr} {kk : Nat} {tpos : Pos} {k1 k2 : Sk} {a b : Addr} {vs ws : List V} {N : Nat} (ha : a < N) (hb : b < N) :
    Turn P w K (.Tuple elts kk tpos) (Jz K k1 k2 a b vs ws) [N + 4, N + 2, N + 3, N, N + 1] (N + 4) (fun i h => IsZip h (N + 4) (N + 2) (N + 3) .none ∧ IsTupOf2 h (N + 2) (.ref N) (.ref (N + 1)) ∧ (∃ a1 a2, IsTupOf2 h (N + 3) a1 a2) ∧ itAt h N a i k1 ∧ itAt h (N + 1) b i k2) where
  mem := by simp
  obj := fun i h st c hc => by
    obtain ⟨hz, hTI, ⟨x, y, hTO⟩, h1, h2⟩ := st
    have e' : c = N + 4 ∨ c = N + 2 ∨ c = N + 3 ∨ c = N ∨ c = N + 1 := by simpa using hc
    rcases e' with q | q | q | q | q
    · rw [q]; exact ⟨_, hz, fun v q => nomatch q⟩
    · rw [q]; exact ⟨_, hTI, fun v q => nomatch q⟩
    · rw [q]; exact ⟨_, hTO, fun v q => nomatch q⟩
    · rw [q]; exact h1.obj
    · rw [q]; exact h2.obj
  keep := fun i h h' st k => by
    obtain ⟨hz, hTI, ⟨x, y, hTO⟩, h1, h2⟩ := st
    exact ⟨k _ (by simp) _ hz, k _ (by simp) _ hTI, ⟨x, y, k _ (by simp) _ hTO⟩, h1.keep fun o q => k _ (by simp) o q, h2.keep fun o q => k _ (by simp) o q⟩
  item := by
    intro X hP hw hK hc i pins s σ H E I hf st hg
    subst hP hw hK
    obtain ⟨hz, hTI, hTO, h1, h2⟩ := st
    obtain ⟨s1, s2, hi⟩ := hg
    obtain ⟨its, rv, p1⟩ := s1.has I
    obtain ⟨its2, rv2, p2⟩ := s2.has I
    have G := GoesN.zip2 (elts := elts) (x1 := kk) (pos := tpos) (zip_sep2 (N := N) (fp1 := [a]) (fp2 := [b]) (by simpa using ha) (by simpa using hb)) (draws_of (P := X.prog) (w := X.w) (A := X.A.in1) (I.ok.hd hc) N a (Nat.ne_of_lt ha) its.toArray k1)
      (draws_of (P := X.prog) (w := X.w) (A := X.A.in1) (I.ok.hd hc) (N + 1) b (Nat.ne_of_lt (Nat.lt_succ_of_lt hb)) its2.toArray k2)
    refine thn (G.goes i s _ E (by simpa [rv.length, rv2.length] using hi) ⟨hz, hTI, hTO, ⟨h1, p1⟩, ⟨h2, p2⟩⟩ fun v h' tk hy st' hk _ => ?_) fun r s1 ⟨v, e1, e2⟩ => ⟨v, e1, e2⟩
    obtain ⟨T, x, y, rfl, hn, g1, g2, hT⟩ := hy
    obtain ⟨xv, x1, x2⟩ := Vals.at rv g1
    obtain ⟨yv, y1, y2⟩ := Vals.at rv2 g2
    have new : ObjOk X.prog X.w (upd H T (.tup [xv, yv])) h' T (.tup [xv, yv]) := ⟨by show 2 ≤ sizeLine; decide, [x, y], .cons x2 (.cons y2 .nil), hT⟩
    have I1 := I.turnedNew (t' := tk) (ch := [N + 4, N + 3, N, N + 1]) hk (fun c hcm => hf c (by
      have e' : c = N + 4 ∨ c = N + 3 ∨ c = N ∨ c = N + 1 := by simpa using hcm
      rcases e' with q | q | q | q <;> (rw [q]; simp))) hn new
    obtain ⟨z1, z2, z3, z4, z5⟩ := st'
    refine ⟨.ref T, _, I1, rfl, ⟨T, xv, yv, rfl, I.hok.fresh hn, rfl, x1, y1⟩, ⟨z1, z2, z3, z4.1, z5.1⟩, fun c hcm => ?_⟩
    have hlt : c ≠ T := by
      have e' : c = N + 4 ∨ c = N + 2 ∨ c = N + 3 ∨ c = N ∨ c = N + 1 := by simpa using hcm
      have hzl := Heap.lt_size hz
      rcases e' with q | q | q | q | q <;> (rw [q]; intro z; rw [← z] at hn; exact absurd (Nat.lt_of_lt_of_le hzl hn) (by omega))
    rw [upd_ne hlt]
    exact (hf c hcm).1
  done := by
    intro X hP hw hK hc i pins s σ H E I hf st hg
    subst hP hw hK
    obtain ⟨hz, hTI, hTO, h1, h2⟩ := st
    obtain ⟨s1, s2, hi⟩ := hg
    obtain ⟨its, rv, p1⟩ := s1.has I
    obtain ⟨its2, rv2, p2⟩ := s2.has I
    have G := GoesN.zip2 (elts := elts) (x1 := kk) (pos := tpos) (zip_sep2 (N := N) (fp1 := [a]) (fp2 := [b]) (by simpa using ha) (by simpa using hb)) (draws_of (P := X.prog) (w := X.w) (A := X.A.in1) (I.ok.hd hc) N a (Nat.ne_of_lt ha) its.toArray k1)
      (draws_of (P := X.prog) (w := X.w) (A := X.A.in1) (I.ok.hd hc) (N + 1) b (Nat.ne_of_lt (Nat.lt_succ_of_lt hb)) its2.toArray k2)
    have hi' : i = min its.toArray.size its2.toArray.size := by simpa [rv.length, rv2.length] using hi
    subst hi'
    refine thn (G.stops s (fun s1 => Inv X pins σ H s1) E ⟨hz, hTI, hTO, ⟨h1, p1⟩, ⟨h2, p2⟩⟩ fun h' tk hk _ => ?_) fun r s1 q => q
    exact I.turnedL (t' := tk) (ch := [N + 4, N + 3, N, N + 1]) hk fun c hcm => hf c (by
      have e' : c = N + 4 ∨ c = N + 3 ∨ c = N ∨ c = N + 1 := by simpa using hcm
      rcases e' with q | q | q | q <;> (rw [q]; simp))
  self := fun A i s Q E st h => wpAny_pyIter_zip st.1 h
/-- what zip asks of its two arguments -/
def iZ (K : PySem.W.Frag) (ta : TA) : TI := fun σ H R => ta σ H fun us H1 => ∃ k1 k2 a b vs ws, us = [.ref a, .ref b] ∧ Src K H1 a vs k1 ∧ Src K H1 b ws k2 ∧ R (Jz K k1 k2 a b vs ws) H1
theorem pi_z {X : Cx} {e e2 : Expr} {ta : TA} {p pos tpos : Pos} {elts : List Expr} {kk : Nat} (hg : Gl X "zip") (hm : X.mg "zip" = none) (ha : PA X [e, e2] ta)
    (hs : starEach [e, e2] X.env = (false, eval e X.env) :: starEach [e2] X.env) (hpl : (backTo pos (starEach [e2] X.env)).any (·.1) = false) :
    PI X (.Tuple elts kk tpos) (.Call (.Name "zip" p) [e, e2] [] pos) (iZ X.K ta) := by
  refine ⟨fun pins s σ H R I h => ?_⟩
  refine Call_ (ld_blt I hg hm PyProof.Rows.boot_zip (PyProof.Rows.callWith_type1 (thn (ha.run pos pins s σ H _ I h) fun us s1 ⟨vs, H1, I1, r1, q1⟩ => ?_) hs hpl))
  obtain ⟨k1, k2, a, b, vs', ws, ex, sa, sb, q⟩ := q1
  subst ex
  cases r1 with
  | cons r rr =>
    cases rr with
    | cons r' rr =>
      cases rr
      cases r
      cases r'
      obtain ⟨its, rv, p1⟩ := sa.has I1
      obtain ⟨its2, rv2, p2⟩ := sb.has I1
      refine zip_begins2 (begins_of a its.toArray k1) (begins_of b its2.toArray k2) p1 p2 fun h' hz hTI hTO g1 g2 hsz hk => wpAny_pyIter_zip hz ?_
      have I2 : Inv X pins σ H1 { s1 with heap := h' } := I1.kept (t' := s1.toks) hk
      refine ⟨_, _, _, _, H1, rfl, I2, turn_z (N := s1.heap.objs.size) p1.lt p2.lt, ⟨hz, hTI, ⟨_, _, hTO⟩, itAt.start g1, itAt.start g2⟩, fun c hcm => ?_, q⟩
      have hle : s1.heap.objs.size ≤ c := by
        have e' : c = s1.heap.objs.size + 4 ∨ c = s1.heap.objs.size + 2 ∨ c = s1.heap.objs.size + 3 ∨ c = s1.heap.objs.size ∨ c = s1.heap.objs.size + 1 := by simpa using hcm
        rcases e' with z | z | z | z | z <;> (rw [z]; omega)
      exact I1.fpOk hle (I1.hok.fresh hle)
end Q

namespace Q
open PySem PySem.Spec PyProof.Rows L2
variable [LamT]
/-! triples -/
def Jz3 (K : PySem.W.Frag) (k1 k2 k3 : Sk) (a b c : Addr) (vs ws zs : List V) : L2.It :=
  ⟨fun i H => Src K H a vs k1 ∧ Src K H b ws k2 ∧ Src K H c zs k3 ∧ i < min (min vs.length ws.length) zs.length,
    fun i H v H' => ∃ T x y z, v = .ref T ∧ H T = none ∧ H' = upd H T (.tup [x, y, z]) ∧ vs[i]? = some x ∧ ws[i]? = some y ∧ zs[i]? = some z,
    fun i H => Src K H a vs k1 ∧ Src K H b ws k2 ∧ Src K H c zs k3 ∧ i = min (min vs.length ws.length) zs.length⟩
theorem mem6 {N c : Nat} (h : c ∈ [N + 5, N + 3, N + 4, N, N + 1, N + 2]) : c = N + 5 ∨ c = N + 3 ∨ c = N + 4 ∨ c = N ∨ c = N + 1 ∨ c = N + 2 := by simpa using h
theorem turn_z3 {P : Program} {w : World} {K : PySem.W.Frag} {elts : List Expr} {kk : Nat} {tpos : Pos} {k1 k2 k3 : Sk} {a b c : Addr} {vs ws zs : List V} {N : Nat} (ha : a < N) (hb : b < N) (hc3 : c < N) :
    Turn P w K (.Tuple elts kk tpos) (Jz3 K k1 k2 k3 a b c vs ws zs) [N + 5, N + 3, N + 4, N, N + 1, N + 2] (N + 5) (fun i h => IsZip h (N + 5) (N + 3) (N + 4) .none ∧ IsTupOf3 h (N + 3) (.ref N) (.ref (N + 1)) (.ref (N + 2)) ∧ (∃ a1 a2 a3, IsTupOf3 h (N + 4) a1 a2 a3) ∧ itAt h N a i k1 ∧ itAt h (N + 1) b i k2 ∧ itAt h (N + 2) c i k3) where
  mem := by simp
  obj := fun i h st d hd => by
    obtain ⟨hz, hTI, ⟨x, y, z, hTO⟩, h1, h2, h3⟩ := st
    rcases mem6 hd with q | q | q | q | q | q
    · rw [q]; exact ⟨_, hz, fun v q => nomatch q⟩
    · rw [q]; exact ⟨_, hTI, fun v q => nomatch q⟩
    · rw [q]; exact ⟨_, hTO, fun v q => nomatch q⟩
    · rw [q]; exact h1.obj
    · rw [q]; exact h2.obj
    · rw [q]; exact h3.obj
  keep := fun i h h' st k => by
    obtain ⟨hz, hTI, ⟨x, y, z, hTO⟩, h1, h2, h3⟩ := st
    exact ⟨k _ (by simp) _ hz, k _ (by simp) _ hTI, ⟨x, y, z, k _ (by simp) _ hTO⟩, h1.keep fun o q => k _ (by simp) o q, h2.keep fun o q => k _ (by simp) o q, h3.keep fun o q => k _ (by simp) o q⟩
  item := by
    intro X hP hw hK hc i pins s σ H E I hf st hg
    subst hP hw hK
    obtain ⟨hz, hTI, hTO, h1, h2, h3⟩ := st
    obtain ⟨s1, s2, s3, hi⟩ := hg
    obtain ⟨its, rv, p1⟩ := s1.has I
    obtain ⟨its2, rv2, p2⟩ := s2.has I
    obtain ⟨its3, rv3, p3⟩ := s3.has I
    have G := GoesN.zip3 (elts := elts) (x1 := kk) (pos := tpos) (zip_sep3 (N := N) (fp1 := [a]) (fp2 := [b]) (fp3 := [c]) (by simpa using ha) (by simpa using hb) (by simpa using hc3)) (draws_of (P := X.prog) (w := X.w) (A := X.A.in1) (I.ok.hd hc) N a (Nat.ne_of_lt ha) its.toArray k1)
      (draws_of (P := X.prog) (w := X.w) (A := X.A.in1) (I.ok.hd hc) (N + 1) b (Nat.ne_of_lt (Nat.lt_succ_of_lt hb)) its2.toArray k2)
      (draws_of (P := X.prog) (w := X.w) (A := X.A.in1) (I.ok.hd hc) (N + 2) c (Nat.ne_of_lt (Nat.lt_succ_of_lt (Nat.lt_succ_of_lt hc3))) its3.toArray k3)
    refine thn (G.goes i s _ E (by simpa [rv.length, rv2.length, rv3.length] using hi) ⟨hz, hTI, hTO, ⟨h1, p1⟩, ⟨h2, p2⟩, ⟨h3, p3⟩⟩ fun v h' tk hy st' hk _ => ?_) fun r s1 ⟨v, e1, e2⟩ => ⟨v, e1, e2⟩
    obtain ⟨T, x, y, z, rfl, hn, g1, g2, g3, hT⟩ := hy
    obtain ⟨xv, x1, x2⟩ := Vals.at rv g1
    obtain ⟨yv, y1, y2⟩ := Vals.at rv2 g2
    obtain ⟨zv, z1, z2⟩ := Vals.at rv3 g3
    have new : ObjOk X.prog X.w (upd H T (.tup [xv, yv, zv])) h' T (.tup [xv, yv, zv]) := ⟨by show 3 ≤ sizeLine; decide, [x, y, z], .cons x2 (.cons y2 (.cons z2 .nil)), hT⟩
    have I1 := I.turnedNew (t' := tk) (ch := [N + 5, N + 4, N, N + 1, N + 2]) hk (fun c hcm => hf c (by
      have e' : c = N + 5 ∨ c = N + 4 ∨ c = N ∨ c = N + 1 ∨ c = N + 2 := by simpa using hcm
      rcases e' with q | q | q | q | q <;> (rw [q]; simp))) hn new
    obtain ⟨w1, w2, w3, w4, w5, w6⟩ := st'
    refine ⟨.ref T, _, I1, rfl, ⟨T, xv, yv, zv, rfl, I.hok.fresh hn, rfl, x1, y1, z1⟩, ⟨w1, w2, w3, w4.1, w5.1, w6.1⟩, fun c hcm => ?_⟩
    have hlt : c ≠ T := by
      have hzl := Heap.lt_size hz
      rcases mem6 hcm with q | q | q | q | q | q <;> (rw [q]; intro z; rw [← z] at hn; exact absurd (Nat.lt_of_lt_of_le hzl hn) (by omega))
    rw [upd_ne hlt]
    exact (hf c hcm).1
  done := by
    intro X hP hw hK hc i pins s σ H E I hf st hg
    subst hP hw hK
    obtain ⟨hz, hTI, hTO, h1, h2, h3⟩ := st
    obtain ⟨s1, s2, s3, hi⟩ := hg
    obtain ⟨its, rv, p1⟩ := s1.has I
    obtain ⟨its2, rv2, p2⟩ := s2.has I
    obtain ⟨its3, rv3, p3⟩ := s3.has I
    have G := GoesN.zip3 (elts := elts) (x1 := kk) (pos := tpos) (zip_sep3 (N := N) (fp1 := [a]) (fp2 := [b]) (fp3 := [c]) (by simpa using ha) (by simpa using hb) (by simpa using hc3)) (draws_of (P := X.prog) (w := X.w) (A := X.A.in1) (I.ok.hd hc) N a (Nat.ne_of_lt ha) its.toArray k1)
      (draws_of (P := X.prog) (w := X.w) (A := X.A.in1) (I.ok.hd hc) (N + 1) b (Nat.ne_of_lt (Nat.lt_succ_of_lt hb)) its2.toArray k2)
      (draws_of (P := X.prog) (w := X.w) (A := X.A.in1) (I.ok.hd hc) (N + 2) c (Nat.ne_of_lt (Nat.lt_succ_of_lt (Nat.lt_succ_of_lt hc3))) its3.toArray k3)
    have hi' : i = min (min its.toArray.size its2.toArray.size) its3.toArray.size := by simpa [rv.length, rv2.length, rv3.length] using hi
    subst hi'
    refine thn (G.stops s (fun s1 => Inv X pins σ H s1) E ⟨hz, hTI, hTO, ⟨h1, p1⟩, ⟨h2, p2⟩, ⟨h3, p3⟩⟩ fun h' tk hk _ => ?_) fun r s1 q => q
    exact I.turnedL (t' := tk) (ch := [N + 5, N + 4, N, N + 1, N + 2]) hk fun c hcm => hf c (by
      have e' : c = N + 5 ∨ c = N + 4 ∨ c = N ∨ c = N + 1 ∨ c = N + 2 := by simpa using hcm
      rcases e' with q | q | q | q | q <;> (rw [q]; simp))
  self := fun A i s Q E st h => wpAny_pyIter_zip st.1 h
def iZ3 (K : PySem.W.Frag) (ta : TA) : TI := fun σ H R => ta σ H fun us H1 => ∃ k1 k2 k3 a b c vs ws zs, us = [.ref a, .ref b, .ref c] ∧ Src K H1 a vs k1 ∧ Src K H1 b ws k2 ∧ Src K H1 c zs k3 ∧ R (Jz3 K k1 k2 k3 a b c vs ws zs) H1
theorem pi_z3 {X : Cx} {e e2 e3 : Expr} {ta : TA} {p pos tpos : Pos} {elts : List Expr} {kk : Nat} (hg : Gl X "zip") (hm : X.mg "zip" = none) (ha : PA X [e, e2, e3] ta)
    (hs : starEach [e, e2, e3] X.env = (false, eval e X.env) :: starEach [e2, e3] X.env) (hpl : (backTo pos (starEach [e2, e3] X.env)).any (·.1) = false) :
    PI X (.Tuple elts kk tpos) (.Call (.Name "zip" p) [e, e2, e3] [] pos) (iZ3 X.K ta) := by
  refine ⟨fun pins s σ H R I h => ?_⟩
  refine Call_ (ld_blt I hg hm PyProof.Rows.boot_zip (PyProof.Rows.callWith_type1 (thn (ha.run pos pins s σ H _ I h) fun us s1 ⟨vs, H1, I1, r1, q1⟩ => ?_) hs hpl))
  obtain ⟨k1, k2, k3, a, b, c, vs', ws, zs, ex, sa, sb, sc, q⟩ := q1
  subst ex
  cases r1 with | cons r rr =>
  cases rr with | cons r' rr =>
  cases rr with | cons r'' rr =>
  cases rr
  cases r
  cases r'
  cases r''
  obtain ⟨its, rv, p1⟩ := sa.has I1
  obtain ⟨its2, rv2, p2⟩ := sb.has I1
  obtain ⟨its3, rv3, p3⟩ := sc.has I1
  refine zip_begins3 (begins_of a its.toArray k1) (begins_of b its2.toArray k2) (begins_of c its3.toArray k3) p1 p2 p3 fun h' hz hTI hTO g1 g2 g3 hsz hk => wpAny_pyIter_zip hz ?_
  have I2 : Inv X pins σ H1 { s1 with heap := h' } := I1.kept (t' := s1.toks) hk
  refine ⟨_, _, _, _, H1, rfl, I2, turn_z3 (N := s1.heap.objs.size) p1.lt p2.lt p3.lt, ⟨hz, hTI, ⟨_, _, _, hTO⟩, itAt.start g1, itAt.start g2, itAt.start g3⟩, fun c hcm => ?_, q⟩
  have hle : s1.heap.objs.size ≤ c := by
    rcases mem6 hcm with z | z | z | z | z | z <;> (rw [z]; omega)
  exact I1.fpOk hle (I1.hok.fresh hle)
/-! numbered -/
def Je (K : PySem.W.Frag) (k : Sk) (a : Addr) (vs : List V) : L2.It :=
  ⟨fun i H => Src K H a vs k ∧ i < vs.length, fun i H v H' => ∃ T x, v = .ref T ∧ H T = none ∧ H' = upd H T (.tup [.int (i : Nat), x]) ∧ vs[i]? = some x, fun i H => Src K H a vs k ∧ i = vs.length⟩
theorem enum_new {v : Value} {o : Obj} {G : Heap → Prop} (B : Begins v o G) :
    Meets (Builtin.«enumerate.__new__» ⟨[.type "enumerate", v], []⟩) (fun _ R s => G s.heap ∧
      R (.ok (.ret (.ref (s.heap.push o).objs.size))) { s with heap := (s.heap.push o).push { cls := .type "enumerate", data := .fields #[.none, .bool false, .ref s.heap.objs.size, rawInt 0, .none, .none] } }) :=
  .of_wp fun prog w A R s h => by
    obtain ⟨hp, ge, dr, tk, os⟩ := s; obtain ⟨g1, h⟩ := h
    have hsub := sub_enumerate
    have it1 : ∀ {B' : Around} {E : Value → Shared → Prop} {W : Value → Shared → Prop}, W (.ref hp.objs.size) ⟨hp.push o, ge, dr, tk, os⟩ → wpAny (model prog w) B' (pyIter v) W E ⟨hp, ge, dr, tk, os⟩ :=
      fun z => B.iter prog w _ _ ⟨hp, ge, dr, tk, os⟩ _ g1 z
    wp_walk using it1
    refine wpAny_stack_any fun st => wpAny_pure ?_
    split
    · rename_i c _ _ _ _ _
      cases (c == Value.type "enumerate")
      · wp_walk using it1
        exact ⟨_, rfl, h⟩
      · wp_walk using it1
        exact ⟨_, rfl, h⟩
    · wp_walk using it1
      exact ⟨_, rfl, h⟩
section
variable {prog : Program} {w : World} {A : Around} {E : Value → Shared → Prop} {s : Shared}
theorem enum_call {v : Value} {o : Obj} {G : Heap → Prop} {Q : Value → Shared → Prop} (B : Begins v o G) (g1 : G s.heap)
    (h : ∀ h', IsEnum h' (s.heap.objs.size + 1) s.heap.objs.size 0 .none → h'.get? s.heap.objs.size = some o → (∀ b u, s.heap.get? b = some u → h'.get? b = some u) → Q (.ref (s.heap.objs.size + 1)) { s with heap := h' }) :
    wpAny (model prog w) A (call (.type "enumerate") [v]) Q E s := by
  refine callType_new F.called_enumerate (by decide) (F.typeCall_enumerate_1 _) (F.newCall_enumerate_1 _) (fun ob => F.args_object_init_2 ob _) F.entry_enumerate_new (enum_new B) ⟨g1, ?_⟩
  have z1 : (s.heap.push o).objs.size = s.heap.objs.size + 1 := Heap.size_push ..
  show _ ∧ _
  rw [z1]
  have en : IsEnum ((s.heap.push o).push { cls := .type "enumerate", data := .fields #[.none, .bool false, .ref s.heap.objs.size, rawInt 0, .none, .none] }) (s.heap.objs.size + 1) s.heap.objs.size 0 .none := by
    have q := Heap.get?_push_size (s.heap.push o) (o := { cls := .type "enumerate", data := .fields #[.none, .bool false, .ref s.heap.objs.size, rawInt 0, .none, .none] }) rfl
    rw [z1] at q
    exact q
  exact ⟨⟨_, en, rfl⟩, h _ en (Heap.get?_push_of_some _ (Heap.get?_push_size _ B.free)) fun b u x => Heap.get?_push_of_some _ (Heap.get?_push_of_some _ x)⟩
end
theorem turn_e {P : Program} {w : World} {K : PySem.W.Frag} {elts : List Expr} {kk : Nat} {tpos : Pos} {k : Sk} {a : Addr} {vs : List V} {N : Nat} (ha : a < N) :
    Turn P w K (.Tuple elts kk tpos) (Je K k a vs) [N + 1, N] (N + 1) (fun i h => (∃ old, IsEnum h (N + 1) N (i : Nat) old) ∧ itAt h N a i k) where
  mem := by simp
  obj := fun i h st c hc => by
    obtain ⟨⟨old, hz⟩, h1⟩ := st
    have e' : c = N + 1 ∨ c = N := by simpa using hc
    rcases e' with q | q
    · rw [q]; exact ⟨_, hz, fun v q => nomatch q⟩
    · rw [q]; exact h1.obj
  keep := fun i h h' st k => by
    obtain ⟨⟨old, hz⟩, h1⟩ := st
    exact ⟨⟨old, k _ (by simp) _ hz⟩, h1.keep fun o q => k _ (by simp) o q⟩
  item := by
    intro X hP hw hK hc i pins s σ H E I hf st hg
    subst hP hw hK
    obtain ⟨⟨old, hz⟩, h1⟩ := st
    obtain ⟨s1, hi⟩ := hg
    obtain ⟨its, rv, p1⟩ := s1.has I
    have G := GoesN.enumFrom (elts := elts) (x1 := kk) (pos := tpos) 0 (draws_of (P := X.prog) (w := X.w) (A := X.A.in1) (I.ok.hd hc) N a (Nat.ne_of_lt ha) its.toArray k) (N + 1) (Nat.succ_ne_self _)
      (by simp only [List.mem_cons, List.not_mem_nil, or_false, not_or]; exact ⟨Nat.succ_ne_self _, fun z => absurd (show N + 1 < N from z ▸ ha) (Nat.not_lt.mpr (Nat.le_succ N))⟩) (by simp)
    refine thn (G.goes i s _ E (by simpa [rv.length] using hi) ⟨⟨old, by simpa using hz⟩, ⟨h1, p1⟩⟩ fun v h' tk hy st' hk _ => ?_) fun r s1 ⟨v, e1, e2⟩ => ⟨v, e1, e2⟩
    obtain ⟨T, t, x, rfl, hn, g1, hT⟩ := hy
    obtain ⟨xv, x1, x2⟩ := Vals.at rv g1
    have new : ObjOk X.prog X.w (upd H T (.tup [.int (i : Nat), xv])) h' T (.tup [.int (i : Nat), xv]) := ⟨by show 2 ≤ sizeLine; decide, [_, x], .cons ⟨t, by simp⟩ (.cons x2 .nil), hT⟩
    have I1 := I.turnedNew (t' := tk) (ch := [N + 1, N]) hk (fun c hcm => hf c hcm) hn new
    obtain ⟨⟨old', z1⟩, z4⟩ := st'
    refine ⟨.ref T, _, I1, rfl, ⟨T, xv, rfl, I.hok.fresh hn, rfl, x1⟩, ⟨⟨old', by simpa using z1⟩, z4.1⟩, fun c hcm => ?_⟩
    have hlt : c ≠ T := by
      have e' : c = N + 1 ∨ c = N := by simpa using hcm
      have hzl := Heap.lt_size hz
      rcases e' with q | q <;> (rw [q]; intro z; rw [← z] at hn; exact absurd (Nat.lt_of_lt_of_le hzl hn) (by omega))
    rw [upd_ne hlt]
    exact (hf c hcm).1
  done := by
    intro X hP hw hK hc i pins s σ H E I hf st hg
    subst hP hw hK
    obtain ⟨⟨old, hz⟩, h1⟩ := st
    obtain ⟨s1, hi⟩ := hg
    obtain ⟨its, rv, p1⟩ := s1.has I
    have G := GoesN.enumFrom (elts := elts) (x1 := kk) (pos := tpos) 0 (draws_of (P := X.prog) (w := X.w) (A := X.A.in1) (I.ok.hd hc) N a (Nat.ne_of_lt ha) its.toArray k) (N + 1) (Nat.succ_ne_self _)
      (by simp only [List.mem_cons, List.not_mem_nil, or_false, not_or]; exact ⟨Nat.succ_ne_self _, fun z => absurd (show N + 1 < N from z ▸ ha) (Nat.not_lt.mpr (Nat.le_succ N))⟩) (by simp)
    have hi' : i = its.toArray.size := by simpa [rv.length] using hi
    subst hi'
    refine thn (G.stops s (fun s1 => Inv X pins σ H s1) E ⟨⟨old, by simpa using hz⟩, ⟨h1, p1⟩⟩ fun h' tk hk _ => ?_) fun r s1 q => q
    exact I.turnedL (t' := tk) (ch := [N + 1, N]) hk fun c hcm => hf c hcm
  self := fun A i s Q E st h => let ⟨⟨_, he⟩, _⟩ := st; wpAny_pyIter_enum he h
def iE (K : PySem.W.Frag) (ta : TA) : TI := fun σ H R => ta σ H fun us H1 => ∃ k a vs, us = [.ref a] ∧ Src K H1 a vs k ∧ R (Je K k a vs) H1
theorem pi_e {X : Cx} {e : Expr} {ta : TA} {p pos tpos : Pos} {elts : List Expr} {kk : Nat} (hg : Gl X "enumerate") (hm : X.mg "enumerate" = none) (ha : PA X [e] ta) (hs : starEach [e] X.env = [(false, eval e X.env)]) :
    PI X (.Tuple elts kk tpos) (.Call (.Name "enumerate" p) [e] [] pos) (iE X.K ta) := by
  refine ⟨fun pins s σ H R I h => ?_⟩
  refine Call_ (ld_blt I hg hm boot_enumerate (PyProof.Rows.callWith_type1 (thn (ha.run pos pins s σ H _ I h) fun us s1 ⟨vs, H1, I1, r1, q1⟩ => ?_) hs rfl))
  obtain ⟨k, a, vs', ex, sa, q⟩ := q1
  subst ex
  cases r1 with | cons r rr =>
  cases rr
  cases r
  obtain ⟨its, rv, p1⟩ := sa.has I1
  refine enum_call (begins_of a its.toArray k) p1 fun h' he g1 hk => wpAny_pyIter_enum he ?_
  have I2 : Inv X pins σ H1 { s1 with heap := h' } := I1.kept (t' := s1.toks) hk
  refine ⟨_, _, _, _, H1, rfl, I2, turn_e (N := s1.heap.objs.size) p1.lt, ⟨⟨_, he⟩, itAt.start g1⟩, fun c hcm => ?_, q⟩
  have hle : s1.heap.objs.size ≤ c := by
    have e' : c = s1.heap.objs.size + 1 ∨ c = s1.heap.objs.size := by simpa using hcm
    rcases e' with z | z <;> (rw [z]; omega)
  exact I1.fpOk hle (I1.hok.fresh hle)
/-! a list or a tuple -/
theorem pi_s {X : Cx} {tg l : Expr} {tl : TE} (hl : PE X l tl) : PI X tg l (fun σ H R => tl σ H fun x H1 => ∃ a vs, x = .ref a ∧ ((FzL H1 a vs ∧ R (Itl X.K a) H1) ∨ (SqT X.K H1 a vs ∧ R (Itt X.K a) H1))) := by
  refine ⟨fun pins s σ H R I h => ?_⟩
  refine thn (hl.run pins s σ H _ I h) fun v s1 ⟨x, H1, I1, r1, q1⟩ => ?_
  obtain ⟨a, vs, e, q⟩ := q1
  subst e
  cases r1
  have new : ∀ (o : Obj) (b : Addr), b ∈ [s1.heap.objs.size] → FpOk X pins H1 b := fun o b hb => by
    cases List.mem_singleton.mp hb
    exact I1.fpOk (Nat.le_refl _) I1.fresh
  rcases q with ⟨f, q⟩ | ⟨f, q⟩
  · obtain ⟨its, rv, pl, _⟩ := I1.list (FzL.sq f)
    refine wpAny_pyIter_list pl.isList ⟨_, [s1.heap.objs.size], _, Itl X.K a, H1, rfl, I1.kept (t' := s1.toks) fun b o z => Heap.get?_push_of_some _ z, turn_list a _, ⟨_, Heap.get?_push_size _ rfl, rfl, rfl⟩, new default, q⟩
  · obtain ⟨its, rv, pt, _⟩ := I1.tuple f
    refine wpAny_pyIter_tuple (show s1.heap.IsTuple a its.toArray from pt) ⟨_, [s1.heap.objs.size], _, Itt X.K a, H1, rfl, I1.kept (t' := s1.toks) fun b o z => Heap.get?_push_of_some _ z, turn_tuple a _, ⟨_, Heap.get?_push_size _ rfl, rfl, rfl⟩, new default, q⟩
/-- also a dict's keys, a text's signs -/
theorem pi_sq {X : Cx} {tg l : Expr} {tl : TE} (hl : PE X l tl) : PI X tg l (fun σ H R => tl σ H fun x H1 => (∃ a vs, x = .ref a ∧ ((FzL H1 a vs ∧ R (Itl X.K a) H1) ∨ (SqT X.K H1 a vs ∧ R (Itt X.K a) H1))) ∨
    (∃ a o kvs, x = .ref a ∧ H1 a = some (.frz o (.dK kvs)) ∧ R (Itk a o kvs) H1) ∨ ∃ z, x = .str z ∧ R (Its z) H1) := by
  refine ⟨fun pins s σ H R I h => ?_⟩
  refine thn (hl.run pins s σ H _ I h) fun v s1 ⟨x, H1, I1, r1, q1⟩ => ?_
  have new : ∀ b, b ∈ [s1.heap.objs.size] → FpOk X pins H1 b := fun b hb => by
    cases List.mem_singleton.mp hb
    exact I1.fpOk (Nat.le_refl _) I1.fresh
  rcases q1 with ⟨a, vs, e, q⟩ | ⟨a, o, kvs, e, f, q⟩ | ⟨z, e, q⟩
  · subst e
    cases r1
    rcases q with ⟨f, q⟩ | ⟨f, q⟩
    · obtain ⟨its, rv, pl, _⟩ := I1.list (FzL.sq f)
      exact wpAny_pyIter_list pl.isList ⟨_, [s1.heap.objs.size], _, Itl X.K a, H1, rfl, I1.kept (t' := s1.toks) fun b o z => Heap.get?_push_of_some _ z, turn_list a _, ⟨_, Heap.get?_push_size _ rfl, rfl, rfl⟩, new, q⟩
    · obtain ⟨its, rv, pt, _⟩ := I1.tuple f
      exact wpAny_pyIter_tuple (show s1.heap.IsTuple a its.toArray from pt) ⟨_, [s1.heap.objs.size], _, Itt X.K a, H1, rfl, I1.kept (t' := s1.toks) fun b o z => Heap.get?_push_of_some _ z, turn_tuple a _, ⟨_, Heap.get?_push_size _ rfl, rfl, rfl⟩, new, q⟩
  · subst e
    cases r1
    obtain ⟨k1, k2, k3, k4, k5, k6, k7, k8, k9, k10⟩ := I1.frzK f
    refine iter_keys k1 k2 k3 k7 (pi_one (tk := s1.toks) I1 _ (turn_keys _ k7) ⟨_, Heap.get?_push_size _ rfl, rfl, ?_⟩ q)
    rw [k8] <;> rfl
  · subst e
    obtain ⟨t, rfl⟩ := r1
    cases ha : z.cps.all (· < 128)
    · exact wpAny_pyIter_wide ha (pi_one (tk := s1.toks) I1 _ (turn_str _ z t "str_iterator" (.inr rfl)) ⟨_, Heap.get?_push_size _ rfl, rfl, rfl⟩ q)
    · exact wpAny_pyIter_ascii ha (pi_one (tk := s1.toks) I1 _ (turn_str _ z t "str_ascii_iterator" (.inl rfl)) ⟨_, Heap.get?_push_size _ rfl, rfl, rfl⟩ q)
/-! ### they hand out the data -/
theorem src_of {K : PySem.W.Frag} {H : Hp} {v : V} {x : D} {xs : List D} (r : RepD K H v x) (e : itemsD x = some xs) : ∃ k a vs, v = .ref a ∧ Src K H a vs k ∧ vs.length ≤ sizeLine ∧ RepDs K H vs xs := by
  cases r with
  | lst h z r => cases e; exact ⟨.L, _, _, rfl, h, z, r⟩
  | tup h z r => cases e; exact ⟨.T, _, _, rfl, h, z, r⟩
  | _ => cases e
theorem yields_l {K : PySem.W.Frag} {H0 : Hp} {a : Addr} {vs : List V} {xs : List D} (f : FzL H0 a vs) (z : vs.length ≤ sizeLine) (r : RepDs K H0 vs xs) : Yields K (Itl K a) xs H0 where
  len := by rw [← r.length]; exact z
  go := fun i H im hi => by
    have hv : i < vs.length := by rw [r.length]; exact hi
    exact ⟨vs, vs[i], FzL.sq (f.im im), List.getElem?_eq_getElem hv⟩
  stop := fun H im => ⟨vs, FzL.sq (f.im im), by rw [r.length]; exact Nat.le_refl _⟩
  yld := fun i H v H' x im hx y => by
    obtain ⟨rfl, h⟩ := y
    obtain ⟨w, h1, h2⟩ := r.get hx
    have e := h vs (FzL.sq (f.im im))
    rw [h1] at e; cases e
    exact ⟨Same.refl _, h2.im im⟩
theorem yields_t {K : PySem.W.Frag} {H0 : Hp} {a : Addr} {vs : List V} {xs : List D} (f : SqT K H0 a vs) (z : vs.length ≤ sizeLine) (r : RepDs K H0 vs xs) : Yields K (Itt K a) xs H0 where
  len := by rw [← r.length]; exact z
  go := fun i H im hi => by
    have hv : i < vs.length := by rw [r.length]; exact hi
    exact ⟨vs, vs[i], SqT.im im f, List.getElem?_eq_getElem hv⟩
  stop := fun H im => ⟨vs, SqT.im im f, by rw [r.length]; exact Nat.le_refl _⟩
  yld := fun i H v H' x im hx y => by
    obtain ⟨rfl, h⟩ := y
    obtain ⟨w, h1, h2⟩ := r.get hx
    have e := h vs (SqT.im im f)
    rw [h1] at e; cases e
    exact ⟨Same.refl _, h2.im im⟩
theorem RepKs.at_ {K : PySem.W.Frag} {H : Hp} : ∀ {ks : List (L2.Key × V)} {kds : List (L2.Key × D)} {i : Nat} {k : L2.Key} {d : D}, RepKs K H ks kds → kds[i]? = some (k, d) → ∃ v, ks[i]? = some (k, v) ∧ keyOk k ∧ RepD K H v d
  | _, _, i, k, d, .nil, h => by simp at h
  | _, _, 0, k, d, .cons o r _, h => by
    simp only [List.getElem?_cons_zero, Option.some.injEq, Prod.mk.injEq] at h
    obtain ⟨rfl, rfl⟩ := h
    exact ⟨_, rfl, o, r⟩
  | _, _, i + 1, k, d, .cons _ _ t, h => by
    obtain ⟨v, h1, h2⟩ := RepKs.at_ (i := i) t (by simpa using h)
    exact ⟨v, by simpa using h1, h2⟩
theorem rep_key {K : PySem.W.Frag} {H : Hp} {k : L2.Key} (o : keyOk k) : RepD K H (kV k) (keyD k) := by
  cases k with
  | inl i => exact .int i
  | inr x => exact .str x o
theorem frz_im {H H' : Hp} {a : Addr} {o : Obj} {u : HO} (i : Im H H') (h : H a = some (.frz o u)) : H' a = some (.frz o u) := i.2 _ _ _ h
theorem yields_k {K : PySem.W.Frag} {H0 : Hp} {a : Addr} {o : Obj} {ks : List (L2.Key × V)} {kds : List (L2.Key × D)} (f : H0 a = some (.frz o (.dK ks))) (z : kds.length ≤ SZ) (r : RepKs K H0 ks kds) : Yields K (Itk a o ks) ((kds.map fun p => (keyD p.1, p.2)).map (·.1)) H0 where
  len := by simpa [← sz_eq] using z
  go := fun i H im hi => ⟨frz_im im f, by rw [r.length]; simpa using hi⟩
  stop := fun H im => ⟨frz_im im f, by rw [r.length]; simp⟩
  yld := fun i H v H' x im hx y => by
    obtain ⟨rfl, k, w, e, rfl⟩ := y
    rw [List.map_map, List.getElem?_map, Option.map_eq_some_iff] at hx
    obtain ⟨⟨k', d⟩, h1, h2⟩ := hx
    obtain ⟨v', h3, h4, _⟩ := r.at_ h1
    rw [e] at h3; cases h3
    cases h2
    exact ⟨Same.refl _, rep_key h4⟩
theorem yields_c {K : PySem.W.Frag} {H0 : Hp} {z : Str} (h : strOk z) : Yields K (Its z) (z.cps.toList.map fun c => .str ⟨#[c]⟩) H0 where
  len := by rw [List.length_map, Array.length_toList]; exact h.2
  go := fun i H im hi => by
    show i < z.cps.size
    simpa using hi
  stop := fun H im => by
    show z.cps.size ≤ _
    simp
  yld := fun i H v H' x im hx y => by
    obtain ⟨rfl, c, e, rfl⟩ := y
    rw [List.getElem?_map, Option.map_eq_some_iff] at hx
    obtain ⟨c', h1, rfl⟩ := hx
    have : c = c' := by
      rw [Array.getElem?_toList] at h1
      rw [e] at h1
      exact Option.some.inj h1
    subst this
    refine ⟨Same.refl _, .str _ ⟨?_, ?_⟩⟩
    · have := Array.all_eq_true'.mp h.1 c (Array.mem_of_getElem? e)
      simpa using this
    · show 1 ≤ sizeLine
      rw [sizeLine_eq]; decide
theorem yields_r {K : PySem.W.Frag} {H0 : Hp} {lo : Int} {n : Nat} (z : n ≤ SZ) : Yields K (L2.Itr lo n) (rangeD lo n) H0 where
  len := by simpa [rangeD, ← sz_eq] using z
  go := fun i H im hi => show i < n by simpa [rangeD] using hi
  stop := fun H im => by simp only [rangeD, List.length_map, List.length_range]; exact Nat.le_refl _
  yld := fun i H v H' x im hx y => by
    obtain ⟨rfl, rfl⟩ := y
    unfold rangeD at hx
    rw [List.getElem?_map] at hx
    cases hr : (List.range n)[i]? with
    | none => rw [hr] at hx; cases hx
    | some j =>
      rw [hr] at hx
      have hj : j = i := by
        obtain ⟨h1, h2⟩ := List.getElem?_eq_some_iff.mp hr
        rw [List.getElem_range] at h2; exact h2.symm
      subst hj
      cases hx
      exact ⟨Same.refl _, .int _⟩
theorem zip2D_get : ∀ {xs ys : List D} {i : Nat} {z : D}, (zip2D xs ys)[i]? = some z → ∃ x y, xs[i]? = some x ∧ ys[i]? = some y ∧ z = .tuple [x, y]
  | [], _, _, _, h => by simp [zip2D] at h
  | _ :: _, [], _, _, h => by simp [zip2D] at h
  | x :: xs, y :: ys, 0, z, h => by simp [zip2D] at h; exact ⟨x, y, rfl, rfl, h.symm⟩
  | x :: xs, y :: ys, i + 1, z, h => by
    obtain ⟨x', y', h1, h2, h3⟩ := zip2D_get (xs := xs) (ys := ys) (i := i) (z := z) (by simpa [zip2D] using h)
    exact ⟨x', y', by simpa using h1, by simpa using h2, h3⟩
theorem zip2D_len : ∀ (xs ys : List D), (zip2D xs ys).length = min xs.length ys.length
  | [], _ => by simp [zip2D]
  | _ :: _, [] => by simp [zip2D]
  | x :: xs, y :: ys => by simp [zip2D, zip2D_len xs ys]
theorem zip3D_get : ∀ {xs ys zs : List D} {i : Nat} {z : D}, (zip3D xs ys zs)[i]? = some z → ∃ x y u, xs[i]? = some x ∧ ys[i]? = some y ∧ zs[i]? = some u ∧ z = .tuple [x, y, u]
  | [], _, _, _, _, h => by simp [zip3D] at h
  | _ :: _, [], _, _, _, h => by simp [zip3D] at h
  | _ :: _, _ :: _, [], _, _, h => by simp [zip3D] at h
  | x :: xs, y :: ys, u :: us, 0, z, h => by simp [zip3D] at h; exact ⟨x, y, u, rfl, rfl, rfl, h.symm⟩
  | x :: xs, y :: ys, u :: us, i + 1, z, h => by
    obtain ⟨x', y', u', h1, h2, h3, h4⟩ := zip3D_get (xs := xs) (ys := ys) (zs := us) (i := i) (z := z) (by simpa [zip3D] using h)
    exact ⟨x', y', u', by simpa using h1, by simpa using h2, by simpa using h3, h4⟩
theorem zip3D_len : ∀ (xs ys zs : List D), (zip3D xs ys zs).length = min (min xs.length ys.length) zs.length
  | [], _, _ => by simp [zip3D]
  | _ :: _, [], _ => by simp [zip3D]
  | _ :: _, _ :: _, [] => by simp [zip3D]
  | x :: xs, y :: ys, z :: zs => by simp [zip3D, zip3D_len xs ys zs]
theorem enumD_get : ∀ {xs : List D} {k : Int} {i : Nat} {z : D}, (enumD k xs)[i]? = some z → ∃ x, xs[i]? = some x ∧ z = .tuple [.int (k + (i : Nat)), x]
  | [], _, _, _, h => by simp [enumD] at h
  | x :: xs, k, 0, z, h => by simp [enumD] at h; exact ⟨x, rfl, by rw [← h]; simp⟩
  | x :: xs, k, i + 1, z, h => by
    obtain ⟨x', h1, h2⟩ := enumD_get (xs := xs) (k := k + 1) (i := i) (z := z) (by simpa [enumD] using h)
    refine ⟨x', by simpa using h1, ?_⟩
    rw [h2]
    have : k + 1 + (i : Int) = k + ((i + 1 : Nat) : Int) := by omega
    rw [this]
theorem enumD_len : ∀ (xs : List D) (k : Int), (enumD k xs).length = xs.length
  | [], _ => rfl
  | x :: xs, k => by simp [enumD, enumD_len xs (k + 1)]
theorem two_line : 2 ≤ sizeLine := by decide
theorem yields_z {K : PySem.W.Frag} {H0 : Hp} {k1 k2 : Sk} {a b : Addr} {vs ws : List V} {xs ys : List D} (f : Src K H0 a vs k1) (g : Src K H0 b ws k2) (lz : vs.length ≤ sizeLine) (r : RepDs K H0 vs xs) (t : RepDs K H0 ws ys) : Yields K (Jz K k1 k2 a b vs ws) (zip2D xs ys) H0 where
  len := by rw [zip2D_len, ← r.length]; exact Nat.le_trans (Nat.min_le_left _ _) lz
  go := fun i H im hi => ⟨f.im im, g.im im, by rw [zip2D_len] at hi; rw [r.length, t.length]; exact hi⟩
  stop := fun H im => ⟨f.im im, g.im im, by rw [zip2D_len, r.length, t.length]⟩
  yld := fun i H v H' x im hx y => by
    obtain ⟨T, p, q, rfl, hn, rfl, e1, e2⟩ := y
    obtain ⟨x1, y1, h1, h2, rfl⟩ := zip2D_get hx
    obtain ⟨v1, g1, g2⟩ := r.get h1
    obtain ⟨w1, g3, g4⟩ := t.get h2
    rw [e1] at g1; cases g1
    rw [e2] at g3; cases g3
    have sm := same_upd (o := .tup [p, q]) hn
    have im2 := im.trans (Same.im sm)
    exact ⟨sm, .tup (SqT.of upd_same) (by show 2 ≤ sizeLine; decide) (.cons (g2.im im2) (.cons (g4.im im2) .nil))⟩
theorem yields_z3 {K : PySem.W.Frag} {H0 : Hp} {k1 k2 k3 : Sk} {a b c : Addr} {vs ws us : List V} {xs ys zs : List D} (f : Src K H0 a vs k1) (g : Src K H0 b ws k2) (h : Src K H0 c us k3) (lz : vs.length ≤ sizeLine) (r : RepDs K H0 vs xs) (t : RepDs K H0 ws ys) (u : RepDs K H0 us zs) :
    Yields K (Jz3 K k1 k2 k3 a b c vs ws us) (zip3D xs ys zs) H0 where
  len := by rw [zip3D_len, ← r.length]; exact Nat.le_trans (Nat.min_le_left _ _) (Nat.le_trans (Nat.min_le_left _ _) lz)
  go := fun i H im hi => ⟨f.im im, g.im im, h.im im, by rw [zip3D_len] at hi; rw [r.length, t.length, u.length]; exact hi⟩
  stop := fun H im => ⟨f.im im, g.im im, h.im im, by rw [zip3D_len, r.length, t.length, u.length]⟩
  yld := fun i H v H' x im hx y => by
    obtain ⟨T, p, q, o, rfl, hn, rfl, e1, e2, e3⟩ := y
    obtain ⟨x1, y1, z1, h1, h2, h3, rfl⟩ := zip3D_get hx
    obtain ⟨v1, g1, g2⟩ := r.get h1
    obtain ⟨w1, g3, g4⟩ := t.get h2
    obtain ⟨u1, g5, g6⟩ := u.get h3
    rw [e1] at g1; cases g1
    rw [e2] at g3; cases g3
    rw [e3] at g5; cases g5
    have sm := same_upd (o := .tup [p, q, o]) hn
    have im2 := im.trans (Same.im sm)
    exact ⟨sm, .tup (SqT.of upd_same) (by show 3 ≤ sizeLine; decide) (.cons (g2.im im2) (.cons (g4.im im2) (.cons (g6.im im2) .nil)))⟩
theorem yields_e {K : PySem.W.Frag} {H0 : Hp} {k : Sk} {a : Addr} {vs : List V} {xs : List D} (f : Src K H0 a vs k) (lz : vs.length ≤ sizeLine) (r : RepDs K H0 vs xs) : Yields K (Je K k a vs) (enumD 0 xs) H0 where
  len := by rw [enumD_len, ← r.length]; exact lz
  go := fun i H im hi => ⟨f.im im, by rw [enumD_len] at hi; rw [r.length]; exact hi⟩
  stop := fun H im => ⟨f.im im, by rw [enumD_len, r.length]⟩
  yld := fun i H v H' x im hx y => by
    obtain ⟨T, p, rfl, hn, rfl, e1⟩ := y
    obtain ⟨x1, h1, rfl⟩ := enumD_get hx
    obtain ⟨v1, g1, g2⟩ := r.get h1
    rw [e1] at g1; cases g1
    have sm := same_upd (o := .tup [.int (i : Nat), p]) hn
    have im2 := im.trans (Same.im sm)
    refine ⟨sm, .tup (SqT.of upd_same) (by show 2 ≤ sizeLine; decide) (.cons ?_ (.cons (g2.im im2) .nil))⟩
    rw [Int.zero_add]; exact .int _
end Q

namespace Q
open PySem PySem.Spec PyProof.Rows L2
variable [LamT]
/-! ### slots that are stored -/
theorem gt_none {ρ : Rho} {i : Nat} (h : ρ.length ≤ i) : gt ρ i = none := by
  unfold gt
  rw [List.getElem?_eq_none h]
theorem gt_set {ρ : Rho} {i k : Nat} {s : Option SV} : gt (ρ.set i s) k = if k = i ∧ i < ρ.length then s else gt ρ k := by
  by_cases h : k = i
  · subst h
    by_cases hl : k < ρ.length
    · rw [gt_set_same hl, if_pos ⟨rfl, hl⟩]
    · rw [if_neg (fun z => hl z.2), List.set_eq_of_length_le (by omega)]
  · rw [gt_set_ne (Ne.symm h), if_neg (fun z => h z.1)]
theorem RelE.set {K : PySem.W.Frag} {σ : St} {H : Hp} {ρ : Rho} {i : Nat} {v : V} {s : SV} (r : RelE K σ H ρ) (h : RepS K H v s) (n : s.own = true → ∀ a, v = .ref a → ¬ OwnA σ ρ a) : RelE K (σ.set i (some v)) H (ρ.set i (some s)) := by
  have hlen := r.len
  refine ⟨by rw [List.length_set, List.length_set]; exact r.len, fun k t e => ?_, fun j k s1 s2 a e1 e2 o1 o2 a1 a2 => ?_, r.tab⟩
  · rw [gt_set] at e
    by_cases hk : k = i ∧ i < ρ.length
    · rw [if_pos hk] at e
      cases e
      obtain ⟨rfl, hl⟩ := hk
      exact ⟨v, List.getElem?_set_self (by omega), h⟩
    · rw [if_neg hk] at e
      obtain ⟨w, w1, w2⟩ := r.at_ k t e
      have := gt_lt e
      have hne : i ≠ k := fun z => hk ⟨z.symm, by omega⟩
      exact ⟨w, by rw [List.getElem?_set_ne hne]; exact w1, w2⟩
  · have key : ∀ (k : Nat) (s2 : SV), gt (ρ.set i (some s)) k = some s2 → s2.own = true → (σ.set i (some v))[k]? = some (some (.ref a)) → (k = i ∧ v = .ref a ∧ s.own = true ∧ i < ρ.length) ∨ (k ≠ i ∧ gt ρ k = some s2 ∧ σ[k]? = some (some (.ref a))) := fun k s2 e o a1 => by
      rw [gt_set] at e
      by_cases hk : k = i ∧ i < ρ.length
      · rw [if_pos hk] at e
        cases e
        obtain ⟨rfl, hl⟩ := hk
        rw [List.getElem?_set_self (by omega)] at a1
        cases a1
        exact .inl ⟨rfl, rfl, o, hl⟩
      · rw [if_neg hk] at e
        have := gt_lt e
        have hne : i ≠ k := fun z => hk ⟨z.symm, by omega⟩
        rw [List.getElem?_set_ne hne] at a1
        exact .inr ⟨Ne.symm hne, e, a1⟩
    rcases key j s1 e1 o1 a1 with ⟨rfl, hv, ho, _⟩ | ⟨hj, g1, b1⟩
    · rcases key k s2 e2 o2 a2 with ⟨rfl, _⟩ | ⟨hk, g2, b2⟩
      · rfl
      · exact absurd ⟨k, s2, g2, o2, b2⟩ (n ho a hv)
    · rcases key k s2 e2 o2 a2 with ⟨rfl, hv, ho, _⟩ | ⟨hk, g2, b2⟩
      · exact absurd ⟨j, s1, g1, o1, b1⟩ (n ho a hv)
      · exact r.dis j k s1 s2 a g1 g2 o1 o2 b1 b2
theorem OwnA.set {σ : St} {ρ : Rho} {i : Nat} {v : V} {s : SV} {a : Addr} (hl : σ.length = ρ.length) (h : OwnA (σ.set i (some v)) (ρ.set i (some s)) a) : OwnA σ ρ a ∨ (s.own = true ∧ v = .ref a) := by
  obtain ⟨k, t, e, o, ea⟩ := h
  rw [gt_set] at e
  by_cases hk : k = i ∧ i < ρ.length
  · rw [if_pos hk] at e
    cases e
    obtain ⟨rfl, hl2⟩ := hk
    rw [List.getElem?_set_self (by omega)] at ea
    cases ea
    exact .inr ⟨o, rfl⟩
  · rw [if_neg hk] at e
    have := gt_lt e
    have hne : i ≠ k := fun z => hk ⟨z.symm, by omega⟩
    rw [List.getElem?_set_ne hne] at ea
    exact .inl ⟨k, t, e, o, ea⟩
mutual
def gT (K : PySem.W.Frag) : Tg → TG
  | .n i => gName i
  | .t ts => gTup K ts.len (gTs K ts)
def gTs (K : PySem.W.Frag) : Tgs → TGs
  | .n => gNil
  | .c a r => gCons (gT K a) (gTs K r)
end
theorem chkTs_len {Γ : Kx} {sc : Scope} {fn : Str → Bool} : ∀ {ts : Tgs} {es : List Expr}, chkTs Γ sc fn ts es = true → es.length = ts.len
  | .n, [], _ => rfl
  | .n, _ :: _, h => by cases h
  | .c _ _, [], h => by cases h
  | .c a r, e :: es, h => by
    simp only [chkTs, Bool.and_eq_true] at h
    simp [Tgs.len, chkTs_len h.2]
theorem chkT_shape {Γ : Kx} {sc : Scope} {fn : Str → Bool} {t : Tg} {e : Expr} (h : chkT Γ sc fn t e = true) (env : PySem.Env) (r : List Expr) : assignEach (e :: r) env = (false, assign e env) :: assignEach r env := by
  cases t with
  | n i => cases e <;> first | rfl | cases h
  | t ts => cases e <;> first | rfl | cases h
theorem chkTs_each {Γ : Kx} {sc : Scope} {fn : Str → Bool} (env : PySem.Env) : ∀ {ts : Tgs} {es : List Expr}, chkTs Γ sc fn ts es = true → (assignEach es env).length = ts.len ∧ (assignEach es env).findIdx? (·.1) = none
  | .n, [], _ => ⟨rfl, rfl⟩
  | .n, _ :: _, h => by cases h
  | .c _ _, [], h => by cases h
  | .c a r, e :: es, h => by
    simp only [chkTs, Bool.and_eq_true] at h
    obtain ⟨h1, h2⟩ := chkTs_each env h.2
    rw [chkT_shape h.1]
    refine ⟨by simp [Tgs.len, h1], ?_⟩
    rw [List.findIdx?_cons]
    simp [h2]
section
variable {X : Cx} {C : Call}
mutual
theorem pg_T {Γ : Kx} {sc : Scope} {fn : Str → Bool} (c : CtxOk Γ C Z sc fn X) : ∀ (t : Tg) (e : Expr), chkT Γ sc fn t e = true → PG X e (gT X.K t)
  | .n i, e, h => by
    have h : stB Γ sc fn i e = true := h
    cases e with
    | Name x p =>
      simp only [stB, Bool.and_eq_true, decide_eq_true_eq, Bool.or_eq_true] at h
      obtain ⟨⟨⟨h1, h2⟩, h3⟩, h4⟩ := h
      refine pg_name (by rw [c.N]; exact c.nd) (by rw [c.N]; exact h1) (by rw [c.hsc]; exact loc_of h2) ?_
      rcases h3 with h3 | h3
      · exact .inl (by rw [c.fnX _ (okName_lam h4)]; exact h3)
      · exact .inr (by rw [c.hsc]; exact local_of h3)
    | _ => cases h
  | .t ts, e, h => by
    cases e with
    | Tuple es k p =>
      have h : chkTs Γ sc fn ts es = true := h
      obtain ⟨h1, h2⟩ := chkTs_each X.env h
      exact pg_tup c.calm (pg_Ts c ts es h) h1 h2
    | _ => cases h
theorem pg_Ts {Γ : Kx} {sc : Scope} {fn : Str → Bool} (c : CtxOk Γ C Z sc fn X) : ∀ (t : Tgs) (es : List Expr), chkTs Γ sc fn t es = true → PGs X es (gTs X.K t)
  | .n, [], _ => pgs_nil
  | .n, _ :: _, h => by cases h
  | .c _ _, [], h => by cases h
  | .c a r, e :: es, h => by
    simp only [chkTs, Bool.and_eq_true] at h
    exact pgs_cons (pg_T c a e h.1) (pg_Ts c r es h.2) (by rw [chkT_shape h.1]; rfl)
end
mutual
theorem setTg_ok {K : PySem.W.Frag} {H : Hp} : ∀ (t : Tg) (v : V) (x : D) (σ : St) (ρ ρ' : Rho) (Q : St → Hp → Prop), setTg t x ρ = some ρ' → RelE K σ H ρ → RepD K H v x →
    (∀ σ', RelE K σ' H ρ' → σ'.length = σ.length → (∀ k, k ∉ t.slots → σ'[k]? = σ[k]?) → (∀ a, OwnA σ' ρ' a → OwnA σ ρ a) → Q σ' H) → gT K t v σ H Q
  | .n i, v, x, σ, ρ, ρ', Q, e, r, h, q => by
    simp only [setTg, Option.some.injEq] at e
    subst e
    refine q _ (r.set h fun z => nomatch z) (by rw [List.length_set]) (fun k hk => List.getElem?_set_ne fun z => hk (by simp [Tg.slots, z])) fun a o => ?_
    rcases OwnA.set r.len o with o | ⟨o, _⟩
    · exact o
    · cases o
  | .t ts, v, x, σ, ρ, ρ', Q, e, r, h, q => by
    cases x with
    | tuple xs =>
      have e : setTgs ts xs ρ = some ρ' := e
      cases h with | @tup a vs _ h z rr =>
      have hl : vs.length = ts.len := by rw [rr.length]; exact setTgs_len e
      exact ⟨a, vs, rfl, h, hl, setTgs_ok ts vs xs σ ρ ρ' Q e r rr q⟩
    | _ => simp [setTg] at e
theorem setTgs_ok {K : PySem.W.Frag} {H : Hp} : ∀ (t : Tgs) (vs : List V) (xs : List D) (σ : St) (ρ ρ' : Rho) (Q : St → Hp → Prop), setTgs t xs ρ = some ρ' → RelE K σ H ρ → RepDs K H vs xs →
    (∀ σ', RelE K σ' H ρ' → σ'.length = σ.length → (∀ k, k ∉ t.slots → σ'[k]? = σ[k]?) → (∀ a, OwnA σ' ρ' a → OwnA σ ρ a) → Q σ' H) → gTs K t vs σ H Q
  | .n, vs, xs, σ, ρ, ρ', Q, e, r, h, q => by
    cases h with
    | nil =>
      simp only [setTgs, Option.some.injEq] at e
      subst e
      exact ⟨rfl, q σ r rfl (fun _ _ => rfl) fun _ z => z⟩
    | cons _ _ => simp [setTgs] at e
  | .c a t, vs, xs, σ, ρ, ρ', Q, e, r, h, q => by
    cases h with
    | nil => simp [setTgs] at e
    | cons hd tl =>
      simp only [setTgs] at e
      split at e
      · rename_i ρ1 e1
        refine ⟨_, _, rfl, setTg_ok a _ _ σ ρ ρ1 _ e1 r hd fun σ1 r1 l1 k1 o1 => ?_⟩
        refine setTgs_ok t _ _ σ1 ρ1 ρ' _ e r1 tl fun σ2 r2 l2 k2 o2 => q σ2 r2 (l2.trans l1) (fun k hk => ?_) fun a h => o1 a (o2 a h)
        simp only [Tgs.slots, List.mem_append, not_or] at hk
        exact (k2 k hk.2).trans (k1 k hk.1)
      · cases e
theorem setTgs_len : ∀ {t : Tgs} {xs : List D} {ρ ρ' : Rho}, setTgs t xs ρ = some ρ' → xs.length = t.len
  | .n, [], _, _, _ => rfl
  | .n, _ :: _, _, _, e => by simp [setTgs] at e
  | .c _ _, [], _, _, e => by simp [setTgs] at e
  | .c a t, x :: xs, ρ, ρ', e => by
    simp only [setTgs] at e
    split at e
    · simp [Tgs.len, setTgs_len e]
    · cases e
end
end
/-! ### a comprehension's own names -/
theorem wipeR_len (ρ : Rho) : ∀ vs : List Nat, (wipeR ρ vs).length = ρ.length
  | [] => rfl
  | v :: vs => by simp [wipeR, wipeR_len ρ vs]
theorem gt_wipe {ρ : Rho} {k : Nat} : ∀ {vs : List Nat}, gt (wipeR ρ vs) k = if k ∈ vs then none else gt ρ k
  | [] => by simp [wipeR]
  | v :: vs => by
    simp only [wipeR]
    rw [gt_set, gt_wipe (vs := vs)]
    by_cases h : k = v
    · subst h
      by_cases hl : k < (wipeR ρ vs).length
      · simp [hl]
      · have : gt ρ k = none := gt_none (by rw [wipeR_len] at hl; omega)
        simp [this]
    · have : (k ∈ v :: vs) = (k ∈ vs) := by simp [h]
      simp only [this, h, false_and, if_false]
theorem backR_len (ρ0 ρ : Rho) : ∀ vs : List Nat, (backR ρ0 ρ vs).length = ρ.length
  | [] => rfl
  | v :: vs => by simp [backR, backR_len ρ0 ρ vs]
theorem gt_back {ρ0 ρ : Rho} (hl : ρ0.length = ρ.length) {k : Nat} : ∀ {vs : List Nat}, gt (backR ρ0 ρ vs) k = if k ∈ vs then gt ρ0 k else gt ρ k
  | [] => by simp [backR]
  | v :: vs => by
    simp only [backR]
    rw [gt_set, gt_back hl (vs := vs)]
    by_cases h : k = v
    · subst h
      by_cases hk : k < (backR ρ0 ρ vs).length
      · simp only [hk, and_self, if_true, List.mem_cons, true_or]
        rw [backR_len] at hk
        unfold gt
        rw [List.getElem?_eq_getElem (by omega)]
        cases ρ0[k] <;> rfl
      · rw [backR_len] at hk
        have h1 : gt ρ k = none := gt_none (by omega)
        have h2 : gt ρ0 k = none := gt_none (by omega)
        simp [h1, h2]
        intro z
        rw [backR_len] at z
        exact absurd z hk
    · have : (k ∈ v :: vs) = (k ∈ vs) := by simp [h]
      simp only [this, h, false_and, if_false]
theorem wipe_at {σ : St} {k : Nat} {v : V} {vs : List Nat} (h : σ[k]? = some (some v)) (hk : k ∉ vs) : (wipe σ vs)[k]? = some (some v) := by
  rw [wipe_out hk]; exact h
theorem RelE.wipe {K : PySem.W.Frag} {σ : St} {H : Hp} {ρ : Rho} (r : RelE K σ H ρ) (vs : List Nat) : RelE K (wipe σ vs) H (wipeR ρ vs) := by
  refine ⟨by rw [wipe_length, wipeR_len]; exact r.len, fun k s e => ?_, fun i j s t a e1 e2 o1 o2 a1 a2 => ?_, r.tab⟩
  · rw [gt_wipe] at e
    split at e
    · cases e
    · rename_i hk
      obtain ⟨v, h1, h2⟩ := r.at_ k s e
      exact ⟨v, wipe_at h1 hk, h2⟩
  · rw [gt_wipe] at e1 e2
    split at e1
    · cases e1
    split at e2
    · cases e2
    exact r.dis i j s t a e1 e2 o1 o2 (wipe_some a1).1 (wipe_some a2).1
theorem OwnA.unwipe {σ : St} {ρ : Rho} {vs : List Nat} {a : Addr} (h : OwnA (wipe σ vs) (wipeR ρ vs) a) : ∃ k s, k ∉ vs ∧ gt ρ k = some s ∧ s.own = true ∧ σ[k]? = some (some (.ref a)) := by
  obtain ⟨k, s, e, o, ea⟩ := h
  rw [gt_wipe] at e
  split at e
  · cases e
  · rename_i hk
    exact ⟨k, s, hk, e, o, (wipe_some ea).1⟩
theorem OwnA.wiped {σ : St} {ρ : Rho} {vs : List Nat} {a : Addr} {k : Nat} {s : SV} (hk : k ∉ vs) (e : gt ρ k = some s) (o : s.own = true) (ea : σ[k]? = some (some (.ref a))) : OwnA (wipe σ vs) (wipeR ρ vs) a :=
  ⟨k, s, by rw [gt_wipe, if_neg hk]; exact e, o, wipe_at ea hk⟩
theorem wipe_eq {σ σ' : St} (hl : σ'.length = σ.length) {vs : List Nat} (h : ∀ k, k ∉ vs → σ'[k]? = σ[k]?) : wipe σ' vs = wipe σ vs := by
  refine List.ext_getElem? fun k => ?_
  by_cases hk : k ∈ vs
  · have none_at : ∀ (σ : St) (vs : List Nat), k ∈ vs → (wipe σ vs)[k]? = if k < σ.length then some none else none := by
      intro σ vs
      induction vs with
      | nil => intro z; cases z
      | cons v r ih =>
        intro z
        unfold L2.wipe
        by_cases hv : v = k
        · subst hv
          by_cases hs : v < σ.length
          · rw [List.getElem?_set_self (by rw [wipe_length]; exact hs), if_pos hs]
          · rw [if_neg hs, List.getElem?_eq_none (by rw [List.length_set, wipe_length]; omega)]
        · rw [List.getElem?_set_ne hv]
          rcases List.mem_cons.mp z with e | e
          · exact absurd e.symm hv
          · exact ih e
    rw [none_at σ' vs hk, none_at σ vs hk, hl]
  · rw [wipe_out hk, wipe_out hk]
    exact h k hk
end Q

namespace Q
open PySem PySem.Spec PyProof.Rows L2
variable [LamT]
/-! ### a comprehension -/
theorem Aft.imD {K : PySem.W.Frag} {σ : St} {ρ : Rho} {H H' : Hp} {D : Addr} {u0 : HO} (r : RelE K σ H ρ) (hD : H D = some u0) (mu : Mut (some u0)) (kp : ∀ a u, H a = some u → a ≠ D → ¬ OwnA σ ρ a → ∀ (_nt : NT u := by first | assumption | nofun), H' a = some u) : Im H H' := by
  refine ⟨fun x xs h => ?_, fun x o u h => ?_⟩
  · have nD : x ≠ D := fun z => by subst z; rcases h with h | ⟨o, h⟩ <;> (rw [hD] at h; cases h; exact mu.elim)
    rcases h with h | ⟨o, h⟩
    · refine .inl (kp _ _ h nD fun q => ?_)
      rcases q.lst r with ⟨vs, e⟩ | ⟨vs, e⟩ <;> (rw [h] at e; cases e)
    · refine .inr ⟨o, kp _ _ h nD fun q => ?_⟩
      rcases q.lst r with ⟨vs, e⟩ | ⟨vs, e⟩ <;> (rw [h] at e; cases e)
  · have nD : x ≠ D := fun z => by subst z; rw [hD] at h; cases h; exact mu.elim
    refine kp _ _ h nD fun q => ?_
    rcases q.lst r with ⟨vs, e⟩ | ⟨vs, e⟩ <;> (rw [h] at e; cases e)
theorem im_updM {H : Hp} {D : Addr} {u0 w0 : HO} (hD : H D = some u0) (mu : Mut (some u0)) : Im H (upd H D w0) := by
  refine ⟨fun x xs h => ?_, fun x o u h => ?_⟩
  · have nD : x ≠ D := fun z => by subst z; rcases h with h | ⟨o, h⟩ <;> (rw [hD] at h; cases h; exact mu.elim)
    rcases h with h | ⟨o, h⟩
    · exact .inl (by rw [upd_ne nD]; exact h)
    · exact .inr ⟨o, by rw [upd_ne nD]; exact h⟩
  · have nD : x ≠ D := fun z => by subst z; rw [hD] at h; cases h; exact mu.elim
    rw [upd_ne nD]; exact h
theorem im_updD {H : Hp} {D : Addr} {vs ws : List V} (hD : H D = some (.lst vs)) : Im H (upd H D (.lst ws)) := im_updM hD trivial
theorem RelE.updD {K : PySem.W.Frag} {σ : St} {ρ : Rho} {H : Hp} {D : Addr} {u0 w0 : HO} (r : RelE K σ H ρ) (hD : H D = some u0) (mk : OwnK u0) (n : ¬ OwnA σ ρ D) : RelE K σ (upd H D w0) ρ := by
  refine ⟨r.len, fun i s e => ?_, r.dis, tabs_upd r.tab hD mk⟩
  obtain ⟨v, h1, h2⟩ := r.at_ i s e
  exact ⟨v, h1, h2.apart (im_updM hD mk.mu) fun o z => n ⟨i, _, e, o, by rw [h1, z]⟩⟩
abbrev lcStep (C : Call) (elt : E) (tg : Tg) (cs : Es) (vs : List Nat) : D → Rho → Res (Option D) := fun x ρ => optR (setTg tg x (wipeR ρ vs)) fun ρ => (evC C cs ρ).bind fun k ρ => if k then (ev C false elt ρ).bind fun o ρ => (take o ρ).bind fun y ρ => .ok (some y) ρ else .ok none ρ
/-- the state within: σ, ρ1, H1 at the start, the new list at Dl -/
structure LcAt (K : PySem.W.Frag) (σ : St) (vs : List Nat) (ρ1 : Rho) (H1 : Hp) (Dl : Addr) (ρc : Rho) (Hc : Hp) (acc : List D) : Prop where
  len : ρc.length = ρ1.length
  rel : RelE K (wipe σ vs) Hc (wipeR ρc vs)
  kp : ∀ a u, H1 a = some u → a ≠ Dl → ¬ OwnA (wipe σ vs) (wipeR ρ1 vs) a → ∀ (_nt : NT u := by first | assumption | nofun), Hc a = some u
  sub : ∀ a, OwnA (wipe σ vs) (wipeR ρc vs) a → OwnA (wipe σ vs) (wipeR ρ1 vs) a
  trk : ∀ a, Hc a = none → H1 a = none
  im : Im H1 Hc
  at_ : ∃ accV, Hc Dl = some (.lst accV) ∧ RepDs K Hc accV acc
/-- the reading of a comprehension, from what it is worth -/
theorem lc_read {K : PySem.W.Frag} {C : Call} {elt : E} {tg : Tg} {it : It} {cs : Es} {vs : List Nat} {σ : St} {H : Hp} {Q : VK} (hv : ∀ j ∈ tg.slots, j ∈ vs)
    (h : ∃ ρ, RelE K σ H ρ ∧ (ev C false (.lc elt tg it cs vs) ρ).gx (W := zk Z σ ρ H) (PoE K σ ρ H Q)) : tLc (tI K Z C it) (gT K tg) (tCs K Z0 C cs) (tFz (tE K Z0 C false elt)) vs σ H Q := by
  obtain ⟨ρ, rel, g⟩ := h
  have g : ((evI C it ρ).bind fun xs ρ1 => (lcGo (lcStep C elt tg cs vs) xs ρ1).nox.bind fun ys ρ2 => .ok (.v (.ml ys)) (backR ρ1 ρ2 vs)).gx (W := zk Z σ ρ H) (PoE K σ ρ H Q) := g
  rw [gx_bind] at g
  refine ⟨ρ, rel, g.mono fun xs ρ1 g1 J H1 aft Y Dl hD => ?_⟩
  rw [gx_bind, gx_nox] at g1
  have sm : Same H1 (upd H1 Dl (.lst [])) := same_upd hD
  have rel1 : RelE K σ (upd H1 Dl (.lst [])) ρ1 := aft.rel.same sm
  have nD : ∀ (vs : List Nat) (ρ : Rho), ¬ (∃ vs', H1 Dl = some (.lst vs')) := fun _ _ ⟨_, z⟩ => by rw [hD] at z; cases z
  have nO : ¬ OwnA σ ρ1 Dl := fun z => by rcases z.lst aft.rel with ⟨_, z⟩ | ⟨_, z⟩ <;> (rw [hD] at z; cases z)
  have nOw : ¬ OwnA (wipe σ vs) (wipeR ρ1 vs) Dl := fun z => by
    obtain ⟨k, s, _, e, o, ea⟩ := OwnA.unwipe z
    exact nO ⟨k, s, e, o, ea⟩
  refine ⟨fun i m Hc => m = xs.length - i ∧ i ≤ xs.length ∧ ∃ ρc acc, LcAt K σ vs ρ1 (upd H1 Dl (.lst [])) Dl ρc Hc acc ∧ acc.length ≤ i ∧ (lcGo (lcStep C elt tg cs vs) (xs.drop i) ρc).gx (W := fun _ => False) fun ys ρ2 => PoE K σ ρ H Q (.v (.ml (acc ++ ys))) (backR ρ1 ρ2 vs),
    ⟨xs.length, by simp, Nat.zero_le _, ρ1, [], ⟨rfl, rel1.wipe vs, fun a u z _ _ _ => z, fun a z => z, fun a z => z, Im.refl _, [], upd_same, .nil⟩, Nat.le_refl _, by rw [List.drop_zero]; exact g1.mono fun ys ρ2 q => q⟩, ?_⟩
  rintro i m Hc ⟨rfl, hi, ρc, acc, L, hz, g2⟩
  have im1 : Im H1 Hc := (Same.im sm).trans L.im
  by_cases hlt : i < xs.length
  · refine .inr ⟨Y.go i Hc im1 hlt, fun H' => i + 1 ≤ xs.length ∧ ∃ ρc acc, LcAt K σ vs ρ1 (upd H1 Dl (.lst [])) Dl ρc H' acc ∧ acc.length ≤ i + 1 ∧ (lcGo (lcStep C elt tg cs vs) (xs.drop (i + 1)) ρc).gx (W := fun _ => False) fun ys ρ2 => PoE K σ ρ H Q (.v (.ml (acc ++ ys))) (backR ρ1 ρ2 vs),
      fun H' ⟨h1, h2⟩ => ⟨xs.length - (i + 1), by omega, rfl, h1, h2⟩, fun v H' y => ?_⟩
    obtain ⟨sm2, rx⟩ := Y.yld i Hc v H' xs[i] im1 (List.getElem?_eq_getElem hlt) y
    rw [List.drop_eq_getElem_cons hlt] at g2
    simp only [lcGo] at g2
    rw [gx_bind] at g2
    unfold lcStep at g2
    rw [gx_optR] at g2
    obtain ⟨ρt, et, g2⟩ := g2
    have relw : RelE K (wipe σ vs) H' (wipeR ρc vs) := L.rel.same sm2
    refine setTg_ok tg v xs[i] _ _ ρt _ et relw rx fun σ2 r2 l2 k2 o2 => ⟨?_, ?_⟩
    · have e1 : wipe (wipe σ vs) vs = wipe σ vs := by
        refine wipe_eq (wipe_length σ vs) fun k hk => wipe_out hk
      rw [← e1]
      exact wipe_eq l2 fun k hk => k2 k fun z => hk (hv k z)
    have ew : wipe σ2 vs = wipe σ vs := by
      have e1 : wipe (wipe σ vs) vs = wipe σ vs := wipe_eq (wipe_length σ vs) fun k hk => wipe_out hk
      rw [← e1]
      exact wipe_eq l2 fun k hk => k2 k fun z => hk (hv k z)
    rw [gx_bind] at g2
    refine ⟨ρt, r2, g2.mono fun k ρ3 g3 H3 a3 => ?_⟩
    -- what is known behind the tests, or behind the element
    have lenT : ρt.length = ρ1.length := by rw [← r2.len, l2, wipe_length, aft.rel.len]
    have step : ∀ {ρ4 : Rho} {H4 : Hp} {acc' : List D}, Aft K σ2 ρt H' ρ4 H4 → (∃ accV, H4 Dl = some (.lst accV) ∧ RepDs K H4 accV acc') → LcAt K σ vs ρ1 (upd H1 Dl (.lst [])) Dl ρ4 H4 acc' := fun {ρ4 H4 acc'} a4 ha => by
      have sub4 : ∀ a, OwnA (wipe σ vs) (wipeR ρ4 vs) a → OwnA (wipe σ vs) (wipeR ρ1 vs) a := fun a z => by
        rw [← ew] at z
        obtain ⟨k, s, hk, e, o, ea⟩ := OwnA.unwipe z
        exact L.sub a (o2 a (a4.sub a ⟨k, s, e, o, ea⟩))
      have kp4 : ∀ a u, upd H1 Dl (.lst []) a = some u → a ≠ Dl → ¬ OwnA (wipe σ vs) (wipeR ρ1 vs) a → NT u → H4 a = some u := fun a u z nd n nt =>
        a4.kp a u (sm2 a u (L.kp a u z nd n)) fun q => n (L.sub a (o2 a q))
      refine ⟨?_, by rw [← ew]; exact a4.rel.wipe vs, kp4, sub4, fun a z => ?_, ?_, ha⟩
      · rw [← a4.rel.len, l2, wipe_length, aft.rel.len]
      · exact L.trk a (sm2.free (a4.trk a z))
      · exact L.im.trans ((Same.im sm2).trans (a4.im r2))
    have nO2 : ¬ OwnA σ2 ρt Dl := fun z => nOw (L.sub _ (o2 _ z))
    obtain ⟨accV, hA, rA⟩ := L.at_
    have hA' : H' Dl = some (.lst accV) := sm2 _ _ hA
    cases k with
    | false =>
      simp only [Bool.false_eq_true, if_false] at g3 ⊢
      have hA3 : H3 Dl = some (.lst accV) := a3.kp _ _ hA' nO2
      refine ⟨hlt, ρ3, acc, step a3 ⟨accV, hA3, rA.im ((Same.im sm2).trans (a3.im r2))⟩, Nat.le_succ_of_le hz, ?_⟩
      have g3 : ((lcGo (lcStep C elt tg cs vs) (xs.drop (i + 1)) ρ3).bind fun ys ρ => Res.ok ((none : Option D).toList ++ ys) ρ).gx (W := fun _ => False) _ := g3
      rw [gx_bind] at g3
      exact g3.mono fun ys ρ2 q => q
    | true =>
      simp only [if_true] at g3 ⊢
      rw [gx_bind] at g3
      refine ⟨ρ3, a3.rel, g3.mono fun o ρ4 g4 w H4 a4 ro fr => ?_⟩
      rw [gx_bind] at g4
      have b4 : Aft K σ2 ρt H' ρ4 H4 := a3.trans a4
      refine take_fz b4 ro (fr.aft a3) g4 fun d ρ5 H5 g5 b5 i5 s5 r5 k5 => .done ?_
      have hA5 : H5 Dl = some (.lst accV) := b5.kp _ _ hA' nO2
      have rA5 : RepDs K H5 accV acc := rA.im ((Same.im sm2).trans (b5.im r2))
      have hlen : accV.length = acc.length := rA5.length
      refine ⟨accV, hA5, by rw [hlen]; exact Nat.lt_of_le_of_lt hz (Nat.lt_of_lt_of_le hlt Y.len), hlt, ρ5, acc ++ [d], ?_, by rw [List.length_append]; exact Nat.add_le_add_right hz 1, ?_⟩
      · have L5 := step b5 ⟨accV, hA5, rA5⟩
        have n5 : ¬ OwnA (wipe σ vs) (wipeR ρ5 vs) Dl := fun z => nOw (L5.sub _ z)
        refine ⟨L5.len, L5.rel.updD hA5 (.inl ⟨_, rfl⟩) n5, fun a u z nd n nt => by rw [upd_ne nd]; exact L5.kp a u z nd n, L5.sub, fun a z => ?_, L5.im.trans (im_updD hA5), _, upd_same, (rA5.append (.cons r5 .nil)).im (im_updD hA5)⟩
        by_cases ha : a = Dl
        · subst ha; rw [upd_same] at z; cases z
        · rw [upd_ne ha] at z; exact L5.trk a z
      · have g5 : ((lcGo (lcStep C elt tg cs vs) (xs.drop (i + 1)) ρ5).bind fun ys ρ => Res.ok ((some d : Option D).toList ++ ys) ρ).gx (W := fun _ => False) _ := g5
        rw [gx_bind] at g5
        exact g5.mono fun ys ρ2 q => by
          have e : acc ++ [d] ++ ys = acc ++ ((some d : Option D).toList ++ ys) := by simp
          rw [e]; exact q
  · have e : i = xs.length := by omega
    subst e
    refine .inl ⟨Y.stop Hc im1, ?_⟩
    rw [List.drop_length] at g2
    have g2 : PoE K σ ρ H Q (.v (.ml (acc ++ []))) (backR ρ1 ρc vs) := g2
    rw [List.append_nil] at g2
    obtain ⟨accV, hA, rA⟩ := L.at_
    have hl1 : ρ1.length = ρc.length := L.len.symm
    -- an own one of a wiped slot is left alone
    have own1 : ∀ (k : Nat) (s : SV) (a : Addr), k ∈ vs → gt ρ1 k = some s → s.own = true → σ[k]? = some (some (.ref a)) → ¬ OwnA (wipe σ vs) (wipeR ρ1 vs) a := fun k s a hk e o ea z => by
      obtain ⟨j, t, hj, e2, o2, ea2⟩ := OwnA.unwipe z
      exact hj (by rw [aft.rel.dis j k t s a e2 e o2 o ea2 ea]; exact hk)
    have relB : RelE K σ Hc (backR ρ1 ρc vs) := by
      refine ⟨by rw [backR_len, L.len]; exact aft.rel.len, fun k s e => ?_, fun j k s t a e1 e2 o1 o2 a1 a2 => ?_, L.rel.tab⟩
      · rw [gt_back hl1] at e
        split at e
        · rename_i hk
          obtain ⟨v, h1, h2⟩ := aft.rel.at_ k s e
          refine ⟨v, h1, ?_⟩
          cases s with
          | d x => exact RepD.im im1 h2
          | ml ys =>
            obtain ⟨a, us, rfl, q2, q3, q4⟩ := h2
            have nd : a ≠ Dl := fun z => by subst z; rw [hD] at q2; cases q2
            exact ⟨a, us, rfl, L.kp a _ (sm a _ q2) nd (own1 k _ a hk e rfl h1), q3, q4.im im1⟩
          | md ys =>
            obtain ⟨a, ks, rfl, q2, q3⟩ := h2
            have nd : a ≠ Dl := fun z => by subst z; rw [hD] at q2; cases q2
            exact ⟨a, ks, rfl, L.kp a _ (sm a _ q2) nd (own1 k _ a hk e rfl h1), q3.im im1⟩
          | rl _ => exact RepS.rlIm im1 h2
        · rename_i hk
          obtain ⟨v, h1, h2⟩ := L.rel.at_ k s (by rw [gt_wipe, if_neg hk]; exact e)
          exact ⟨v, (wipe_some h1).1, h2⟩
      · have cls : ∀ (k : Nat) (s : SV), gt (backR ρ1 ρc vs) k = some s → s.own = true → σ[k]? = some (some (.ref a)) → (k ∈ vs ∧ gt ρ1 k = some s) ∨ (k ∉ vs ∧ gt ρc k = some s ∧ ∃ j t, j ∉ vs ∧ gt ρ1 j = some t ∧ t.own = true ∧ σ[j]? = some (some (.ref a))) := fun k s e o ea => by
          rw [gt_back hl1] at e
          split at e
          · rename_i hk; exact .inl ⟨hk, e⟩
          · rename_i hk
            exact .inr ⟨hk, e, OwnA.unwipe (L.sub a (OwnA.wiped hk e o ea))⟩
        rcases cls j s e1 o1 a1 with ⟨hj, g1⟩ | ⟨hj, g1, j', t', hj', gj', oj', aj'⟩
        · rcases cls k t e2 o2 a2 with ⟨hk, g2⟩ | ⟨hk, g2, k', u', hk', gk', ok', ak'⟩
          · exact aft.rel.dis j k s t a g1 g2 o1 o2 a1 a2
          · exact absurd (aft.rel.dis j k' s u' a g1 gk' o1 ok' a1 ak') fun z => hk' (z ▸ hj)
        · rcases cls k t e2 o2 a2 with ⟨hk, g2⟩ | ⟨hk, g2, _⟩
          · exact absurd (aft.rel.dis k j' t t' a g2 gj' o2 oj' a2 aj') fun z => hj' (z ▸ hk)
          · exact L.rel.dis j k s t a (by rw [gt_wipe, if_neg hj]; exact g1) (by rw [gt_wipe, if_neg hk]; exact g2) o1 o2 (wipe_at a1 hj) (wipe_at a2 hk)
    have subB : ∀ a, OwnA σ (backR ρ1 ρc vs) a → OwnA σ ρ1 a := fun a ⟨k, s, e, o, ea⟩ => by
      rw [gt_back hl1] at e
      split at e
      · exact ⟨k, s, e, o, ea⟩
      · rename_i hk
        obtain ⟨j, t, _, gj, oj, aj⟩ := OwnA.unwipe (L.sub a (OwnA.wiped hk e o ea))
        exact ⟨j, t, gj, oj, aj⟩
    have aftB : Aft K σ ρ1 H1 (backR ρ1 ρc vs) Hc := by
      refine ⟨fun a u z n nt => ?_, relB, subB, fun a z => ?_⟩
      · have nd : a ≠ Dl := fun q => by subst q; rw [hD] at z; cases z
        exact L.kp a u (sm a u z) nd fun q => by
          obtain ⟨j, t, _, gj, oj, aj⟩ := OwnA.unwipe q
          exact n ⟨j, t, gj, oj, aj⟩
      · exact sm.free (L.trk a z)
    refine g2 (.ref Dl) Hc (aft.trans aftB) ⟨⟨Dl, accV, rfl, hA, ?_, rA⟩, fun _ a e z => ?_⟩ fun _ a e => ?_
    · rw [rA.length]; exact Nat.le_trans hz Y.len
    · cases e
      exact nO (subB _ z)
    · cases e
      exact aft.trk _ hD
end Q

namespace Q
open PySem PySem.Spec PyProof.Rows L2
variable [LamT]
/-! ### a call of a def -/
theorem peeks_get {ρ : Rho} : ∀ {os : List Opd} {ss : List SV} {i : Nat} {s : SV}, peeks ρ os = some ss → ss[i]? = some s → ∃ o, os[i]? = some o ∧ peek ρ o = some s
  | [], ss, i, s, e, h => by simp only [peeks, Option.some.injEq] at e; subst e; simp at h
  | o :: os, ss, i, s, e, h => by
    simp only [peeks] at e
    split at e
    · rename_i t ts e1 e2
      cases e
      cases i with
      | zero => simp at h; subst h; exact ⟨o, rfl, e1⟩
      | succ i =>
        obtain ⟨o', h1, h2⟩ := peeks_get (i := i) e2 (by simpa using h)
        exact ⟨o', by simpa using h1, h2⟩
    · cases e
theorem peeks_len {ρ : Rho} : ∀ {os : List Opd} {ss : List SV}, peeks ρ os = some ss → ss.length = os.length
  | [], ss, e => by simp only [peeks, Option.some.injEq] at e; subst e; rfl
  | o :: os, ss, e => by
    simp only [peeks] at e
    split at e
    · rename_i t ts e1 e2
      cases e
      simp [peeks_len e2]
    · cases e
theorem RepOs.get {K : PySem.W.Frag} {H : Hp} {σ : St} {ρ : Rho} : ∀ {vs : List V} {os : List Opd} {i : Nat} {o : Opd}, RepOs K H σ ρ vs os → os[i]? = some o → ∃ v, vs[i]? = some v ∧ RepO K H σ ρ v o
  | _, _, i, o, .nil, h => by simp at h
  | _, _, 0, o, .cons h _ _, e => by simp at e; subst e; exact ⟨_, rfl, h⟩
  | _, _, i + 1, o, .cons _ r _, e => by
    obtain ⟨v, h1, h2⟩ := RepOs.get (i := i) r (by simpa using e)
    exact ⟨v, by simpa using h1, h2⟩
theorem RepOs.apart {K : PySem.W.Frag} {H : Hp} {σ : St} {ρ : Rho} : ∀ {vs : List V} {os : List Opd} {i j : Nat} {o p : Opd} {a : Addr}, RepOs K H σ ρ vs os → os[i]? = some o → os[j]? = some p → isTmp o = true → isTmp p = true → vs[i]? = some (.ref a) → vs[j]? = some (.ref a) → i = j
  | _, _, i, j, o, p, a, .nil, h, _, _, _, _, _ => by simp at h
  | _, _, 0, 0, o, p, a, .cons _ _ _, _, _, _, _, _, _ => rfl
  | _, _, 0, j + 1, o, p, a, .cons h r f, e1, e2, t1, t2, a1, a2 => by
    simp at e1 a1; subst e1
    exact absurd (by simpa using a2) (f t1 a a1 j p (by simpa using e2) t2)
  | _, _, i + 1, 0, o, p, a, .cons h r f, e1, e2, t1, t2, a1, a2 => by
    simp at e2 a2; subst e2
    exact absurd (by simpa using a1) (f t2 a a2 i o (by simpa using e1) t1)
  | _, _, i + 1, j + 1, o, p, a, .cons h r f, e1, e2, t1, t2, a1, a2 => by
    rw [RepOs.apart (i := i) (j := j) r (by simpa using e1) (by simpa using e2) t1 t2 (by simpa using a1) (by simpa using a2)]
theorem slots_one : ∀ {os : List Opd} {i j k : Nat}, (slotsOf os).Nodup → os[i]? = some (.s k) → os[j]? = some (.s k) → i = j
  | [], i, j, k, _, h, _ => by simp at h
  | o :: os, i, j, k, n, h1, h2 => by
    have mem : ∀ {os : List Opd} {i : Nat}, os[i]? = some (Opd.s k) → k ∈ slotsOf os := by
      intro os
      induction os with
      | nil => intro i h; simp at h
      | cons o os ih =>
        intro i h
        cases i with
        | zero => simp at h; subst h; simp [slotsOf]
        | succ i =>
          have := ih (i := i) (by simpa using h)
          cases o <;> simp [slotsOf, this]
    cases i with
    | zero =>
      cases j with
      | zero => rfl
      | succ j =>
        simp at h1; subst h1
        simp only [slotsOf, List.nodup_cons] at n
        exact absurd (mem (by simpa using h2)) n.1
    | succ i =>
      cases j with
      | zero =>
        simp at h2; subst h2
        simp only [slotsOf, List.nodup_cons] at n
        exact absurd (mem (by simpa using h1)) n.1
      | succ j =>
        have n' : (slotsOf os).Nodup := by
          cases o with
          | v _ => exact n
          | s _ => simp only [slotsOf, List.nodup_cons] at n; exact n.2
        rw [slots_one (i := i) (j := j) n' (by simpa using h1) (by simpa using h2)]
/-- an own argument: what operand it is -/
theorem own_opd {ρ : Rho} {o : Opd} {s : SV} (h : peek ρ o = some s) (ho : s.own = true) : isTmp o = true ∨ ∃ k, o = .s k ∧ gt ρ k = some s := by
  cases o with
  | v t => cases h; exact .inl ho
  | s k => exact .inr ⟨k, rfl, h⟩
theorem backs_len (ρ : Rho) : ∀ (os : List Opd) (ss ts : List SV), (backs ρ os ss ts).length = ρ.length
  | [], ss, ts => rfl
  | .s i :: os, [], ts => rfl
  | .s i :: os, s :: ss, [] => rfl
  | .s i :: os, s :: ss, t :: ts => by
    simp only [backs]
    split
    · rw [List.length_set, backs_len ρ os ss ts]
    · exact backs_len ρ os ss ts
  | .v _ :: os, [], ts => rfl
  | .v _ :: os, s :: ss, [] => rfl
  | .v _ :: os, s :: ss, t :: ts => by simp only [backs]; exact backs_len ρ os ss ts
theorem gt_backs {ρ : Rho} {k : Nat} {x : SV} : ∀ {os : List Opd} {ss ts : List SV}, ss.length = os.length → ts.length = ss.length → gt (backs ρ os ss ts) k = some x →
    (gt ρ k = some x ∧ ∀ (j : Nat) (s : SV), os[j]? = some (.s k) → ss[j]? = some s → s.own = false) ∨ ∃ (j : Nat) (s : SV), os[j]? = some (.s k) ∧ ss[j]? = some s ∧ s.own = true ∧ ts[j]? = some x
  | [], _, _, _, _, e => .inl ⟨e, fun j s h => by simp at h⟩
  | o :: os, [], _, h, _, _ => by simp at h
  | o :: os, s :: ss, [], _, h, _ => by simp at h
  | .v y :: os, s :: ss, t :: ts, h1, h2, e => by
    simp only [backs] at e
    rcases gt_backs (by simpa using h1) (by simpa using h2) e with ⟨g, f⟩ | ⟨j, s', a, b, c, d⟩
    · refine .inl ⟨g, fun j s' p q => ?_⟩
      cases j with
      | zero => simp at p
      | succ j => exact f j s' (by simpa using p) (by simpa using q)
    · exact .inr ⟨j + 1, s', by simpa using a, by simpa using b, c, by simpa using d⟩
  | .s i :: os, s :: ss, t :: ts, h1, h2, e => by
    simp only [backs] at e
    have recu : gt (backs ρ os ss ts) k = some x → (i = k → s.own = false) → (gt ρ k = some x ∧ ∀ (j : Nat) (s' : SV), (Opd.s i :: os)[j]? = some (.s k) → (s :: ss)[j]? = some s' → s'.own = false) ∨ ∃ (j : Nat) (s' : SV), (Opd.s i :: os)[j]? = some (.s k) ∧ (s :: ss)[j]? = some s' ∧ s'.own = true ∧ (t :: ts)[j]? = some x := fun e hn => by
      rcases gt_backs (by simpa using h1) (by simpa using h2) e with ⟨g, f⟩ | ⟨j, s', a, b, c, d⟩
      · refine .inl ⟨g, fun j s' p q => ?_⟩
        cases j with
        | zero => simp at p q; rw [← q]; exact hn p
        | succ j => exact f j s' (by simpa using p) (by simpa using q)
      · exact .inr ⟨j + 1, s', by simpa using a, by simpa using b, c, by simpa using d⟩
    cases ho : s.own with
    | false =>
      simp only [ho, Bool.false_eq_true, if_false] at e
      exact recu e fun _ => ho
    | true =>
      simp only [ho, if_true] at e
      rw [gt_set] at e
      by_cases hk : k = i ∧ i < (backs ρ os ss ts).length
      · rw [if_pos hk] at e
        exact .inr ⟨0, s, by simp [hk.1], rfl, ho, by simpa using e⟩
      · rw [if_neg hk] at e
        have hl := gt_lt e
        exact recu e fun z => absurd ⟨z.symm, by rw [z]; exact hl⟩ hk
theorem args_of {K : PySem.W.Frag} {σ : St} {ρ : Rho} {H : Hp} {vs : List V} {os : List Opd} {ss : List SV} (rel : RelE K σ H ρ) (r : RepOs K H σ ρ vs os) (e : peeks ρ os = some ss) (n : (slotsOf os).Nodup) : RepArgs K H vs ss := by
  refine ⟨r.peeks rel e, rel.tab, fun i j s t a h1 h2 o1 o2 a1 a2 => ?_⟩
  obtain ⟨p, p1, p2⟩ := peeks_get e h1
  obtain ⟨q, q1, q2⟩ := peeks_get e h2
  obtain ⟨v, v1, v2⟩ := r.get p1
  obtain ⟨w, w1, w2⟩ := r.get q1
  rw [a1] at v1; cases v1
  rw [a2] at w1; cases w1
  rcases own_opd p2 o1 with t1 | ⟨k, rfl, k1⟩
  · rcases own_opd q2 o2 with t2 | ⟨l, rfl, l1⟩
    · exact r.apart p1 q1 t1 t2 a1 a2
    · cases p with
      | s _ => cases t1
      | v y => exact absurd ⟨l, t, l1, o2, w2⟩ (v2.2 t1 a rfl)
  · rcases own_opd q2 o2 with t2 | ⟨l, rfl, l1⟩
    · cases q with
      | s _ => cases t2
      | v y => exact absurd ⟨k, s, k1, o1, v2⟩ (w2.2 t2 a rfl)
    · have := rel.dis k l s t a k1 l1 o1 o2 v2 w2
      subst this
      exact slots_one n p1 q1
theorem OwnL.of {K : PySem.W.Frag} {σ : St} {ρ : Rho} {H : Hp} {vs : List V} {os : List Opd} {ss : List SV} {a : Addr} (r : RepOs K H σ ρ vs os) (e : peeks ρ os = some ss) (h : OwnL vs ss a) :
    (∃ (i : Nat) (o : Opd), os[i]? = some o ∧ isTmp o = true ∧ vs[i]? = some (.ref a)) ∨ ∃ (i k : Nat) (s : SV), os[i]? = some (.s k) ∧ ss[i]? = some s ∧ s.own = true ∧ gt ρ k = some s ∧ σ[k]? = some (some (.ref a)) := by
  obtain ⟨i, s, h1, h2, h3⟩ := h
  obtain ⟨p, p1, p2⟩ := peeks_get e h1
  obtain ⟨v, v1, v2⟩ := r.get p1
  rw [h3] at v1; cases v1
  rcases own_opd p2 h2 with t1 | ⟨k, rfl, k1⟩
  · exact .inl ⟨i, p, p1, t1, h3⟩
  · exact .inr ⟨i, k, s, p1, h1, h2, k1, v2⟩
theorem RepSs.lst {K : PySem.W.Frag} {H : Hp} {vs : List V} {ss : List SV} {a : Addr} (r : RepSs K H vs ss) (h : OwnL vs ss a) : (∃ us, H a = some (.lst us)) ∨ ∃ us, H a = some (.dK us) := by
  obtain ⟨i, s, h1, h2, h3⟩ := h
  obtain ⟨v, v1, v2⟩ := r.get h1
  rw [h3] at v1; cases v1
  obtain ⟨b, us, e1, e2, _, e3⟩ := v2.own_ref h2
  cases e1
  rcases e3 with ⟨_, rfl⟩ | ⟨_, rfl⟩
  · exact .inl ⟨_, e2⟩
  · exact .inr ⟨_, e2⟩
theorem Back.im {K : PySem.W.Frag} {H H' : Hp} {vs : List V} {ss outs : List SV} {v : V} {r : SV} (h : RepSs K H vs ss) (b : Back K H vs ss v r outs H') : Im H H' := by
  refine ⟨fun x xs e => ?_, fun x o u e => ?_⟩
  · rcases e with e | ⟨o, e⟩
    · refine .inl (b.kp _ _ e fun q => ?_)
      rcases h.lst q with ⟨us, z⟩ | ⟨us, z⟩ <;> (rw [e] at z; cases z)
    · refine .inr ⟨o, b.kp _ _ e fun q => ?_⟩
      rcases h.lst q with ⟨us, z⟩ | ⟨us, z⟩ <;> (rw [e] at z; cases z)
  · refine b.kp _ _ e fun q => ?_
    rcases h.lst q with ⟨us, z⟩ | ⟨us, z⟩ <;> (rw [e] at z; cases z)
/-- behind a call -/
theorem back_aft {K : PySem.W.Frag} {σ : St} {ρ0 ρ : Rho} {H0 H H' : Hp} {vs : List V} {os : List Opd} {ss outs : List SV} {v : V} {r : SV} (base : Aft K σ ρ0 H0 ρ H) (ro : RepOs K H σ ρ vs os) (fr : FreshL H0 vs os) (e : peeks ρ os = some ss) (n : (slotsOf os).Nodup)
    (b : Back K H vs ss v r outs H') : Aft K σ ρ0 H0 (backs ρ os ss outs) H' ∧ RepO K H' σ (backs ρ os ss outs) v (.v r) ∧ Fresh H0 v (.v r) := by
  have rs := ro.peeks base.rel e
  have im := b.im rs
  have l1 : ss.length = os.length := peeks_len e
  have ownG : ∀ (k : Nat) (x : SV), gt (backs ρ os ss outs) k = some x → x.own = true → ∃ y, gt ρ k = some y ∧ y.own = true := fun k x g o => by
    rcases gt_backs l1 b.len g with ⟨g1, _⟩ | ⟨j, s, p1, p2, p3, p4⟩
    · exact ⟨x, g1, o⟩
    · obtain ⟨p, q1, q2⟩ := peeks_get e p2
      rw [p1] at q1; cases q1
      exact ⟨s, q2, p3⟩
  have sub : ∀ a, OwnA σ (backs ρ os ss outs) a → OwnA σ ρ a := fun a ⟨k, s, g, o, ea⟩ => by
    obtain ⟨y, y1, y2⟩ := ownG k s g o
    exact ⟨k, y, y1, y2, ea⟩
  have rel : RelE K σ H' (backs ρ os ss outs) := by
    refine ⟨by rw [backs_len]; exact base.rel.len, fun k x g => ?_, fun i j s t a g1 g2 o1 o2 a1 a2 => ?_, b.tab⟩
    · rcases gt_backs l1 b.len g with ⟨g1, f⟩ | ⟨j, s, p1, p2, p3, p4⟩
      · obtain ⟨w, w1, w2⟩ := base.rel.at_ k x g1
        refine ⟨w, w1, ?_⟩
        have nOL : ∀ a, x.own = true → w = .ref a → ¬ OwnL vs ss a := fun a ho ew z => by
          subst ew
          rcases OwnL.of ro e z with ⟨i, o, i1, i2, i3⟩ | ⟨i, l, s, i1, i2, i3, i4, i5⟩
          · obtain ⟨w', w1', w2'⟩ := ro.get i1
            rw [i3] at w1'; cases w1'
            cases o with
            | s _ => cases i2
            | v y => exact w2'.2 i2 a rfl ⟨k, _, g1, ho, w1⟩
          · have := base.rel.dis l k s _ a i4 g1 i3 ho i5 w1
            subst this
            have := f i s i1 i2
            rw [i3] at this; cases this
        cases x with
        | d y => exact RepD.im im w2
        | ml ys =>
          obtain ⟨a, us, e0, q2, q3, q4⟩ := w2
          exact ⟨a, us, e0, b.kp a _ q2 (nOL a rfl e0), q3, q4.im im⟩
        | md ys =>
          obtain ⟨a, ks, e0, q2, q3⟩ := w2
          exact ⟨a, ks, e0, b.kp a _ q2 (nOL a rfl e0), q3.im im⟩
        | rl _ => exact RepS.rlIm im w2
      · obtain ⟨w, w1, w2⟩ := ro.get p1
        exact ⟨w, w2, b.outs j s x w p2 p3 p4 w1⟩
    · obtain ⟨y1, z1, u1⟩ := ownG i s g1 o1
      obtain ⟨y2, z2, u2⟩ := ownG j t g2 o2
      exact base.rel.dis i j y1 y2 a z1 z2 u1 u2 a1 a2
  refine ⟨⟨fun a u h ho nt => ?_, rel, fun a h => base.sub a (sub a h), fun a h => base.trk a (b.trk a h)⟩, ⟨b.res, fun o a ea z => ?_⟩, fun o a ea => base.trk a (b.fr o a ea)⟩
  · refine b.kp a u (base.kp a u h ho) fun z => ?_
    rcases OwnL.of ro e z with ⟨i, o, i1, i2, i3⟩ | ⟨i, l, s, i1, i2, i3, i4, i5⟩
    · have hf := fr i (.ref a) o i3 i1
      cases o with
      | s _ => cases i2
      | v y =>
        have := hf i2 a rfl
        rw [h] at this; cases this
    · exact ho (base.sub a ⟨l, s, i4, i3, i5⟩)
  · have := b.fr o a ea
    rcases (sub a z).lst base.rel with ⟨us, q⟩ | ⟨us, q⟩ <;> (rw [this] at q; cases q)
theorem gx_call {W : Exn → Prop} {C : Call} {f : String} {os : List Opd} {ρ : Rho} {P : Opd → Rho → Prop} (g : (callSem C f os ρ).gx (W := W) P) :
    ∃ ss, peeks ρ os = some ss ∧ (slotsOf os).Nodup ∧ ((∃ r outs, C f ss = .ret r outs ∧ P (.v r) (backs ρ os ss outs)) ∨ ∃ e outs, C f ss = .exc e outs ∧ W e) := by
  unfold callSem at g
  rw [gx_optR] at g
  obtain ⟨ss, e, g⟩ := g
  by_cases n : (slotsOf os).Nodup
  · rw [if_pos n] at g
    cases e2 : C f ss with
    | ret r outs =>
      simp only [e2] at g
      exact ⟨ss, e, n, .inl ⟨r, outs, e2, g⟩⟩
    | exc x outs =>
      simp only [e2] at g
      exact ⟨ss, e, n, .inr ⟨x, outs, e2, g⟩⟩
    | bad => simp only [e2] at g; exact False.elim g
  · rw [if_neg n] at g; exact False.elim g
/-- behind a call that let an exception out -/
theorem backx_kp {K : PySem.W.Frag} {σ : St} {ρ0 ρ : Rho} {H0 H H' : Hp} {vs : List V} {os : List Opd} {ss : List SV} (base : Aft K σ ρ0 H0 ρ H) (ro : RepOs K H σ ρ vs os) (fr : FreshL H0 vs os) (e : peeks ρ os = some ss) (b : BackX H vs ss H') : Kp σ ρ0 H0 H' := by
  refine ⟨fun a u h ho nt => ?_, fun a h => base.trk a (b.trk a h), b.tab⟩
  refine b.kp a u (base.kp a u h ho) fun z => ?_
  rcases OwnL.of ro e z with ⟨i, o, i1, i2, i3⟩ | ⟨i, l, s, i1, i2, i3, i4, i5⟩
  · have hf := fr i (.ref a) o i3 i1
    cases o with
    | s _ => cases i2
    | v y =>
      have := hf i2 a rfl
      rw [h] at this; cases this
  · exact ho (base.sub a ⟨l, s, i4, i3, i5⟩)
section
variable {X : Cx} {C : Call} {Z : ZT}
theorem pe_callS0 {CX : CXT} {f : Addr} {fd : FuncData} {ps : List Str} {sp : Sp} {k : Nat} {E : St → XK} {x : Str} {p pos : Pos} (F : FnOk X.prog X.w X.K X.mg X.base CX k f fd ps sp) (hr : Room k X.A) (hg : Gl X x) (hm : X.mg x = some (.ref f)) (hk : PySem.W.keepIn X.K (.ref f) = true) (hb : Binds X.K fd ps []) (hx : ∀ σ, PassesAt CX X σ (E σ))
    (hdb : (x == ("__debug__" : Str)) = false := by decide) : PE X (.Call (.Name x p) [] [] pos) (tCallS sp E tNil) := by
  refine ⟨fun pins s σ H Q I h => ?_⟩
  refine wpAny_Call_Name_kw (ld_glob I hg hm ?_ hdb)
  exact PySem.W.callWith_K0 I.kIn hk (run_fnS (us := []) F hr hb (hx σ) I .nil h)
theorem pe_Q {Γ : Kx} {sc : Scope} {fn : Str → Bool} (c : CtxOk Γ C Z sc fn X) {f : String} {p pos : Pos} {es : Es} {xs : List Expr} (hx : f ∈ Γ.fs) (hg : glB sc (Str.ofString f) = true) (hn : okName (Str.ofString f) = true) (hc : chkEs Γ sc fn es xs = true) (ha : PA X xs (tEs X.K Z C es)) :
    PE X (.Call (.Name (Str.ofString f) p) xs [] pos) (fun σ H Q => ∃ ρ, RelE X.K σ H ρ ∧ ((evs C es ρ).bind fun os ρ => callSem C f os ρ).gx (W := zk Z σ ρ H) (PoE X.K σ ρ H Q)) := by
  obtain ⟨fa, fd, ps, k, h1, _, h2, h3, h4, h5⟩ := (c.call f hx).ex
  have core : ∀ (σ : St) (H : Hp) (Q : VK), (∃ ρ, RelE X.K σ H ρ ∧ ((evs C es ρ).bind fun os ρ => callSem C f os ρ).gx (W := zk Z σ ρ H) (PoE X.K σ ρ H Q)) → tCallS (spQ X.K C f) (WE fun cls d σ H => ∃ e, ExR X.K e cls d ∧ Z e σ H) (tEs X.K Z C es) σ H Q := fun σ H Q ⟨ρ, rel, g⟩ => by
    rw [gx_bind] at g
    refine ⟨ρ, rel, g.mono fun os ρ1 g1 vs H1 aft ro fr => ?_⟩
    obtain ⟨ss, e1, n, ⟨r, outs, e2, q⟩ | ⟨e, outs, e2, q⟩⟩ := gx_call g1
    · refine ⟨ss, args_of aft.rel ro e1 n, .inl ⟨r, outs, e2, fun v H' b => ?_⟩⟩
      obtain ⟨a1, a2, a3⟩ := back_aft aft ro fr e1 n b
      exact q v H' a1 a2 a3
    · exact ⟨ss, args_of aft.rel ro e1 n, .inr ⟨e, outs, e2, fun cls d H' hx b => ⟨e, hx, q H' (backx_kp aft ro fr e1 b)⟩⟩⟩
  cases xs with
  | nil =>
    refine PE.weak (pe_callS0 h3 h4 (Gl_of c hg) h1 h2 h5 (fun σ => L2N.passAt c.tk σ) (okName_of hn).1) fun σ H Q h => ?_
    have q := core σ H Q h
    cases es with
    | n =>
      obtain ⟨ρ, rel, g⟩ := q
      exact g [] H (Aft.refl rel) .nil fun j v o e => by simp at e
    | c _ _ => cases hc
  | cons x0 xs0 =>
    cases es with
    | n => cases hc
    | c a r =>
      simp only [chkEs, Bool.and_eq_true] at hc
      exact PE.weak (pe_callS h3 h4 (Gl_of c hg) h1 h2 h5 (fun σ => L2N.passAt c.tk σ) ha (okName_of hn).1 (star_of hc.1 _ _) (stars_of _ _ hc.2)) core
/-- a def that a slot holds, called -/
theorem pe_callV {CX : CXT} {i : Nat} {x : Str} {p pos : Pos} {e : Expr} {es : List Expr} {t : TA} {E : St → XK} (hN : X.N[i]? = some x) (hv : Vis X.env.scope x) (hx : ∀ σ, PassesAt CX X σ (E σ)) (ha : PA X (e :: es) t)
    (hdb : (x == ("__debug__" : Str)) = false) (hcd : (x == ("__classdict__" : Str)) = false) (he : starEach (e :: es) X.env = (false, eval e X.env) :: starEach es X.env) (hpl : (backTo pos (starEach es X.env)).any (·.1) = false) :
    PE X (.Call (.Name x p) (e :: es) [] pos) (fun σ H Q => ∃ (f : Addr) (fd : FuncData) (ps : List Str) (sp : Sp) (k : Nat), FnOk X.prog X.w X.K X.mg X.base CX k f fd ps sp ∧ Room k X.A ∧ PySem.W.keepIn X.K (.ref f) = true ∧ Binds X.K fd ps [] ∧ σ[i]? = some (some (.ref f)) ∧ t σ H fun vs H1 => sp vs H1 Q (E σ)) := by
  refine ⟨fun pins s σ H Q I h => ?_⟩
  obtain ⟨f, fd, ps, sp, k, F, hr, hk, hb, hs, ht⟩ := h
  refine wpAny_Call_Name_kw (thn ((pe_var (pos := p) hN hv hdb hcd).run pins s σ H (fun v H1 => v = .ref f ∧ H1 = H) I ⟨.ref f, hs, rfl, rfl⟩) fun u s1 ⟨v, H1, I1, r1, q1⟩ => ?_)
  obtain ⟨rfl, rfl⟩ := q1
  cases r1
  exact PySem.W.callWith_K (h₀ := X.base) I.ok.mod.kin hk (thn (ha.run pos pins s1 σ _ _ I1 ht) fun us s2 ⟨vs, H2, I2, r, q⟩ => ⟨I2.kIn, run_fnS F hr hb (hx σ) I2 r q⟩) he hpl
theorem cvSem_of {fs : List String} {o : Option SV} {f : String} (e : cvSem fs o = some f) : o = some (.d (fnD f)) ∧ f ∈ fs := by
  unfold cvSem at e
  split at e
  · rename_i s
    have h1 := List.find?_some e
    simp only [decide_eq_true_eq] at h1
    exact ⟨by rw [← h1], List.mem_of_find?_eq_some e⟩
  · cases e
theorem RepD.fnT {K : PySem.W.Frag} {H : Hp} {v : V} {f : String} (r : RepD K H v (fnD f)) : ∃ a, v = .ref a ∧ PySem.W.nsIn K mainGlobals (Str.ofString f) = some (some (.ref a)) := by
  generalize hd : fnD f = d at r
  cases r with
  | fn h =>
    rename_i g a
    have e : Str.ofString f = Str.ofString g := by
      have := congrArg (fun d : D => match d with
        | .dict [(_, .str s)] => some s
        | _ => none) hd
      exact Option.some.inj this
    exact ⟨a, rfl, by rw [e]; exact h⟩
  | dct h rk =>
    rename_i a ks kds
    cases kds with
    | nil => cases hd
    | cons p r => obtain ⟨k | k, z⟩ := p <;> cases hd
  | _ => cases hd
theorem pe_QV {Γ : Kx} {sc : Scope} {fn : Str → Bool} (c : CtxOk Γ C Z sc fn X) {i : Nat} {x : Str} {p pos : Pos} {fs : List String} {es : Es} {x0 : Expr} {xs : List Expr} (h1 : Γ.N[i]? = some x) (h2 : visB sc x = true) (hn : okName x = true) (hf : ∀ f ∈ fs, f ∈ Γ.fs) (hc : chkEs Γ sc fn es (x0 :: xs) = true) (ha : PA X (x0 :: xs) (tEs X.K Z C es)) :
    PE X (.Call (.Name x p) (x0 :: xs) [] pos) (fun σ H Q => ∃ ρ, RelE X.K σ H ρ ∧ (optR (cvSem fs (gt ρ i)) fun f => (evs C es ρ).bind fun os ρ => callSem C f os ρ).gx (W := zk Z σ ρ H) (PoE X.K σ ρ H Q)) := by
  obtain ⟨d1, d2, _⟩ := okName_of hn
  cases es with
  | n => cases hc
  | c a r =>
  simp only [chkEs, Bool.and_eq_true] at hc
  refine PE.weak (pe_callV (CX := L2N.CX X.prog X.w) (i := i) (by rw [c.N]; exact h1) (by rw [c.hsc]; exact vis_of h2) (fun σ => L2N.passAt c.tk σ) ha d1 d2 (star_of hc.1 _ _) (stars_of _ _ hc.2)) fun σ H Q ⟨ρ, rel, g⟩ => ?_
  rw [gx_optR] at g
  obtain ⟨f, e, g⟩ := g
  obtain ⟨e1, e2⟩ := cvSem_of e
  obtain ⟨v, v1, v2⟩ := rel.at_ i _ e1
  obtain ⟨b, rfl, hb⟩ := RepD.fnT v2
  obtain ⟨fa, fd, ps, k, m1, m2, h2, h3, h4, h5⟩ := (c.call f (hf f e2)).ex
  rw [m2] at hb
  cases hb
  refine ⟨_, fd, ps, _, k, h3, h4, h2, h5, v1, ρ, rel, ?_⟩
  rw [gx_bind] at g
  refine g.mono fun os ρ1 g1 vs H1 aft ro fr => ?_
  obtain ⟨ss, e1, n, ⟨r, outs, e2, q⟩ | ⟨e, outs, e2, q⟩⟩ := gx_call g1
  · refine ⟨ss, args_of aft.rel ro e1 n, .inl ⟨r, outs, e2, fun v H' b => ?_⟩⟩
    obtain ⟨a1, a2, a3⟩ := back_aft aft ro fr e1 n b
    exact q v H' a1 a2 a3
  · exact ⟨ss, args_of aft.rel ro e1 n, .inr ⟨e, outs, e2, fun cls d H' hx b => ⟨e, hx, q H' (backx_kp aft ro fr e1 b)⟩⟩⟩
end
end Q

namespace HT
open PySem PySem.Spec PyProof.Rows
/-! ### a[::-1] -/
section
variable {prog : Program} {w : World} {A : Around} {E : Value → Shared → Prop} {s : Shared}
theorem applied_rev {sl : Addr} {vk : Value} {n : Nat} {Q : Int × Int × Nat → Shared → Prop} (hx : s.heap.IsSliceOf sl .none .none vk) (pk : IsPart vk (some (-1))) (h : Q ((n : Int) - 1, -1, n) s) :
    wpAny (model prog w) A (Builtin.Slice.sliceApplied (.ref sl) (pure (n : Int))) Q E s := by
  obtain ⟨ob, k1, k2, k3⟩ := id hx
  unfold Builtin.Slice.sliceApplied Builtin.Slice.sliceFields
  refine wpAny_bind (wpAny_bind (wpAny_field k1 k3 (x := .none) rfl (wpAny_bind (wpAny_field k1 k3 (x := .none) rfl (wpAny_bind (wpAny_field k1 k3 (x := vk) rfl (wpAny_pure ?_)))))))
  refine wpAny_bind (slicePart_ pk ?_)
  show wpAny _ _ (if ((-1 : Int) == 0) = true then _ else _) _ _ s
  rw [if_neg (by decide)]
  refine wpAny_bind (slicePart_none (wpAny_bind (slicePart_none (wpAny_bind (wpAny_pure ?_)))))
  show wpAny _ _ (pure ((n : Int) - 1, (-1 : Int), Builtin.Slice.slicePlaces ((n : Int) - 1) (-1) (-1))) _ _ s
  have e : Builtin.Slice.slicePlaces ((n : Int) - 1) (-1) (-1) = n := by
    unfold Builtin.Slice.slicePlaces
    rw [if_neg (by decide)]
    split
    · rw [show (-(-1) : Int) = 1 by decide, Int.ediv_one]; omega
    · omega
  rw [e]
  exact wpAny_pure h
theorem fm_congr {α β : Type} {f g : α → Option β} : ∀ {l : List α}, (∀ x ∈ l, f x = g x) → l.filterMap f = l.filterMap g
  | [], _ => rfl
  | x :: r, h => by
    rw [List.filterMap_cons, List.filterMap_cons, h x List.mem_cons_self, fm_congr fun y hy => h y (List.mem_cons_of_mem _ hy)]
theorem pick_rev (xs : Array Value) : ((List.range xs.size).filterMap fun (m : Nat) => xs[((xs.size : Int) - 1 + (m : Int) * (-1)).toNat]?).toArray = xs.toList.reverse.toArray := by
  have e : ((List.range xs.size).filterMap fun (m : Nat) => xs[((xs.size : Int) - 1 + (m : Int) * (-1)).toNat]?) = ((List.range xs.size).map fun k => xs.size - 1 - k).filterMap fun i => xs[i]? := by
    rw [List.filterMap_map]
    refine fm_congr fun m hm => ?_
    have := List.mem_range.mp hm
    show _ = xs[xs.size - 1 - m]?
    congr 1
    omega
  rw [e, PySem.W.krv_range, List.filterMap_reverse, PySem.W.krv_all]
theorem getItem_tuple_rev {t sl : Addr} {items : Array Value} {vk : Value} {Q : Value → Shared → Prop} (hx : IsTup s.heap t items) (hs : s.heap.IsSliceOf sl .none .none vk) (pk : IsPart vk (some (-1)))
    (h : Q (.ref s.heap.objs.size) { s with heap := s.heap.push { cls := .type "tuple", data := .seq items.toList.reverse.toArray } }) (hz : items.size ≤ sizeLine) : wpAny (model prog w) A (getItem (.ref t) (.ref sl)) Q E s := by
  have hr : sizeOk (.seq items.toList.reverse.toArray) := by
    show items.toList.reverse.toArray.size ≤ sizeLine
    rw [List.size_toArray, List.length_reverse, Array.length_toList]
    exact hz
  obtain ⟨ob, k1, k2, k3⟩ := id hs
  have hty : s.TypeIs (.ref sl) "slice" := ⟨ob, k1, k2⟩
  unfold getItem
  try (with_reducible refine wpAny_holding ?_)
  try refine wpAny_bind (wpAny_pure ?_)
  refine wpAny_bind (wpAny_sequenceKey hx.typeIs (by decide) ?_)
  refine wpAny_bind (wpAny_callSpecial?_slot (name := Str.ofString "__getitem__") hx.typeIs PyProof.Rows.slot_tuple_getitem (wpAny_call_entry PyProof.Rows.slot_tuple_getitem hx.typeIs entry_tuple_getitem ?_ (args_tuple_getitem _ _)))
  show wpAny _ _ (Builtin.Tuple.tupleItemsOf (.ref t) >>= _) _ E s
  refine wpAny_bind (tupleItemsOf_ hx ?_)
  refine wpAny_bind (wpAny_typeOf hty ?_)
  rw [if_pos (by decide)]
  refine wpAny_bind (applied_rev hs pk ?_)
  have hno : ¬ (((((items.size : Int) - 1) == 0) && ((-1 : Int) == 1) && (items.size == items.size)) = true) := by
    rw [show ((-1 : Int) == 1) = false by decide, Bool.and_false, Bool.false_and]
    exact Bool.false_ne_true
  show wpAny _ _ (if ((((items.size : Int) - 1) == 0) && ((-1 : Int) == 1) && (items.size == items.size)) = true then _ else _) _ _ s
  rw [if_neg hno, pick_rev]
  first
    | exact wpAny_bind (m := Builtin.Tuple.tupleExact _) (wpAny_newObj_type (wpAny_pure ⟨_, rfl, wpAny_pure h⟩) hr)
    | exact wpAny_bind (m := Builtin.Tuple.tupleExact _) (wpAny_newObj_type (wpAny_bind (wpAny_pure (wpAny_pure ⟨_, rfl, wpAny_pure h⟩))) hr)
    | exact wpAny_bind (wpAny_bind (m := Builtin.Tuple.tupleExact _) (wpAny_newObj_type (wpAny_pure (wpAny_pure ⟨_, rfl, wpAny_pure h⟩)) hr))
    | exact wpAny_bind (wpAny_bind (m := Builtin.Tuple.tupleExact _) (wpAny_newObj_type (wpAny_pure ⟨_, rfl, wpAny_pure h⟩) hr))
end
end HT
namespace Q
open PySem PySem.Spec PyProof.Rows L2
section
variable {X : Cx} {e : Expr} {te : TE} {st : Expr} {ts : TO} {pos p2 : Pos}
def rRevL (K : PySem.W.Frag) : V → Hp → VK → Prop := fun x H Q => ∃ a xs, x = .ref a ∧ SqL K H a xs ∧ ∀ p, H p = none → Q (.ref p) (upd H p (.lst xs.reverse))
def rRevT (K : PySem.W.Frag) : V → Hp → VK → Prop := fun x H Q => ∃ a xs, x = .ref a ∧ SqT K H a xs ∧ ∀ p, H p = none → Q (.ref p) (upd H p (.tup xs.reverse))
theorem vals_revs {xs : List V} {its : List Value} (r : Vals xs its) : Vals xs.reverse its.reverse := by
  induction r with
  | nil => exact .nil
  | @cons x u xs us h t ih =>
    rw [List.reverse_cons, List.reverse_cons]
    have app : ∀ {a : List V} {b : List Value}, Vals a b → Vals (a ++ [x]) (b ++ [u]) := fun q => by
      induction q with
      | nil => exact .cons h .nil
      | cons h' _ ih' => exact .cons h' ih'
    exact app ih
theorem pe_rev (he : PE X e te) (hs : PO X (some st) ts) : PE X (.Subscript e (.Slice none none (some st) p2) pos) (fun σ H Q => te σ H fun x H1 => ts σ H1 fun o H2 => o = some (-1) ∧ (rRevL X.K x H2 Q ∨ rRevT X.K x H2 Q)) := by
  refine ⟨fun pins s σ H Q I h => ?_⟩
  refine Subscript_ (thn (he.run pins s σ H _ I h) fun v s1 ⟨x, H1, I1, r1, q1⟩ => ?_)
  refine wpAny_Slice ?_
  rw [evalPart_none]
  refine wpAny_pure ?_
  refine wpAny_pure (thn (hs.run pins s1 σ H1 _ I1 q1) fun vk s2 ⟨o, H2, I2, pk, eo, q2⟩ => ?_)
  subst eo
  have I4 : Inv X pins σ H2 { s2 with heap := s2.heap.push { cls := .type "slice", data := .fields #[.none, .none, vk] } } := I2.kept (t' := s2.toks) fun b ob q => Heap.get?_push_of_some _ q
  have hsl : ({ s2 with heap := s2.heap.push { cls := .type "slice", data := .fields #[.none, .none, vk] } } : Shared).heap.IsSliceOf s2.heap.objs.size .none .none vk := Heap.IsSliceOf.new ..
  generalize hs3 : ({ s2 with heap := s2.heap.push { cls := .type "slice", data := .fields #[.none, .none, vk] } } : Shared) = s3 at I4 hsl
  show wpAny (model X.prog X.w) X.A (subscriptTail e (.Slice none none (some st) p2) v (.ref s2.heap.objs.size)) (EP X pins σ Q) X.xe _
  have fin : ∃ T id, typeLookup (.type T) "__getitem__" = pure (some (.builtin id)) ∧ s3.TypeIs v T ∧ wpAny (model X.prog X.w) X.A (getItem v (.ref s2.heap.objs.size)) (EP X pins σ Q) X.xe s3 := by
    rcases q2 with ⟨a, xs, rfl, hx, q⟩ | ⟨a, xs, rfl, hx, q⟩
    · cases r1
      obtain ⟨its, r, ht, hz⟩ := I4.list hx
      have hlen := r.length
      refine ⟨"list", _, slot_list_getitem.lookup, ht.isList.typeIs, ?_⟩
      refine wpAny_getItem_list_slice ht.isList hsl .none .none pk (by decide) ?_ (by rw [List.size_toArray]; omega)
      rw [PySem.W.krv_pick]
      refine ⟨.ref s3.heap.objs.size, _, I4.laid (t' := s3.toks) (o := .lst xs.reverse) (fun b ob q => Heap.get?_push_of_some _ q) (Nat.le_refl _) ?_, rfl, q _ (I4.hok.fresh (Nat.le_refl _))⟩
      exact ⟨by rw [List.length_reverse]; exact hz, its.reverse, 0, vals_revs r, Heap.get?_push_size _ rfl⟩
    · cases r1
      obtain ⟨its, r, ht, hz⟩ := I4.tuple hx
      have hlen := r.length
      refine ⟨"tuple", _, PyProof.Rows.slot_tuple_getitem.lookup, ht.typeIs, ?_⟩
      refine HT.getItem_tuple_rev ht hsl pk ?_ (by rw [List.size_toArray]; omega)
      refine ⟨.ref s3.heap.objs.size, _, I4.laid (t' := s3.toks) (o := .tup xs.reverse) (fun b ob q => Heap.get?_push_of_some _ q) (Nat.le_refl _) ?_, rfl, q _ (I4.hok.fresh (Nat.le_refl _))⟩
      exact ⟨by rw [List.length_reverse]; exact hz, its.reverse, vals_revs r, IsTup.new _ _⟩
  obtain ⟨T, id, hT, ht, hg⟩ := fin
  subst hs3
  exact tail_any (ops := [v, .ref s2.heap.objs.size]) ht hT hg (by with_unfolding_all rfl)
end
end Q

namespace Q
open PySem PySem.Spec PyProof.Rows L2
variable [LamT]
section
variable {X : Cx} {C : Call} {Z : ZT}
theorem bl_of {Γ : Kx} {sc : Scope} {fn : Str → Bool} (c : CtxOk Γ C Z sc fn X) {b : String} (hb : b ∈ bnames) {e : Expr} (h : blB sc b e = true) : ∃ p, e = .Name (Str.ofString b) p ∧ Gl X (Str.ofString b) ∧ X.mg (Str.ofString b) = none := by
  unfold blB at h
  split at h
  · rename_i x p
    simp only [Bool.and_eq_true, strB, decide_eq_true_eq] at h
    obtain ⟨⟨rfl, h2⟩, h3⟩ := h
    exact ⟨p, rfl, Gl_of c h2, c.bl b hb⟩
  · cases h
theorem after_same {K : PySem.W.Frag} {σ : St} {ρ0 ρ : Rho} {H0 H : Hp} {r : SV} {Q : VK} (aft : Aft K σ ρ0 H0 ρ H) (q : PoE K σ ρ0 H0 Q (.v r) ρ) : After K H r Q := fun v H' sm rs fr => by
  have a2 := aft.trans (Aft.same aft.rel sm)
  refine q v H' a2 ⟨rs, fun o a e z => ?_⟩ fun o a e => aft.trk a (fr o a e)
  have := fr o a e
  rcases z.lst aft.rel with ⟨us, h⟩ | ⟨us, h⟩ <;> (rw [h] at this; cases this)
theorem two_op {K : PySem.W.Frag} {a b : E} {σ : St} {H : Hp} {R : V → V → Hp → Prop} {ρ : Rho} {P : Opd → Opd → Rho → Prop} (rel : RelE K σ H ρ) (g : (ev C false a ρ).gx (W := zk Z σ ρ H) fun x ρ1 => (ev C false b ρ1).gx (W := zk Z σ ρ H) fun y ρ2 => P x y ρ2)
    (q : ∀ x y ρ2 v w H2, P x y ρ2 → Aft K σ ρ H ρ2 H2 → RepO K H2 σ ρ2 v x → RepO K H2 σ ρ2 w y → R v w H2) : tE K Z C false a σ H fun v H1 => tE K Z C false b σ H1 fun w H2 => R v w H2 :=
  ⟨ρ, rel, g.mono fun x ρ1 g1 v H1 a1 r1 f1 => ⟨ρ1, a1.rel, g1.mono fun y ρ2 g2 w H2 a2 r2 f2 => q x y ρ2 v w H2 g2 (a1.trans a2) (r1.aft a1.rel a2) r2⟩⟩
theorem blk_ok {Γ : Kx} {sc : Scope} {fn : Str → Bool} (c : CtxOk Γ C Z sc fn X) {scope : Scope} {own : List (Str × Nat)} (b : BlkOk Γ.N sc scope own) (s : Shared) (H : Hp) (Cl : Addr) (cl : List (Str × Addr)) (fp : List Addr) :
    CtxOk Γ C Z0 (relS scope sc) (cfn fn scope) (X.blk s H scope (compEnvC scope cl Cl X.env) fp) where
  N := c.N
  nd := c.nd
  hsc := by
    show relabel scope X.env = relS scope sc
    unfold relabel relS Env.kindOf
    rw [c.hsc]
  kind := b.kind
  fnX := fun x hx => by
    show _ = cfn fn scope x
    unfold cfn
    rw [if_neg hx]
  calm := c.calm
  hu := c.hu
  bl := c.bl
  cs := c.cs
  call := fun f h => ⟨(c.call f h).ex⟩
  er := fun k h => ⟨(c.er k h).ex⟩
  lm := fun h1 h2 => by
    have z := c.lm (by simpa [cfn] using h1) h2
    exact ⟨z.rm, z.ex⟩
  sp := fun h1 h2 f hf e1 e2 => ⟨(c.sp (by simpa [cfn] using h1) h2 f hf e1 e2).ex⟩
  wd := fun f t h => c.wd f t h
  tk := fun _ _ x => by
    obtain ⟨_, _, _, _, _, _, _, _, _, _, _, _, _, _, _, _, _, _, z⟩ := x
    exact z.elim
theorem own_snd (Γ : Kx) (vs : List Nat) : (ownN Γ vs).map (·.2) = vs := by
  unfold ownN
  rw [List.map_map]
  induction vs with
  | nil => rfl
  | cons v r ih => simp only [List.map_cons, ih]; rfl
theorem boot_of (b : Bf) : bootBuiltins (Str.ofString b.nm) = some b.val := by cases b <;> decide +kernel
theorem bn_of (b : Bf) : b.nm ∈ bnames := by cases b <;> decide
theorem dbg_of (b : String) (h : b ∈ bnames) : (Str.ofString b == ("__debug__" : Str)) = false ∧ Str.ofString b ≠ ("__name__" : Str) := by
  simp only [bnames, List.mem_cons, List.not_mem_nil, or_false] at h
  rcases h with rfl | rfl | rfl | rfl | rfl | rfl | rfl | rfl | rfl | rfl | rfl | rfl | rfl | rfl | rfl | rfl | rfl | rfl | rfl <;> exact ⟨by decide, by decide⟩
theorem strOk_of (s : String) : (Str.ofString s).cps.all (· < 0x110000) = true := by
  rw [← Array.all_toList, PyProof.Rows.signs_ofString, List.all_map, List.all_eq_true]
  intro c _
  have h := c.valid
  simp only [UInt32.isValidChar, Nat.isValidChar] at h
  have e : c.toNat = c.val.toNat := rfl
  simp only [Function.comp, e, decide_eq_true_eq]
  omega
theorem bi_ok (hc : X.calm = true) (b : Bf) : CallR X b.val (rBi X.K b) := by
  cases b with
  | len => exact bi_len
  | abs => exact bi_abs
  | int => exact bi_int
  | tuple => exact bi_tuple
  | list => exact bi_list
  | sum => exact bi_sum hc
  | all => exact bi_all hc
  | any => exact bi_any hc
  | max => exact bi_max hc
  | min => exact bi_min hc
  | str =>
    refine bi_un fun pins s σ H x us Q a r0 I r rv e q => ?_
    unfold biStr at e
    split at e
    · cases e
      obtain ⟨rfl, h2⟩ := rv.str
      exact SkE.call_str_str pins s σ H _ us Q I r ⟨_, rfl, q.dat (.str _ h2)⟩
    · split at e
      · rename_i i hi
        cases e
        rw [rv.int] at r
        exact call_str_int pins s σ H _ us Q I r ⟨_, rfl, hi, q.dat (.str _ ⟨strOk_of _, int_text_fits hi⟩)⟩
      · cases e
    · cases e
  | _ => exact fun pins s σ H xs us Q I r ⟨ss, r0, rs, e, q⟩ => by cases e
/-- isinstance -/
theorem ty_of {K : PySem.W.Frag} {H : Hp} {v : V} {s : SV} {x : D} (r : RepS K H v s) (e : s.dat = some x) (nf : isFd x = false) : ∃ t : String, TyX K H v (.type t) ∧ (match x with | .none => t = "NoneType" | .bool _ => t = "bool" | .int _ => t = "int" | .str _ => t = "str" | .list _ => t = "list" | .tuple _ => t = "tuple" | .dict _ => t = "dict") := by
  cases s with
  | ml ys =>
    simp only [SV.dat, Option.some.injEq] at e; subst e
    obtain ⟨a, vs, rfl, h2, _⟩ := r
    exact ⟨"list", .base (.lst h2), rfl⟩
  | md _ =>
    simp only [SV.dat, Option.some.injEq] at e; subst e
    obtain ⟨a, ks, rfl, h2, _⟩ := r
    exact ⟨"dict", .base (.dK h2), rfl⟩
  | rl _ => simp [SV.dat] at e
  | d y =>
    simp only [SV.dat, Option.some.injEq] at e; subst e
    have r' : RepD K H v y := r
    cases r' with
    | non => exact ⟨_, .base .non, rfl⟩
    | bl b => exact ⟨_, .base (.bl b), rfl⟩
    | int i => exact ⟨_, .base (.int i), rfl⟩
    | str z _ => exact ⟨_, .base (.str z), rfl⟩
    | lst h _ _ =>
      obtain ⟨o, h⟩ := h
      exact ⟨_, .base (.frz h), rfl⟩
    | dct h _ =>
      obtain ⟨o, h⟩ := h
      exact ⟨_, .fDict h, rfl⟩
    | fn h => cases nf
    | tup h _ _ =>
      rcases h with (h | ⟨o, h⟩) | ⟨o, its, n, h1, h2, _⟩
      · exact ⟨_, .base (.tup h), rfl⟩
      · exact ⟨_, .fTuple h, rfl⟩
      · exact ⟨_, .kTuple h1 h2, rfl⟩
theorem isi_ok {pins : List (Addr × Obj)} {s : Shared} {σ : St} {H : Hp} {v : V} {u : Value} {a : SV} {x : D} {T : String} {k : Bool} {Q : VK} (I : Inv X pins σ H s) (r : RelV v u) (rs : RepS X.K H v a) (e : a.dat = some x) (e2 : isiSem x T = some k) (q : Q (.bl k) H) :
    wpAny (model X.prog X.w) X.A (call (.builtin "isinstance") [u, .type T]) (EP X pins σ Q) X.xe s := by
  unfold isiSem at e2
  split at e2
  · cases e2
  rename_i nf
  obtain ⟨t, ty, ht⟩ := ty_of rs e (by simpa using nf)
  refine call_isi pins s σ H [v, .ty T] [u, .type T] Q I (.cons r (.cons rfl .nil)) ⟨v, .ty T, _, _, k, rfl, .ty T, ty, kit_ty ?_, q⟩
  unfold isiS at e2
  split at e2
  · rename_i hT; subst hT
    cases x <;> (simp only at ht; subst ht; cases e2; first | (show kitB _ _ = some true; decide +kernel) | (show kitB _ _ = some false; decide +kernel))
  split at e2
  · rename_i hT; subst hT
    cases x <;> (simp only at ht; subst ht; cases e2; first | (show kitB _ _ = some true; decide +kernel) | (show kitB _ _ = some false; decide +kernel))
  split at e2
  · rename_i hT; subst hT
    cases x <;> (simp only at ht; subst ht; cases e2; first | (show kitB _ _ = some true; decide +kernel) | (show kitB _ _ = some false; decide +kernel))
  split at e2
  · rename_i hT; subst hT
    cases x <;> (simp only at ht; subst ht; cases e2; first | (show kitB _ _ = some true; decide +kernel) | (show kitB _ _ = some false; decide +kernel))
  split at e2
  · rename_i hT; subst hT
    cases x <;> (simp only at ht; subst ht; cases e2; first | (show kitB _ _ = some true; decide +kernel) | (show kitB _ _ = some false; decide +kernel))
  · cases e2
theorem isi_names {x : D} {T : String} {k : Bool} (e : isiSem x T = some k) : T ∈ bnames ∧ bootBuiltins (Str.ofString T) = some (.type T) := by
  unfold isiSem at e
  split at e
  · cases e
  unfold isiS at e
  split at e
  · rename_i h; subst h; exact ⟨by decide, by decide +kernel⟩
  split at e
  · rename_i h; subst h; exact ⟨by decide, by decide +kernel⟩
  split at e
  · rename_i h; subst h; exact ⟨by decide, by decide +kernel⟩
  split at e
  · rename_i h; subst h; exact ⟨by decide, by decide +kernel⟩
  split at e
  · rename_i h; subst h; exact ⟨by decide, by decide +kernel⟩
  · cases e
end
end Q

namespace Q
open PySem PySem.Spec PyProof.Rows L2
variable [LamT]
/-! ### dict(pairs), sorted(..) -/
theorem putG_eq (kvs : List (L2.Key × V)) (k : L2.Key) (v : V) : putK kvs k v = putG kvs k v := rfl
theorem RepKs.any {K : PySem.W.Frag} {H : Hp} {k : L2.Key} : ∀ {ks : List (L2.Key × V)} {kds : List (L2.Key × D)}, RepKs K H ks kds → (ks.any fun kv => decide (kv.1 = k)) = (kds.any fun kv => decide (kv.1 = k))
  | _, _, .nil => rfl
  | _, _, .cons _ _ r => by simp only [List.any_cons, RepKs.any r]
theorem RepKs.repl {K : PySem.W.Frag} {H : Hp} {k : L2.Key} {v : V} {d : D} (h : RepD K H v d) : ∀ {ks : List (L2.Key × V)} {kds : List (L2.Key × D)}, RepKs K H ks kds → RepKs K H (ks.map fun kv => if kv.1 = k then (kv.1, v) else kv) (kds.map fun kv => if kv.1 = k then (kv.1, d) else kv)
  | _, _, .nil => .nil
  | _, _, .cons (k := j) o hd r => by
    simp only [List.map_cons]
    by_cases e : j = k
    · rw [if_pos e, if_pos e]
      exact .cons o h (RepKs.repl h r)
    · rw [if_neg e, if_neg e]
      exact .cons o hd (RepKs.repl h r)
theorem RepKs.snoc {K : PySem.W.Frag} {H : Hp} {k : L2.Key} {v : V} {d : D} (o : keyOk k) (h : RepD K H v d) : ∀ {ks : List (L2.Key × V)} {kds : List (L2.Key × D)}, RepKs K H ks kds → RepKs K H (ks ++ [(k, v)]) (kds ++ [(k, d)])
  | _, _, .nil => .cons o h .nil
  | _, _, .cons o' hd r => .cons o' hd (RepKs.snoc o h r)
theorem RepKs.put {K : PySem.W.Frag} {H : Hp} {k : L2.Key} {v : V} {d : D} {ks : List (L2.Key × V)} {kds : List (L2.Key × D)} (r : RepKs K H ks kds) (o : keyOk k) (h : RepD K H v d) : RepKs K H (putG ks k v) (putG kds k d) := by
  unfold putG
  rw [r.any]
  split
  · exact r.repl h
  · exact r.snoc o h
theorem RepKs.merge {K : PySem.W.Frag} {H : Hp} : ∀ {more : List (L2.Key × V)} {moreD : List (L2.Key × D)} {ks : List (L2.Key × V)} {kds : List (L2.Key × D)}, RepKs K H more moreD → RepKs K H ks kds → RepKs K H (mergeG ks more) (mergeG kds moreD)
  | _, _, _, _, .nil, r => r
  | _, _, _, _, .cons o h m, r => by
    have q := RepKs.merge m (r.put o h)
    exact q
theorem pairs_rep {K : PySem.W.Frag} {H : Hp} : ∀ {vs : List V} {ys : List D} {kds : List (L2.Key × D)}, RepDs K H vs ys → pairsK ys = some kds → ∃ (ps : List Addr) (ks : List (L2.Key × V)), vs = ps.map V.ref ∧ Paired (fun p kv => SqT K H p [kV kv.1, kv.2]) ps ks ∧ RepKs K H ks kds
  | _, _, kds, .nil, e => by
    simp only [pairsK, Option.some.injEq] at e; subst e
    exact ⟨[], [], rfl, .nil, .nil⟩
  | _, _, kds, .cons (d := d) h r, e => by
    unfold pairsK at e
    split at e
    · rename_i e1; simp at e1
    · rename_i k v r' e1
      injection e1 with e1 e2
      subst e1 e2
      split at e
      · rename_i kk rr e3 e4
        cases e
        obtain ⟨ps, ks, rfl, h2, h3⟩ := pairs_rep r e4
        cases h with
        | @tup a xs _ ht hz hr =>
          cases hr with
          | cons h4 hr =>
            cases hr with
            | cons h5 hr =>
              cases hr
              obtain ⟨rfl, ko, _⟩ := key_rep h4 e3
              exact ⟨a :: ps, (kk, _) :: ks, rfl, .cons ht h2, .cons ko h5 h3⟩
      · cases e
    · cases e
section
variable {X : Cx}
theorem dic_call (hc : X.calm = true) : CallR X (.type "dict") (fun xs H Q => ∃ v s ys kds, xs = [v] ∧ RepS X.K H v s ∧ s.seqL = some ys ∧ pairsK ys = some kds ∧ ∀ p M, H p = none → RepKs X.K H M (mergeG [] kds) → Q (.ref p) (upd H p (.dK M))) := by
  intro pins s σ H xs us Q I r ⟨v, a, ys, kds, e, rs, e1, e2, q⟩
  subst e
  obtain ⟨l, vs, rfl, h1, h2, h3⟩ := rs.seqL e1
  obtain ⟨ps, ks, rfl, h4, h5⟩ := pairs_rep h3 e2
  refine call_dictP hc pins s σ H _ us Q I r ⟨l, ps, ks, rfl, Rd.sq h1, h4, fun p hp => q p _ hp ?_⟩
  exact RepKs.merge h5 .nil
/-! sorted -/
theorem small_line0 {n : Nat} (h : n ≤ 1000) : n ≤ sizeLine := Nat.le_trans h (by rw [sizeLine_eq]; decide)
theorem insI_perm (x : Int) : ∀ l : List Int, (insI x l).Perm (x :: l)
  | [] => .refl _
  | y :: r => by
    unfold insI
    split
    · exact .refl _
    · exact ((insI_perm x r).cons y).trans (.swap x y r)
theorem sortI_perm : ∀ l : List Int, (sortI l).Perm l
  | [] => .refl _
  | x :: r => (insI_perm x _).trans ((sortI_perm r).cons x)
theorem insI_sorted (x : Int) : ∀ l : List Int, l.Pairwise (· ≤ ·) → (insI x l).Pairwise (· ≤ ·)
  | [], _ => by simp [insI]
  | y :: r, h => by
    unfold insI
    rw [List.pairwise_cons] at h
    split
    · rename_i hx
      rw [List.pairwise_cons]
      refine ⟨fun z hz => ?_, List.pairwise_cons.mpr h⟩
      rcases List.mem_cons.mp hz with rfl | hz
      · exact hx
      · exact Int.le_trans hx (h.1 z hz)
    · rename_i hx
      rw [List.pairwise_cons]
      refine ⟨fun z hz => ?_, insI_sorted x r h.2⟩
      rcases List.mem_cons.mp ((insI_perm x r).mem_iff.mp hz) with rfl | hz
      · omega
      · exact h.1 z hz
theorem sortI_sorted : ∀ l : List Int, (sortI l).Pairwise (· ≤ ·)
  | [] => .nil
  | x :: r => insI_sorted x _ (sortI_sorted r)
theorem sorted_uniq : ∀ {a b : List Int}, a.Perm b → a.Pairwise (· ≤ ·) → b.Pairwise (· ≤ ·) → a = b
  | [], b, p, _, _ => by
    have := p.length_eq
    cases b with
    | nil => rfl
    | cons _ _ => simp at this
  | x :: a, [], p, _, _ => by
    have := p.length_eq
    simp at this
  | x :: a, y :: b, p, h1, h2 => by
    rw [List.pairwise_cons] at h1 h2
    have hxy : x = y := by
      have m1 : x ∈ y :: b := p.mem_iff.mp List.mem_cons_self
      have m2 : y ∈ x :: a := p.mem_iff.mpr List.mem_cons_self
      rcases List.mem_cons.mp m1 with e | m1
      · exact e
      · rcases List.mem_cons.mp m2 with e | m2
        · exact e.symm
        · have := h1.1 y m2
          have := h2.1 x m1
          omega
    subst hxy
    rw [sorted_uniq (List.Perm.cons_inv p) h1.2 h2.2]
theorem intKeys_nf {kvs : List (D × D)} {ns : List Int} (e : intKeys kvs = some ns) : isF kvs = false := by
  cases kvs with
  | nil => rfl
  | cons p r =>
    obtain ⟨k, v⟩ := p
    cases k <;> first | rfl | simp [intKeys] at e
theorem intKeys_rep {K : PySem.W.Frag} {H : Hp} : ∀ {ks : List (L2.Key × V)} {kds : List (L2.Key × D)} {ns : List Int}, RepKs K H ks kds → intKeys (kds.map fun p => (keyD p.1, p.2)) = some ns → ks.map (·.1) = ns.map Sum.inl
  | _, _, ns, .nil, e => by
    simp only [List.map_nil, intKeys, Option.some.injEq] at e; subst e; rfl
  | _, _, ns, .cons (k := .inl i) _ _ r, e => by
    simp only [List.map_cons, keyD, intKeys, Option.map_eq_some_iff] at e
    obtain ⟨m, e1, rfl⟩ := e
    rw [List.map_cons, List.map_cons, intKeys_rep r e1]
  | _, _, ns, .cons (k := .inr x) _ _ r, e => by simp [keyD, intKeys] at e
theorem rep_intsL {K : PySem.W.Frag} {H : Hp} : ∀ ns : List Int, RepDs K H (ns.map V.int) (ns.map PyData.int)
  | [] => .nil
  | n :: r => .cons (.int n) (rep_intsL r)
theorem srt_call (hc : X.calm = true) : CallR X (.builtin "sorted") (fun xs H Q => ∃ v s zs, xs = [v] ∧ RepS X.K H v s ∧ srtSem s = some zs ∧ After X.K H (.ml zs) Q) := by
  intro pins s σ H xs us Q I r ⟨v, a, zs, e, rs, e1, q⟩
  subst e
  unfold srtSem at e1
  split at e1
  · rename_i kvs
    split at e1
    · rename_i ns e2
      split at e1
      · rename_i h64
        cases e1
        obtain ⟨p, ks, kds, rfl, h1, h2, rfl⟩ := rs.dctT rfl (intKeys_nf e2)
        have hk := intKeys_rep h2 e2
        refine call_sortedDI hc pins s σ H _ us Q I r ⟨p, ks, ns, rfl, h1, hk, h64, fun ys b h3 h4 hb => ?_⟩
        have e : ys = sortI ns := sorted_uniq (h3.trans (sortI_perm ns).symm) h4 (sortI_sorted ns)
        subst e
        exact q.newL (rep_intsL _) (by rw [List.length_map, (sortI_perm ns).length_eq]; exact small_line0 (by omega)) b hb
      · cases e1
    · cases e1
  · split at e1
    · rename_i ys e2
      simp only [Option.map_eq_some_iff] at e1
      obtain ⟨ns, e3, rfl⟩ := e1
      obtain ⟨l, vs, rfl, h1, h2, h3⟩ := rs.seqL e2
      have := h3.ints e3
      subst this
      refine cr_sortedI pins s σ H _ us Q I r ⟨l, ns, rfl, Rd.sq h1, fun ys b h4 h5 hb => ?_⟩
      have e : ys = sortI ns := sorted_uniq (h4.trans (sortI_perm ns).symm) h5 (sortI_sorted ns)
      subst e
      exact q.newL (rep_intsL _) (by rw [List.length_map, (sortI_perm ns).length_eq]; simpa using h2) b hb
    · cases e1
end
end Q

namespace Q
open PySem PySem.Spec PyProof.Rows L2
variable [LamT]
/-! ### a dict's comprehension -/
abbrev dcStep (C : Call) (kx vx : E) (tg : Tg) (cs : Es) (vs : List Nat) : D → Rho → Res (Option (L2.Key × D)) := fun x ρ => optR (setTg tg x (wipeR ρ vs)) fun ρ => (evC C cs ρ).bind fun t ρ => if t then (ev C false kx ρ).bind fun o ρ => (take o ρ).bind fun y ρ => optR (asKey y) fun k => (ev C false vx ρ).bind fun o ρ => (take o ρ).bind fun z ρ => .ok (some (k, z)) ρ else .ok none ρ
/-- the state within: σ, ρ1, H1 at the start, the new list at Dl -/
structure DcAt (K : PySem.W.Frag) (σ : St) (vs : List Nat) (ρ1 : Rho) (H1 : Hp) (Dl : Addr) (ρc : Rho) (Hc : Hp) (acc : List (L2.Key × D)) : Prop where
  len : ρc.length = ρ1.length
  rel : RelE K (wipe σ vs) Hc (wipeR ρc vs)
  kp : ∀ a u, H1 a = some u → a ≠ Dl → ¬ OwnA (wipe σ vs) (wipeR ρ1 vs) a → ∀ (_nt : NT u := by first | assumption | nofun), Hc a = some u
  sub : ∀ a, OwnA (wipe σ vs) (wipeR ρc vs) a → OwnA (wipe σ vs) (wipeR ρ1 vs) a
  trk : ∀ a, Hc a = none → H1 a = none
  im : Im H1 Hc
  at_ : ∃ accV, Hc Dl = some (.dK accV) ∧ RepKs K Hc accV acc
/-- the reading of a comprehension, from what it is worth -/
theorem dc_read {K : PySem.W.Frag} {C : Call} {kx vx : E} {tg : Tg} {it : It} {cs : Es} {vs : List Nat} {σ : St} {H : Hp} {Q : VK} (hv : ∀ j ∈ tg.slots, j ∈ vs)
    (h : ∃ ρ, RelE K σ H ρ ∧ (ev C false (.dcm kx vx tg it cs vs) ρ).gx (W := zk Z σ ρ H) (PoE K σ ρ H Q)) : tDc (tI K Z C it) (gT K tg) (tCs K Z0 C cs) (tFz (tE K Z0 C false kx)) (tFz (tE K Z0 C false vx)) vs σ H Q := by
  obtain ⟨ρ, rel, g⟩ := h
  have g : ((evI C it ρ).bind fun xs ρ1 => (dcGo (dcStep C kx vx tg cs vs) xs [] ρ1).nox.bind fun ys ρ2 => .ok (.v (.md ys)) (backR ρ1 ρ2 vs)).gx (W := zk Z σ ρ H) (PoE K σ ρ H Q) := g
  rw [gx_bind] at g
  refine ⟨ρ, rel, g.mono fun xs ρ1 g1 J H1 aft Y Dl hD => ?_⟩
  rw [gx_bind, gx_nox] at g1
  have sm : Same H1 (upd H1 Dl (.dK [])) := same_upd hD
  have rel1 : RelE K σ (upd H1 Dl (.dK [])) ρ1 := aft.rel.same sm
  have nD : ∀ (vs : List Nat) (ρ : Rho), ¬ (∃ vs', H1 Dl = some (.dK vs')) := fun _ _ ⟨_, z⟩ => by rw [hD] at z; cases z
  have nO : ¬ OwnA σ ρ1 Dl := fun z => by rcases z.lst aft.rel with ⟨_, z⟩ | ⟨_, z⟩ <;> (rw [hD] at z; cases z)
  have nOw : ¬ OwnA (wipe σ vs) (wipeR ρ1 vs) Dl := fun z => by
    obtain ⟨k, s, _, e, o, ea⟩ := OwnA.unwipe z
    exact nO ⟨k, s, e, o, ea⟩
  refine ⟨fun i m Hc => m = xs.length - i ∧ i ≤ xs.length ∧ ∃ ρc acc, DcAt K σ vs ρ1 (upd H1 Dl (.dK [])) Dl ρc Hc acc ∧ (dcGo (dcStep C kx vx tg cs vs) (xs.drop i) acc ρc).gx (W := fun _ => False) fun ys ρ2 => PoE K σ ρ H Q (.v (.md ys)) (backR ρ1 ρ2 vs),
    ⟨xs.length, by simp, Nat.zero_le _, ρ1, [], ⟨rfl, rel1.wipe vs, fun a u z _ _ _ => z, fun a z => z, fun a z => z, Im.refl _, [], upd_same, .nil⟩, by rw [List.drop_zero]; exact g1.mono fun ys ρ2 q => q⟩, ?_⟩
  rintro i m Hc ⟨rfl, hi, ρc, acc, L, g2⟩
  have im1 : Im H1 Hc := (Same.im sm).trans L.im
  by_cases hlt : i < xs.length
  · refine .inr ⟨Y.go i Hc im1 hlt, fun H' => i + 1 ≤ xs.length ∧ ∃ ρc acc, DcAt K σ vs ρ1 (upd H1 Dl (.dK [])) Dl ρc H' acc ∧ (dcGo (dcStep C kx vx tg cs vs) (xs.drop (i + 1)) acc ρc).gx (W := fun _ => False) fun ys ρ2 => PoE K σ ρ H Q (.v (.md ys)) (backR ρ1 ρ2 vs),
      fun H' ⟨h1, h2⟩ => ⟨xs.length - (i + 1), by omega, rfl, h1, h2⟩, fun v H' y => ?_⟩
    obtain ⟨sm2, rx⟩ := Y.yld i Hc v H' xs[i] im1 (List.getElem?_eq_getElem hlt) y
    rw [List.drop_eq_getElem_cons hlt] at g2
    simp only [dcGo] at g2
    rw [gx_bind] at g2
    unfold dcStep at g2
    rw [gx_optR] at g2
    obtain ⟨ρt, et, g2⟩ := g2
    have relw : RelE K (wipe σ vs) H' (wipeR ρc vs) := L.rel.same sm2
    refine setTg_ok tg v xs[i] _ _ ρt _ et relw rx fun σ2 r2 l2 k2 o2 => ⟨?_, ?_⟩
    · have e1 : wipe (wipe σ vs) vs = wipe σ vs := by
        refine wipe_eq (wipe_length σ vs) fun k hk => wipe_out hk
      rw [← e1]
      exact wipe_eq l2 fun k hk => k2 k fun z => hk (hv k z)
    have ew : wipe σ2 vs = wipe σ vs := by
      have e1 : wipe (wipe σ vs) vs = wipe σ vs := wipe_eq (wipe_length σ vs) fun k hk => wipe_out hk
      rw [← e1]
      exact wipe_eq l2 fun k hk => k2 k fun z => hk (hv k z)
    rw [gx_bind] at g2
    refine ⟨ρt, r2, g2.mono fun k ρ3 g3 H3 a3 => ?_⟩
    -- what is known behind the tests, or behind the element
    have lenT : ρt.length = ρ1.length := by rw [← r2.len, l2, wipe_length, aft.rel.len]
    have step : ∀ {ρ4 : Rho} {H4 : Hp} {acc' : List (L2.Key × D)}, Aft K σ2 ρt H' ρ4 H4 → (∃ accV, H4 Dl = some (.dK accV) ∧ RepKs K H4 accV acc') → DcAt K σ vs ρ1 (upd H1 Dl (.dK [])) Dl ρ4 H4 acc' := fun {ρ4 H4 acc'} a4 ha => by
      have sub4 : ∀ a, OwnA (wipe σ vs) (wipeR ρ4 vs) a → OwnA (wipe σ vs) (wipeR ρ1 vs) a := fun a z => by
        rw [← ew] at z
        obtain ⟨k, s, hk, e, o, ea⟩ := OwnA.unwipe z
        exact L.sub a (o2 a (a4.sub a ⟨k, s, e, o, ea⟩))
      have kp4 : ∀ a u, upd H1 Dl (.dK []) a = some u → a ≠ Dl → ¬ OwnA (wipe σ vs) (wipeR ρ1 vs) a → NT u → H4 a = some u := fun a u z nd n nt =>
        a4.kp a u (sm2 a u (L.kp a u z nd n)) fun q => n (L.sub a (o2 a q))
      refine ⟨?_, by rw [← ew]; exact a4.rel.wipe vs, kp4, sub4, fun a z => ?_, ?_, ha⟩
      · rw [← a4.rel.len, l2, wipe_length, aft.rel.len]
      · exact L.trk a (sm2.free (a4.trk a z))
      · exact L.im.trans ((Same.im sm2).trans (a4.im r2))
    have nO2 : ¬ OwnA σ2 ρt Dl := fun z => nOw (L.sub _ (o2 _ z))
    obtain ⟨accV, hA, rA⟩ := L.at_
    have hA' : H' Dl = some (.dK accV) := sm2 _ _ hA
    cases k with
    | false =>
      simp only [Bool.false_eq_true, if_false] at g3 ⊢
      have hA3 : H3 Dl = some (.dK accV) := a3.kp _ _ hA' nO2
      refine ⟨hlt, ρ3, acc, step a3 ⟨accV, hA3, rA.im ((Same.im sm2).trans (a3.im r2))⟩, ?_⟩
      exact g3
    | true =>
      simp only [if_true] at g3 ⊢
      rw [gx_bind] at g3
      refine ⟨ρ3, a3.rel, g3.mono fun o ρ4 g4 w H4 a4 ro fr => ?_⟩
      rw [gx_bind] at g4
      have b4 : Aft K σ2 ρt H' ρ4 H4 := a3.trans a4
      refine take_fz b4 ro (fr.aft a3) g4 fun d ρ5 H5 g5 b5 i5 s5 r5 k5 => .done ?_
      rw [gx_optR] at g5
      obtain ⟨kk, ek, g5⟩ := g5
      obtain ⟨ew1, ko, _⟩ := key_rep r5 ek
      rw [gx_bind] at g5
      refine ⟨ρ5, b5.rel, g5.mono fun o2 ρ6 g6 w2 H6 a6 ro2 fr2 => ?_⟩
      rw [gx_bind] at g6
      have b6 : Aft K σ2 ρt H' ρ6 H6 := b5.trans a6
      refine take_fz b6 ro2 (fr2.aft b5) g6 fun d2 ρ7 H7 g7 b7 i7 s7 r7 k7 => .done ?_
      have g7 : (if acc.length < SZ then dcGo (dcStep C kx vx tg cs vs) (xs.drop (i + 1)) (putG acc kk d2) ρ7 else .bad).gx (W := fun _ => False) _ := g7
      split at g7
      · rename_i hz
        have hA7 : H7 Dl = some (.dK accV) := b7.kp _ _ hA' nO2
        have rA7 : RepKs K H7 accV acc := rA.im ((Same.im sm2).trans (b7.im r2))
        refine ⟨accV, kk, ew1, hA7, by rw [rA7.length, ← sz_eq]; exact hz, hlt, ρ7, putG acc kk d2, ?_, g7⟩
        have L7 := step b7 ⟨accV, hA7, rA7⟩
        have n7 : ¬ OwnA (wipe σ vs) (wipeR ρ7 vs) Dl := fun z => nOw (L7.sub _ z)
        have im7 := im_updM (w0 := .dK (putG accV kk w2)) hA7 trivial
        refine ⟨L7.len, L7.rel.updD hA7 (.inr ⟨_, rfl⟩) n7, fun a u z nd n nt => by rw [upd_ne nd]; exact L7.kp a u z nd n, L7.sub, fun a z => ?_, L7.im.trans im7, _, upd_same, (rA7.put ko r7).im im7⟩
        by_cases ha : a = Dl
        · subst ha; rw [putG_eq, upd_same] at z; cases z
        · rw [upd_ne ha] at z; exact L7.trk a z
      · exact g7.elim
  · have e : i = xs.length := by omega
    subst e
    refine .inl ⟨Y.stop Hc im1, ?_⟩
    rw [List.drop_length] at g2
    have g2 : PoE K σ ρ H Q (.v (.md acc)) (backR ρ1 ρc vs) := g2
    obtain ⟨accV, hA, rA⟩ := L.at_
    have hl1 : ρ1.length = ρc.length := L.len.symm
    -- an own one of a wiped slot is left alone
    have own1 : ∀ (k : Nat) (s : SV) (a : Addr), k ∈ vs → gt ρ1 k = some s → s.own = true → σ[k]? = some (some (.ref a)) → ¬ OwnA (wipe σ vs) (wipeR ρ1 vs) a := fun k s a hk e o ea z => by
      obtain ⟨j, t, hj, e2, o2, ea2⟩ := OwnA.unwipe z
      exact hj (by rw [aft.rel.dis j k t s a e2 e o2 o ea2 ea]; exact hk)
    have relB : RelE K σ Hc (backR ρ1 ρc vs) := by
      refine ⟨by rw [backR_len, L.len]; exact aft.rel.len, fun k s e => ?_, fun j k s t a e1 e2 o1 o2 a1 a2 => ?_, L.rel.tab⟩
      · rw [gt_back hl1] at e
        split at e
        · rename_i hk
          obtain ⟨v, h1, h2⟩ := aft.rel.at_ k s e
          refine ⟨v, h1, ?_⟩
          cases s with
          | d x => exact RepD.im im1 h2
          | ml ys =>
            obtain ⟨a, us, rfl, q2, q3, q4⟩ := h2
            have nd : a ≠ Dl := fun z => by subst z; rw [hD] at q2; cases q2
            exact ⟨a, us, rfl, L.kp a _ (sm a _ q2) nd (own1 k _ a hk e rfl h1), q3, q4.im im1⟩
          | md ys =>
            obtain ⟨a, ks, rfl, q2, q3⟩ := h2
            have nd : a ≠ Dl := fun z => by subst z; rw [hD] at q2; cases q2
            exact ⟨a, ks, rfl, L.kp a _ (sm a _ q2) nd (own1 k _ a hk e rfl h1), q3.im im1⟩
          | rl _ => exact RepS.rlIm im1 h2
        · rename_i hk
          obtain ⟨v, h1, h2⟩ := L.rel.at_ k s (by rw [gt_wipe, if_neg hk]; exact e)
          exact ⟨v, (wipe_some h1).1, h2⟩
      · have cls : ∀ (k : Nat) (s : SV), gt (backR ρ1 ρc vs) k = some s → s.own = true → σ[k]? = some (some (.ref a)) → (k ∈ vs ∧ gt ρ1 k = some s) ∨ (k ∉ vs ∧ gt ρc k = some s ∧ ∃ j t, j ∉ vs ∧ gt ρ1 j = some t ∧ t.own = true ∧ σ[j]? = some (some (.ref a))) := fun k s e o ea => by
          rw [gt_back hl1] at e
          split at e
          · rename_i hk; exact .inl ⟨hk, e⟩
          · rename_i hk
            exact .inr ⟨hk, e, OwnA.unwipe (L.sub a (OwnA.wiped hk e o ea))⟩
        rcases cls j s e1 o1 a1 with ⟨hj, g1⟩ | ⟨hj, g1, j', t', hj', gj', oj', aj'⟩
        · rcases cls k t e2 o2 a2 with ⟨hk, g2⟩ | ⟨hk, g2, k', u', hk', gk', ok', ak'⟩
          · exact aft.rel.dis j k s t a g1 g2 o1 o2 a1 a2
          · exact absurd (aft.rel.dis j k' s u' a g1 gk' o1 ok' a1 ak') fun z => hk' (z ▸ hj)
        · rcases cls k t e2 o2 a2 with ⟨hk, g2⟩ | ⟨hk, g2, _⟩
          · exact absurd (aft.rel.dis k j' t t' a g2 gj' o2 oj' a2 aj') fun z => hj' (z ▸ hk)
          · exact L.rel.dis j k s t a (by rw [gt_wipe, if_neg hj]; exact g1) (by rw [gt_wipe, if_neg hk]; exact g2) o1 o2 (wipe_at a1 hj) (wipe_at a2 hk)
    have subB : ∀ a, OwnA σ (backR ρ1 ρc vs) a → OwnA σ ρ1 a := fun a ⟨k, s, e, o, ea⟩ => by
      rw [gt_back hl1] at e
      split at e
      · exact ⟨k, s, e, o, ea⟩
      · rename_i hk
        obtain ⟨j, t, _, gj, oj, aj⟩ := OwnA.unwipe (L.sub a (OwnA.wiped hk e o ea))
        exact ⟨j, t, gj, oj, aj⟩
    have aftB : Aft K σ ρ1 H1 (backR ρ1 ρc vs) Hc := by
      refine ⟨fun a u z n nt => ?_, relB, subB, fun a z => ?_⟩
      · have nd : a ≠ Dl := fun q => by subst q; rw [hD] at z; cases z
        exact L.kp a u (sm a u z) nd fun q => by
          obtain ⟨j, t, _, gj, oj, aj⟩ := OwnA.unwipe q
          exact n ⟨j, t, gj, oj, aj⟩
      · exact sm.free (L.trk a z)
    refine g2 (.ref Dl) Hc (aft.trans aftB) ⟨⟨Dl, accV, rfl, hA, rA⟩, fun _ a e z => ?_⟩ fun _ a e => ?_
    · cases e
      exact nO (subB _ z)
    · cases e
      exact aft.trk _ hD
section
variable {X : Cx}
/-- a name gets the new dict -/
theorem ps_setDc {i : Nat} {y : Str} {py : Pos} {kx vx tg iter : Expr} {ifs : List Expr} {scope : Scope} {own : List (Str × Nat)} {pos spos : Pos} {wi : TI} {g : TG} {tt : TT} {tk tv : TE} (hc : X.calm = true) (hN : X.N.Nodup) (hy : X.N[i]? = some y) (hyl : X.env.scope.names.lookup y = some .local)
    (hsw : swapsWith (.DictComp kx vx [⟨tg, iter, ifs, 0⟩] scope pos) (some (.Name y py)) spos.line X.env = pure true) (hi : PI X tg iter wi) (ok : BlkOk X.N X.env.scope scope own)
    (hg : ∀ (s : Shared) (H : Hp) (C : Addr) (cl : List (Str × Addr)) (fp : List Addr), PG (X.blk s H scope (compEnvC scope cl C X.env) fp) tg g)
    (ht : ∀ (s : Shared) (H : Hp) (C : Addr) (cl : List (Str × Addr)) (fp : List Addr), PTs (X.blk s H scope (compEnvC scope cl C X.env) fp) ifs tt)
    (hk : ∀ (s : Shared) (H : Hp) (C : Addr) (cl : List (Str × Addr)) (fp : List Addr), PE (X.blk s H scope (compEnvC scope cl C X.env) fp) kx tk)
    (he : ∀ (s : Shared) (H : Hp) (C : Addr) (cl : List (Str × Addr)) (fp : List Addr), PE (X.blk s H scope (compEnvC scope cl C X.env) fp) vx tv) (hs : ∀ x, foldedSetIterable iter X.env x = pure x) :
    PS X (.Assign [.Name y py] (.DictComp kx vx [⟨tg, iter, ifs, 0⟩] scope pos) spos) (tAsg (tDc wi g tt tk tv (own.map (·.2))) (gName i)) := by
  refine ⟨fun pins s σ H D I h => ?_⟩
  rw [exec_Assign_Name_used _ _ _ _ hsw]
  refine wpAny_bind (wpAny_standAt (wpAny_bind ?_))
  show wpAny _ X.A (do let _ ← comprehension (.DictComp kx vx [⟨tg, iter, ifs, 0⟩] scope pos) scope X.env (firstIterPos [⟨tg, iter, ifs, 0⟩] pos) newDict false (eval iter X.env) (some (assign (.Name y py) X.env))) _ _ s
  have h : tDc wi g tt tk tv (own.map (·.2)) σ H (fun x H1 => gName i x σ H1 D.nx) := h
  refine wpAny_bind (thn (dc_core (Qf := fun _ s' => SP X pins D .next s') hc hN I hi ok hg ht hk he hs h fun L C s1 m H1 I1 q hn f => ?_) fun _ s2 hq => wpAny_pure (wpAny_pure hq))
  show wpAny _ _ (assign (.Name y py) X.env (.ref L)) _ _ _
  refine wpAny_assign_Name (store_ok2 (v := V.ref L) I1 hN hy (.inl hyl) rfl (fun s2 I2 ⟨a, sb, ha⟩ => ?_) (.inr hyl))
  obtain ⟨f0, f1, f2, f3, f4, f5⟩ := f
  have hCa : C ≠ a := by
    rcases ha with z | z
    · rw [z]; exact f1
    · exact fun e => f4 y a z e.symm
  refine ⟨m, hn.sameBut sb hCa, fun h3 sb3 => ?_⟩
  exact ⟨_, H1, I2.turned (t' := s2.toks) (fun b o hb e => (sb3.2 b hb).trans e) f0 f1 f3 f4 f5, q⟩
end
end Q

namespace Q
open PySem PySem.Spec PyProof.Rows L2
variable [LamT]
/-! ### a comprehension of two fors -/
theorem RelE.same_gt {K : PySem.W.Frag} {σ : St} {H : Hp} {ρ ρ' : Rho} (r : RelE K σ H ρ) (hl : ρ'.length = ρ.length) (h : ∀ k, gt ρ' k = gt ρ k) : RelE K σ H ρ' :=
  ⟨r.len.trans hl.symm, fun i s e => r.at_ i s (by rw [← h]; exact e), fun i j s t a e1 e2 => r.dis i j s t a (by rw [← h]; exact e1) (by rw [← h]; exact e2), r.tab⟩
theorem gt_wipe2 {ρ : Rho} {vs vs1 : List Nat} (h : ∀ j ∈ vs1, j ∈ vs) (k : Nat) : gt (wipeR ρ vs) k = gt (wipeR (wipeR ρ vs1) vs) k := by
  rw [gt_wipe, gt_wipe, gt_wipe]
  by_cases hk : k ∈ vs
  · rw [if_pos hk, if_pos hk]
  · rw [if_neg hk, if_neg hk, if_neg fun z => hk (h k z)]
/-- one for, from any begin on -/
theorem lc_loop {K : PySem.W.Frag} {C : Call} {elt : E} {tg : Tg} {cs : Es} {vs : List Nat} {σ : St} (hv : ∀ j ∈ tg.slots, j ∈ vs) {J : L2.It} {zs : List D} {HY : Hp} (Y : Yields K J zs HY) {ρ1 : Rho} {H1 : Hp} {Dl : Addr} {ρ0 : Rho} {H0 : Hp} {acc0 : List D}
    (hl1 : σ.length = ρ1.length) (imY : Im HY H1) (L0 : LcAt K σ vs ρ1 H1 Dl ρ0 H0 acc0) (nOw : ¬ OwnA (wipe σ vs) (wipeR ρ1 vs) Dl) {Pe : List D → Rho → Prop} {Nx : Hp → Prop} (g : (lcIn (lcStep C elt tg cs vs) zs acc0 ρ0).gx (W := fun _ => False) Pe)
    (he : ∀ acc ρc Hc, LcAt K σ vs ρ1 H1 Dl ρc Hc acc → Pe acc ρc → Nx Hc) :
    ∃ W1 : Nat → Nat → Hp → Prop, (∃ m, W1 0 m H0) ∧ ∀ j k H, W1 j k H → (J.stop j H ∧ Nx H) ∨ (J.go j H ∧ ∃ Nx1 : Hp → Prop, (∀ H', Nx1 H' → ∃ k', k' < k ∧ W1 (j + 1) k' H') ∧ ∀ x H', J.yld j H x H' → gT K tg x (wipe σ vs) H' fun σ3 H5 => wipe σ3 vs = wipe σ vs ∧ tCs K Z C cs σ3 H5 fun b H6 =>
      if b = true then tFz (tE K Z0 C false elt) σ3 H6 fun y H7 => ∃ acc, H7 Dl = some (.lst acc) ∧ acc.length < sizeLine ∧ Nx1 (upd H7 Dl (.lst (acc ++ [y]))) else Nx1 H6) := by
  refine ⟨fun i m Hc => m = zs.length - i ∧ i ≤ zs.length ∧ ∃ ρc acc, LcAt K σ vs ρ1 H1 Dl ρc Hc acc ∧ (lcIn (lcStep C elt tg cs vs) (zs.drop i) acc ρc).gx (W := fun _ => False) Pe,
    ⟨zs.length, by simp, Nat.zero_le _, ρ0, acc0, L0, by rw [List.drop_zero]; exact g⟩, ?_⟩
  rintro i m Hc ⟨rfl, hi, ρc, acc, L, g2⟩
  have im1 : Im HY Hc := imY.trans L.im
  by_cases hlt : i < zs.length
  · refine .inr ⟨Y.go i Hc im1 hlt, fun H' => i + 1 ≤ zs.length ∧ ∃ ρc acc, LcAt K σ vs ρ1 H1 Dl ρc H' acc ∧ (lcIn (lcStep C elt tg cs vs) (zs.drop (i + 1)) acc ρc).gx (W := fun _ => False) Pe,
      fun H' ⟨h1, h2⟩ => ⟨zs.length - (i + 1), by omega, rfl, h1, h2⟩, fun v H' y => ?_⟩
    obtain ⟨sm2, rx⟩ := Y.yld i Hc v H' zs[i] im1 (List.getElem?_eq_getElem hlt) y
    rw [List.drop_eq_getElem_cons hlt] at g2
    simp only [lcIn] at g2
    rw [gx_bind] at g2
    unfold lcStep at g2
    rw [gx_optR] at g2
    obtain ⟨ρt, et, g2⟩ := g2
    have relw : RelE K (wipe σ vs) H' (wipeR ρc vs) := L.rel.same sm2
    refine setTg_ok tg v zs[i] _ _ ρt _ et relw rx fun σ2 r2 l2 k2 o2 => ⟨?_, ?_⟩
    · have e1 : wipe (wipe σ vs) vs = wipe σ vs := by
        refine wipe_eq (wipe_length σ vs) fun k hk => wipe_out hk
      rw [← e1]
      exact wipe_eq l2 fun k hk => k2 k fun z => hk (hv k z)
    have ew : wipe σ2 vs = wipe σ vs := by
      have e1 : wipe (wipe σ vs) vs = wipe σ vs := wipe_eq (wipe_length σ vs) fun k hk => wipe_out hk
      rw [← e1]
      exact wipe_eq l2 fun k hk => k2 k fun z => hk (hv k z)
    rw [gx_bind] at g2
    refine ⟨ρt, r2, g2.mono fun k ρ3 g3 H3 a3 => ?_⟩
    have step : ∀ {ρ4 : Rho} {H4 : Hp} {acc' : List D}, Aft K σ2 ρt H' ρ4 H4 → (∃ accV, H4 Dl = some (.lst accV) ∧ RepDs K H4 accV acc') → LcAt K σ vs ρ1 H1 Dl ρ4 H4 acc' := fun {ρ4 H4 acc'} a4 ha => by
      have sub4 : ∀ a, OwnA (wipe σ vs) (wipeR ρ4 vs) a → OwnA (wipe σ vs) (wipeR ρ1 vs) a := fun a z => by
        rw [← ew] at z
        obtain ⟨k, s, hk, e, o, ea⟩ := OwnA.unwipe z
        exact L.sub a (o2 a (a4.sub a ⟨k, s, e, o, ea⟩))
      have kp4 : ∀ a u, H1 a = some u → a ≠ Dl → ¬ OwnA (wipe σ vs) (wipeR ρ1 vs) a → NT u → H4 a = some u := fun a u z nd n nt =>
        a4.kp a u (sm2 a u (L.kp a u z nd n)) fun q => n (L.sub a (o2 a q))
      refine ⟨?_, by rw [← ew]; exact a4.rel.wipe vs, kp4, sub4, fun a z => ?_, ?_, ha⟩
      · rw [← a4.rel.len, l2, wipe_length, hl1]
      · exact L.trk a (sm2.free (a4.trk a z))
      · exact L.im.trans ((Same.im sm2).trans (a4.im r2))
    have nO2 : ¬ OwnA σ2 ρt Dl := fun z => nOw (L.sub _ (o2 _ z))
    obtain ⟨accV, hA, rA⟩ := L.at_
    have hA' : H' Dl = some (.lst accV) := sm2 _ _ hA
    cases k with
    | false =>
      simp only [Bool.false_eq_true, if_false] at g3 ⊢
      have hA3 : H3 Dl = some (.lst accV) := a3.kp _ _ hA' nO2
      exact ⟨hlt, ρ3, acc, step a3 ⟨accV, hA3, rA.im ((Same.im sm2).trans (a3.im r2))⟩, g3⟩
    | true =>
      simp only [if_true] at g3 ⊢
      rw [gx_bind] at g3
      refine ⟨ρ3, a3.rel, g3.mono fun o ρ4 g4 w H4 a4 ro fr => ?_⟩
      rw [gx_bind] at g4
      have b4 : Aft K σ2 ρt H' ρ4 H4 := a3.trans a4
      refine take_fz b4 ro (fr.aft a3) g4 fun d ρ5 H5 g5 b5 i5 s5 r5 k5 => .done ?_
      have hA5 : H5 Dl = some (.lst accV) := b5.kp _ _ hA' nO2
      have rA5 : RepDs K H5 accV acc := rA.im ((Same.im sm2).trans (b5.im r2))
      have g5 : (if acc.length < SZ then lcIn (lcStep C elt tg cs vs) (zs.drop (i + 1)) (acc ++ [d]) ρ5 else .bad).gx Pe := g5
      split at g5
      · rename_i hz
        refine ⟨accV, hA5, by rw [rA5.length, ← sz_eq]; exact hz, hlt, ρ5, acc ++ [d], ?_, g5⟩
        have L5 := step b5 ⟨accV, hA5, rA5⟩
        have n5 : ¬ OwnA (wipe σ vs) (wipeR ρ5 vs) Dl := fun z => nOw (L5.sub _ z)
        refine ⟨L5.len, L5.rel.updD hA5 (.inl ⟨_, rfl⟩) n5, fun a u z nd n nt => by rw [upd_ne nd]; exact L5.kp a u z nd n, L5.sub, fun a z => ?_, L5.im.trans (im_updD hA5), _, upd_same, (rA5.append (.cons r5 .nil)).im (im_updD hA5)⟩
        by_cases ha : a = Dl
        · subst ha; rw [upd_same] at z; cases z
        · rw [upd_ne ha] at z; exact L5.trk a z
      · exact g5.elim
  · have e : i = zs.length := by omega
    subst e
    refine .inl ⟨Y.stop Hc im1, ?_⟩
    rw [List.drop_length] at g2
    exact he acc ρc Hc L g2
theorem lcIn_len {step : D → Rho → Res (Option D)} : ∀ {zs acc : List D} {ρ : Rho} {P : List D → Rho → Prop}, acc.length ≤ SZ → (lcIn step zs acc ρ).gx (W := fun _ => False) P → (lcIn step zs acc ρ).gx (W := fun _ => False) fun a r => a.length ≤ SZ ∧ P a r
  | [], acc, ρ, P, h, g => ⟨h, g⟩
  | z :: zs, acc, ρ, P, h, g => by
    simp only [lcIn] at g ⊢
    rw [gx_bind] at g ⊢
    refine g.mono fun o ρ1 g1 => ?_
    cases o with
    | none => exact lcIn_len h g1
    | some y =>
      simp only at g1 ⊢
      split at g1
      · rename_i hz
        rw [if_pos hz]
        exact lcIn_len (by rw [List.length_append, List.length_singleton]; exact hz) g1
      · exact g1.elim
/-- behind all turns the slots stand as before -/
theorem lc_end {K : PySem.W.Frag} {vs : List Nat} {σ : St} {ρ ρ1 ρc : Rho} {H H1 Hc : Hp} {Dl : Addr} {acc : List D} {Q : VK} (aft : Aft K σ ρ H ρ1 H1) (hD : H1 Dl = none) (L : LcAt K σ vs ρ1 (upd H1 Dl (.lst [])) Dl ρc Hc acc) (hz : acc.length ≤ sizeLine) (g2 : PoE K σ ρ H Q (.v (.ml acc)) (backR ρ1 ρc vs)) : Q (.ref Dl) Hc := by
  have sm : Same H1 (upd H1 Dl (.lst [])) := same_upd hD
  have im1 : Im H1 Hc := (Same.im sm).trans L.im
  have nO : ¬ OwnA σ ρ1 Dl := fun z => by rcases z.lst aft.rel with ⟨_, z⟩ | ⟨_, z⟩ <;> (rw [hD] at z; cases z)
  obtain ⟨accV, hA, rA⟩ := L.at_
  have hl1 : ρ1.length = ρc.length := L.len.symm
  have own1 : ∀ (k : Nat) (s : SV) (a : Addr), k ∈ vs → gt ρ1 k = some s → s.own = true → σ[k]? = some (some (.ref a)) → ¬ OwnA (wipe σ vs) (wipeR ρ1 vs) a := fun k s a hk e o ea z => by
    obtain ⟨j, t, hj, e2, o2, ea2⟩ := OwnA.unwipe z
    exact hj (by rw [aft.rel.dis j k t s a e2 e o2 o ea2 ea]; exact hk)
  have relB : RelE K σ Hc (backR ρ1 ρc vs) := by
    refine ⟨by rw [backR_len, L.len]; exact aft.rel.len, fun k s e => ?_, fun j k s t a e1 e2 o1 o2 a1 a2 => ?_, L.rel.tab⟩
    · rw [gt_back hl1] at e
      split at e
      · rename_i hk
        obtain ⟨v, h1, h2⟩ := aft.rel.at_ k s e
        refine ⟨v, h1, ?_⟩
        cases s with
        | d x => exact RepD.im im1 h2
        | ml ys =>
          obtain ⟨a, us, rfl, q2, q3, q4⟩ := h2
          have nd : a ≠ Dl := fun z => by subst z; rw [hD] at q2; cases q2
          exact ⟨a, us, rfl, L.kp a _ (sm a _ q2) nd (own1 k _ a hk e rfl h1), q3, q4.im im1⟩
        | md ys =>
          obtain ⟨a, ks, rfl, q2, q3⟩ := h2
          have nd : a ≠ Dl := fun z => by subst z; rw [hD] at q2; cases q2
          exact ⟨a, ks, rfl, L.kp a _ (sm a _ q2) nd (own1 k _ a hk e rfl h1), q3.im im1⟩
        | rl _ => exact RepS.rlIm im1 h2
      · rename_i hk
        obtain ⟨v, h1, h2⟩ := L.rel.at_ k s (by rw [gt_wipe, if_neg hk]; exact e)
        exact ⟨v, (wipe_some h1).1, h2⟩
    · have cls : ∀ (k : Nat) (s : SV), gt (backR ρ1 ρc vs) k = some s → s.own = true → σ[k]? = some (some (.ref a)) → (k ∈ vs ∧ gt ρ1 k = some s) ∨ (k ∉ vs ∧ gt ρc k = some s ∧ ∃ j t, j ∉ vs ∧ gt ρ1 j = some t ∧ t.own = true ∧ σ[j]? = some (some (.ref a))) := fun k s e o ea => by
        rw [gt_back hl1] at e
        split at e
        · rename_i hk; exact .inl ⟨hk, e⟩
        · rename_i hk
          exact .inr ⟨hk, e, OwnA.unwipe (L.sub a (OwnA.wiped hk e o ea))⟩
      rcases cls j s e1 o1 a1 with ⟨hj, g1⟩ | ⟨hj, g1, j', t', hj', gj', oj', aj'⟩
      · rcases cls k t e2 o2 a2 with ⟨hk, g2⟩ | ⟨hk, g2, k', u', hk', gk', ok', ak'⟩
        · exact aft.rel.dis j k s t a g1 g2 o1 o2 a1 a2
        · exact absurd (aft.rel.dis j k' s u' a g1 gk' o1 ok' a1 ak') fun z => hk' (z ▸ hj)
      · rcases cls k t e2 o2 a2 with ⟨hk, g2⟩ | ⟨hk, g2, _⟩
        · exact absurd (aft.rel.dis k j' t t' a g2 gj' o2 oj' a2 aj') fun z => hj' (z ▸ hk)
        · exact L.rel.dis j k s t a (by rw [gt_wipe, if_neg hj]; exact g1) (by rw [gt_wipe, if_neg hk]; exact g2) o1 o2 (wipe_at a1 hj) (wipe_at a2 hk)
  have subB : ∀ a, OwnA σ (backR ρ1 ρc vs) a → OwnA σ ρ1 a := fun a ⟨k, s, e, o, ea⟩ => by
    rw [gt_back hl1] at e
    split at e
    · exact ⟨k, s, e, o, ea⟩
    · rename_i hk
      obtain ⟨j, t, _, gj, oj, aj⟩ := OwnA.unwipe (L.sub a (OwnA.wiped hk e o ea))
      exact ⟨j, t, gj, oj, aj⟩
  have aftB : Aft K σ ρ1 H1 (backR ρ1 ρc vs) Hc := by
    refine ⟨fun a u z n nt => ?_, relB, subB, fun a z => ?_⟩
    · have nd : a ≠ Dl := fun q => by subst q; rw [hD] at z; cases z
      exact L.kp a u (sm a u z) nd fun q => by
        obtain ⟨j, t, _, gj, oj, aj⟩ := OwnA.unwipe q
        exact n ⟨j, t, gj, oj, aj⟩
    · exact sm.free (L.trk a z)
  refine g2 (.ref Dl) Hc (aft.trans aftB) ⟨⟨Dl, accV, rfl, hA, ?_, rA⟩, fun _ a e z => ?_⟩ fun _ a e => ?_
  · rw [rA.length]; exact hz
  · cases e
    exact nO (subB _ z)
  · cases e
    exact aft.trk _ hD
abbrev lc2Step (C : Call) (elt : E) (tg : Tg) (cs : Es) (tg1 : Tg) (it1 : It) (cs1 : Es) (vs vs1 : List Nat) : D → List D → Rho → Res (List D) := fun x acc ρ => optR (setTg tg x (wipeR ρ vs)) fun ρ => (evC C cs ρ).bind fun k ρ => if k then (evI C it1 ρ).bind fun zs ρ => lcIn (lcStep C elt tg1 cs1 vs1) zs acc ρ else .ok acc ρ
theorem lc2_read {K : PySem.W.Frag} {C : Call} {elt : E} {tg tg1 : Tg} {it it1 : It} {cs cs1 : Es} {vs vs1 : List Nat} {σ : St} {H : Hp} {Q : VK} (hv : ∀ j ∈ tg.slots, j ∈ vs) (hv1 : ∀ j ∈ tg1.slots, j ∈ vs1) (hs : ∀ j ∈ vs1, j ∈ vs)
    (h : ∃ ρ, RelE K σ H ρ ∧ (ev C false (.lc2 elt tg it cs tg1 it1 cs1 vs vs1) ρ).gx (W := zk Z σ ρ H) (PoE K σ ρ H Q)) : tLc2 (tI K Z C it) (gT K tg) (tCs K Z0 C cs) (tI K Z0 C it1) (gT K tg1) (tCs K Z0 C cs1) (tFz (tE K Z0 C false elt)) vs vs1 σ H Q := by
  obtain ⟨ρ, rel, g⟩ := h
  have g : ((evI C it ρ).bind fun xs ρ1 => (lcOut (lc2Step C elt tg cs tg1 it1 cs1 vs vs1) xs [] ρ1).nox.bind fun ys ρ2 => .ok (.v (.ml ys)) (backR ρ1 ρ2 vs)).gx (W := zk Z σ ρ H) (PoE K σ ρ H Q) := g
  rw [gx_bind] at g
  refine ⟨ρ, rel, g.mono fun xs ρ1 g1 J H1 aft Y Dl hD => ?_⟩
  rw [gx_bind, gx_nox] at g1
  have sm : Same H1 (upd H1 Dl (.lst [])) := same_upd hD
  have rel1 : RelE K σ (upd H1 Dl (.lst [])) ρ1 := aft.rel.same sm
  have nO : ¬ OwnA σ ρ1 Dl := fun z => by rcases z.lst aft.rel with ⟨_, z⟩ | ⟨_, z⟩ <;> (rw [hD] at z; cases z)
  have nOw : ¬ OwnA (wipe σ vs) (wipeR ρ1 vs) Dl := fun z => by
    obtain ⟨k, s, _, e, o, ea⟩ := OwnA.unwipe z
    exact nO ⟨k, s, e, o, ea⟩
  have hlen : σ.length = ρ1.length := aft.rel.len
  have hz0 : ∀ {acc : List D}, acc.length ≤ SZ → acc.length ≤ sizeLine := fun h => by rw [← sz_eq]; exact h
  refine ⟨fun i m Hc => m = xs.length - i ∧ i ≤ xs.length ∧ ∃ ρc acc, LcAt K σ vs ρ1 (upd H1 Dl (.lst [])) Dl ρc Hc acc ∧ acc.length ≤ SZ ∧ (lcOut (lc2Step C elt tg cs tg1 it1 cs1 vs vs1) (xs.drop i) acc ρc).gx (W := fun _ => False) fun ys ρ2 => PoE K σ ρ H Q (.v (.ml ys)) (backR ρ1 ρ2 vs),
    ⟨xs.length, by simp, Nat.zero_le _, ρ1, [], ⟨rfl, rel1.wipe vs, fun a u z _ _ _ => z, fun a z => z, fun a z => z, Im.refl _, [], upd_same, .nil⟩, Nat.zero_le _, by rw [List.drop_zero]; exact g1.mono fun ys ρ2 q => q⟩, ?_⟩
  rintro i m Hc ⟨rfl, hi, ρc, acc, L, hz, g2⟩
  have im1 : Im H1 Hc := (Same.im sm).trans L.im
  by_cases hlt : i < xs.length
  · refine .inr ⟨Y.go i Hc im1 hlt, fun H' => i + 1 ≤ xs.length ∧ ∃ ρc acc, LcAt K σ vs ρ1 (upd H1 Dl (.lst [])) Dl ρc H' acc ∧ acc.length ≤ SZ ∧ (lcOut (lc2Step C elt tg cs tg1 it1 cs1 vs vs1) (xs.drop (i + 1)) acc ρc).gx (W := fun _ => False) fun ys ρ2 => PoE K σ ρ H Q (.v (.ml ys)) (backR ρ1 ρ2 vs),
      fun H' ⟨h1, h2⟩ => ⟨xs.length - (i + 1), by omega, rfl, h1, h2⟩, fun v H' y => ?_⟩
    obtain ⟨sm2, rx⟩ := Y.yld i Hc v H' xs[i] im1 (List.getElem?_eq_getElem hlt) y
    rw [List.drop_eq_getElem_cons hlt] at g2
    simp only [lcOut] at g2
    rw [gx_bind] at g2
    unfold lc2Step at g2
    rw [gx_optR] at g2
    obtain ⟨ρt, et, g2⟩ := g2
    have relw : RelE K (wipe σ vs) H' (wipeR ρc vs) := L.rel.same sm2
    refine setTg_ok tg v xs[i] _ _ ρt _ et relw rx fun σ2 r2 l2 k2 o2 => ?_
    have ew : wipe σ2 vs = wipe σ vs := by
      have e1 : wipe (wipe σ vs) vs = wipe σ vs := wipe_eq (wipe_length σ vs) fun k hk => wipe_out hk
      rw [← e1]
      exact wipe_eq l2 fun k hk => k2 k fun z => hk (hv k z)
    refine ⟨ew, ?_⟩
    rw [gx_bind] at g2
    refine ⟨ρt, r2, g2.mono fun k ρ3 g3 H3 a3 => ?_⟩
    have nO2 : ¬ OwnA σ2 ρt Dl := fun z => nOw (L.sub _ (o2 _ z))
    obtain ⟨accV, hA, rA⟩ := L.at_
    have hA' : H' Dl = some (.lst accV) := sm2 _ _ hA
    have hA3 : H3 Dl = some (.lst accV) := a3.kp _ _ hA' nO2
    have rA3 : RepDs K H3 accV acc := rA.im ((Same.im sm2).trans (a3.im r2))
    -- behind anything that σ2, ρt leads to
    have step : ∀ {ρ4 : Rho} {H4 : Hp} {acc' : List D}, ρ4.length = ρ1.length → RelE K (wipe σ vs) H4 (wipeR ρ4 vs) → (∀ a u, H' a = some u → a ≠ Dl → ¬ OwnA σ2 ρt a → NT u → H4 a = some u) → (∀ a k s, k ∉ vs → gt ρ4 k = some s → s.own = true → σ2[k]? = some (some (.ref a)) → OwnA σ2 ρt a) → (∀ a, H4 a = none → H' a = none) → Im H' H4 →
        (∃ accV, H4 Dl = some (.lst accV) ∧ RepDs K H4 accV acc') → LcAt K σ vs ρ1 (upd H1 Dl (.lst [])) Dl ρ4 H4 acc' := fun {ρ4 H4 acc'} hl hr hk hsub htr him ha => by
      refine ⟨hl, hr, fun a u z nd n nt => hk a u (sm2 a u (L.kp a u z nd n)) nd (fun q => n (L.sub a (o2 a q))) nt, fun a z => ?_, fun a z => L.trk a (sm2.free (htr a z)), L.im.trans ((Same.im sm2).trans him), ha⟩
      rw [← ew] at z
      obtain ⟨k, s, hk', e, o, ea⟩ := OwnA.unwipe z
      exact L.sub a (o2 a (hsub a k s hk' e o ea))
    have l3 : ρ3.length = ρ1.length := by rw [← a3.rel.len, l2, wipe_length, hlen]
    cases k with
    | false =>
      simp only [Bool.false_eq_true, if_false] at g3 ⊢
      refine ⟨hlt, ρ3, acc, step l3 (by rw [← ew]; exact a3.rel.wipe vs) (fun a u z _ n nt => a3.kp a u z n) (fun a k s _ e o ea => a3.sub a ⟨k, s, e, o, ea⟩) (fun a z => a3.trk a z) (a3.im r2) ⟨accV, hA3, rA3⟩, hz, g3⟩
    | true =>
      simp only [if_true] at g3 ⊢
      rw [gx_bind] at g3
      refine ⟨ρ3, a3.rel, g3.mono fun zs ρa g4 J1 H4 a4 Y1 => ?_⟩
      have b4 : Aft K σ2 ρt H' ρa H4 := a3.trans a4
      have hA4 : H4 Dl = some (.lst accV) := b4.kp _ _ hA' nO2
      have rA4 : RepDs K H4 accV acc := rA.im ((Same.im sm2).trans (b4.im r2))
      have nA : ¬ OwnA σ2 ρa Dl := fun z => nO2 (b4.sub _ z)
      have nAw : ¬ OwnA (wipe σ2 vs1) (wipeR ρa vs1) Dl := fun z => by
        obtain ⟨k, s, _, e, o, ea⟩ := OwnA.unwipe z
        exact nA ⟨k, s, e, o, ea⟩
      refine lc_loop hv1 Y1 (σ := σ2) (ρ1 := ρa) (H1 := H4) (Dl := Dl) (ρ0 := ρa) (H0 := H4) (acc0 := acc) a4.rel.len (Im.refl _) ⟨rfl, a4.rel.wipe vs1, fun a u z _ _ _ => z, fun a z => z, fun a z => z, Im.refl _, accV, hA4, rA4⟩ nAw (lcIn_len hz g4) fun acc2 ρ5 H5 L5 ⟨hz5, g5⟩ => ?_
      have l5 : ρ5.length = ρ1.length := by rw [L5.len, ← a4.rel.len, l2, wipe_length, hlen]
      have lw : ∀ (ρ : Rho) (vs : List Nat), (wipeR ρ vs).length = ρ.length := fun ρ vs => wipeR_len ρ vs
      have e2 : wipe (wipe σ2 vs1) vs = wipe σ vs := by
        rw [← ew]
        exact wipe_eq (wipe_length σ2 vs1) fun k hk => wipe_out fun z => hk (hs k z)
      refine ⟨hlt, ρ5, acc2, step l5 ?_ (fun a u z nd n nt => ?_) (fun a k s hk e o ea => ?_) (fun a z => ?_) ((b4.im r2).trans L5.im) L5.at_, hz5, g5⟩
      · have r5 := L5.rel.wipe vs
        rw [e2] at r5
        exact r5.same_gt (by rw [lw, lw, lw]) fun k => gt_wipe2 hs k
      · refine L5.kp a u (b4.kp a u z n) nd fun q => n ?_
        obtain ⟨k, s, _, e, o, ea⟩ := OwnA.unwipe q
        exact b4.sub a ⟨k, s, e, o, ea⟩
      · obtain ⟨k', s', _, e', o', ea'⟩ := OwnA.unwipe (L5.sub a (OwnA.wiped (fun z => hk (hs k z)) e o ea))
        exact b4.sub a ⟨k', s', e', o', ea'⟩
      · exact b4.trk a (L5.trk a z)
  · have e : i = xs.length := by omega
    subst e
    refine .inl ⟨Y.stop Hc im1, ?_⟩
    rw [List.drop_length] at g2
    exact lc_end aft hD L (hz0 hz) g2
end Q

namespace Q
open PySem PySem.Spec PyProof.Rows L2 HotX L2H
variable [LamT]
/-! ### iterators where an exception is handled -/
/-- the exception at x1 stands there, its context is None -/
def Ctx0 (h : Heap) (x1 : Addr) : Prop := ∃ (o : Obj) (vs : Array Value), h.get? x1 = some o ∧ o.data = .fields vs ∧ vs[2]? = some .none
theorem Ctx0.keep {h h' : Heap} {x1 : Addr} (c : Ctx0 h x1) (k : ∀ o, h.get? x1 = some o → h'.get? x1 = some o) : Ctx0 h' x1 := by
  obtain ⟨o, vs, e, d, z⟩ := c
  exact ⟨o, vs, k _ e, d, z⟩
section
variable {prog : Program} {w : World} {A : Around} {E : Value → Shared → Prop} {s : Shared}
/-- the end of a walk is told -/
theorem stop_hot {α : Type} {x1 it : Addr} {g : Obj → Obj} {o1 : Obj} {Q : α → Shared → Prop} (hh : A.handled = some (.ref x1)) (c : Ctx0 s.heap x1) (nx : x1 ≠ it) (hi : s.heap.get? it = some o1)
    (hE : ∀ (hp : Heap) (e : Addr), Heap.ExtBut it s.heap hp → (∃ o, hp.get? e = some o ∧ o.cls = .type "StopIteration") → E (.ref e) { s with heap := hp }) :
    wpAny (model prog w) A (do let e ← newExc (.type "StopIteration") []; (raiseNew e : Sem α)) Q E { s with heap := s.heap.update it g } := by
  have hz : Heap.ExtBut it s.heap (s.heap.update it g) := (Heap.SameBut.update ..).extBut
  obtain ⟨ob, vs, e1, d1, z1⟩ := c
  have e2 : (s.heap.update it g).get? x1 = some ob := hz _ _ nx e1
  refine wpAny_bind ?_
  simp only [newExc, newTuple]
  refine (wpAny_bind (wpAny_newObj_type ?_ (by size_fits)))
  refine (wpAny_bind (m := firstArgMember _ _) (wpAny_of_eq (a := Value.none) (by first | rfl | (simp only [firstArgMember]; rfl)) ?_))
  refine (wpAny_newObj_type ?_ (by size_fits))
  refine raiseNew_hot ⟨hh, ob, vs, Heap.get?_push_of_some _ (Heap.get?_push_of_some _ e2), d1, z1⟩ (Nat.ne_of_lt (Heap.lt_size (Heap.get?_push_of_some _ e2))) (Heap.get?_push_size _ rfl) rfl (by first | (simp; done) | (simp; omega)) ?_
  refine hE _ _ (fun b o hb e => ?_) ⟨_, Heap.get?_update_self _ (Heap.get?_push_size _ rfl) rfl, rfl⟩
  have e3 := Heap.get?_push_of_some { cls := .type "tuple", data := .seq ([] : List Value).toArray } (hz b o hb e)
  rw [Heap.get?_update_other _ _ (Nat.ne_of_gt (Heap.lt_size e3))]
  exact Heap.get?_push_of_some _ e3
theorem next_end_hotL {x1 it a : Addr} {i : Nat} {its : Array Value} {Q : Value → Shared → Prop} (hh : A.handled = some (.ref x1)) (c : Ctx0 s.heap x1) (nx : x1 ≠ it) (at_ : s.heap.IsListIter it a i) (has : s.heap.IsList a its) (hx : its[i]? = none)
    (hE : ∀ (hp : Heap) (e : Addr), Heap.ExtBut it s.heap hp → (∃ o, hp.get? e = some o ∧ o.cls = .type "StopIteration") → E (.ref e) { s with heap := hp }) :
    wpAny (model prog w) A (Builtin.SmallTypes.nextOf (.ref it)) Q E s := by
  obtain ⟨oI, hI, cI, dI⟩ := id at_
  obtain ⟨oL, hL, _, nL, dL⟩ := has
  unfold Builtin.SmallTypes.nextOf
  refine wpAny_bind (wpAny_callSpecial?_slot (name := Str.ofString "__next__") at_.typeIs slot_listiter_next (wpAny_call_entry slot_listiter_next at_.typeIs entry_listiter_next ?_ (args_listiter_next _)))
  show wpAny _ _ (field (.ref it) 0 >>= _) _ E s
  refine wpAny_bind (wpAny_field hI dI (x := .ref a) rfl ?_)
  show wpAny _ _ (if (Value.ref a == Value.none) = true then _ else _) _ E s
  rw [if_neg (show ¬ ((Value.ref a == Value.none) = true) from nofun)]
  show wpAny _ _ (field (.ref it) 1 >>= _) _ E s
  refine wpAny_bind (wpAny_field hI dI (x := .int i 0) rfl ?_)
  show wpAny _ _ (seqItems? (.ref a) >>= _) _ E s
  refine wpAny_bind (wpAny_seqItems hL dL ?_)
  simp only [Int.toNat_natCast, hx]
  refine wpAny_bind (wpAny_rule (wpAny_bind (wpAny_setField hI dI (by simp) ?_)))
  exact stop_hot hh c nx hI hE
theorem next_end_hotT {x1 it a : Addr} {i : Nat} {its : Array Value} {Q : Value → Shared → Prop} (hh : A.handled = some (.ref x1)) (c : Ctx0 s.heap x1) (nx : x1 ≠ it) (at_ : s.heap.IsTupleIter it a i) (has : s.heap.IsTuple a its) (hx : its[i]? = none)
    (hE : ∀ (hp : Heap) (e : Addr), Heap.ExtBut it s.heap hp → (∃ o, hp.get? e = some o ∧ o.cls = .type "StopIteration") → E (.ref e) { s with heap := hp }) :
    wpAny (model prog w) A (Builtin.SmallTypes.nextOf (.ref it)) Q E s := by
  obtain ⟨oI, hI, cI, dI⟩ := id at_
  obtain ⟨oL, hL, _, nL, dL⟩ := has
  unfold Builtin.SmallTypes.nextOf
  refine wpAny_bind (wpAny_callSpecial?_slot (name := Str.ofString "__next__") at_.typeIs F.slot_tuple_iterator_next (wpAny_call_entry F.slot_tuple_iterator_next at_.typeIs F.entry_tuple_iterator_next ?_ (F.args_tuple_iterator_next_1 _)))
  show wpAny _ _ (field (.ref it) 0 >>= _) _ E s
  refine wpAny_bind (wpAny_field hI dI (x := .ref a) rfl ?_)
  show wpAny _ _ (if (Value.ref a == Value.none) = true then _ else _) _ E s
  rw [if_neg (show ¬ ((Value.ref a == Value.none) = true) from nofun)]
  show wpAny _ _ (field (.ref it) 1 >>= _) _ E s
  refine wpAny_bind (wpAny_field hI dI (x := .int i 0) rfl ?_)
  show wpAny _ _ (seqItems? (.ref a) >>= _) _ E s
  refine wpAny_bind (wpAny_seqItems hL dL ?_)
  simp only [Int.toNat_natCast, hx]
  refine wpAny_bind (wpAny_rule (wpAny_bind (wpAny_setField hI dI (by simp) ?_)))
  exact stop_hot hh c nx hI hE
end
theorem draws_hot {P : Program} {w : World} {A : Around} {x1 : Addr} (hh : A.handled = some (.ref x1)) (it a : Addr) (ne : a ≠ it) (nx : x1 ≠ it) (its : Array Value) (k : Sk) :
    Draws P w A it [it, a, x1] its.size (fun i v => its[i]? = some v) (fun i h => itAt h it a i k ∧ HasIs h a its k ∧ Ctx0 h x1) := by
  cases k with
  | L =>
    refine ⟨fun _ _ st => ?_, fun _ _ _ st hk => ?_, fun i s Q E hi st hQ => ?_, fun s Q E st hE => ?_⟩
    · obtain ⟨⟨o, ho, _⟩, _⟩ := st
      exact ⟨o, ho⟩
    · obtain ⟨s1, s2, s3⟩ := st
      exact ⟨Heap.IsListIter.at s1 fun o e => hk it (by simp) o e, Heap.IsList.at s2 fun o e => hk a (by simp) o e, s3.keep fun o e => hk x1 (by simp) o e⟩
    · obtain ⟨s1, s2, s3⟩ := st
      refine wpAny_nextOf_list_item s1 s2 (x := its[i]) (by simp [hi]) fun hp st' sb => ?_
      exact hQ its[i] hp s.toks (by simp [hi]) ⟨st', Heap.IsList.extBut s2 sb.extBut ne, s3.keep fun o e => sb.extBut _ _ nx e⟩ sb
    · obtain ⟨s1, s2, s3⟩ := st
      exact next_end_hotL hh s3 nx s1 s2 (by simp) hE
  | T =>
    refine ⟨fun _ _ st => ?_, fun _ _ _ st hk => ?_, fun i s Q E hi st hQ => ?_, fun s Q E st hE => ?_⟩
    · obtain ⟨⟨o, ho, _⟩, _⟩ := st
      exact ⟨o, ho⟩
    · obtain ⟨s1, s2, s3⟩ := st
      exact ⟨Heap.IsTupleIter.at s1 fun o e => hk it (by simp) o e, Heap.IsTuple.at s2 fun o e => hk a (by simp) o e, s3.keep fun o e => hk x1 (by simp) o e⟩
    · obtain ⟨s1, s2, s3⟩ := st
      refine wpAny_nextOf_tuple_item s1 s2 (x := its[i]) (by simp [hi]) fun hp st' sb => ?_
      exact hQ its[i] hp s.toks (by simp [hi]) ⟨st', Heap.IsTuple.extBut s2 sb.extBut ne, s3.keep fun o e => sb.extBut _ _ nx e⟩ sb
    · obtain ⟨s1, s2, s3⟩ := st
      exact next_end_hotT hh s3 nx s1 s2 (by simp) hE
/-- turns while x1's exception is handled -/
structure TurnX (P : Program) (w : World) (K : PySem.W.Frag) (tg : Expr) (J : L2.It) (fp : List Addr) (it x1 : Addr) (tn : Nat → Heap → Prop) : Prop where
  mem : it ∈ fp
  obj : ∀ i h, tn i h → ∀ b ∈ fp, ∃ o, h.get? b = some o ∧ ∀ v, o.data ≠ .cell v
  keep : ∀ i h h', tn i h → (∀ b ∈ fp, ∀ o, h.get? b = some o → h'.get? b = some o) → tn i h'
  item : ∀ (X : Cx), X.prog = P → X.w = w → X.K = K → ∀ (i : Nat) (pins : List (Addr × Obj)) (s : Shared) (σ : St) (H : Hp) (E : Value → Shared → Prop), Inv X pins σ H s → HotAt X.A x1 s.heap → (∀ b ∈ fp, FpOk X pins H b) → tn i s.heap → J.go i H →
    wpAny (model P w) X.A (pyNext (.ref it)) (fun r s1 => ∃ u, r = some u ∧ wpAny (model P w) X.A (letOwnedTupleGo tg (.ref it) u) (fun _ s2 => ∃ x Hn, Inv X pins σ Hn s2 ∧ RelV x u ∧ J.yld i H x Hn ∧ tn (i + 1) s2.heap ∧ ∀ b ∈ fp, Hn b = none) E s1) E s
  done : ∀ (X : Cx), X.prog = P → X.w = w → X.K = K → ∀ (i : Nat) (pins : List (Addr × Obj)) (s : Shared) (σ : St) (H : Hp) (E : Value → Shared → Prop), Inv X pins σ H s → HotAt X.A x1 s.heap → (∀ b ∈ fp, FpOk X pins H b) → tn i s.heap → J.stop i H →
    wpAny (model P w) X.A (pyNext (.ref it)) (fun r s1 => r = none ∧ Inv X pins σ H s1) E s
  self : ∀ (A : Around) (i : Nat) (s : Shared) (Q : Value → Shared → Prop) (E : Value → Shared → Prop), tn i s.heap → Q (.ref it) s → wpAny (model P w) A (pyIter (.ref it)) Q E s
theorem turn_zX {P : Program} {w : World} {K : PySem.W.Frag} {elts : List Expr} {kk : Nat} {tpos : Pos} {k1 k2 : Sk} {a b : Addr} {vs ws : List V} {N x1 : Nat} (ha : a < N) (hb : b < N) (hx1 : x1 < N) :
    TurnX P w K (.Tuple elts kk tpos) (Jz K k1 k2 a b vs ws) [N + 4, N + 2, N + 3, N, N + 1] (N + 4) x1 (fun i h => IsZip h (N + 4) (N + 2) (N + 3) .none ∧ IsTupOf2 h (N + 2) (.ref N) (.ref (N + 1)) ∧ (∃ a1 a2, IsTupOf2 h (N + 3) a1 a2) ∧ itAt h N a i k1 ∧ itAt h (N + 1) b i k2) where
  mem := by simp
  obj := fun i h st c hc => by
    obtain ⟨hz, hTI, ⟨x, y, hTO⟩, h1, h2⟩ := st
    have e' : c = N + 4 ∨ c = N + 2 ∨ c = N + 3 ∨ c = N ∨ c = N + 1 := by simpa using hc
    rcases e' with q | q | q | q | q
    · rw [q]; exact ⟨_, hz, fun v q => nomatch q⟩
    · rw [q]; exact ⟨_, hTI, fun v q => nomatch q⟩
    · rw [q]; exact ⟨_, hTO, fun v q => nomatch q⟩
    · rw [q]; exact h1.obj
    · rw [q]; exact h2.obj
  keep := fun i h h' st k => by
    obtain ⟨hz, hTI, ⟨x, y, hTO⟩, h1, h2⟩ := st
    exact ⟨k _ (by simp) _ hz, k _ (by simp) _ hTI, ⟨x, y, k _ (by simp) _ hTO⟩, h1.keep fun o q => k _ (by simp) o q, h2.keep fun o q => k _ (by simp) o q⟩
  item := by
    intro X hP hw hK i pins s σ H E I hot hf st hg
    subst hP hw hK
    obtain ⟨hz, hTI, hTO, h1, h2⟩ := st
    obtain ⟨s1, s2, hi⟩ := hg
    obtain ⟨its, rv, p1⟩ := s1.has I
    obtain ⟨its2, rv2, p2⟩ := s2.has I
    have G := GoesN.zip2 (elts := elts) (x1 := kk) (pos := tpos) (zip_sep2 (N := N) (fp1 := [a, x1]) (fp2 := [b, x1]) (by simp [ha, hx1]) (by simp [hb, hx1])) (draws_hot (P := X.prog) (w := X.w) (A := X.A.in1) hot.1 N a (Nat.ne_of_lt ha) (Nat.ne_of_lt hx1) its.toArray k1)
      (draws_hot (P := X.prog) (w := X.w) (A := X.A.in1) hot.1 (N + 1) b (Nat.ne_of_lt (Nat.lt_succ_of_lt hb)) (Nat.ne_of_lt (Nat.lt_succ_of_lt hx1)) its2.toArray k2)
    refine thn (G.goes i s _ E (by simpa [rv.length, rv2.length] using hi) ⟨hz, hTI, hTO, ⟨h1, p1, hot.2⟩, ⟨h2, p2, hot.2⟩⟩ fun v h' tk hy st' hk _ => ?_) fun r s1 ⟨v, e1, e2⟩ => ⟨v, e1, e2⟩
    obtain ⟨T, x, y, rfl, hn, g1, g2, hT⟩ := hy
    obtain ⟨xv, x1, x2⟩ := Vals.at rv g1
    obtain ⟨yv, y1, y2⟩ := Vals.at rv2 g2
    have new : ObjOk X.prog X.w (upd H T (.tup [xv, yv])) h' T (.tup [xv, yv]) := ⟨by show 2 ≤ sizeLine; decide, [x, y], .cons x2 (.cons y2 .nil), hT⟩
    have I1 := I.turnedNew (t' := tk) (ch := [N + 4, N + 3, N, N + 1]) hk (fun c hcm => hf c (by
      have e' : c = N + 4 ∨ c = N + 3 ∨ c = N ∨ c = N + 1 := by simpa using hcm
      rcases e' with q | q | q | q <;> (rw [q]; simp))) hn new
    obtain ⟨z1, z2, z3, z4, z5⟩ := st'
    refine ⟨.ref T, _, I1, rfl, ⟨T, xv, yv, rfl, I.hok.fresh hn, rfl, x1, y1⟩, ⟨z1, z2, z3, z4.1, z5.1⟩, fun c hcm => ?_⟩
    have hlt : c ≠ T := by
      have e' : c = N + 4 ∨ c = N + 2 ∨ c = N + 3 ∨ c = N ∨ c = N + 1 := by simpa using hcm
      have hzl := Heap.lt_size hz
      rcases e' with q | q | q | q | q <;> (rw [q]; intro z; rw [← z] at hn; exact absurd (Nat.lt_of_lt_of_le hzl hn) (by omega))
    rw [upd_ne hlt]
    exact (hf c hcm).1
  done := by
    intro X hP hw hK i pins s σ H E I hot hf st hg
    subst hP hw hK
    obtain ⟨hz, hTI, hTO, h1, h2⟩ := st
    obtain ⟨s1, s2, hi⟩ := hg
    obtain ⟨its, rv, p1⟩ := s1.has I
    obtain ⟨its2, rv2, p2⟩ := s2.has I
    have G := GoesN.zip2 (elts := elts) (x1 := kk) (pos := tpos) (zip_sep2 (N := N) (fp1 := [a, x1]) (fp2 := [b, x1]) (by simp [ha, hx1]) (by simp [hb, hx1])) (draws_hot (P := X.prog) (w := X.w) (A := X.A.in1) hot.1 N a (Nat.ne_of_lt ha) (Nat.ne_of_lt hx1) its.toArray k1)
      (draws_hot (P := X.prog) (w := X.w) (A := X.A.in1) hot.1 (N + 1) b (Nat.ne_of_lt (Nat.lt_succ_of_lt hb)) (Nat.ne_of_lt (Nat.lt_succ_of_lt hx1)) its2.toArray k2)
    have hi' : i = min its.toArray.size its2.toArray.size := by simpa [rv.length, rv2.length] using hi
    subst hi'
    refine thn (G.stops s (fun s1 => Inv X pins σ H s1) E ⟨hz, hTI, hTO, ⟨h1, p1, hot.2⟩, ⟨h2, p2, hot.2⟩⟩ fun h' tk hk _ => ?_) fun r s1 q => q
    exact I.turnedL (t' := tk) (ch := [N + 4, N + 3, N, N + 1]) hk fun c hcm => hf c (by
      have e' : c = N + 4 ∨ c = N + 3 ∨ c = N ∨ c = N + 1 := by simpa using hcm
      rcases e' with q | q | q | q <;> (rw [q]; simp))
  self := fun A i s Q E st h => wpAny_pyIter_zip st.1 h
section
variable {prog : Program} {w : World} {A : Around} {E : Value → Shared → Prop} {s : Shared}
theorem pyNext_tup_hot {x1 it a : Addr} {i : Nat} {its : Array Value} {Q : Option Value → Shared → Prop} (hh : A.handled = some (.ref x1)) (c : Ctx0 s.heap x1) (nx : x1 ≠ it) (at_ : IsTupIter s.heap it a i) (has : IsTup s.heap a its) (hx : its[i]? = none)
    (hQ : ∀ hp, Heap.ExtBut it s.heap hp → Q none { s with heap := hp }) : wpAny (model prog w) A (pyNext (.ref it)) Q E s := by
  obtain ⟨oI, hI, cI, dI⟩ := id at_
  obtain ⟨oL, hL, _, nL, dL⟩ := has
  unfold pyNext
  refine wpAny_bind (wpAny_attempt (wpAny_callSpecial?_slot (name := Str.ofString "__next__") at_.typeIs slot_tupleiter_next (wpAny_call_entry slot_tupleiter_next at_.typeIs entry_tupleiter_next ?_ (args_tupleiter_next _))))
  show wpAny _ _ (field (.ref it) 0 >>= _) _ (fun _ _ => _) s
  refine wpAny_bind (wpAny_field hI dI (x := .ref a) rfl ?_)
  show wpAny _ _ (if (Value.ref a == Value.none) = true then _ else _) _ (fun _ _ => _) s
  rw [if_neg (show ¬ ((Value.ref a == Value.none) = true) from nofun)]
  show wpAny _ _ (field (.ref it) 1 >>= _) _ (fun _ _ => _) s
  refine wpAny_bind (wpAny_field hI dI (x := .int i 0) rfl ?_)
  show wpAny _ _ (seqItems? (.ref a) >>= _) _ (fun _ _ => _) s
  refine wpAny_bind (wpAny_seqItems hL dL ?_)
  simp only [Int.toNat_natCast, hx]
  refine wpAny_bind (wpAny_rule (wpAny_bind (wpAny_setField hI dI (by simp) ?_)))
  exact stop_hot hh c nx hI fun hp e eb ⟨o, e1, e2⟩ => wpAny_bind (wpAny_isInstance (T := "StopIteration") (b := true) ⟨o, e1, e2⟩ isSubtype_stop (wpAny_pure (hQ hp eb)))
theorem unpack_hot {x1 a : Addr} {its : Array Value} {tgs : List (Bool × (Value → Sem Unit))} {Q : Unit → Shared → Prop} (hh : A.handled = some (.ref x1)) (c : Ctx0 s.heap x1) (has : IsTup s.heap a its) (hn : tgs.length = its.size) (hstar : tgs.findIdx? (·.1) = none)
    (h : ∀ hp, Heap.ExtBut s.heap.objs.size s.heap hp → wpAny (model prog w) A (assignInOrder (tgs.map (·.2)) its.toList) Q E { s with heap := hp }) : wpAny (model prog w) A (unpack (.ref a) tgs) Q E s := by
  have lt1 : a ≠ s.heap.objs.size := by
    obtain ⟨o, ho, _⟩ := has
    exact Nat.ne_of_lt (Heap.lt_size ho)
  have lt2 : x1 ≠ s.heap.objs.size := by
    obtain ⟨o, _, ho, _⟩ := c
    exact Nat.ne_of_lt (Heap.lt_size ho)
  unfold unpack
  rw [hn, hstar]
  refine wpAny_bind (wpAny_holding ?_)
  unfold unpackItems
  refine wpAny_bind ?_
  unfold notIterableAtAll
  refine wpAny_bind (wpAny_specialOf has.typeIs slot_tuple_iter.lookup ?_)
  refine wpAny_pure ?_
  simp only [Bool.false_eq_true, if_false]
  refine wpAny_bind (wpAny_holding (iter_tuple has ?_))
  refine wpAny_bind (wpAny_holding (draw_tuple lt1 its.size 0 _ _ ⟨_, Heap.get?_push_size _ rfl, rfl, rfl⟩ (has.push _) (by omega) fun hp1 it1 sb1 => ?_))
  rw [show List.take its.size (List.drop 0 its.toList) = its.toList from (by rw [List.drop_zero]; exact List.take_of_length_le (by simp)), if_neg (by simp)]
  have c1 : Ctx0 hp1 x1 := c.keep fun o e => sb1.extBut _ _ lt2 (Heap.get?_push_of_some _ e)
  refine wpAny_bind (wpAny_holding (pyNext_tup_hot hh c1 lt2 it1 ((has.push _).extBut sb1.extBut lt1) (by simp) fun hp2 eb => ?_))
  simp only [Option.isSome_none, Bool.false_eq_true, if_false]
  exact wpAny_pure (h hp2 fun b o hb e => eb b o hb (sb1.extBut b o hb (Heap.get?_push_of_some _ e)))
end
/-- the exception that is handled stands behind every state of the context -/
structure HotX1 (Y : Cx) (p : Addr × Obj) : Prop where
  one : Hot1 Y.A p
  at_ : ∀ pins σ H s, Inv Y pins σ H s → s.heap.get? p.1 = some p.2
theorem HotX1.ctx {Y : Cx} {p : Addr × Obj} (h : HotX1 Y p) {pins : List (Addr × Obj)} {σ : St} {H : Hp} {s : Shared} (I : Inv Y pins σ H s) : Ctx0 s.heap p.1 := ⟨p.2, h.one.2.choose, h.at_ _ _ _ _ I, h.one.2.choose_spec.1, h.one.2.choose_spec.2⟩
theorem pg_tupX {Y : Cx} {p1 : Addr × Obj} {pos : Pos} {es : List Expr} {k : Nat} {t : TGs} {n : Nat} (hot : HotX1 Y p1) (h : PGs Y es t) (hn : (assignEach es Y.env).length = n) (hst : (assignEach es Y.env).findIdx? (·.1) = none) : PG Y (.Tuple es k pos) (gTup Y.K n t) := by
  refine ⟨fun pns st σ0 Hs v u Qv Iv r hw => ?_⟩
  obtain ⟨a, xs, e1, hq, hl, hw⟩ := hw
  subst e1
  cases r
  obtain ⟨its, rv, tu, hz⟩ := Iv.tuple hq
  rw [PyProof.Rows.assign_Tuple]
  refine wpAny_bind (wpAny_standAt (unpack_hot hot.one.1 (hot.ctx Iv) tu (by simp [hn, ← hl, rv.length]) hst fun hp hx => ?_))
  exact h.run pns _ σ0 Hs xs _ Qv (Iv.kept (t' := st.toks) fun b o e => hx b o (Nat.ne_of_lt (Heap.lt_size e)) e) (by simpa using rv) hw
/-- an iterator has come -/
def PIEX (X : Cx) (pins : List (Addr × Obj)) (σ : St) (tg : Expr) (x1 : Addr) (R : L2.It → Hp → Prop) (itv : Value) (s2 : Shared) : Prop :=
  ∃ (it : Addr) (fp : List Addr) (tn : Nat → Heap → Prop) (J : L2.It) (Hn : Hp), itv = .ref it ∧ Inv X pins σ Hn s2 ∧ TurnX X.prog X.w X.K tg J fp it x1 tn ∧ tn 0 s2.heap ∧ (∀ b ∈ fp, FpOk X pins Hn b) ∧ R J Hn
structure PIX (X : Cx) (x1 : Addr) (tg iter : Expr) (wi : TI) : Prop where
  run : ∀ (pins : List (Addr × Obj)) (s : Shared) (σ : St) (H : Hp) (R : L2.It → Hp → Prop), Inv X pins σ H s → wi σ H R →
    wpAny (model X.prog X.w) X.A (eval iter X.env) (fun v s1 => wpAny (model X.prog X.w) X.A (pyIter v) (PIEX X pins σ tg x1 R) X.xe s1) X.xe s
theorem pi_zX {X : Cx} {p1 : Addr × Obj} {e e2 : Expr} {ta : TA} {p pos tpos : Pos} {elts : List Expr} {kk : Nat} (hpn : p1 ∈ X.pn) (hg : Gl X "zip") (hm : X.mg "zip" = none) (ha : PA X [e, e2] ta)
    (hs : starEach [e, e2] X.env = (false, eval e X.env) :: starEach [e2] X.env) (hpl : (backTo pos (starEach [e2] X.env)).any (·.1) = false) :
    PIX X p1.1 (.Tuple elts kk tpos) (.Call (.Name "zip" p) [e, e2] [] pos) (iZ X.K ta) := by
  refine ⟨fun pins s σ H R I h => ?_⟩
  refine Call_ (ld_blt I hg hm PyProof.Rows.boot_zip (PyProof.Rows.callWith_type1 (thn (ha.run pos pins s σ H _ I h) fun us s1 ⟨vs, H1, I1, r1, qq⟩ => ?_) hs hpl))
  obtain ⟨k1, k2, a, b, vs', ws, ex, sa, sb, q⟩ := qq
  subst ex
  cases r1 with
  | cons r rr =>
    cases rr with
    | cons r' rr =>
      cases rr
      cases r
      cases r'
      obtain ⟨its, rv, q1⟩ := sa.has I1
      obtain ⟨its2, rv2, q2⟩ := sb.has I1
      refine zip_begins2 (begins_of a its.toArray k1) (begins_of b its2.toArray k2) q1 q2 fun h' hz hTI hTO g1 g2 hsz hk => wpAny_pyIter_zip hz ?_
      have I2 : Inv X pins σ H1 { s1 with heap := h' } := I1.kept (t' := s1.toks) hk
      refine ⟨_, _, _, _, H1, rfl, I2, turn_zX (N := s1.heap.objs.size) q1.lt q2.lt (Heap.lt_size (I1.pin p1 (List.mem_append_left _ hpn)).1), ⟨hz, hTI, ⟨_, _, hTO⟩, itAt.start g1, itAt.start g2⟩, fun c hcm => ?_, q⟩
      have hle : s1.heap.objs.size ≤ c := by
        have e' : c = s1.heap.objs.size + 4 ∨ c = s1.heap.objs.size + 2 ∨ c = s1.heap.objs.size + 3 ∨ c = s1.heap.objs.size ∨ c = s1.heap.objs.size + 1 := by simpa using hcm
        rcases e' with z | z | z | z | z <;> (rw [z]; omega)
      exact I1.fpOk hle (I1.hok.fresh hle)
theorem lc_hot {X : Cx} {p1 : Addr × Obj} {pins : List (Addr × Obj)} {st : Shared} {σ0 : St} {H : Hp} {Q : VK} {el tg itx : Expr} {tests : List Expr} {scp : Scope} {ownd : List (Str × Nat)} {pos pos' : Pos} {wi : TI} {g : TG} {tt : TT} {te : TE} {use : Option (Value → Sem Unit)} {Qfin : Value → Shared → Prop}
    (hot1 : Hot1 X.A p1) (hpn : p1 ∈ X.pn) (hNd : X.N.Nodup) (Iv : Inv X pins σ0 H st) (hIt : PIX X p1.1 tg itx wi) (okB : BlkOk X.N X.env.scope scp ownd)
    (hgT : ∀ (st : Shared) (H : Hp) (Cl : Addr) (cls0 : List (Str × Addr)) (fps : List Addr), HotX1 (X.blk st H scp (compEnvC scp cls0 Cl X.env) fps) p1 → PG (X.blk st H scp (compEnvC scp cls0 Cl X.env) fps) tg g) (htT : ∀ (st : Shared) (H : Hp) (Cl : Addr) (cls0 : List (Str × Addr)) (fps : List Addr), PTs (X.blk st H scp (compEnvC scp cls0 Cl X.env) fps) tests tt)
    (heE : ∀ (st : Shared) (H : Hp) (Cl : Addr) (cls0 : List (Str × Addr)) (fps : List Addr), PE (X.blk st H scp (compEnvC scp cls0 Cl X.env) fps) el te) (hsF : ∀ xx, foldedSetIterable itx X.env xx = pure xx)
    (h : tLc wi g tt te (ownd.map (·.2)) σ0 H Q)
    (hEnd : ∀ Dl Cl s' mm H', Inv X pins σ0 H' s' → Q (.ref Dl) H' → s'.heap.Ns Cl mm → FpOk X pins H' Cl → compPost (model X.prog X.w) X.A X.xe use Qfin (.ref Dl) Cl (.ok .next) s') :
    wpAny (model X.prog X.w) X.A (comprehension (.ListComp el [⟨tg, itx, tests, 0⟩] scp pos) scp X.env pos' (newList []) false (eval itx X.env) use) Qfin X.xe st := by
  have hfr : ∀ y ∈ scp.names, y.2 = .free → ∃ c, X.env.cells.lookup y.1 = some c := fun y hy eq => by
    rcases okB.free y hy eq with k | k
    · exact Iv.ok.has _ (.inl k)
    · exact Iv.ok.has _ (.inr k)
  refine wpAny_comprehension_free (use := use) rfl hsF (closure_ok hfr) okB.kind (fun y hy eq => by rw [okB.uniq y hy, eq])
    (thn (hIt.run pins st σ0 H _ Iv h) fun xw s1 hxw => thn hxw fun itw zz2 hw2 => ?_)
  obtain ⟨itr, fps, tnn, Jt, G2, eq, Jv2, Tn, sa2, fa2, qv⟩ := hw2
  subst eq
  refine wpAny_newObj_type (newEnv_comp ?_) (by show 0 ≤ sizeLine; decide)
  generalize hDl : zz2.heap.objs.size = Dl
  have hDln : G2 Dl = none := Jv2.hok.fresh (Nat.le_of_eq hDl)
  obtain ⟨Wv, ⟨mm0, ww0⟩, trn⟩ := qv Dl hDln
  generalize hz3 : ({ zz2 with heap := zz2.heap.push { cls := .type "list", data := .seq ([] : List Value).toArray } } : Shared) = zz3
  have Jv3 : Inv X pins σ0 (upd G2 Dl (.lst [])) zz3 := by
    rw [← hz3]
    refine Jv2.laid (t' := zz2.toks) (fun bb oo eq => Heap.get?_push_of_some _ eq) (Nat.le_of_eq hDl) ⟨Nat.zero_le _, [], 0, .nil, ?_⟩
    rw [← hDl]
    exact Heap.get?_push_size _ rfl
  have hh3 : zz3.heap = zz2.heap.push { cls := .type "list", data := .seq ([] : List Value).toArray } := by rw [← hz3]
  have szl : ∀ bb ∈ fps, bb < zz2.heap.objs.size := fun bb hb => by
    obtain ⟨oo, eq, _⟩ := Tn.obj _ _ sa2 bb hb
    exact Heap.lt_size eq
  have fa3 : ∀ bb ∈ fps, FpOk X pins (upd G2 Dl (.lst [])) bb ∧ bb < zz3.heap.objs.size := fun bb hb => by
    have hlt := szl bb hb
    refine ⟨⟨?_, (fa2 bb hb).2⟩, by rw [hh3, Heap.size_push]; exact Nat.lt_succ_of_lt hlt⟩
    rw [upd_ne (by rw [← hDl]; exact Nat.ne_of_lt hlt)]
    exact (fa2 bb hb).1
  have sa3 : tnn 0 zz3.heap := Tn.keep _ _ _ sa2 fun bb _ oo eq => by rw [hh3]; exact Heap.get?_push_of_some _ eq
  have Jv4 := block_start Jv3 okB hNd fa3
  have hotY : HotX1 (X.blk zz3 (upd G2 Dl (.lst [])) scp (compEnvC scp (cellsFrom (zz3.heap.objs.size + 1) scp.names (cloFrom X.env.cells scp.names [])) zz3.heap.objs.size X.env) fps) p1 :=
    ⟨hot1, fun _ _ _ _ Iy => ((Jv3.call' (ch := fps) Iy.os Iy.base Iy.hok Iy.bare fun bb hb => ⟨(fa3 bb hb).1.2.2.2.1, (fa3 bb hb).1.2.1, (fa3 bb hb).1.2.2.2.2.1, (fa3 bb hb).1.2.2.2.2.2⟩).pin p1 (List.mem_append_left _ hpn)).1⟩
  have pgT := hgT zz3 (upd G2 Dl (.lst [])) zz3.heap.objs.size (cellsFrom (zz3.heap.objs.size + 1) scp.names (cloFrom X.env.cells scp.names [])) fps hotY
  have ptT := htT zz3 (upd G2 Dl (.lst [])) zz3.heap.objs.size (cellsFrom (zz3.heap.objs.size + 1) scp.names (cloFrom X.env.cells scp.names [])) fps
  have peT := heE zz3 (upd G2 Dl (.lst [])) zz3.heap.objs.size (cellsFrom (zz3.heap.objs.size + 1) scp.names (cloFrom X.env.cells scp.names [])) fps
  show codeAny _ _ (.compStart (.ListComp el [⟨tg, itx, tests, 0⟩] scp pos) 0 (.ref itr) (.ref Dl) (compEnvC scp (cellsFrom (zz3.heap.objs.size + 1) scp.names (cloFrom X.env.cells scp.names [])) zz3.heap.objs.size X.env)) (compPost (model X.prog X.w) X.A X.xe use Qfin (.ref Dl) zz3.heap.objs.size) { zz3 with heap := pushCells (zz3.heap.push { cls := .type "dict", data := .dict #[] }) scp.names }
  have nfps : ∀ bb ∈ fps, (upd G2 Dl (.lst [])) bb = none := fun bb hb => (fa3 bb hb).1.1
  generalize hcn : compEnvC scp (cellsFrom (zz3.heap.objs.size + 1) scp.names (cloFrom X.env.cells scp.names [])) zz3.heap.objs.size X.env = cen at Jv4 pgT ptT peT ⊢
  have cLl : cen.locals = zz3.heap.objs.size := by subst hcn; rfl
  generalize hG3 : upd G2 Dl (.lst []) = G3 at Jv3 Jv4 pgT ptT peT ww0 nfps fa3
  generalize hz4 : ({ zz3 with heap := pushCells (zz3.heap.push { cls := .type "dict", data := .dict #[] }) scp.names } : Shared) = zz4 at Jv4 ⊢
  have sa4 : tnn 0 zz4.heap := Tn.keep _ _ _ sa3 fun bb _ oo eq => by rw [← hz4]; exact pushCells_keeps _ _ _ _ (Heap.get?_push_of_some _ eq)
  have stt : ∀ {σ' : St} {H' : Hp} {s' : Shared}, Inv (X.blk zz3 G3 scp cen fps) [] σ' H' s' → (∀ bb ∈ fps, H' bb = none) → ∀ bb ∈ fps, FpOk (X.blk zz3 G3 scp cen fps) [] H' bb := fun {σ' H' s'} Jv' hns bb hb =>
    ⟨hns bb hb, (Jv'.ok.exf bb hb).1, Jv'.ok.exfs bb hb, .inl hb, fun xx c eq => (Jv'.ok.exf bb hb).2 xx c eq, fun p hp => absurd (show p ∈ ([] : List (Addr × Obj)) ++ [] from hp) (by simp)⟩
  have lop : codeAny (model X.prog X.w) X.A (.compLoop (.ListComp el [⟨tg, itx, tests, 0⟩] scp pos) 0 (.ref itr) (.ref Dl) cen) (compPost (model X.prog X.w) X.A X.xe use Qfin (.ref Dl) zz3.heap.objs.size) zz4 := by
    refine compLoop_any (fun nn s' => ∃ ii H', Inv (X.blk zz3 G3 scp cen fps) [] (wipe σ0 (ownd.map (·.2))) H' s' ∧ tnn ii s'.heap ∧ (∀ bb ∈ fps, H' bb = none) ∧ Wv ii nn H') ?_ mm0 ⟨0, G3, Jv4, sa4, nfps, ww0⟩
    rintro nn zz5 ⟨ii, G5, Jv5, sa5, nn5, ww5⟩
    have Jb5 : Inv X pins σ0 G5 zz5 := Jv3.call' (ch := fps) Jv5.os Jv5.base Jv5.hok Jv5.bare fun bb hb => ⟨(fa3 bb hb).1.2.2.2.1, (fa3 bb hb).1.2.1, (fa3 bb hb).1.2.2.2.2.1, (fa3 bb hb).1.2.2.2.2.2⟩
    have hot5 : HotAt X.A p1.1 zz5.heap := ⟨hot1.1, p1.2, hot1.2.choose, (Jb5.pin p1 (List.mem_append_left _ hpn)).1, hot1.2.choose_spec.1, hot1.2.choose_spec.2⟩
    rcases trn ii nn G5 ww5 with ⟨stp0, qqv⟩ | ⟨gon, Nxt, hNxt, stp⟩
    · have tdn := Tn.done (X.blk zz3 G3 scp cen fps) rfl rfl rfl ii [] zz5 _ G5 (fun _ _ => False) Jv5 hot5 (stt Jv5 nn5) sa5 stp0
      refine thnF tdn fun r zz6 ⟨hrn, Jv6⟩ => ?_
      subst hrn
      have Jv7 : Inv X pins σ0 G5 zz6 := Jv3.call' (ch := fps) Jv6.os Jv6.base Jv6.hok Jv6.bare fun bb hb => ⟨(fa3 bb hb).1.2.2.2.1, (fa3 bb hb).1.2.1, (fa3 bb hb).1.2.2.2.2.1, (fa3 bb hb).1.2.2.2.2.2⟩
      have nCl : G5 zz3.heap.objs.size = none := by
        have z : G5 cen.locals = none := Jv6.free
        rw [cLl] at z
        exact z
      obtain ⟨mm, hns, _⟩ := Jv6.loc
      have hns : zz6.heap.Ns cen.locals mm := hns
      rw [cLl] at hns
      exact hEnd Dl zz3.heap.objs.size zz6 mm G5 Jv7 qqv hns (Jv3.fpOk (Nat.le_refl _) nCl)
    · have tit := Tn.item (X.blk zz3 G3 scp cen fps) rfl rfl rfl ii [] zz5 _ G5 (fun _ _ => False) Jv5 hot5 (stt Jv5 nn5) sa5 gon
      refine thnF tit fun r zz6 ⟨uu, hrn, hh6⟩ => ?_
      subst hrn
      refine thnF hh6 fun _ zz7 ⟨xx, G7, Jv7, rv7, yy7, sa7, nn7⟩ => ?_
      have Jv7p := Jv7.pinned (stt Jv7 nn7) (Tn.obj _ _ sa7)
      refine thnF (pgT.run _ zz7 _ G7 xx uu _ Jv7p rv7 (stp xx G7 yy7)) fun _ zz8 ⟨σn8, G8, Jv8, hv8, qq8⟩ => ?_
      refine thnF (ptT.run _ zz8 σn8 G8 _ Jv8 qq8) fun bb zz9 ⟨G9, Jv9, qq9⟩ => ?_
      have fen : ∀ {s' : Shared} {H' : Hp}, Inv (X.blk zz3 G3 scp cen fps) ([] ++ pinsAt fps zz7.heap) σn8 H' s' → Nxt H' → ∃ mm, mm < nn ∧ ∃ ii H', Inv (X.blk zz3 G3 scp cen fps) [] (wipe σ0 (ownd.map (·.2))) H' s' ∧ tnn ii s'.heap ∧ (∀ bb ∈ fps, H' bb = none) ∧ Wv ii mm H' := fun {s' H'} Jv' nxx => by
        obtain ⟨m', hmm, w'⟩ := hNxt H' nxx
        have pinn : ∀ bb ∈ fps, ∀ oo, zz7.heap.get? bb = some oo → s'.heap.get? bb = some oo ∧ H' bb = none := fun bb hb oo eq =>
          let z := Jv'.pin (bb, oo) (List.mem_append_right _ (List.mem_append_right _ (mem_pinsAt hb eq)))
          ⟨z.1, z.2.1⟩
        have hll : (wipe σ0 (ownd.map (·.2))).length = σn8.length := by rw [← hv8, wipe_length]
        refine ⟨m', hmm, ii + 1, H', (Jv'.unpinned (pins := [])).weak hll (fun jj vv eq => ?_), Tn.keep _ _ _ sa7 fun bb hb oo eq => (pinn bb hb oo eq).1, fun bb hb => ?_, w'⟩
        · rw [← hv8] at eq
          exact (wipe_some eq).1
        · obtain ⟨oo, eq, _⟩ := Tn.obj _ _ sa7 bb hb
          exact (pinn bb hb oo eq).2
      cases bb with
      | false =>
        simp only [Bool.false_eq_true, if_false] at qq9 ⊢
        exact fen Jv9 qq9
      | true =>
        simp only [if_true] at qq9 ⊢
        refine thnF (peT.run _ zz9 σn8 G9 _ Jv9 qq9) fun z zz10 ⟨yvv, G10, Jv10, rv10, accv, hDt, hzt, nxx⟩ => ?_
        exact app_ok (X := X.blk zz3 G3 scp cen fps) Jv10 hDt hzt rv10 fun zz11 Jv11 => fen Jv11 nxx
  exact codeAny_compStart_list lop (Tn.self X.A 0 _ _ _ sa4 lop)
theorem pe_lcX {X : Cx} {p1 : Addr × Obj} {elt tg iter : Expr} {ifs : List Expr} {scope : Scope} {own : List (Str × Nat)} {pos : Pos} {wi : TI} {g : TG} {tt : TT} {te : TE} (hot1 : Hot1 X.A p1) (hpn : p1 ∈ X.pn) (hN : X.N.Nodup) (hi : PIX X p1.1 tg iter wi) (ok : BlkOk X.N X.env.scope scope own)
    (hg : ∀ (s : Shared) (Hs : Hp) (Cc : Addr) (cl : List (Str × Addr)) (fp : List Addr), HotX1 (X.blk s Hs scope (compEnvC scope cl Cc X.env) fp) p1 → PG (X.blk s Hs scope (compEnvC scope cl Cc X.env) fp) tg g) (ht : ∀ (s : Shared) (Hs : Hp) (Cc : Addr) (cl : List (Str × Addr)) (fp : List Addr), PTs (X.blk s Hs scope (compEnvC scope cl Cc X.env) fp) ifs tt)
    (he : ∀ (s : Shared) (Hs : Hp) (Cc : Addr) (cl : List (Str × Addr)) (fp : List Addr), PE (X.blk s Hs scope (compEnvC scope cl Cc X.env) fp) elt te) (hs : ∀ x, foldedSetIterable iter X.env x = pure x) :
    PE X (.ListComp elt [⟨tg, iter, ifs, 0⟩] scope pos) (tLc wi g tt te (own.map (·.2))) := by
  refine ⟨fun pns st σ0 Hs Qv Iv h => ?_⟩
  rw [eval_ListComp]
  refine lc_hot hot1 hpn hN Iv hi ok hg ht he hs h fun Dl Cc st2 mm Hn Jv qv hn f => ⟨mm, hn, fun hp2 sb => ?_⟩
  obtain ⟨f0, f1, f2, f3, f4, f5⟩ := f
  exact ⟨.ref Dl, Hn, Jv.turned (t' := st2.toks) (fun bb oo hb eq => (sb.2 bb hb).trans eq) f0 f1 f3 f4 f5, rfl, qv⟩
end Q

namespace Q
open PySem PySem.Spec PyProof.Rows L2 LamX
variable [LamT]
/-! ### a lambda handed to a def, over exceptions without a context (after the kit's Lambda, over L2N) -/
abbrev lamC (X : Cx) (A : Around) (outer : List Env) (s : Shared) (H : Hp) (E : XK) (scope : Scope) (f c' : Addr) : Cx :=
  (lamCx X A outer s H C8.E0 scope f c').tr [] fun e s' => wpAny (model X.prog X.w) (A.deeper (lamEnv X scope s.heap.objs.size f c')) (leaving (lamEnv X scope s.heap.objs.size f c') e) (fun _ s'' => L2N.CX X.prog X.w outer H s E e s'') (fun e' s'' => L2N.CX X.prog X.w outer H s E e' s'') s'
section
variable {X : Cx} {pins : List (Addr × Obj)} {σ : L2.St} {H HZ : Hp} {s s1 : Shared}
/-- as the kit's lam_make2; nothing is lost -/
theorem lam_makeN {T : List (Addr × Str)} {c P : Addr} {pz : Arguments} {bz : Expr} {scz : Scope} {lz : Pos} {Ez : Value → Shared → Prop} {Qz : Value → Shared → Prop} (Iz : Inv X pins σ H s) (TBz : TabB X.base X.mg c P) (hkz : X.env.code = .ref c)
    (hmz : (P, X.env.qual ++ "<lambda>") ∈ T) (huz : ∀ p ∈ T, p.1 = P → p.2 = X.env.qual ++ "<lambda>") (hTz : Tabs T H) (hdz : defaultsOf pz X.env = ([], [])) (hfz : ∀ y ∈ scz.names, y.2 = .free → ∃ c, X.env.cells.lookup y.1 = some c)
    (h : ∀ (f c' : Addr) (pm ctz : Value) (H1 : Hp) (s' : Shared), Inv X pins σ H1 s' → ExtN H H1 → (∀ b, H1 b = none → H b = none) → Tabs T H1 →
      s'.heap.get? f = some (PySem.W.kla_obj "<lambda>" (X.env.qual ++ "<lambda>") pz bz scz (cloFrom X.env.cells scz.names []) pm c' ctz) → H1 f = none → f ∉ frs X.stack → H1 c' = some (CodeO c' (X.env.qual ++ "<lambda>")) → Qz (.ref f) s') :
    wpAny (model X.prog X.w) X.A (eval (.Lambda pz bz scz lz) X.env) Qz Ez s := by
  obtain ⟨ps, hPz, htz, haz⟩ := hTz _ hmz
  refine PySem.W.kla_eval hdz ?_
  have bPz : s.heap.BuiltinsAt X.mg P := TBz.bm.keeps Iz.bk
  have hPz' : s.heap.get? P = some { cls := .none, data := .fields ps } := Iz.hok P _ hPz
  have nofz : ∀ f, s.heap.objs.size ≤ f → f ∉ frs X.stack := fun f hf z => by
    rcases List.mem_cons.mp (Iz.stkSub _ z) with e | e
    · have h1 := Iz.lt
      rw [← e] at h1
      exact Nat.lt_irrefl _ (Nat.lt_of_lt_of_le h1 hf)
    · exact Iz.nofs hf e
  cases hcz : codeAmong lz ps.toList with
  | none =>
    refine PySem.W.kla_makeFunction (mg := X.mg) (c := c) (P := P) (ps := ps) (closure_ok hfz) Iz.ok.glob (Iz.mod.glob.keeps Iz.bk) hkz (TBz.code.keeps Iz.bk) hPz' htz hcz TBz.gP bPz fun c' ctz hp1 tkz hxz hgz hlz hrz htbz => ?_
    obtain ⟨c2, oc, vs, t, e2, hoc, hd, hv⟩ := hrz
    cases e2
    have hsz1 : s.heap.objs.size ≤ hp1.objs.size := Nat.le_trans hgz (Nat.le_of_lt hlz)
    have nCz : H c' = none := Iz.hok.fresh hgz
    have Jz := inv_table (t' := tkz) (more := #[rawInt lz.line, rawInt lz.col, .ref c']) (h' := hp1.push (PySem.W.kla_obj "<lambda>" (X.env.qual ++ "<lambda>") pz bz scz (cloFrom X.env.cells scz.names []) ((X.mg "__name__").getD .none) c' ctz)) Iz hPz
      (fun b o hb e => Heap.get?_push_of_some _ (hxz b o hb e)) (Heap.get?_push_of_some _ htbz) hgz ⟨oc, vs, t, Heap.get?_push_of_some _ hoc, hd, hv⟩
    have hEz : ExtN H (upd (upd H P (.tbl (ps ++ #[rawInt lz.line, rawInt lz.col, .ref c']))) c' (CodeO c' (X.env.qual ++ "<lambda>"))) := fun b o e n => by
      rw [upd_ne (ne_of_none e nCz), upd_ne (fun z => n ps (Option.some.inj (e.symm.trans (by rw [z]; exact hPz))))]
      exact e
    have eLz : (ps ++ #[rawInt lz.line, rawInt lz.col, .ref c']).toList = ps.toList ++ [rawInt lz.line, rawInt lz.col, .ref c'] := by simp
    refine h hp1.objs.size c' ((X.mg "__name__").getD .none) ctz _ _ Jz hEz (fun b z => by
      by_cases hb1 : b = c'
      · rw [hb1, upd_same] at z; cases z
      · by_cases hb2 : b = P
        · rw [upd_ne hb1, hb2, upd_same] at z; cases z
        · rw [upd_ne hb1, upd_ne hb2] at z; exact z) (fun p hp => ?_) (Heap.get?_push_size _ rfl) ?_ (nofz _ hsz1) upd_same
    · by_cases hb : p.1 = P
      · rw [huz p hp hb, hb]
        refine ⟨_, by rw [upd_ne (ne_of_none hPz nCz), upd_same], by rw [eLz]; exact PySem.TriplesOk_snoc _ _ _ _ htz, fun p' cv hcv => ?_⟩
        rw [eLz] at hcv
        rcases among_app _ htz hcv with z | z
        · obtain ⟨c0, e1, e2⟩ := haz p' cv z
          exact ⟨c0, e1, hEz _ _ e2 codeO_ne⟩
        · exact ⟨c', z, upd_same⟩
      · obtain ⟨ps', a1, a2, a3⟩ := hTz p hp
        refine ⟨ps', by rw [upd_ne (ne_of_none a1 nCz), upd_ne hb]; exact a1, a2, fun p' cv hcv => ?_⟩
        obtain ⟨c0, e1, e2⟩ := a3 p' cv hcv
        exact ⟨c0, e1, hEz _ _ e2 codeO_ne⟩
    · have n1 : hp1.objs.size ≠ c' := Nat.ne_of_gt hlz
      have n2 : hp1.objs.size ≠ P := Nat.ne_of_gt (Nat.lt_of_lt_of_le (Heap.lt_size hPz') hsz1)
      rw [upd_ne n1, upd_ne n2]
      exact Iz.hok.fresh hsz1
  | some cv =>
    obtain ⟨c', e, hco⟩ := haz lz cv hcz
    subst e
    refine PySem.W.kla_makeFunctionHit (mg := X.mg) (c := c) (P := P) (ps := ps) (closure_ok hfz) Iz.ok.glob (Iz.mod.glob.keeps Iz.bk) hkz (TBz.code.keeps Iz.bk) hPz' htz hcz bPz fun ctz hp1 tkz hxz hsz1 => ?_
    have Jz : Inv X pins σ H { s with heap := hp1.push (PySem.W.kla_obj "<lambda>" (X.env.qual ++ "<lambda>") pz bz scz (cloFrom X.env.cells scz.names []) ((X.mg "__name__").getD .none) c' ctz), toks := tkz } := Iz.kept fun b o e => Heap.get?_push_of_some _ (hxz b o e)
    exact h hp1.objs.size c' ((X.mg "__name__").getD .none) ctz H _ Jz (ExtN.refl H) (fun _ z => z) hTz (Heap.get?_push_size _ rfl) (Iz.hok.fresh hsz1) (nofz _ hsz1) hco
theorem actN {CXg : CXT} {Eg : XK} {Ng : List Str} {qg : Str} {sg : Scope} {g fo co : Addr} {cdg pmo cto : Value} {ao : Arguments} {bo : Expr} {so : Scope} {i : Nat} {a : Str} {pn : List (Addr × Obj)} {xe : Value → Shared → Prop} {W : WX} {E : XK} {tb : TE} {p1 p2 : Pos}
    (J0 : Inv X pins σ H s) (Ls : LamS X.env.scope so) (hfo : s.heap.get? fo = some (PySem.W.kla_obj "<lambda>" (X.env.qual ++ "<lambda>") ao bo so (cloFrom X.env.cells so.names []) pmo co cto)) (hno : H fo = none) (hro : fo ∉ frs X.stack)
    (hbi : bindArgs (PySem.W.kla_fn "<lambda>" (X.env.qual ++ "<lambda>") ao bo so (cloFrom X.env.cells so.names []) pmo (.ref co) cto) ⟨[], []⟩ = pure [])
    (tk : L2N.Takes ((cxOf CXg X.prog X.w X.K X.mg X.base Ng qg sg g cdg X.A X.stack s H Eg).tr pn xe) W) (hW : ∀ cls d σ' H', E cls d H' → W cls d σ' H') (hrm : Room 0 (X.A.deeper (envOfC qg sg s.heap.objs.size g cdg)))
    (hbo : ∀ (e1 : Env) (outer : List Env) (s : Shared) (H : Hp), PE (lamC X (X.A.deeper e1) outer s H E so fo co) bo tb)
    (hN : Ng[i]? = some a) (hv : Vis sg a) (hd : (a == ("__debug__" : Str)) = false) (hcd : (a == ("__classdict__" : Str)) = false) :
    PE ((cxOf CXg X.prog X.w X.K X.mg X.base Ng qg sg g cdg X.A X.stack s H Eg).tr pn xe) (.Call (.Name a p1) [] [] p2)
      (fun σZ HZ Q => σZ[i]? = some (some (.ref fo)) ∧ HZ co = some (CodeO co (X.env.qual ++ "<lambda>")) ∧ tb σ HZ Q) := by
  refine ⟨fun pinsZ sZ σZ HZ Q JZ h => ?_⟩
  obtain ⟨hs, hc, ht⟩ := h
  refine wpAny_Call_Name_kw (thn ((pe_var (pos := p1) (i := i) hN hv hd hcd).run pinsZ sZ σZ HZ (fun v H1 => v = .ref fo ∧ H1 = HZ) JZ ⟨.ref fo, hs, rfl, rfl⟩) fun u s1 ⟨v, H1, J1, r1, q1⟩ => ?_)
  obtain ⟨ev, eH⟩ := q1
  subst ev
  rw [eH] at J1
  obtain rfl : u = Value.ref fo := r1
  have of1 : s1.heap.get? fo = some (PySem.W.kla_obj "<lambda>" (X.env.qual ++ "<lambda>") ao bo so (cloFrom X.env.cells so.names []) pmo co cto) := J1.base.keep fo _ hfo hno hro (fun z => nomatch (show fo ∈ ([] : List Addr) from z))
  refine PySem.W.callWith_F0 ⟨_, _, _, _, of1⟩ ?_
  have uq : Un (frs X.stack) [] H HZ s.heap s1.heap := J1.base
  obtain ⟨⟨oc, vs, t, hoc, hdc, hvc⟩, _, _⟩ := J1.hok co _ hc
  have rc : codeAny (model X.prog X.w) (X.A.deeper (envOfC qg sg s.heap.objs.size g cdg)) (.call (.ref fo) ⟨[], []⟩) (CR (L2N.CX X.prog X.w) (envOfC qg sg s.heap.objs.size g cdg :: X.stack) X.prog X.w HZ s1 Q E) s1 := by
    refine PySem.W.kla_callFunE (by have := hrm.dp; omega) of1 rfl Ls.co Ls.gen rfl ⟨co, oc, vs, t, rfl, hoc, hdc, hvc⟩ ?_
    rw [hbi]
    refine wpAny_pure (wpAny_newFunctionEnv (fun y hy => (Ls.own y hy).2) (fun y hy => absurd hy (by simp)) (fun h₁ hns hsb => ⟨J1.nolimit.fresh _ hsb, ?_⟩) Ls.kind)
    show codeAny _ _ (.expr bo (lamEnv X so s1.heap.objs.size fo co)) _ _
    have kq : ∀ b o, s1.heap.get? b = some o → h₁.get? b = some o := fun b o e => hsb.extBut b o (Nat.ne_of_lt (Heap.lt_size e)) (Heap.get?_push_of_some _ e)
    have J : Inv (lamCx X (X.A.deeper (envOfC qg sg s.heap.objs.size g cdg)) (envOfC qg sg s.heap.objs.size g cdg :: X.stack) s1 HZ C8.E0 so fo co) [] σ HZ { s1 with heap := h₁, toks := s1.toks + ([] : List (Str × Value)).length } :=
      lam_start2 J0 Ls J1.env0 hrm.hd uq hns kq
    refine PySem.W.kla_codeExpr (wpAny_mono ((hbo _ _ s1 HZ).run [] _ _ HZ Q (J.toTry _) ht) (fun v s' hq => ?_) fun e s' hq => hq)
    obtain ⟨w', H', J', rv, q⟩ := hq
    exact ⟨w', H', J'.os, J'.bare, J'.base, J'.hok, rv, q⟩
  have hx := L2N.passes_call (E := E) tk hW
  refine wpAny_call (codeAny_mono rc fun r s' hq => ?_)
  cases r with
  | error e => exact hx pinsZ σZ HZ s1 e s' J1 hq
  | ok fl =>
    cases fl with
    | ret u => exact J1.after hq
    | next => exact False.elim hq
    | brk => exact False.elim hq
    | cont => exact False.elim hq
end
def tLamN (TT : (XK → Hp → VK → Prop) → Hp → VK → Prop) (t : XK → TE) : TE := fun σ H Q => Tabs LamT.T H ∧ ∀ H1, ExtN H H1 → (∀ b, H1 b = none → H b = none) → Tabs LamT.T H1 → TT (fun E H' Q' => t E σ H' Q') H1 Q
section
variable {X : Cx}
/-- f(lambda: body) -/
theorem pe_lamN {TT : (XK → Hp → VK → Prop) → Hp → VK → Prop} {x a : Str} {g : Addr} {st : Stmt} {fd : FuncData} {Ng : List Str} {ao : Arguments} {bo : Expr} {so : Scope} {tt : XK → TE} {p lpos pos : Pos} (hg : Gl X x) (hm : X.mg x = some (.ref g)) (Fg : Fun X.K x x st g fd)
    (hb : L2.Binds X.K fd [a] []) (Sg : FnScope Ng [a] (defScope st)) (hNg : Ng[0]? = some a) (hG : ∀ cw, GivesN X.prog X.w X.K X.mg X.base Ng x (defScope st) g cw (defBody st) a TT) (lm : LamOk X) (Ls : LamS X.env.scope so) (hdef : defaultsOf ao X.env = ([], []))
    (hbi : ∀ (q : Str) (cl : List (Str × Addr)) (pm cv ctv : Value), bindArgs (PySem.W.kla_fn "<lambda>" q ao bo so cl pm cv ctv) ⟨[], []⟩ = pure [])
    (hbo : ∀ (e1 : Env) (outer : List Env) (s : Shared) (H : Hp) (E : XK) (f c' : Addr), PE (lamC X (X.A.deeper e1) outer s H E so f c') bo (tt E))
    (hdb : (x == ("__debug__" : Str)) = false) (hd : (a == ("__debug__" : Str)) = false) (hcd : (a == ("__classdict__" : Str)) = false) :
    PE X (.Call (.Name x p) [.Lambda ao bo so lpos] [] pos) (tLamN TT tt) := by
  obtain ⟨oc, od, kV, doc, pm, an, cdv, ct, osl, rfl, lk, hcg⟩ := Fg.ex
  obtain ⟨c, P, TB, hcode, hmT, hu⟩ := lm.ex
  have hva : Vis (defScope st) a := (Sg.par a List.mem_cons_self).elim .inl fun h => .inr (.inl h)
  refine ⟨fun pins s σ H Q J0 h => ?_⟩
  obtain ⟨hT, h⟩ := h
  refine wpAny_Call_Name_kw (ld_glob J0 hg hm ?_ hdb)
  refine PySem.W.callWith_K (h₀ := X.base) J0.ok.mod.kin Fg.kp ?_ (by rfl) (by rfl)
  show wpAny _ _ (spliced ((false, eval (.Lambda ao bo so lpos) X.env) :: backTo pos (starEach [] X.env))) _ _ s
  refine Calls.spliced_cons (lam_makeN J0 TB hcode hmT hu hT hdef (Ls.has J0.ok) fun f c' pm' ctv H1 s' J1 eN kN T1 hf hfn hfr hco => ?_)
  refine Calls.spliced_nil ⟨J1.kIn, ?_⟩
  have rc : codeAny (model X.prog X.w) X.A (.call (.ref g) ⟨[.ref f], []⟩) (CR C8.CX0 X.stack X.prog X.w H1 s' Q C8.E0) s' := by
    refine run_ofS (N := Ng) (ps := [a]) (us := [.ref f]) (vs := [.ref f]) lk hcg Sg lm.rm J1.env0 (hb s' [.ref f] J1.kIn rfl) (.cons rfl .nil) rfl fun hr' => ?_
    obtain ⟨t', ht', hq'⟩ := hG cdv _ X.A X.stack f c' s' H1 Q (fun E H' Q' => tt E σ H' Q') hr' (fun W pn xe E p1 p2 tk hW => actN (i := 0) J1 Ls hf hfn hfr (hbi _ _ _ _ _) tk hW hr' (fun e1 outer s H => hbo e1 outer s H E f c') hNg hva hd hcd) hco (h H1 eN kN T1)
    exact ⟨t', ht'.nox, hq'⟩
  refine wpAny_call (codeAny_mono rc fun r s2 hq => ?_)
  cases r with
  | error e => exact (show False from hq).elim
  | ok fl =>
    cases fl with
    | ret u => exact J1.after hq
    | next => exact False.elim hq
    | brk => exact False.elim hq
    | cont => exact False.elim hq
end

/-! ### the slots around a lambda -/
theorem cleanR_len (ρ : Rho) : (cleanR ρ).length = ρ.length := by unfold cleanR; rw [List.length_map]
theorem gt_clean {ρ : Rho} {k : Nat} {s : SV} : gt (cleanR ρ) k = some s ↔ gt ρ k = some s ∧ s.own = false := by
  unfold gt cleanR
  rw [List.getElem?_map]
  cases ρ[k]? with
  | none => simp
  | some o =>
    cases o with
    | none => simp
    | some t =>
      cases ho : t.own with
      | true =>
        simp only [Option.map_some, ho, if_true]
        refine ⟨fun h => (by cases h), fun ⟨h1, h2⟩ => ?_⟩
        cases h1
        rw [ho] at h2; cases h2
      | false =>
        simp only [Option.map_some, ho, Bool.false_eq_true, if_false]
        exact ⟨fun h => ⟨h, by cases h; exact ho⟩, fun h => h.1⟩
theorem gt_keep {ρ : Rho} {vs : List Nat} {k : Nat} {s : SV} : gt (keepR ρ vs) k = some s ↔ gt ρ k = some s ∧ (k ∈ vs ∨ s.own = false) := by
  unfold keepR
  rw [gt_back (cleanR_len ρ).symm]
  by_cases hk : k ∈ vs
  · rw [if_pos hk]
    exact ⟨fun h => ⟨h, .inl hk⟩, fun h => h.1⟩
  · rw [if_neg hk, gt_clean]
    exact ⟨fun h => ⟨h.1, .inr h.2⟩, fun h => ⟨h.1, h.2.resolve_left hk⟩⟩
theorem RepS.extN {K : PySem.W.Frag} {H H' : Hp} {v : V} {s : SV} (e : ExtN H H') (r : RepS K H v s) : RepS K H' v s := by
  have im : Im H H' := ⟨fun a xs h => by
    rcases h with h | ⟨o, h⟩
    · exact .inl (e _ _ h nofun)
    · exact .inr ⟨o, e _ _ h nofun⟩, fun a o u h => e _ _ h nofun⟩
  cases s with
  | d x => exact RepD.im im r
  | ml xs =>
    obtain ⟨a, vs, h1, h2, h3, h4⟩ := r
    exact ⟨a, vs, h1, e _ _ h2 nofun, h3, h4.im im⟩
  | md _ =>
    obtain ⟨a, ks, h1, h2, h3⟩ := r
    exact ⟨a, ks, h1, e _ _ h2 nofun, h3.im im⟩
  | rl _ => exact RepS.rlIm im r
/-- in a state that tells less of the slots -/
theorem RelE.less {K : PySem.W.Frag} {σ : St} {H H1 : Hp} {ρ ρ1 : Rho} (r : RelE K σ H ρ) (hl : ρ1.length = ρ.length) (h : ∀ k s, gt ρ1 k = some s → gt ρ k = some s) (e : ExtN H H1) (tb : TabsOk H1) : RelE K σ H1 ρ1 :=
  ⟨r.len.trans hl.symm, fun i s g => let ⟨v, h1, h2⟩ := r.at_ i s (h i s g); ⟨v, h1, h2.extN e⟩, fun i j s t a g1 g2 => r.dis i j s t a (h i s g1) (h j t g2), tb⟩
/-- behind a run that has seen the slots vs alone -/
theorem aft_keep {K : PySem.W.Frag} {σ : St} {H H1 H' : Hp} {ρ ρ' : Rho} {vs : List Nat} (rel : RelE K σ H ρ) (e : ExtN H H1) (tr : ∀ b, H1 b = none → H b = none) (hl : ρ'.length = ρ.length)
    (kp : ∀ a u, H1 a = some u → ¬ OwnA σ (keepR ρ vs) a → NT u → H' a = some u) (trk : ∀ a, H' a = none → H1 a = none) (im : Im H1 H') (tb : TabsOk H')
    (at_ : ∀ k s, k ∈ vs → gt ρ' k = some s → ∃ v, σ[k]? = some (some v) ∧ RepS K H' v s)
    (dis : ∀ i j s t a, gt ρ' i = some s → gt ρ' j = some t → s.own = true → t.own = true → σ[i]? = some (some (.ref a)) → σ[j]? = some (some (.ref a)) → i = j)
    (sub : ∀ a, OwnA σ ρ' a → OwnA σ (keepR ρ vs) a) : Aft K σ ρ H (backR ρ' ρ vs) H' := by
  have imH : Im H H1 := ⟨fun a xs h => by
    rcases h with h | ⟨o, h⟩
    · exact .inl (e _ _ h nofun)
    · exact .inr ⟨o, e _ _ h nofun⟩, fun a o u h => e _ _ h nofun⟩
  have down : ∀ a, OwnA σ (keepR ρ vs) a → OwnA σ ρ a := fun a ⟨k, s, g, o, ea⟩ => ⟨k, s, (gt_keep.mp g).1, o, ea⟩
  have nk : ∀ k s a, k ∉ vs → gt ρ k = some s → s.own = true → σ[k]? = some (some (.ref a)) → ¬ OwnA σ (keepR ρ vs) a := fun k s a hk g o ea ⟨j, t, g2, o2, ea2⟩ => by
    obtain ⟨g3, g4⟩ := gt_keep.mp g2
    rcases g4 with hj | hj
    · have := rel.dis j k t s a g3 g o2 o ea2 ea
      exact hk (this ▸ hj)
    · rw [hj] at o2; cases o2
  refine ⟨fun a u h n nt => kp a u (e a u h nt) (fun z => n (down a z)) nt, ⟨by rw [backR_len]; exact rel.len, fun k s g => ?_, fun i j s t a g1 g2 o1 o2 a1 a2 => ?_, tb⟩, fun a ⟨k, s, g, o, ea⟩ => ?_, fun a h => tr a (trk a h)⟩
  · rw [gt_back hl] at g
    split at g
    · exact at_ k s (by assumption) g
    · rename_i hk
      obtain ⟨v, v1, v2⟩ := rel.at_ k s g
      refine ⟨v, v1, ?_⟩
      cases s with
      | d x => exact RepD.im (imH.trans im) v2
      | ml xs =>
        obtain ⟨a, us, rfl, q2, q3, q4⟩ := v2
        exact ⟨a, us, rfl, kp a _ (e _ _ q2 nofun) (nk k _ a hk g rfl v1) nofun, q3, q4.im (imH.trans im)⟩
      | md ys =>
        obtain ⟨a, ks, rfl, q2, q3⟩ := v2
        exact ⟨a, ks, rfl, kp a _ (e _ _ q2 nofun) (nk k _ a hk g rfl v1) nofun, q3.im (imH.trans im)⟩
      | rl _ => exact RepS.rlIm (imH.trans im) v2
  · have key : ∀ k s, gt (backR ρ' ρ vs) k = some s → s.own = true → σ[k]? = some (some (.ref a)) → (k ∈ vs ∧ gt ρ' k = some s ∧ OwnA σ (keepR ρ vs) a) ∨ (k ∉ vs ∧ gt ρ k = some s) := fun k s g o ea => by
      rw [gt_back hl] at g
      split at g
      · exact .inl ⟨by assumption, g, sub a ⟨k, s, g, o, ea⟩⟩
      · exact .inr ⟨by assumption, g⟩
    rcases key i s g1 o1 a1 with ⟨h1, g3, w1⟩ | ⟨h1, g3⟩
    · rcases key j t g2 o2 a2 with ⟨h2, g4, w2⟩ | ⟨h2, g4⟩
      · exact dis i j s t a g3 g4 o1 o2 a1 a2
      · exact absurd w1 (nk j t a h2 g4 o2 a2)
    · rcases key j t g2 o2 a2 with ⟨h2, g4, w2⟩ | ⟨h2, g4⟩
      · exact absurd w2 (nk i s a h1 g3 o1 a1)
      · exact rel.dis i j s t a g3 g4 o1 o2 a1 a2
  · rw [gt_back hl] at g
    split at g
    · exact down a (sub a ⟨k, s, g, o, ea⟩)
    · exact ⟨k, s, g, o, ea⟩
theorem look_mem {β : Type} {x : String} {y : β} : ∀ {l : List (String × β)}, l.lookup x = some y → (x, y) ∈ l
  | [], h => by simp at h
  | (k, z) :: r, h => by
    rw [List.lookup_cons] at h
    split at h
    · rename_i e
      rw [beq_iff_eq] at e
      cases h
      rw [e]
      exact List.mem_cons_self
    · exact List.mem_cons_of_mem _ (look_mem h)
theorem okWord_str {x : Str} (h : okWord x = true) : strOk x := by
  unfold okWord at h
  simp only [Bool.and_eq_true, decide_eq_true_eq] at h
  exact ⟨h.1, Nat.le_trans h.2 (by rw [sizeLine_eq]; decide)⟩
theorem keepR_len (ρ : Rho) (vs : List Nat) : (keepR ρ vs).length = ρ.length := by unfold keepR; rw [backR_len, cleanR_len]
/-- the reading of a word -/
theorem wd_read {K : PySem.W.Frag} {Z : ZT} {C : Call} {t : WT} {f : String} {vs : List Nat} {e : E} {σ : St} {H : Hp} {Q : VK} (h0 : okWord t.dflt = true) (h1 : ∀ p ∈ t.tab, okWord p.2 = true)
    (h : ∃ ρ, RelE K σ H ρ ∧ (ev C false (.wd f t vs e) ρ).gx (W := zk Z σ ρ H) (PoE K σ ρ H Q)) : tLamN (TTw K t) (fun E => tE K (zE K E) C false e) σ H Q := by
  obtain ⟨ρ, rel, g⟩ := h
  have g : (wdSem t (ev C false e (keepR ρ vs)) ρ vs).gx (W := zk Z σ ρ H) (PoE K σ ρ H Q) := g
  refine ⟨rel.tab, fun H1 eN tr tb => ⟨keepR ρ vs, rel.less (keepR_len ρ vs) (fun k s z => (gt_keep.mp z).1) eN tb, ?_⟩⟩
  have rel1 : RelE K σ H1 (keepR ρ vs) := rel.less (keepR_len ρ vs) (fun k s z => (gt_keep.mp z).1) eN tb
  cases er : ev C false e (keepR ρ vs) with
  | ok o ρ' =>
    rw [er] at g
    refine fun v H' a2 ro fr => ?_
    have aft := a2
    exact g (.str t.dflt) H' (aft_keep rel eN tr (by rw [← aft.rel.len, rel.len]) (fun a u z n nt => a2.kp a u z n) a2.trk (a2.im rel1) a2.rel.tab (fun k s _ z => a2.rel.at_ k s z) a2.rel.dis a2.sub) ⟨RepD.str _ (okWord_str h0), nofun⟩ nofun
  | exc x ρ' =>
    rw [er] at g
    have g : (match t.tab.lookup x.cls with
      | some w => Res.ok (Opd.v (SV.d (PyData.str w))) (backR (cleanR ρ) ρ vs)
      | none => .bad).gx (W := zk Z σ ρ H) (PoE K σ ρ H Q) := g
    refine fun H' k cls d hx => ?_
    cases ew : t.tab.lookup x.cls with
    | none => rw [ew] at g; exact g.elim
    | some w =>
      rw [ew] at g
      refine ⟨x, w, hx, ew, fun H2 sm => ?_⟩
      have hw : okWord w = true := h1 (x.cls, w) (look_mem ew)
      have im2 : Im H1 H2 := by
        refine Im.trans ⟨fun a xs z => ?_, fun a o u z => ?_⟩ (Same.im sm)
        · rcases z with z | ⟨o, z⟩
          · refine .inl (k.kp _ _ z fun q => ?_)
            rcases q.lst rel1 with ⟨us, y⟩ | ⟨us, y⟩ <;> (rw [z] at y; cases y)
          · refine .inr ⟨o, k.kp _ _ z fun q => ?_⟩
            rcases q.lst rel1 with ⟨us, y⟩ | ⟨us, y⟩ <;> (rw [z] at y; cases y)
        · refine k.kp _ _ z fun q => ?_
          rcases q.lst rel1 with ⟨us, y⟩ | ⟨us, y⟩ <;> (rw [z] at y; cases y)
      refine g (.str w) H2 (aft_keep rel eN tr (cleanR_len ρ) (fun a u z n nt => sm a u (k.kp a u z n)) (fun a z => k.trk a (sm.free z)) im2 (k.tab.ext sm) (fun j s _ z => ?_) (fun i j s t a g1 g2 o1 => ?_) fun a ⟨j, s, g1, o1, _⟩ => ?_) ⟨RepD.str _ (okWord_str hw), nofun⟩ nofun
      · obtain ⟨z1, z2⟩ := gt_clean.mp z
        obtain ⟨v, v1, v2⟩ := rel1.at_ j s (gt_keep.mpr ⟨z1, .inr z2⟩)
        refine ⟨v, v1, ?_⟩
        cases s with
        | d y => exact RepD.im im2 v2
        | ml _ => cases z2
        | md _ => cases z2
        | rl _ => exact RepS.rlIm im2 v2
      · rw [(gt_clean.mp g1).2] at o1; cases o1
      · rw [(gt_clean.mp g1).2] at o1; cases o1
  | bad => rw [er] at g; exact g.elim
/-- the context of a lambda's body is one of ours -/
theorem lam_ctx {Γ : Kx} {C : Call} {Z : ZT} {sc so : Scope} {fn : Str → Bool} {X : Cx} (c : CtxOk Γ C Z sc fn X) (hfl : fn lamN = true) (hws : Γ.ws ≠ []) (Ls : LamS X.env.scope so) (e1 : PySem.Env) (outer : List PySem.Env) (s : Shared) (H : Hp) (E : XK) (f c' : Addr) :
    CtxOk Γ C (zE X.K E) so (fun _ => false) (lamC X (X.A.deeper e1) outer s H E so f c') where
  N := c.N
  nd := c.nd
  hsc := rfl
  kind := Ls.kind
  fnX := fun _ _ => rfl
  calm := rfl
  hu := by
    have := (c.lm hfl hws).rm.un
    show X.A.units + 3 + 3 + 65 < cLine
    omega
  bl := c.bl
  cs := c.cs
  call := fun g hg => ⟨(c.sp hfl hws g hg e1 _).ex⟩
  er := fun k h => ⟨(c.er k h).ex⟩
  lm := fun z => nomatch z
  sp := fun z => nomatch z
  wd := c.wd
  tk := L2N.Takes.imp (L2N.takes_of rfl rfl rfl rfl) fun cls d σ H' ⟨e, hx, z⟩ => z cls d hx
theorem args_of_no {ps : Arguments} (h : noArgs ps = true) : ps = ⟨[], [], none, [], [], none, []⟩ := by
  unfold noArgs at h
  split at h
  · rfl
  · cases h
end Q

namespace L2
open PySem PySem.Spec PyProof.Rows
section
variable {P : Program} {w : World} {A : Around} {E : Value → Shared → Prop} {s : Shared}
set_option maxRecDepth 100000 in
set_option maxHeartbeats 3200000 in
theorem call_set_lstI {l : Addr} {itemsv : Array Value} (ns : List Int) {Q : Value → Shared → Prop} (hhv : A.handled = none) (hlv : s.heap.IsList l itemsv) (hitv : IntsAre itemsv.toList ns) (hbv : ns.length + 1 < scanBound)
    (h : ∀ (h' : Heap) (tk c : Nat), SetR w h' s.heap.objs.size (fun j => decide (j ∈ ns)) c → c ≤ ns.length → (∀ b o, s.heap.get? b = some o → h'.get? b = some o) → Q (.ref s.heap.objs.size) { s with heap := h', toks := tk }) :
    wpAny (model P w) A (call (.type "set") [.ref l]) Q E s := by
  have hiszv : itemsv.size = ns.length := by
    have q := IntsAre.length hitv
    rw [Array.length_toList] at q
    exact q
  obtain ⟨c, tl, hmrov⟩ := F.called_set.mro
  have hmadev := F.called_set.made
  have hsubv := F.called_set.sub
  refine wpAny_call (codeAny_of_tree ?_)
  show wpAny _ _ (callAny (.type "set") _) _ _ _
  refine wpAny_pure ⟨Code.quiet_builtin _ (by decide +kernel), codeAny_builtin F.entry_type_call ?_⟩
  rw [Around.under_plain (weight_type_call_type "set" [.ref l] []) rfl]
  have h1v := F.called_set.notType
  have h2v := F.called_set.canCreate
  have hctv := F.typeCall_set_1 (.ref l)
  repeat (any_goals (first | assumption | wp_step))

  refine codeAny_mono (code_set_led1 (.ref l) (E := E) (Q₁ := fun obj s₁ => obj = .ref s.heap.objs.size ∧ s₁ = { s with heap := s.heap.push { cls := .type "set", dict := none, data := .set #[] 0 (.fresh 0 0 (!w.params.followText "set-order")) } }) ⟨rfl, rfl⟩) fun r s₁ hrv => ?_
  cases r with
  | error e => exact hrv
  | ok fl =>
    cases fl with
    | ret obj =>
      obtain ⟨rfl, rfl⟩ := hrv
      have hSv : (s.heap.push { cls := .type "set", dict := none, data := .set #[] 0 (.fresh 0 0 (!w.params.followText "set-order")) }).get? s.heap.objs.size = some { cls := .type "set", dict := none, data := .set #[] 0 (.fresh 0 0 (!w.params.followText "set-order")) } := Heap.get?_push_size _ rfl
      have hTv : Shared.TypeIs { s with heap := s.heap.push { cls := .type "set", dict := none, data := .set #[] 0 (.fresh 0 0 (!w.params.followText "set-order")) } } (.ref s.heap.objs.size) "set" := ⟨_, hSv, rfl⟩
      have hliv := F.called_set.init.lookup
      have hbiv := F.called_set.init.bind (.ref s.heap.objs.size)
      repeat (any_goals (first | assumption | wp_step))

      refine codeAny_mono (codeAny_call_builtin (R := wants (fun r s₂ => r = .none ∧ ∃ h' tk c, s₂ = { s with heap := h', toks := tk } ∧ SetR w h' s.heap.objs.size (fun j => decide (j ∈ ns)) c ∧ c ≤ ns.length ∧
          (∀ b o, s.heap.get? b = some o → h'.get? b = some o)) E) F.called_set.init.plain F.entry_set_init (check_set_init_1 hTv ?_)) fun r₂ s₂ hr₂ => ?_
      · obtain ⟨ol, holv, hclv, nl, hdlv⟩ := hlv
        obtain ⟨oclsv, odictv, odatav, oslotsv⟩ := ol
        simp only at hclv hdlv
        subst hclv; subst hdlv
        have holw : (s.heap.push { cls := .type "set", dict := none, data := .set #[] 0 (.fresh 0 0 (!w.params.followText "set-order")) }).get? l = some { cls := .type "list", dict := odictv, data := .seq itemsv nl, slots := oslotsv } := Heap.get?_push_of_some _ holv
        have hslsv := F.sub_list_set
        have hslfv := F.sub_list_frozenset
        have hnev : (Value.type "list" == Value.type "dict") = false := by decide
        have hl1v : (s.heap.push { cls := .type "set", dict := none, data := .set #[] 0 (.fresh 0 0 (!w.params.followText "set-order")) }).IsList l itemsv := ⟨_, holw, rfl, nl, rfl⟩
        unfold Builtin.«set.__init__» noKeywords Builtin.Frozenset.updateFrom
        generalize hPIv : pyIter = PIv
        wp_walk
        subst hPIv

        refine wpAny_pyIter_list hl1v ?_
        refine wpAny_bind (wpAny_runValue ?_)
        have hlSv : l < s.heap.objs.size := Heap.lt_size holv
        have hh3v : A.in1.in1.in1.handled = none := by simp [hhv]
        have hz1v : (s.heap.push { cls := .type "set", dict := none, data := .set #[] 0 (.fresh 0 0 (!w.params.followText "set-order")) }).objs.size = s.heap.objs.size + 1 := Heap.size_push ..
        have hneIv : l ≠ (s.heap.push { cls := .type "set", dict := none, data := .set #[] 0 (.fresh 0 0 (!w.params.followText "set-order")) }).objs.size := by
          rw [Heap.size_push]; exact Nat.ne_of_lt (Nat.lt_succ_of_lt hlSv)
        have hSfv : s.heap.objs.size ∉ [(s.heap.push { cls := .type "set", dict := none, data := .set #[] 0 (.fresh 0 0 (!w.params.followText "set-order")) }).objs.size, l] := by
          rw [Heap.size_push]; simp only [List.mem_cons, List.mem_singleton, List.not_mem_nil, or_false, not_or]
          exact ⟨Nat.ne_of_lt (Nat.lt_succ_self _), Nat.ne_of_gt hlSv⟩
        have hvalv : ∀ (i : Nat) (v : Value), itemsv[i]? = some v → ∃ k t, ns[i]? = some k ∧ v = .int k t := fun i v hv => by
          have hi : i < ns.length := by rw [← hiszv]; exact (Array.getElem?_eq_some_iff.mp hv).1
          obtain ⟨t, e⟩ := PyProof.Rows.IntsAre.int_at hitv i v (by rw [Array.getElem?_toList]; exact hv)
          refine ⟨ns[i], t, List.getElem?_eq_getElem hi, ?_⟩
          rw [e, List.getD_eq_getElem?_getD, List.getElem?_eq_getElem hi] <;> rfl
        refine set_update_ints ((Walks.list hh3v _ l hneIv itemsv).toS) s.heap.objs.size
          hSfv ns hiszv hbv hvalv (itemsv.size - 0) 0 _ (by omega) (Nat.zero_le _)
          ⟨⟨_, Heap.get?_push_size _ rfl, rfl, rfl⟩, (hl1v.push _)⟩ ?hS0 ?hR
        case hS0 =>
          have hgetv : ((s.heap.push { cls := .type "set", dict := none, data := .set #[] 0 (.fresh 0 0 (!w.params.followText "set-order")) }).push { cls := .type "list_iterator", data := .fields #[.ref l, .int 0 0] }).get? s.heap.objs.size
              = some { cls := .type "set", dict := none, data := .set #[] 0 (.fresh 0 0 (!w.params.followText "set-order")) } := Heap.get?_push_of_some _ hSv
          exact ⟨0, Nat.le_refl 0, setR_new_at hgetv⟩
        case hR =>
          intro s' c' hmv hcw hSw
          obtain ⟨h', g2, d', tk', os'⟩ := s'
          have egv : g2 = s.gens := hmv.gens
          have edv : d' = s.drawn := hmv.drawn
          have eov : os' = s.os := hmv.os
          subst egv; subst edv; subst eov
          show wpAny _ _ _ _ _ _
          refine wpAny_pure ?_
          show wpAny _ _ (ret Value.none) _ _ _
          rw [hiszv] at hcw
          refine wpAny_pure ⟨rfl, h', tk', c', rfl, hSw, hcw, fun b o e => ?_⟩
          have hb0v : b < s.heap.objs.size := Heap.lt_size e
          have hb1v : b ≠ s.heap.objs.size := Nat.ne_of_lt hb0v
          have hb2v : b ≠ (s.heap.push { cls := .type "set", dict := none, data := .set #[] 0 (.fresh 0 0 (!w.params.followText "set-order")) }).objs.size := by
            rw [Heap.size_push]; exact Nat.ne_of_lt (Nat.lt_succ_of_lt hb0v)
          exact hmv.heap b o (by simp only [List.mem_cons, List.mem_singleton, List.not_mem_nil, or_false, not_or]; exact ⟨hb1v, hb2v⟩) (Heap.get?_push_of_some _ (Heap.get?_push_of_some _ e))

      · cases r₂ with
        | error e => exact hr₂
        | ok fl₂ =>
          cases fl₂ with
          | ret r =>
            obtain ⟨rfl, h', tk, c', rfl, hSw, hcw, hk'⟩ := hr₂
            repeat (any_goals (first | assumption | wp_step))
            exact h _ _ _ hSw hcw hk'
          | _ => exact hr₂.elim
    | _ => exact hrv.elim

end
end L2

namespace HT
open PySem PySem.Spec PyProof.Rows
theorem bounds2 (n : Nat) : sliceBounds (some (-2)) none (some (-1)) n = (((n - 1 : Nat) : Int) - 1, -1, -1) := by
  have h1 : ¬ ((-1 : Int) > 0) := by decide
  simp only [sliceBounds, Option.getD_some, h1, if_false]
  congr 1
  rw [if_pos (by decide)]
  omega
theorem pick2 (items : Array Value) : slicePick items (some (-2)) none (some (-1)) = (items.toList.take (items.size - 1)).reverse.toArray := by
  unfold slicePick
  rw [bounds2]
  show ((sliceRange (((items.size - 1 : Nat) : Int) - 1) (-1) (-1)).filterMap (items[·]?)).toArray = _
  rw [PySem.W.krv_sliceRange, PySem.W.krv_range, List.filterMap_reverse]
  have h := pick_run items 0 (items.size - 1)
  have e : (List.range (items.size - 1)).map (0 + ·) = List.range (items.size - 1) := by
    rw [show ((0 + ·) : Nat → Nat) = id from funext fun k => Nat.zero_add k, List.map_id]
  rw [e, List.drop_zero] at h
  rw [h]
end HT
namespace Q
open PySem PySem.Spec PyProof.Rows L2
variable [LamT]
section
variable {X : Cx} {e : Expr} {te : TE} {lo st : Expr} {tl ts : TO} {pos p2 : Pos}
def rSlr (K : PySem.W.Frag) : V → Hp → VK → Prop := fun x H Q => ∃ a xs, x = .ref a ∧ SqL K H a xs ∧ ∀ p, H p = none → Q (.ref p) (upd H p (.lst (xs.take (xs.length - 1)).reverse))
theorem vals_take {xs : List V} {its : List Value} (r : Vals xs its) : ∀ n, Vals (xs.take n) (its.take n) := by
  induction r with
  | nil => intro n; simp; exact .nil
  | cons h t ih =>
    intro n
    cases n with
    | zero => exact .nil
    | succ n => exact .cons h (ih n)
theorem pe_slr (he : PE X e te) (hl : PO X (some lo) tl) (hs : PO X (some st) ts) : PE X (.Subscript e (.Slice (some lo) none (some st) p2) pos) (fun σ H Q => te σ H fun x H1 => tl σ H1 fun o1 H2 => ts σ H2 fun o2 H3 => o1 = some (-2) ∧ o2 = some (-1) ∧ rSlr X.K x H3 Q) := by
  refine ⟨fun pins s σ H Q I h => ?_⟩
  refine Subscript_ (thn (he.run pins s σ H _ I h) fun v s1 ⟨x, H1, I1, r1, q1⟩ => ?_)
  refine wpAny_Slice (thn (hl.run pins s1 σ H1 _ I1 q1) fun vl s2 ⟨o1, H2, I2, pl, q2⟩ => ?_)
  rw [evalPart_none]
  refine wpAny_pure (thn (hs.run pins s2 σ H2 _ I2 q2) fun vk s3 ⟨o2, H3, I3, pk, e1, e2, q3⟩ => ?_)
  subst e1
  subst e2
  have I4 : Inv X pins σ H3 { s3 with heap := s3.heap.push { cls := .type "slice", data := .fields #[vl, .none, vk] } } := I3.kept (t' := s3.toks) fun b ob q => Heap.get?_push_of_some _ q
  have hsl : ({ s3 with heap := s3.heap.push { cls := .type "slice", data := .fields #[vl, .none, vk] } } : Shared).heap.IsSliceOf s3.heap.objs.size vl .none vk := Heap.IsSliceOf.new ..
  generalize hs4 : ({ s3 with heap := s3.heap.push { cls := .type "slice", data := .fields #[vl, .none, vk] } } : Shared) = s4 at I4 hsl
  show wpAny (model X.prog X.w) X.A (subscriptTail e (.Slice (some lo) none (some st) p2) v (.ref s3.heap.objs.size)) (EP X pins σ Q) X.xe _
  obtain ⟨a, xs, rfl, hx, q⟩ := q3
  cases r1
  obtain ⟨its, r, ht, hz⟩ := I4.list hx
  have hlen := r.length
  have fin : wpAny (model X.prog X.w) X.A (getItem (.ref a) (.ref s3.heap.objs.size)) (EP X pins σ Q) X.xe s4 := by
    refine wpAny_getItem_list_slice ht.isList hsl pl .none pk (by decide) ?_ (by rw [List.size_toArray]; omega)
    rw [HT.pick2]
    have hz2 : (xs.take (xs.length - 1)).reverse.length ≤ sizeLine := by
      rw [List.length_reverse, List.length_take]; omega
    refine ⟨.ref s4.heap.objs.size, _, I4.laid (t' := s4.toks) (o := .lst (xs.take (xs.length - 1)).reverse) (fun b ob q => Heap.get?_push_of_some _ q) (Nat.le_refl _) ?_, rfl, q _ (I4.hok.fresh (Nat.le_refl _))⟩
    refine ⟨hz2, (its.take (its.length - 1)).reverse, 0, vals_revs ?_, ?_⟩
    · rw [hlen]; exact vals_take r _
    · have := Heap.get?_push_size s4.heap (o := { cls := .type "list", data := .seq ((its.toArray.toList.take (its.toArray.size - 1)).reverse.toArray) }) rfl
      simpa using this
  subst hs4
  exact tail_any (ops := [.ref a, .ref s3.heap.objs.size]) ht.isList.typeIs slot_list_getitem.lookup fin (by with_unfolding_all rfl)
end
theorem dd_mem : ∀ (l : List Int) (k : Int), k ∈ ddI l ↔ k ∈ l
  | [], k => by simp [ddI]
  | x :: r, k => by
    unfold ddI
    split
    · rename_i h
      rw [dd_mem r k, List.mem_cons]
      exact ⟨.inr, fun z => z.elim (fun z => z ▸ h) id⟩
    · rw [List.mem_cons, List.mem_cons, dd_mem r k]
theorem dd_nodup : ∀ l : List Int, (ddI l).Nodup
  | [] => by simp [ddI]
  | x :: r => by
    unfold ddI
    split
    · exact dd_nodup r
    · rename_i h
      exact List.nodup_cons.mpr ⟨fun z => h ((dd_mem r x).mp z), dd_nodup r⟩
/-- what is ascending and has these members -/
theorem sset_uniq {ns l : List Int} (h1 : l.Pairwise (· < ·)) (h2 : ∀ k, k ∈ l ↔ k ∈ ns) : l = sortI (ddI ns) := by
  refine sorted_uniq ?_ (h1.imp fun h => Int.le_of_lt h) (sortI_sorted _)
  have nd : l.Nodup := h1.imp fun h e => by rw [e] at h; exact Int.lt_irrefl _ h
  have p : l.Perm (ddI ns) := (List.perm_ext_iff_of_nodup nd (dd_nodup ns)).mpr fun k => by rw [h2, dd_mem]
  exact p.trans (sortI_perm _).symm
theorem intsAre_valsQ : ∀ {ns : List Int} {us : List Value}, Vals (ns.map V.int) us → PyProof.Rows.IntsAre us ns
  | [], us, r => by cases r; exact .nil
  | n :: r, us, h => by
    cases h with
    | cons h t =>
      obtain ⟨k, rfl⟩ := h
      exact .cons n k (intsAre_valsQ t)
/-- sorted(set(a)) of ints -/
theorem pe_sset {X : Cx} {a : Expr} {ta : TE} {p p2 q pos : Pos} (hg : Gl X "sorted") (hm : X.mg "sorted" = none) (hg2 : Gl X "set") (hm2 : X.mg "set" = none) (ha : PE X a ta) (hc : X.calm = true)
    (na : starEach [a] X.env = (false, eval a X.env) :: starEach [] X.env) : PE X (.Call (.Name "sorted" p) [.Call (.Name "set" p2) [a] [] q] [] pos) (fun σ H Q => ta σ H fun x H1 => ∃ l ns, x = .ref l ∧ SqL X.K H1 l (ns.map V.int) ∧ ns.length < 64 ∧ ∀ b, H1 b = none → Q (.ref b) (upd H1 b (.lst ((sortI (ddI ns)).map V.int)))) := by
  refine ⟨fun pins s σ H Q I h => ?_⟩
  refine Call_ (ld_blt I hg hm boot_sorted ?_)
  refine PyProof.Rows.callWith_builtin1 (PyProof.Rows.args_cons ?_ rfl) rfl rfl
  refine Call_ (ld_blt I hg2 hm2 boot_set ?_)
  refine PyProof.Rows.callWith_type1 (PyProof.Rows.args_cons (thn (ha.run pins s σ H _ I h) fun v s1 ⟨x, H1, I1, r1, q1⟩ => PyProof.Rows.args_nil ?_) na) na rfl
  obtain ⟨l, ns, rfl, hq, h64, q1⟩ := q1
  cases r1
  obtain ⟨its, r, pl, hz⟩ := I1.list hq
  refine call_set_lstI ns (I1.ok.hd hc) pl.isList (by simpa using intsAre_valsQ r) (by unfold scanBound; omega) fun h' tk cc R hcn hk => ?_
  refine PyProof.Rows.args_nil ?_
  have I2 : Inv X pins σ H1 { s1 with heap := h', toks := tk } := I1.kept hk
  have R2 : SetR X.w ({ s1 with heap := h', toks := tk } : Shared).heap s1.heap.objs.size (fun j => decide (j ∈ ns)) cc := R
  generalize ({ s1 with heap := h', toks := tk } : Shared) = s2 at I2 R2 ⊢
  refine sorted_set R2 (I2.ok.hd hc) (by omega) fun s' p' out c2 ms k g o hp hgt hi hs hmm hl => ?_
  have e1 := sset_uniq (ns := ns) hs fun k => by rw [hmm k]; simp
  subst e1
  have hn : H1 p' = none := I2.hok.fresh hp
  have hlen : ((sortI (ddI ns)).map V.int).length ≤ sizeLine := by rw [List.length_map, hl, sizeLine_eq]; omega
  have J : Inv X pins σ (upd H1 p' (.lst ((sortI (ddI ns)).map V.int))) { s2 with heap := s'.heap, gens := s'.gens, drawn := s'.drawn, toks := s'.toks } :=
    I2.call (ch := []) (Un.laid k hp hn) (I2.hok.laid k hp ⟨hlen, out.toList, c2, vals_of_ints hi, hgt⟩) (by rw [g]; exact I2.bare) (fun _ z => nomatch z)
  have e : s' = { s2 with heap := s'.heap, gens := s'.gens, drawn := s'.drawn, toks := s'.toks } := by
    cases s'
    cases s2
    cases o
    rfl
  rw [e]
  exact ⟨.ref p', _, J, rfl, q1 p' hn⟩
end Q

namespace Q
open PySem PySem.Spec PyProof.Rows L2
variable [LamT]
/-! ### every expression of ours does what it is worth -/
section
variable {C : Call} {Z : ZT} {Γ : Kx}
abbrev Both (C : Call) (Z : ZT) (X : Cx) (e : E) (x : Expr) : Prop := PE X x (tE X.K Z C false e) ∧ PT X x (tTB X.K Z C e)
theorem both_plain {X : Cx} {e : E} {x : Expr} (h : PE X x (tE X.K Z C false e)) (ht : ∀ ρ, ev C true e ρ = tst true (ev C false e ρ)) (he : ∀ whole, isTrue x X.env whole = (do let v ← whole; standAt x.pos; holding [v] (truthy v))) : Both C Z X e x := ⟨h, pt_plain h ht he⟩
theorem dEq_rep {d : D} {c : Const} (h : dEq d c = true) : ∃ v, (∀ K H, RepD K H v d) ∧ ∀ (X : Cx) (k : Nat) (p : Pos), PE X (.Constant c k p) (tC v) := by
  cases d with
  | none => cases c <;> first | exact ⟨.non, fun _ _ => .non, fun _ _ _ => pe_non⟩ | cases h
  | bool b =>
    cases c <;> try (cases h)
    rename_i c
    have e : b = c := by simpa [dEq] using h
    subst e
    exact ⟨.bl b, fun _ _ => .bl b, fun _ _ _ => pe_bl⟩
  | int b =>
    cases c <;> try (cases h)
    rename_i c
    have e : b = c := by simpa [dEq] using h
    subst e
    exact ⟨.int b, fun _ _ => .int b, fun _ _ _ => pe_int⟩
  | str b =>
    cases c <;> try (cases h)
    rename_i c
    simp only [dEq, Bool.and_eq_true, strB, decide_eq_true_eq] at h
    obtain ⟨⟨e, h2⟩, h3⟩ := h
    subst e
    exact ⟨.str b, fun _ _ => .str b ⟨h2, Nat.le_trans h3 (by rw [sizeLine_eq]; decide)⟩, fun _ _ _ => pe_str⟩
  | list _ => cases c <;> cases h
  | tuple _ => cases c <;> cases h
  | dict _ => cases c <;> cases h
theorem const_read {K : PySem.W.Frag} {v : V} {d : D} {σ : St} {H : Hp} {Q : VK} (r : RepD K H v d) (h : ∃ ρ, RelE K σ H ρ ∧ (Res.ok (Opd.v (SV.d d)) ρ).gx (W := zk Z σ ρ H) (PoE K σ ρ H Q)) : Q v H := by
  obtain ⟨ρ, rel, g⟩ := h
  exact g v H (Aft.refl rel) ⟨r, fun z => nomatch z⟩ fun z => nomatch z
theorem rdB_of {X : Cx} {sc : Scope} {fn : Str → Bool} (c : CtxOk Γ C Z sc fn X) {i : Nat} {x : Expr} (h : rdB Γ sc i x = true) : PE X x (tVar i) ∧ ∃ n p, x = .Name n p := by
  cases x with
  | Name n p =>
    simp only [rdB, Bool.and_eq_true, decide_eq_true_eq] at h
    obtain ⟨⟨h1, h2⟩, h3⟩ := h
    obtain ⟨d1, d2, _⟩ := okName_of h3
    exact ⟨pe_var (by rw [c.N]; exact h1) (by rw [c.hsc]; exact vis_of h2) d1 d2, n, p, rfl⟩
  | _ => cases h
def Es.len : Es → Nat
  | .n => 0
  | .c _ r => r.len + 1
theorem chkEs_len {sc : Scope} {fn : Str → Bool} : ∀ {es : Es} {xs : List Expr}, chkEs Γ sc fn es xs = true → xs.length = es.len
  | .n, [], _ => rfl
  | .n, _ :: _, h => by cases h
  | .c _ _, [], h => by cases h
  | .c a r, e :: es, h => by
    simp only [chkEs, Bool.and_eq_true] at h
    simp [Es.len, chkEs_len h.2]
theorem evs_len {W : Exn → Prop} : ∀ {es : Es} {ρ : Rho} {P : List Opd → Rho → Prop}, (evs C es ρ).gx (W := W) P → (evs C es ρ).gx (W := W) fun os ρ' => os.length = es.len ∧ P os ρ'
  | .n, ρ, P, g => ⟨rfl, g⟩
  | .c a r, ρ, P, g => by
    have g : ((ev C false a ρ).bind fun x ρ => (evs C r ρ).bind fun xs ρ => Res.ok (x :: xs) ρ).gx (W := W) P := g
    show ((ev C false a ρ).bind fun x ρ => (evs C r ρ).bind fun xs ρ => Res.ok (x :: xs) ρ).gx (W := W) _
    rw [gx_bind] at g ⊢
    refine g.mono fun x ρ1 g1 => ?_
    rw [gx_bind] at g1 ⊢
    exact (evs_len g1).mono fun os ρ2 ⟨h1, h2⟩ => ⟨by simp [Es.len, h1], h2⟩
theorem small_line {n : Nat} (h : n ≤ 1000) : n ≤ sizeLine := Nat.le_trans h (by rw [sizeLine_eq]; decide)
theorem bool_PoE {K : PySem.W.Frag} {σ : St} {ρ0 ρ : Rho} {H0 H : Hp} {b : Bool} {Q : VK} (aft : Aft K σ ρ0 H0 ρ H) (q : PoE K σ ρ0 H0 Q (.v (.d (.bool b))) ρ) : Q (.bl b) H := q (.bl b) H aft ⟨RepD.bl b, fun z => nomatch z⟩ fun z => nomatch z
theorem es_star {sc : Scope} {fn : Str → Bool} {es : Es} {x : Expr} {xs : List Expr} (h : chkEs Γ sc fn es (x :: xs) = true) (env : PySem.Env) : starEach (x :: xs) env = (false, eval x env) :: starEach xs env ∧ ∃ r, chkEs Γ sc fn r xs = true := by
  cases es with
  | n => cases h
  | c a r =>
    simp only [chkEs, Bool.and_eq_true] at h
    exact ⟨star_of h.1 _ _, r, h.2⟩
theorem part_of {o : Opd} {i : Int} (h : partOf o = some i) : o = .v (.d (.int i)) := by
  unfold partOf at h
  split at h
  · cases h; rfl
  · cases h
theorem shape_rev {sc : Scope} {fn : Str → Bool} {a st : E} {x : Expr} (h : chk Γ sc fn (.rev a st) x = true) : ∃ y z p2 p, x = .Subscript y (.Slice none none (some z) p2) p := by
  simp only [chk] at h
  split at h
  · exact ⟨_, _, _, _, rfl⟩
  · cases h
theorem RepDs.rev {K : PySem.W.Frag} {H : Hp} : ∀ {vs : List V} {ds : List D}, RepDs K H vs ds → RepDs K H vs.reverse ds.reverse
  | _, _, .nil => .nil
  | _, _, .cons h r => by
    rw [List.reverse_cons, List.reverse_cons]
    exact (RepDs.rev r).append (.cons h .nil)
theorem rev_end {K : PySem.W.Frag} {σ : St} {ρ0 ρ : Rho} {H0 H : Hp} {Q : VK} {v : V} {s r : SV} (aft : Aft K σ ρ0 H0 ρ H) (rs : RepS K H v s) (e : revSem s = some r) (q : PoE K σ ρ0 H0 Q (.v r) ρ) : rRevL K v H Q ∨ rRevT K v H Q := by
  unfold revSem at e
  split at e
  · rename_i xs e1
    cases e
    obtain ⟨a, vs, rfl, h1, h2, h3⟩ := rs.listT e1
    exact .inl ⟨a, vs, rfl, Rd.sq h1, After.newL (after_same aft q) h3.rev (by rw [List.length_reverse]; exact h2)⟩
  · rename_i xs e1
    cases e
    obtain ⟨a, vs, rfl, h1, h2, h3, _⟩ := rs.tupT e1
    exact .inr ⟨a, vs, rfl, h1, After.newT (after_same aft q) h3.rev (by rw [List.length_reverse]; exact h2)⟩
  · cases e
theorem shape_rg1 {sc : Scope} {fn : Str → Bool} {t : Bool} {a : E} {x : Expr} (h : chk Γ sc fn (.rg1 t a) x = true) : ∃ y z x0 p2 p, x = .Call y [.Call z [x0] [] p2] [] p := by
  simp only [chk] at h
  split at h
  · exact ⟨_, _, _, _, _, rfl⟩
  · cases h
theorem shape_rg2 {sc : Scope} {fn : Str → Bool} {t : Bool} {a b : E} {x : Expr} (h : chk Γ sc fn (.rg2 t a b) x = true) : ∃ y z x0 x1 p2 p, x = .Call y [.Call z [x0, x1] [] p2] [] p := by
  simp only [chk] at h
  split at h
  · exact ⟨_, _, _, _, _, _, rfl⟩
  · cases h
theorem rep_rg {K : PySem.W.Frag} {H : Hp} (a b : Int) : RepDs K H (rgV a b) (rangeD a (b - a).toNat) := by
  unfold rgV rangeD
  induction (List.range (b - a).toNat) with
  | nil => exact .nil
  | cons x r ih => exact .cons (.int _) ih
theorem rg_len {a b : Int} (h : RgOk a b) : (rgV a b).length ≤ sizeLine := by
  obtain ⟨_, _, _, _, h5⟩ := h
  rw [rgV_length, sizeLine_eq]; omega
theorem rg_end {K : PySem.W.Frag} {σ : St} {ρ0 ρ : Rho} {H0 H : Hp} {Q : VK} {t : Bool} {i j : Int} (aft : Aft K σ ρ0 H0 ρ H) (ok : RgOk i j) (q : PoE K σ ρ0 H0 Q (.v (if t = true then .d (.tuple (rangeD i (j - i).toNat)) else .ml (rangeD i (j - i).toNat))) ρ) (b : Addr) (hb : H b = none) :
    (t = true → Q (.ref b) (upd H b (.tup (rgV i j)))) ∧ (t = false → Q (.ref b) (upd H b (.lst (rgV i j)))) := by
  refine ⟨fun e => ?_, fun e => ?_⟩
  · subst e
    exact After.newT (after_same aft q) (rep_rg i j) (rg_len ok) b hb
  · subst e
    exact After.newL (after_same aft q) (rep_rg i j) (rg_len ok) b hb
theorem rgSem_two {i j : Int} {xs : List D} (e : rgSem [.d (.int i), .d (.int j)] = some xs) : RgOk i j ∧ xs = rangeD i (j - i).toNat := by
  simp only [rgSem] at e
  split at e
  · rename_i h
    simp only [rgOk, Bool.and_eq_true, decide_eq_true_eq] at h
    cases e
    exact ⟨⟨by omega, by omega, by omega, by omega, by omega⟩, rfl⟩
  · cases e
theorem rgSem_one {j : Int} {xs : List D} (e : rgSem [.d (.int j)] = some xs) : RgOk 0 j ∧ xs = rangeD 0 (j - 0).toNat := by
  simp only [rgSem] at e
  split at e
  · rename_i h
    simp only [rgOk, Bool.and_eq_true, decide_eq_true_eq] at h
    cases e
    exact ⟨⟨by omega, by omega, by omega, by omega, by omega⟩, by rw [Int.sub_zero]⟩
  · cases e
theorem rg1_read {K : PySem.W.Frag} {t : Bool} {a : E} {σ : St} {H : Hp} {Q : VK} (h : tE K Z C false (.rg1 t a) σ H Q) : tE K Z C false a σ H fun x H1 => ∃ n, x = .int n ∧ RgOk 0 n ∧ ∀ q, H1 q = none → (t = true → Q (.ref q) (upd H1 q (.tup (rgV 0 n)))) ∧ (t = false → Q (.ref q) (upd H1 q (.lst (rgV 0 n)))) := by
  obtain ⟨ρ, rel, g⟩ := h
  simp only [ev, tst_false, gx_bind, gx_optR, gx_ok] at g
  refine ⟨ρ, rel, g.mono fun o ρ1 ⟨j, e1, xs, e2, q⟩ v H1 aft ro fr => ?_⟩
  obtain rfl := part_of e1
  obtain ⟨ok, rfl⟩ := rgSem_one e2
  exact ⟨j, RepS.int ro.1, ok, rg_end aft ok q⟩
theorem rg2_read {K : PySem.W.Frag} {t : Bool} {a b : E} {σ : St} {H : Hp} {Q : VK} (h : tE K Z C false (.rg2 t a b) σ H Q) : tE K Z C false a σ H fun x H1 => tE K Z C false b σ H1 fun y H2 => ∃ i j, x = .int i ∧ y = .int j ∧ RgOk i j ∧ ∀ q, H2 q = none → (t = true → Q (.ref q) (upd H2 q (.tup (rgV i j)))) ∧ (t = false → Q (.ref q) (upd H2 q (.lst (rgV i j)))) := by
  obtain ⟨ρ, rel, g⟩ := h
  simp only [ev, tst_false, gx_bind, gx_optR, gx_ok] at g
  refine ⟨ρ, rel, g.mono fun o ρ1 g1 v H1 aft ro fr => ⟨ρ1, aft.rel, g1.mono fun o2 ρ2 ⟨i, e1, j, e2, xs, e3, q⟩ w H2 a2 ro2 fr2 => ?_⟩⟩
  obtain rfl := part_of e1
  obtain rfl := part_of e2
  obtain ⟨ok, rfl⟩ := rgSem_two e3
  exact ⟨i, j, RepS.int ro.1, RepS.int ro2.1, ok, rg_end (aft.trans a2) ok q⟩
theorem shape_cv {sc : Scope} {fn : Str → Bool} {i : Nat} {fs : List String} {es : Es} {x : Expr} (h : chk Γ sc fn (.cv i fs es) x = true) : ∃ n q y ys p, x = .Call (.Name n q) (y :: ys) [] p := by
  simp only [chk] at h
  split at h
  · exact ⟨_, _, _, _, _, rfl⟩
  · cases h
theorem shape_wd {sc : Scope} {fn : Str → Bool} {f : String} {t : WT} {vs : List Nat} {b : E} {x : Expr} (h : chk Γ sc fn (.wd f t vs b) x = true) : ∃ y q ps bd so lp p, x = .Call (.Name y q) [.Lambda ps bd so lp] [] p := by
  simp only [chk] at h
  split at h
  · exact ⟨_, _, _, _, _, _, _, rfl⟩
  · cases h
theorem shape_sset {sc : Scope} {fn : Str → Bool} {a : E} {x : Expr} (h : chk Γ sc fn (.sset a) x = true) : ∃ y z x0 q p, x = .Call y [.Call z [x0] [] q] [] p := by
  simp only [chk] at h
  split at h
  · exact ⟨_, _, _, _, _, rfl⟩
  · cases h
theorem shape_slr {sc : Scope} {fn : Str → Bool} {a lo st : E} {x : Expr} (h : chk Γ sc fn (.slr a lo st) x = true) : ∃ y l z p2 p, x = .Subscript y (.Slice (some l) none (some z) p2) p := by
  simp only [chk] at h
  split at h
  · exact ⟨_, _, _, _, _, rfl⟩
  · cases h
theorem shape_idx {sc : Scope} {fn : Str → Bool} {a b : E} {x : Expr} (h : chk Γ sc fn (.idx a b) x = true) : ∃ y m q v p, x = .Call (.Attribute y m q) [v] [] p := by
  simp only [chk] at h
  split at h
  · exact ⟨_, _, _, _, _, rfl⟩
  · cases h
theorem idx_of {x : D} : ∀ {xs : List D} {k j : Nat}, idxD x xs k = some j → ∃ i, j = k + i ∧ ∃ z, xs[i]? = some z ∧ PyData.eqv z x = true ∧ ∀ (m : Nat) (z' : D), m < i → xs[m]? = some z' → PyData.eqv z' x = false
  | [], _, _, e => by simp [idxD] at e
  | y :: r, k, j, e => by
    unfold idxD at e
    split at e
    · rename_i h
      cases e
      exact ⟨0, rfl, y, rfl, h, fun m _ hm => absurd hm (Nat.not_lt_zero _)⟩
    · rename_i h
      obtain ⟨i, h1, z, h2, h3, h4⟩ := idx_of e
      refine ⟨i + 1, by omega, z, by simpa using h2, h3, fun m z' hm hz => ?_⟩
      cases m with
      | zero => cases hz; simpa using h
      | succ m => exact h4 m z' (by omega) (by simpa using hz)
theorem idx_end {K : PySem.W.Frag} {H : Hp} {Q : VK} {v w : V} {s t r : SV} (rs : RepS K H v s) (rt : RepS K H w t) (e : idxSem s t = some r) (q : ∀ k : Nat, r = .d (.int k) → Q (.int k) H) : tyV K "list" v H ∧ rIndexD K v [w] H Q := by
  unfold idxSem at e
  split at e
  · rename_i ys a e1 e2
    split at e
    · rename_i hc
      simp only [Bool.and_eq_true] at hc
      simp only [Option.map_eq_some_iff] at e
      obtain ⟨j, e3, rfl⟩ := e
      obtain ⟨i, h1, z, h2, h3, h4⟩ := idx_of e3
      obtain ⟨b, vs, rfl, k1, k2, k3⟩ := rs.listT e1
      refine ⟨.inl ⟨rfl, vs, Rd.sq k1⟩, b, w, a, ys, i, z, rfl, rfl, rs.datR e1 (n := 60) (by simpa [gd] using hc.2), rt.datR e2 hc.1, rs.shaped e1 (by simpa [gd] using hc.2), rt.shaped e2 hc.1, h2, h3, h4, ?_⟩
      have := q j rfl
      rw [h1, Nat.zero_add] at this
      exact this
    · cases e
  · cases e
theorem intsD_rep {K : PySem.W.Frag} {H : Hp} : ∀ l : List Int, RepDs K H (l.map V.int) (l.map PyData.int)
  | [] => .nil
  | n :: r => .cons (.int n) (intsD_rep r)
theorem down_len {i j : Int} (n : Nat) : ((List.range n).map fun m : Nat => PyData.int (i + (m : Nat) * (-1))).length = n := by simp
theorem yields_c3 {K : PySem.W.Frag} {H0 : Hp} {i : Int} {n : Nat} (z : n ≤ SZ) : Yields K (Itc i (-1) n) ((List.range n).map fun m : Nat => PyData.int (i + (m : Nat) * (-1))) H0 where
  len := by rw [List.length_map, List.length_range, ← sz_eq]; exact z
  go := fun k H _ h => by show k < n; simpa using h
  stop := fun H _ => by simp [Itc]
  yld := fun k H v H' x _ e y => by
    obtain ⟨rfl, rfl⟩ := y
    rw [List.getElem?_map] at e
    cases hr : (List.range n)[k]? with
    | none => rw [hr] at e; cases e
    | some m =>
      rw [hr] at e
      cases e
      have hm : m = k := by
        obtain ⟨hk, hv⟩ := List.getElem?_eq_some_iff.mp hr
        rw [← hv, List.getElem_range]
      subst hm
      exact ⟨Same.refl _, .int _⟩
theorem foldI_of {sc : Scope} {fn : Str → Bool} {it : It} {t x : Expr} (h : chkI Γ sc fn it t x = true) (env : PySem.Env) (v : Value) : foldedSetIterable x env v = pure v := by
  cases it with
  | seq a => exact fold_of (show chk Γ sc fn a x = true from h) env v
  | _ => cases x <;> first | rfl | (cases t <;> cases h) | cases h
mutual
theorem ok_e : ∀ (e : E) {Z : ZT} (X : Cx) (sc : Scope) (fn : Str → Bool) (x : Expr), CtxOk Γ C Z sc fn X → chk Γ sc fn e x = true → Both C Z X e x
  | .k d, Z, X, sc, fn, x, c, h => by
    cases x with
    | Constant k n p =>
      have h : dEq d k = true := h
      obtain ⟨v, r, pe⟩ := dEq_rep h
      exact both_plain (PE.weak (pe X n p) fun σ H Q q => const_read (r _ _) q) (fun _ => rfl) fun _ => rfl
    | _ => cases h
  | .v i, Z, X, sc, fn, x, c, h => by
    have h : rdB Γ sc i x = true := h
    obtain ⟨pe, n, p, rfl⟩ := rdB_of c h
    refine both_plain (PE.weak pe fun σ H Q ⟨ρ, rel, g⟩ => ?_) (fun _ => rfl) fun _ => rfl
    simp only [ev, tst_false, gx_optR] at g
    obtain ⟨s, e, g⟩ := g
    obtain ⟨v, v1, v2⟩ := rel.at_ i s e
    refine ⟨v, v1, ?_⟩
    cases ho : s.own with
    | true =>
      simp only [ho, if_true] at g
      exact g v H (Aft.refl rel) v1 trivial
    | false =>
      simp only [ho, Bool.false_eq_true, if_false] at g
      exact g v H (Aft.refl rel) ⟨v2, fun z => by rw [ho] at z; cases z⟩ fun z => by rw [ho] at z; cases z
  | .g y d, Z, X, sc, fn, x, c, h => by
    cases x with
    | Name n p =>
      simp only [chk, Bool.and_eq_true, strB, decide_eq_true_eq] at h
      obtain ⟨⟨⟨rfl, h2⟩, h3⟩, h4⟩ := h
      split at h4
      · rename_i cd e
        obtain ⟨u, v, m1, m2, m3⟩ := c.cs _ _ e
        have ed : cd = d := by
          split at h4
          · simp only [decide_eq_true_eq] at h4; rw [h4]
          · simp only [Bool.and_eq_true, strB, decide_eq_true_eq] at h4; rw [h4.1.1]
          · cases h4
        subst ed
        exact both_plain (PE.weak (pe_glob (Gl_of c h2) m1 m2 (okName_of h3).1) fun σ H Q q => const_read (m3 _ _) q) (fun _ => rfl) fun _ => rfl
      · cases h4
    | _ => cases h
  | .tup es, Z, X, sc, fn, x, c, h => by
    cases x with
    | Tuple xs k p =>
      simp only [chk, Bool.and_eq_true, decide_eq_true_eq] at h
      refine both_plain (PE.weak (pe_tup (pa_fz (ok_es es X sc fn xs c h.1))) fun σ H Q ⟨ρ, rel, g⟩ => ?_) (fun _ => rfl) fun _ => rfl
      simp only [ev, tst_false] at g
      rw [gx_bind] at g
      have hl := chkEs_len h.1
      refine ⟨ρ, rel, (evs_len g).mono fun os ρ1 ⟨l1, g1⟩ vs H1 aft ro fr => ?_⟩
      rw [gx_bind] at g1
      have z : vs.length ≤ sizeLine := by rw [ro.length, l1, ← hl]; exact small_line h.2
      exact takes_fz aft ro fr g1 fun ds ρ2 H2 g2 a2 im2 rd => .done ⟨z, After.newT (after_same a2 g2) rd z⟩
    | _ => cases h
  | .lst es, Z, X, sc, fn, x, c, h => by
    cases x with
    | List xs p =>
      simp only [chk, Bool.and_eq_true, decide_eq_true_eq] at h
      refine both_plain (PE.weak (pe_lst (pa_fz (ok_es es X sc fn xs c h.1))) fun σ H Q ⟨ρ, rel, g⟩ => ?_) (fun _ => rfl) fun _ => rfl
      simp only [ev, tst_false] at g
      rw [gx_bind] at g
      have hl := chkEs_len h.1
      refine ⟨ρ, rel, (evs_len g).mono fun os ρ1 ⟨l1, g1⟩ vs H1 aft ro fr => ?_⟩
      rw [gx_bind] at g1
      have z : vs.length ≤ sizeLine := by rw [ro.length, l1, ← hl]; exact small_line h.2
      exact takes_fz aft ro fr g1 fun ds ρ2 H2 g2 a2 im2 rd => .done ⟨z, After.newL (after_same a2 g2) rd z⟩
    | _ => cases h
  | .bin op a b, Z, X, sc, fn, x, c, h => by
    cases x with
    | BinOp y o z p =>
      simp only [chk, Bool.and_eq_true, decide_eq_true_eq] at h
      obtain ⟨⟨rfl, ha⟩, hb⟩ := h
      refine both_plain (PE.weak (pe_op (op_binQ op) (ok_e a X sc fn y c ha).1 (ok_e b X sc fn z c hb).1) fun σ H Q ⟨ρ, rel, g⟩ => ?_) (fun _ => rfl) fun _ => rfl
      simp only [ev, tst_false, gx_bind, gx_optR, gx_ok] at g
      refine two_op rel g fun o1 o2 ρ2 v w H2 q aft r1 r2 => ?_
      obtain ⟨s, e1, t, e2, r, e3, q⟩ := q
      exact ⟨s, t, r, r1.peek aft.rel e1, r2.peek aft.rel e2, e3, after_same aft q⟩
    | _ => cases h
  | .fnv f, Z, X, sc, fn, x, c, h => by
    cases x with
    | Name n p =>
      simp only [chk, Bool.and_eq_true, strB, decide_eq_true_eq] at h
      obtain ⟨⟨⟨h1, rfl⟩, h3⟩, h4⟩ := h
      obtain ⟨fa, _, _, _, m1, m2, _⟩ := (c.call f h1).ex
      exact both_plain (PE.weak (pe_glob (v := .ref fa) (Gl_of c h3) m1 rfl (okName_of h4).1) fun σ H Q q => const_read (.fn m2) q) (fun _ => rfl) fun _ => rfl
    | _ => cases h
  | .cv i fs es, Z, X, sc, fn, x, c, h => by
    obtain ⟨n, q, y, ys, p, rfl⟩ := shape_cv h
    simp only [chk, Bool.and_eq_true, rdB, decide_eq_true_eq, List.all_eq_true] at h
    obtain ⟨⟨⟨⟨h1, h2⟩, h3⟩, h4⟩, h5⟩ := h
    refine both_plain (PE.weak (pe_QV c h1 h2 h3 h4 h5 (ok_es es X sc fn (y :: ys) c h5)) fun σ H Q ⟨ρ, rel, g⟩ => ⟨ρ, rel, ?_⟩) (fun _ => rfl) fun _ => rfl
    simp only [ev, tst_false] at g
    exact g
  | .wd f t vs b, Z, X, sc, fn, x, c, h => by
    obtain ⟨y, q, ps, bd, so, lp, p, rfl⟩ := shape_wd h
    simp only [chk, Bool.and_eq_true, strB, decide_eq_true_eq, List.all_eq_true] at h
    obtain ⟨⟨⟨⟨⟨⟨⟨⟨⟨h1, h2⟩, rfl⟩, h4⟩, h5⟩, h6⟩, h7⟩, h8⟩, h9⟩, h10⟩ := h
    obtain ⟨g, fd, st, Nw, a, F, m1, b1, S1, n1, o1, G1⟩ := (c.wd f t h2).ex
    have hws : Γ.ws ≠ [] := fun z => by rw [z] at h2; cases h2
    have Ls : LamX.LamS X.env.scope so := by rw [c.hsc]; exact LamX.lamS_by h7
    obtain rfl := args_of_no h6
    obtain ⟨d1, d2, _⟩ := okName_of o1
    exact both_plain (PE.weak (pe_lamN (Gl_of c h4) m1 F b1 S1 n1 G1 (c.lm h1 hws) Ls rfl (fun _ _ _ _ _ => rfl) (fun e1 outer s H E f' c' => (ok_e b (lamC X (X.A.deeper e1) outer s H E so f' c') so (fun _ => false) bd (lam_ctx c h1 hws Ls e1 outer s H E f' c') h10).1) (okName_of h5).1 d1 d2) fun σ H Q g => wd_read h8 h9 g) (fun _ => rfl) fun _ => rfl
  | .sset a, Z, X, sc, fn, x, c, h => by
    obtain ⟨y, z, x0, q, p, rfl⟩ := shape_sset h
    simp only [chk, Bool.and_eq_true] at h
    obtain ⟨⟨h1, h2⟩, h3⟩ := h
    obtain ⟨py, rfl, gl, mg⟩ := bl_of c (b := "sorted") (by decide) h1
    obtain ⟨pz, rfl, gz, mz⟩ := bl_of c (b := "set") (by decide) h2
    refine both_plain (PE.weak (pe_sset gl mg gz mz (ok_e a X sc fn x0 c h3).1 c.calm (star_of h3 _ _)) fun σ H Q ⟨ρ, rel, g⟩ => ?_) (fun _ => rfl) fun _ => rfl
    simp only [ev, tst_false, gx_bind, gx_optR, gx_ok] at g
    refine ⟨ρ, rel, g.mono fun o ρ1 ⟨s, e1, xs, e2, q⟩ v H1 aft ro fr => ?_⟩
    have rs := ro.peek aft.rel e1
    unfold ssetSem at e2
    split at e2
    · rename_i ys e3
      split at e2
      · rename_i ns e4
        split at e2
        · rename_i h64
          cases e2
          obtain ⟨b, vs, rfl, k1, k2, k3⟩ := rs.seqL e3
          have ev := k3.ints e4
          subst ev
          refine ⟨b, ns, rfl, Rd.sq k1, h64, After.newL (after_same aft q) (intsD_rep _) ?_⟩
          rw [List.length_map]
          have : (sortI (ddI ns)).length ≤ ns.length := by
            rw [(sortI_perm _).length_eq]
            clear h64 q k3 k2 k1 e4 e3 rs
            induction ns with
            | nil => simp [ddI]
            | cons x r ih => unfold ddI; split <;> simp <;> omega
          rw [List.length_map] at k2
          omega
        · cases e2
      · cases e2
    · cases e2
  | .slr a lo st, Z, X, sc, fn, x, c, h => by
    obtain ⟨y, l, z, p2, p, rfl⟩ := shape_slr h
    simp only [chk, Bool.and_eq_true] at h
    obtain ⟨⟨h1, h2⟩, h3⟩ := h
    refine both_plain (PE.weak (pe_slr (ok_e a X sc fn y c h1).1 (po_some (ok_e lo X sc fn l c h2).1) (po_some (ok_e st X sc fn z c h3).1)) fun σ H Q ⟨ρ, rel, g⟩ => ?_) (fun _ => rfl) fun _ => rfl
    simp only [ev, tst_false, gx_bind, gx_optR] at g
    refine ⟨ρ, rel, g.mono fun o ρ1 g1 v H1 a1 r1 f1 => ⟨ρ1, a1.rel, g1.mono fun l1 ρ2 ⟨j, hj, g2⟩ w H2 a2 r2 f2 => ?_⟩⟩
    obtain rfl := part_of hj
    refine ⟨j, RepS.int r2.1, ρ2, a2.rel, g2.mono fun k1 ρ3 ⟨i, hi, g3⟩ u H3 a3 r3 f3 => ?_⟩
    obtain rfl := part_of hi
    refine ⟨i, RepS.int r3.1, ?_⟩
    split at g3
    · rename_i e1
      obtain ⟨e1, e2⟩ := e1
      subst e1
      subst e2
      rw [gx_optR] at g3
      obtain ⟨s, e2, g3⟩ := g3
      rw [gx_optR] at g3
      obtain ⟨r, e3, q⟩ := g3
      have rs := ((r1.aft a1.rel a2).aft a2.rel a3).peek a3.rel e2
      unfold slrSem at e3
      split at e3
      · rename_i xs e4
        cases e3
        obtain ⟨b, vs, rfl, h1, h2, h3⟩ := rs.listT e4
        have q' := after_same ((a1.trans a2).trans a3) q
        refine ⟨rfl, rfl, b, vs, rfl, Rd.sq h1, ?_⟩
        have hl := h3.length
        rw [← hl] at q'
        exact After.newL q' (h3.take _).rev (by rw [List.length_reverse, List.length_take]; omega)
      · cases e3
    · exact g3.elim
  | .idx a b, Z, X, sc, fn, x, c, h => by
    obtain ⟨y, m, q, v, p, rfl⟩ := shape_idx h
    simp only [chk, Bool.and_eq_true, strB, decide_eq_true_eq] at h
    obtain ⟨⟨⟨⟨h0, h1⟩, rfl⟩, h3⟩, h4⟩ := h
    obtain ⟨_, n, pn, rfl⟩ := rdB_of c h0
    have hss : starEach [v] X.env = (false, eval v X.env) :: starEach [] X.env := star_of h4 _ _
    refine both_plain (PE.weak (pe_bm PySem.F.plainAttrs_list PySem.F.slot_list_index PySem.F.type_list_index (mt_indexD c.hu) (ok_e a X sc fn _ c h1).1 (pa_cons (ok_e b X sc fn v c h4).1 pa_nil hss) rfl (by rw [hss]; rfl) h3 hss rfl) fun σ H Q ⟨ρ, rel, g⟩ => ?_) (fun _ => rfl) fun _ => rfl
    simp only [ev, tst_false, gx_bind, gx_optR, gx_ok] at g
    refine ⟨ρ, rel, g.mono fun o ρ1 ⟨zs, hz, g1⟩ u H1 a1 r1 f1 => ?_⟩
    obtain ⟨s0, hp, hq⟩ := Option.bind_eq_some_iff.mp hz
    obtain ⟨b0, us, rfl, k1, k2, k3⟩ := (r1.peek a1.rel hp).seqL hq
    refine ⟨.inl ⟨rfl, us, Rd.sq k1⟩, ρ1, a1.rel, g1.mono fun o2 ρ2 ⟨s, e1, t, e2, r, e3, q⟩ w H2 a2 r2 f2 => ?_⟩
    refine (idx_end ((r1.aft a1.rel a2).peek a2.rel e1) (r2.peek a2.rel e2) e3 fun k ek => ?_).2
    subst ek
    exact (after_same (a1.trans a2) q).dat (.int _)
  | .neg a, Z, X, sc, fn, x, c, h => by
    cases x with
    | UnaryOp o y p =>
      cases o <;> try (cases h)
      have h : chk Γ sc fn a y = true := h
      refine both_plain (PE.weak (pe_un un_negQ (ok_e a X sc fn y c h).1) fun σ H Q ⟨ρ, rel, g⟩ => ?_) (fun _ => rfl) fun _ => rfl
      simp only [ev, tst_false, gx_bind, gx_optR, gx_ok] at g
      refine ⟨ρ, rel, g.mono fun o ρ1 ⟨i, hi, g1⟩ v H1 aft ro fr => ?_⟩
      obtain rfl := part_of hi
      exact ⟨i, ro.1, after_same aft g1⟩
    | _ => cases h
  | .not a, Z, X, sc, fn, x, c, h => by
    cases x with
    | UnaryOp o y p =>
      cases o <;> try (cases h)
      have h : chk Γ sc fn a y = true := h
      obtain ⟨ih1, ih2⟩ := ok_e a X sc fn y c h
      refine ⟨PE.weak (pe_notT ih1) fun σ H Q ⟨ρ, rel, g⟩ => ?_, PT.weak (pt_not ih2) fun σ H Q ⟨ρ, rel, g⟩ => ?_⟩
      · simp only [ev, gx_bind, gx_tst, gx_ok] at g
        refine ⟨ρ, rel, g.mono fun o ρ1 ⟨s, b, e1, e2, q⟩ v H1 aft ro fr => ⟨b, (ro.peek aft.rel e1).tru e2, bool_PoE aft q⟩⟩
      · rw [gx_boolOf] at g
        simp only [ev, gx_bind, gx_ok] at g
        refine ⟨ρ, rel, g.mono fun b ρ1 ⟨d, e, q⟩ H1 aft => ?_⟩
        cases e
        exact q H1 aft
    | _ => cases h
  | .and a b, Z, X, sc, fn, x, c, h => by
    cases x with
    | BoolOp o xs p =>
      cases o <;> try (cases h)
      cases xs with
      | nil => cases h
      | cons y ys =>
      cases ys with
      | nil => cases h
      | cons z zs =>
      simp only [chk, Bool.and_eq_true] at h
      obtain ⟨ih1, ih2⟩ := ok_e a X sc fn y c h.1
      have ihb : PE X (.BoolOp .And (z :: zs) p) (tE X.K Z C false b) ∧ PW X (.BoolOp .And (z :: zs) p) (tTB X.K Z C b) := by
        cases zs with
        | nil =>
          obtain ⟨j1, j2⟩ := ok_e b X sc fn z c h.2
          exact ⟨pe_one j1, pw_and1 j2⟩
        | cons w ws =>
          obtain ⟨j1, j2⟩ := ok_e b X sc fn _ c h.2
          exact ⟨j1, pw_of j2⟩
      refine ⟨PE.weak (pe_andT ih1 ihb.1) fun σ H Q ⟨ρ, rel, g⟩ => ?_, PT.weak (pw_and ih2 ihb.2).pt fun σ H Q ⟨ρ, rel, g⟩ => ?_⟩
      · simp only [ev, gx_bind, gx_optR] at g
        refine ⟨ρ, rel, g.mono fun o ρ1 ⟨s, e1, k, e2, g1⟩ v H1 aft ro fr => ?_⟩
        refine ⟨k, (ro.peek aft.rel e1).tru e2, ?_⟩
        cases k with
        | true => exact ⟨ρ1, aft.rel, Res.gx.mono g1 fun o2 ρ2 q w H2 a2 r2 f2 => q w H2 (aft.trans a2) r2 (f2.aft aft)⟩
        | false => exact g1 v H1 aft ro fr
      · rw [gx_boolOf] at g
        simp only [ev, gx_bind] at g
        refine ⟨ρ, rel, g.mono fun k ρ1 g1 H1 aft => ?_⟩
        cases k with
        | true =>
          refine ⟨ρ1, aft.rel, gx_boolOf.mpr ?_⟩
          exact Res.gx.mono g1 fun o ρ2 ⟨d, e, q⟩ => ⟨d, e, fun H2 a2 => q H2 (aft.trans a2)⟩
        | false =>
          obtain ⟨d, e, q⟩ := g1
          cases e
          exact q H1 aft
    | _ => cases h
  | .or a b, Z, X, sc, fn, x, c, h => by
    cases x with
    | BoolOp o xs p =>
      cases o <;> try (cases h)
      cases xs with
      | nil => cases h
      | cons y ys =>
      cases ys with
      | nil => cases h
      | cons z zs =>
      simp only [chk, Bool.and_eq_true] at h
      obtain ⟨ih1, ih2⟩ := ok_e a X sc fn y c h.1
      have ihb : PE X (.BoolOp .Or (z :: zs) p) (tE X.K Z C false b) ∧ PW X (.BoolOp .Or (z :: zs) p) (tTB X.K Z C b) := by
        cases zs with
        | nil =>
          obtain ⟨j1, j2⟩ := ok_e b X sc fn z c h.2
          exact ⟨pe_one j1, pw_or1 j2⟩
        | cons w ws =>
          obtain ⟨j1, j2⟩ := ok_e b X sc fn _ c h.2
          exact ⟨j1, pw_of j2⟩
      refine ⟨PE.weak (pe_orT ih1 ihb.1) fun σ H Q ⟨ρ, rel, g⟩ => ?_, PT.weak (pw_or ih2 ihb.2).pt fun σ H Q ⟨ρ, rel, g⟩ => ?_⟩
      · simp only [ev, gx_bind, gx_optR] at g
        refine ⟨ρ, rel, g.mono fun o ρ1 ⟨s, e1, k, e2, g1⟩ v H1 aft ro fr => ?_⟩
        refine ⟨k, (ro.peek aft.rel e1).tru e2, ?_⟩
        cases k with
        | false => exact ⟨ρ1, aft.rel, Res.gx.mono g1 fun o2 ρ2 q w H2 a2 r2 f2 => q w H2 (aft.trans a2) r2 (f2.aft aft)⟩
        | true => exact g1 v H1 aft ro fr
      · rw [gx_boolOf] at g
        simp only [ev, gx_bind] at g
        refine ⟨ρ, rel, g.mono fun k ρ1 g1 H1 aft => ?_⟩
        cases k with
        | false =>
          refine ⟨ρ1, aft.rel, gx_boolOf.mpr ?_⟩
          exact Res.gx.mono g1 fun o ρ2 ⟨d, e, q⟩ => ⟨d, e, fun H2 a2 => q H2 (aft.trans a2)⟩
        | true =>
          obtain ⟨d, e, q⟩ := g1
          cases e
          exact q H1 aft
    | _ => cases h
  | .ite c0 a b, Z, X, sc, fn, x, c, h => by
    cases x with
    | IfExp y z w p =>
      simp only [chk, Bool.and_eq_true] at h
      obtain ⟨i1, i2⟩ := ok_e c0 X sc fn y c h.1.1
      obtain ⟨j1, j2⟩ := ok_e a X sc fn z c h.1.2
      obtain ⟨k1, k2⟩ := ok_e b X sc fn w c h.2
      refine ⟨PE.weak (pe_ifExp i2 j1 k1) fun σ H Q ⟨ρ, rel, g⟩ => ?_, PT.weak (pt_ifE i2 j2 k2) fun σ H Q ⟨ρ, rel, g⟩ => ?_⟩
      · simp only [ev, gx_bind] at g
        refine ⟨ρ, rel, g.mono fun k ρ1 g1 H1 aft => ?_⟩
        cases k with
        | true => exact ⟨ρ1, aft.rel, Res.gx.mono g1 fun o2 ρ2 q w H2 a2 r2 f2 => q w H2 (aft.trans a2) r2 (f2.aft aft)⟩
        | false => exact ⟨ρ1, aft.rel, Res.gx.mono g1 fun o2 ρ2 q w H2 a2 r2 f2 => q w H2 (aft.trans a2) r2 (f2.aft aft)⟩
      · rw [gx_boolOf] at g
        simp only [ev, gx_bind] at g
        refine ⟨ρ, rel, g.mono fun k ρ1 g1 H1 aft => ?_⟩
        cases k with
        | true => exact ⟨ρ1, aft.rel, gx_boolOf.mpr (Res.gx.mono g1 fun o ρ2 ⟨d, e, q⟩ => ⟨d, e, fun H2 a2 => q H2 (aft.trans a2)⟩)⟩
        | false => exact ⟨ρ1, aft.rel, gx_boolOf.mpr (Res.gx.mono g1 fun o ρ2 ⟨d, e, q⟩ => ⟨d, e, fun H2 a2 => q H2 (aft.trans a2)⟩)⟩
    | _ => cases h
  | .cmp op a b, Z, X, sc, fn, x, c, h => by
    cases x with
    | Compare y ops ys p =>
      match ops, ys, h with
      | [o], [z], h =>
        simp only [chk, Bool.and_eq_true, decide_eq_true_eq] at h
        obtain ⟨⟨rfl, ha⟩, hb⟩ := h
        have iha := (ok_e a X sc fn y c ha).1
        have ihb := (ok_e b X sc fn z c hb).1
        refine ⟨PE.weak (pe_cmpR (op_cmpQ c.hu op) iha ihb (mark_of hb op)) fun σ H Q ⟨ρ, rel, g⟩ => ?_, PT.weak (pt_cmpR (op_cmpQ c.hu op) iha ihb (mark_of hb op)) fun σ H Q ⟨ρ, rel, g⟩ => ?_⟩
        · simp only [ev, gx_bind, gx_optR, gx_ok] at g
          refine two_op rel g fun o1 o2 ρ2 v w H2 q aft r1 r2 => ?_
          obtain ⟨s, e1, t, e2, k, e3, q⟩ := q
          exact ⟨s, t, k, r1.peek aft.rel e1, r2.peek aft.rel e2, e3, bool_PoE aft q⟩
        · rw [gx_boolOf] at g
          simp only [ev, gx_bind, gx_optR, gx_ok] at g
          refine two_op rel g fun o1 o2 ρ2 v w H2 q aft r1 r2 => ?_
          obtain ⟨s, e1, t, e2, k, e3, d, e4, q⟩ := q
          cases e4
          exact ⟨s, t, k, r1.peek aft.rel e1, r2.peek aft.rel e2, e3, k, rfl, q H2 aft⟩
      | [], _, h => cases h
      | [_], [], h => cases h
      | [_], _ :: _ :: _, h => cases h
      | _ :: _ :: _, _, h => cases h
    | _ => cases h
  | .chn o1 o2 a b c0, Z, X, sc, fn, x, c, h => by
    cases x with
    | Compare y ops ys p =>
      match ops, ys, h with
      | [p1, p2], [z, w], h =>
        simp only [chk, Bool.and_eq_true, decide_eq_true_eq] at h
        obtain ⟨⟨⟨⟨rfl, rfl⟩, ha⟩, hb⟩, hc⟩ := h
        have iha := (ok_e a X sc fn y c ha).1
        have ihb := (ok_e b X sc fn z c hb).1
        have ihc := (ok_e c0 X sc fn w c hc).1
        have hm : lastMarks [o1, o2] [z, w] = false := mark_of hc o2
        refine ⟨PE.weak (pe_chain (op_cmpQ c.hu o1) (op_cmpQ c.hu o2) iha ihb ihc hm) fun σ H Q ⟨ρ, rel, g⟩ => ?_, PT.weak (pt_chain (op_cmpQ c.hu o1) (op_cmpQ c.hu o2) iha ihb ihc hm) fun σ H Q ⟨ρ, rel, g⟩ => ?_⟩
        · simp only [ev, gx_bind, gx_optR] at g
          refine two_op rel g fun x1 x2 ρ2 v w2 H2 q aft r1 r2 => ?_
          obtain ⟨s, e1, t, e2, k, e3, q⟩ := q
          refine ⟨s, t, k, r1.peek aft.rel e1, r2.peek aft.rel e2, e3, k, rfl, ?_⟩
          cases k with
          | false => exact bool_PoE aft q
          | true =>
            simp only [if_true, gx_bind, gx_optR, gx_ok] at q ⊢
            refine ⟨ρ2, aft.rel, q.mono fun x3 ρ3 ⟨t', e4, u, e5, k', e6, q⟩ v3 H3 a3 r3 f3 => ?_⟩
            exact ⟨t', u, k', (r2.aft aft.rel a3).peek a3.rel e4, r3.peek a3.rel e5, e6, bool_PoE (aft.trans a3) q⟩
        · rw [gx_boolOf] at g
          simp only [ev, gx_bind, gx_optR] at g
          refine two_op rel g fun x1 x2 ρ2 v w2 H2 q aft r1 r2 => ?_
          obtain ⟨s, e1, t, e2, k, e3, q⟩ := q
          refine ⟨s, t, k, r1.peek aft.rel e1, r2.peek aft.rel e2, e3, k, rfl, ?_⟩
          cases k with
          | false =>
            obtain ⟨d, e4, q⟩ := q
            cases e4
            exact ⟨false, rfl, q H2 aft⟩
          | true =>
            simp only [if_true, gx_bind, gx_optR, gx_ok] at q ⊢
            refine ⟨ρ2, aft.rel, q.mono fun x3 ρ3 ⟨t', e4, u, e5, k', e6, d, e7, q⟩ v3 H3 a3 r3 f3 => ?_⟩
            cases e7
            exact ⟨t', u, k', (r2.aft aft.rel a3).peek a3.rel e4, r3.peek a3.rel e5, e6, k', rfl, q H3 (aft.trans a3)⟩
      | [], _, h => cases h
      | [_], _, h => cases h
      | [_, _], [], h => cases h
      | [_, _], [_], h => cases h
      | [_, _], _ :: _ :: _ :: _, h => cases h
      | _ :: _ :: _ :: _, _, h => cases h
    | _ => cases h
  | .ix a i, Z, X, sc, fn, x, c, h => by
    cases x with
    | Subscript y z p =>
      simp only [chk, Bool.and_eq_true] at h
      refine both_plain (PE.weak (pe_ix (ix_Q (by have := c.hu; omega)) (ok_e a X sc fn y c h.1).1 (ok_e i X sc fn z c h.2).1 (plainIx_of h.2)) fun σ H Q ⟨ρ, rel, g⟩ => ?_) (fun _ => rfl) fun _ => rfl
      simp only [ev, tst_false, gx_bind, gx_optR, gx_ok] at g
      refine two_op rel g fun o1 o2 ρ2 v w H2 q aft r1 r2 => ?_
      obtain ⟨s, e1, t, e2, r, e3, q⟩ := q
      exact ⟨s, t, r, r1.peek aft.rel e1, r2.peek aft.rel e2, e3, after_same aft q⟩
    | _ => cases h
  | .sl a lo hi, Z, X, sc, fn, x, c, h => by
    cases x with
    | Subscript y z p =>
      cases z <;> try (cases h)
      rename_i l u st p2
      cases st <;> try (cases h)
      simp only [chk, Bool.and_eq_true] at h
      refine both_plain (PE.weak (pe_slice sl_Q (ok_e a X sc fn y c h.1.1).1 (ok_o lo X sc fn l c h.1.2) (ok_o hi X sc fn u c h.2)) fun σ H Q ⟨ρ, rel, g⟩ => ?_) (fun _ => rfl) fun _ => rfl
      simp only [ev, tst_false, gx_bind, gx_optR, gx_ok] at g
      refine ⟨ρ, rel, g.mono fun o ρ1 g1 v H1 a1 r1 f1 => ⟨ρ1, a1.rel, g1.mono fun l ρ2 g2 H2 a2 => ⟨ρ2, a2.rel, g2.mono fun u ρ3 ⟨s, e1, r, e2, q⟩ H3 a3 => ?_⟩⟩⟩
      have a23 := a2.trans a3
      have aft := a1.trans a23
      exact ⟨s, r, (r1.aft a1.rel a23).peek a23.rel e1, e2, after_same aft q⟩
    | _ => cases h
  | .call f es, Z, X, sc, fn, x, c, h => by
    cases x with
    | Call y xs ks p =>
      cases y <;> try (cases h)
      cases ks <;> try (cases h)
      rename_i n q
      simp only [chk, Bool.and_eq_true, strB, decide_eq_true_eq] at h
      obtain ⟨⟨⟨⟨h1, rfl⟩, h2⟩, h3⟩, h4⟩ := h
      refine both_plain (PE.weak (pe_Q c h1 h2 h3 h4 (ok_es es X sc fn xs c h4)) fun σ H Q ⟨ρ, rel, g⟩ => ?_) (fun _ => rfl) fun _ => rfl
      simp only [ev, tst_false] at g
      exact ⟨ρ, rel, g⟩
    | _ => cases h
  | .bi b es, Z, X, sc, fn, x, c, h => by
    cases x with
    | Call y xs ks p =>
      cases xs with
      | nil => cases h
      | cons x0 xs =>
      cases ks <;> try (cases h)
      simp only [chk, Bool.and_eq_true] at h
      obtain ⟨h1, h2⟩ := h
      obtain ⟨py, rfl, gl, mg⟩ := bl_of c (bn_of b) h1
      obtain ⟨d1, d2⟩ := dbg_of b.nm (bn_of b)
      have ha := ok_es es X sc fn _ c h2
      obtain ⟨hs, r', hr'⟩ := es_star h2 X.env
      have hpl : (backTo p (starEach xs X.env)).any (·.1) = false := stars_of _ _ hr'
      have pe : PE X (.Call (.Name (Str.ofString b.nm) py) (x0 :: xs) [] p) (tCB (rBi X.K b) (tEs X.K Z C es)) := by
        have hb := bi_ok c.calm b
        have hv := boot_of b
        cases hval : b.val with
        | builtin id => rw [hval] at hb hv; exact pe_callB hb gl mg hv ha d2 d1 hs hpl
        | type T => rw [hval] at hb hv; exact pe_callTy hb gl mg hv ha d2 d1 hs hpl
        | _ => cases b <;> cases hval
      refine both_plain (PE.weak pe fun σ H Q ⟨ρ, rel, g⟩ => ?_) (fun _ => rfl) fun _ => rfl
      simp only [ev, tst_false, gx_bind, gx_optR, gx_ok] at g
      refine ⟨ρ, rel, g.mono fun os ρ1 ⟨ss, e1, r, e2, q⟩ vs H1 aft ro fr => ?_⟩
      exact ⟨ss, r, ro.peeks aft.rel e1, e2, after_same aft q⟩
    | _ => cases h
  | .dic a, Z, X, sc, fn, x, c, h => by
    cases x with
    | Call y xs ks p =>
      match xs, ks, h with
      | [x0], [], h =>
        simp only [chk, Bool.and_eq_true] at h
        obtain ⟨h1, h2⟩ := h
        obtain ⟨py, rfl, gl, mg⟩ := bl_of c (b := "dict") (by decide) h1
        obtain ⟨d1, d2⟩ := dbg_of "dict" (by decide)
        have ih := (ok_e a X sc fn x0 c h2).1
        have hs : starEach [x0] X.env = (false, eval x0 X.env) :: starEach [] X.env := star_of h2 _ _
        have pe := pe_fz (pe_callTy (p := py) (pos := p) (dic_call c.calm) gl mg (by decide +kernel) (pa_cons ih pa_nil hs) d2 d1 hs rfl)
        refine both_plain (PE.weak pe fun σ H Q ⟨ρ, rel, g⟩ => ?_) (fun _ => rfl) fun _ => rfl
        simp only [ev, tst_false, gx_bind, gx_optR, gx_ok] at g
        refine ⟨ρ, rel, g.mono fun o ρ1 ⟨s, e1, x, e2, q⟩ v H1 aft ro fr => ?_⟩
        unfold dicSem at e2
        split at e2
        · rename_i ys e3
          simp only [Option.map_eq_some_iff] at e2
          obtain ⟨kds, e4, rfl⟩ := e2
          refine ⟨v, s, ys, kds, rfl, ro.peek aft.rel e1, e3, e4, fun b M hb rk => ?_⟩
          refine .step (upd_same (o := .dK M)) trivial fun od => .done ?_
          have sm : Same H1 (upd (upd H1 b (.dK M)) b (.frz od (.dK M))) := by
            rw [upd_upd]; exact same_upd hb
          exact after_same aft q (.ref b) _ sm (RepD.dct ⟨od, upd_same⟩ (rk.im (Same.im sm))) fun z => nomatch z
        · cases e2
      | [], _, h => cases h
      | _ :: _ :: _, _, h => cases h
      | [_], _ :: _, h => cases h
    | _ => cases h
  | .srt a, Z, X, sc, fn, x, c, h => by
    cases x with
    | Call y xs ks p =>
      match xs, ks, h with
      | [x0], [], h =>
        simp only [chk, Bool.and_eq_true] at h
        obtain ⟨h1, h2⟩ := h
        obtain ⟨py, rfl, gl, mg⟩ := bl_of c (b := "sorted") (by decide) h1
        obtain ⟨d1, d2⟩ := dbg_of "sorted" (by decide)
        have ih := (ok_e a X sc fn x0 c h2).1
        have hs : starEach [x0] X.env = (false, eval x0 X.env) :: starEach [] X.env := star_of h2 _ _
        have pe := pe_callB (p := py) (pos := p) (srt_call c.calm) gl mg (by decide +kernel) (pa_cons ih pa_nil hs) d2 d1 hs rfl
        refine both_plain (PE.weak pe fun σ H Q ⟨ρ, rel, g⟩ => ?_) (fun _ => rfl) fun _ => rfl
        simp only [ev, tst_false, gx_bind, gx_optR, gx_ok] at g
        refine ⟨ρ, rel, g.mono fun o ρ1 ⟨s, e1, x, e2, q⟩ v H1 aft ro fr => ?_⟩
        exact ⟨v, s, x, rfl, ro.peek aft.rel e1, e2, after_same aft q⟩
      | [], _, h => cases h
      | _ :: _ :: _, _, h => cases h
      | [_], _ :: _, h => cases h
    | _ => cases h
  | .rev a st, Z, X, sc, fn, x, c, h => by
    obtain ⟨y, z, p2, p, rfl⟩ := shape_rev h
    simp only [chk, Bool.and_eq_true] at h
    refine both_plain (PE.weak (pe_rev (ok_e a X sc fn y c h.1).1 (po_some (ok_e st X sc fn z c h.2).1)) fun σ H Q ⟨ρ, rel, g⟩ => ?_) (fun _ => rfl) fun _ => rfl
    simp only [ev, tst_false, gx_bind, gx_optR] at g
    refine ⟨ρ, rel, g.mono fun o ρ1 g1 v H1 a1 r1 f1 => ⟨ρ1, a1.rel, g1.mono fun k ρ2 ⟨i, hi, g2⟩ w H2 a2 r2 f2 => ?_⟩⟩
    obtain rfl := part_of hi
    refine ⟨i, RepS.int r2.1, ?_⟩
    split at g2
    · rename_i e1
      subst e1
      rw [gx_optR] at g2
      obtain ⟨s, e2, g2⟩ := g2
      rw [gx_optR] at g2
      obtain ⟨r, e3, q⟩ := g2
      exact ⟨rfl, rev_end (a1.trans a2) ((r1.aft a1.rel a2).peek a2.rel e2) e3 q⟩
    · exact g2.elim
  | .dn, Z, X, sc, fn, x, c, h => by
    cases x with
    | Dict ks vs p =>
      match ks, vs, h with
      | [], [], _ =>
        refine both_plain (PE.weak pe_dnewK fun σ H Q ⟨ρ, rel, g⟩ p hp => ?_) (fun _ => rfl) fun _ => rfl
        exact after_same (Aft.refl rel) g (.ref p) _ (same_upd hp) ⟨p, [], rfl, upd_same, .nil⟩ fun _ b e => by cases e; exact hp
      | [], _ :: _, h => cases h
      | _ :: _, _, h => cases h
    | _ => cases h
  | .rg1 t a, Z, X, sc, fn, x, c, h => by
    obtain ⟨y, z, x0, p2, p, rfl⟩ := shape_rg1 h
    simp only [chk] at h
    simp only [Bool.and_eq_true] at h
    obtain ⟨⟨h1, h2⟩, h3⟩ := h
    obtain ⟨pz, rfl, gz, mz⟩ := bl_of c (b := "range") (by decide) h2
    have pr := prg_1 (p := pz) (pos := p2) gz mz (ok_e a X sc fn x0 c h3).1 (star_of h3 _ _)
    cases t with
    | true =>
      obtain ⟨py, rfl, gy, my⟩ := bl_of c (b := "tuple") (by decide) h1
      refine both_plain (PE.weak (pe_tupRg (p := py) (pos := p) c.calm gy my pr rfl) fun σ H Q g => ?_) (fun _ => rfl) fun _ => rfl
      obtain ⟨ρ, rel, g⟩ := rg1_read g
      exact ⟨ρ, rel, g.mono fun o ρ1 g1 v H1 aft ro fr => let ⟨n, e, ok, q⟩ := g1 v H1 aft ro fr; ⟨n, e, ok, fun b hb => (q b hb).1 rfl⟩⟩
    | false =>
      obtain ⟨py, rfl, gy, my⟩ := bl_of c (b := "list") (by decide) h1
      refine both_plain (PE.weak (pe_listRg (p := py) (pos := p) c.calm gy my pr rfl) fun σ H Q g => ?_) (fun _ => rfl) fun _ => rfl
      obtain ⟨ρ, rel, g⟩ := rg1_read g
      exact ⟨ρ, rel, g.mono fun o ρ1 g1 v H1 aft ro fr => let ⟨n, e, ok, q⟩ := g1 v H1 aft ro fr; ⟨n, e, ok, fun b hb => (q b hb).2 rfl⟩⟩
  | .rg2 t a b, Z, X, sc, fn, x, c, h => by
    obtain ⟨y, z, x0, x1, p2, p, rfl⟩ := shape_rg2 h
    simp only [chk] at h
    simp only [Bool.and_eq_true] at h
    obtain ⟨⟨⟨h1, h2⟩, h3⟩, h4⟩ := h
    obtain ⟨pz, rfl, gz, mz⟩ := bl_of c (b := "range") (by decide) h2
    have s2 := star_of h4 X.env []
    have pr := prg_2 (p := pz) (pos := p2) gz mz (ok_e a X sc fn x0 c h3).1 (ok_e b X sc fn x1 c h4).1 (star_of h3 _ _) s2 (by rw [s2]; rfl)
    cases t with
    | true =>
      obtain ⟨py, rfl, gy, my⟩ := bl_of c (b := "tuple") (by decide) h1
      refine both_plain (PE.weak (pe_tupRg (p := py) (pos := p) c.calm gy my pr rfl) fun σ H Q g => ?_) (fun _ => rfl) fun _ => rfl
      obtain ⟨ρ, rel, g⟩ := rg2_read g
      refine ⟨ρ, rel, g.mono fun o ρ1 g1 v H1 aft ro fr => ?_⟩
      obtain ⟨ρ2, rel2, g2⟩ := g1 v H1 aft ro fr
      exact ⟨ρ2, rel2, g2.mono fun o ρ1 g1 v H1 aft ro fr => let ⟨i, j, e, e2, ok, q⟩ := g1 v H1 aft ro fr; ⟨i, j, e, e2, ok, fun b hb => (q b hb).1 rfl⟩⟩
    | false =>
      obtain ⟨py, rfl, gy, my⟩ := bl_of c (b := "list") (by decide) h1
      refine both_plain (PE.weak (pe_listRg (p := py) (pos := p) c.calm gy my pr rfl) fun σ H Q g => ?_) (fun _ => rfl) fun _ => rfl
      obtain ⟨ρ, rel, g⟩ := rg2_read g
      refine ⟨ρ, rel, g.mono fun o ρ1 g1 v H1 aft ro fr => ?_⟩
      obtain ⟨ρ2, rel2, g2⟩ := g1 v H1 aft ro fr
      exact ⟨ρ2, rel2, g2.mono fun o ρ1 g1 v H1 aft ro fr => let ⟨i, j, e, e2, ok, q⟩ := g1 v H1 aft ro fr; ⟨i, j, e, e2, ok, fun b hb => (q b hb).2 rfl⟩⟩
  | .isi a T, Z, X, sc, fn, x, c, h => by
    cases x with
    | Call y xs ks p =>
      match xs, ks, h with
      | [x0, t], [], h =>
        simp only [chk, Bool.and_eq_true, decide_eq_true_eq] at h
        obtain ⟨⟨⟨h1, h2⟩, h3⟩, h4⟩ := h
        obtain ⟨py, rfl, gl, mg⟩ := bl_of c (by decide) h1
        have hT : T ∈ bnames := by
          simp only [List.mem_cons, List.not_mem_nil, or_false] at h4
          rcases h4 with rfl | rfl | rfl | rfl | rfl <;> decide
        have hv : bootBuiltins (Str.ofString T) = some (.type T) := by
          simp only [List.mem_cons, List.not_mem_nil, or_false] at h4
          rcases h4 with rfl | rfl | rfl | rfl | rfl <;> decide +kernel
        obtain ⟨pt, rfl, glT, mgT⟩ := bl_of c hT h3
        obtain ⟨d1, d2⟩ := dbg_of T hT
        have pT : PE X (.Name (Str.ofString T) pt) (tC (.ty T)) := pe_bltn glT mgT hv rfl d2 d1
        have cr : CallR X (.builtin "isinstance") (fun xs H Q => ∃ v a x k, xs = [v, .ty T] ∧ RepS X.K H v a ∧ a.dat = some x ∧ isiSem x T = some k ∧ Q (.bl k) H) := fun pins s σ H xs us Q I r ⟨v, a, x, k, e, rs, e1, e2, q⟩ => by
          subst e
          obtain ⟨u1, u2, rfl, r1, r2⟩ := vals2 r
          cases (show u2 = Value.type T from r2)
          exact isi_ok I r1 rs e1 e2 q
        refine both_plain (PE.weak (pe_callB cr gl mg (by decide +kernel) (pa_cons (ok_e a X sc fn x0 c h2).1 (pa_cons pT pa_nil) (star_of h2 _ _)) (by decide) (by decide) (star_of h2 _ _) rfl) fun σ H Q ⟨ρ, rel, g⟩ => ?_) (fun _ => rfl) fun _ => rfl
        simp only [ev, tst_false, gx_bind, gx_optR, gx_ok] at g
        exact ⟨ρ, rel, g.mono fun o ρ1 ⟨s, e1, d, e2, k, e3, q⟩ v H1 aft ro fr => ⟨v, s, d, k, rfl, ro.peek aft.rel e1, e2, e3, bool_PoE aft q⟩⟩
      | [], _, h => cases h
      | [_], _, h => cases h
      | _ :: _ :: _ :: _, _, h => cases h
      | [_, _], _ :: _, h => cases h
    | _ => cases h
  | .lc elt tg it cs vs, Z, X, sc, fn, x, c, h => by
    cases x with
    | ListComp y gens scope p =>
      match gens, h with
      | [⟨t, i, ifs, n⟩], h =>
        simp only [chk, Bool.and_eq_true, decide_eq_true_eq] at h
        obtain ⟨⟨⟨⟨⟨⟨⟨⟨rfl, h1⟩, h2⟩, h3⟩, h4⟩, h5⟩, h6⟩, h7⟩, h8⟩ := h
        have b := blkOk_by h3
        have cb := fun s H Cl cl fp => blk_ok c b s H Cl cl fp
        refine both_plain (PE.weak (pe_lc (own := ownN Γ vs) (g := gT X.K tg) (tt := tCs X.K Z0 C cs) (te := tFz (tE X.K Z0 C false elt)) c.calm (by rw [c.N]; exact c.nd) (ok_i it X sc fn t i c h4) (by rw [c.N, c.hsc]; exact b)
          (fun s H Cl cl fp => pg_T (cb s H Cl cl fp) tg t h5) (fun s H Cl cl fp => ok_cs cs _ _ _ ifs (cb s H Cl cl fp) h6 h7) (fun s H Cl cl fp => pe_fz (ok_e elt _ _ _ y (cb s H Cl cl fp) h8).1) (fun v => foldI_of h4 _ v)) fun σ H Q g => ?_) (fun _ => rfl) fun _ => rfl
        rw [own_snd]
        exact lc_read (fun j hj => by simpa using List.all_eq_true.mp h2 j hj) g
      | [], h => cases h
      | ⟨_, _, _, _⟩ :: _ :: _, h => cases h
    | _ => cases h
  | .lc2 elt tg it cs tg1 it1 cs1 vs vs1, Z, X, sc, fn, x, c, h => by
    cases x with
    | ListComp y gens scope p =>
      match gens, h with
      | [⟨t, i, ifs, n⟩, ⟨t1, i1, ifs1, n1⟩], h =>
        simp only [chk, Bool.and_eq_true, decide_eq_true_eq] at h
        obtain ⟨⟨⟨⟨⟨⟨⟨⟨⟨⟨⟨⟨⟨⟨⟨rfl, rfl⟩, h1⟩, h2⟩, h2'⟩, h2''⟩, h3⟩, h4⟩, h5⟩, h6⟩, h7⟩, h8⟩, h9⟩, h10⟩, h11⟩, h12⟩ := h
        have b := blkOk_by h3
        have cb := fun s H Cl cl fp => blk_ok c b s H Cl cl fp
        refine both_plain (PE.weak (pe_lc2 (own := ownN Γ vs) (vs1 := vs1) (wi1 := tI X.K Z0 C it1) (g := gT X.K tg) (tt := tCs X.K Z0 C cs) (g1 := gT X.K tg1) (tt1 := tCs X.K Z0 C cs1) (te := tFz (tE X.K Z0 C false elt)) c.calm (by rw [c.N]; exact c.nd) (ok_i it X sc fn t i c h4) (by rw [c.N, c.hsc]; exact b) (by rw [own_snd]; exact fun j hj => by simpa using List.all_eq_true.mp h2'' j hj)
          (fun s H Cl cl fp => pg_T (cb s H Cl cl fp) tg t h5) (fun s H Cl cl fp => ok_cs cs _ _ _ ifs (cb s H Cl cl fp) h6 h7)
          (fun s H Cl cl fp => ok_i it1 _ _ _ t1 i1 (cb s H Cl cl fp) h8) (fun s H Cl cl fp => pg_T (cb s H Cl cl fp) tg1 t1 h9) (fun s H Cl cl fp => ok_cs cs1 _ _ _ ifs1 (cb s H Cl cl fp) h10 h11)
          (fun s H Cl cl fp => pe_fz (ok_e elt _ _ _ y (cb s H Cl cl fp) h12).1) (fun v => foldI_of h4 _ v) (fun env v => foldI_of h8 env v)) fun σ H Q g => ?_) (fun _ => rfl) fun _ => rfl
        rw [own_snd]
        exact lc2_read (fun j hj => by simpa using List.all_eq_true.mp h2 j hj) (fun j hj => by simpa using List.all_eq_true.mp h2' j hj) (fun j hj => by simpa using List.all_eq_true.mp h2'' j hj) g
      | [], h => cases h
      | [⟨_, _, _, _⟩], h => cases h
      | ⟨_, _, _, _⟩ :: ⟨_, _, _, _⟩ :: _ :: _, h => cases h
    | _ => cases h
  | .dcm kx vx tg it cs vs, Z, X, sc, fn, x, c, h => by
    cases x with
    | DictComp kk y gens scope p =>
      match gens, h with
      | [⟨t, i, ifs, n⟩], h =>
        simp only [chk, Bool.and_eq_true, decide_eq_true_eq] at h
        obtain ⟨⟨⟨⟨⟨⟨⟨⟨⟨rfl, h1⟩, h2⟩, h3⟩, h4⟩, h5⟩, h6⟩, h7⟩, h8⟩, h9⟩ := h
        have b := blkOk_by h3
        have cb := fun s H Cl cl fp => blk_ok c b s H Cl cl fp
        refine both_plain (PE.weak (pe_dc (own := ownN Γ vs) (g := gT X.K tg) (tt := tCs X.K Z0 C cs) (tk := tFz (tE X.K Z0 C false kx)) (tv := tFz (tE X.K Z0 C false vx)) c.calm (by rw [c.N]; exact c.nd) (ok_i it X sc fn t i c h4) (by rw [c.N, c.hsc]; exact b)
          (fun s H Cl cl fp => pg_T (cb s H Cl cl fp) tg t h5) (fun s H Cl cl fp => ok_cs cs _ _ _ ifs (cb s H Cl cl fp) h6 h7) (fun s H Cl cl fp => pe_fz (ok_e kx _ _ _ kk (cb s H Cl cl fp) h8).1) (fun s H Cl cl fp => pe_fz (ok_e vx _ _ _ y (cb s H Cl cl fp) h9).1) (fun v => foldI_of h4 _ v)) fun σ H Q g => ?_) (fun _ => rfl) fun _ => rfl
        rw [own_snd]
        exact dc_read (fun j hj => by simpa using List.all_eq_true.mp h2 j hj) g
      | [], h => cases h
      | ⟨_, _, _, _⟩ :: _ :: _, h => cases h
    | _ => cases h
theorem ok_es : ∀ (es : Es) {Z : ZT} (X : Cx) (sc : Scope) (fn : Str → Bool) (xs : List Expr), CtxOk Γ C Z sc fn X → chkEs Γ sc fn es xs = true → PA X xs (tEs X.K Z C es)
  | .n, Z, X, sc, fn, xs, c, h => by
    cases xs with
    | nil => exact PA.weak pa_nil fun σ H Q ⟨ρ, rel, g⟩ => g [] H (Aft.refl rel) .nil fun j v o e => by simp at e
    | cons _ _ => cases h
  | .c a r, Z, X, sc, fn, xs, c, h => by
    cases xs with
    | nil => cases h
    | cons x xs =>
      simp only [chkEs, Bool.and_eq_true] at h
      refine PA.weak (pa_cons (ok_e a X sc fn x c h.1).1 (ok_es r X sc fn xs c h.2) (star_of h.1 _ _)) fun σ H Q ⟨ρ, rel, g⟩ => ?_
      have g : ((ev C false a ρ).bind fun x ρ => (evs C r ρ).bind fun xs ρ => Res.ok (x :: xs) ρ).gx _ := g
      rw [gx_bind] at g
      refine ⟨ρ, rel, g.mono fun o ρ1 g1 v H1 a1 r1 f1 => ⟨ρ1, a1.rel, ?_⟩⟩
      rw [gx_bind] at g1
      refine g1.mono fun os ρ2 g2 vs H2 a2 r2 f2 => ?_
      refine g2 (v :: vs) H2 (a1.trans a2) (.cons (r1.aft a1.rel a2) r2 fun t b e j o' q1 q2 q3 => ?_) fun j w o' q1 q2 => ?_
      · -- a later own thing is new
        have hf := f2 j (.ref b) o' q3 q1
        cases o' with
        | s _ => cases q2
        | v s' =>
          have n1 := hf q2 b rfl
          cases o with
          | s _ => cases t
          | v s =>
            obtain ⟨b', us, e1, e2, _⟩ := r1.1.own_ref t
            rw [e] at e1; cases e1
            rw [n1] at e2; cases e2
      · cases j with
        | zero => simp at q1 q2; subst q1 q2; exact f1
        | succ j =>
          have := f2 j w o' (by simpa using q1) (by simpa using q2)
          exact this.aft a1
theorem ok_cs : ∀ (es : Es) {Z : ZT} (X : Cx) (sc : Scope) (fn : Str → Bool) (xs : List Expr), CtxOk Γ C Z sc fn X → xs.length ≤ 1 → chkEs Γ sc fn es xs = true → PTs X xs (tCs X.K Z C es)
  | .n, Z, X, sc, fn, xs, c, _, h => by
    cases xs with
    | nil => exact ⟨fun pins s σ H Q I ⟨ρ, rel, g⟩ => pts_nil.run pins s σ H Q I (g H (Aft.refl rel))⟩
    | cons _ _ => cases h
  | .c a r, Z, X, sc, fn, xs, c, hl, h => by
    match xs, hl, h with
    | [x], _, h =>
      simp only [chkEs, Bool.and_eq_true] at h
      have hr : r = .n := by
        cases r with
        | n => rfl
        | c _ _ => exact absurd h.2 (by simp [chkEs])
      subst hr
      refine ⟨fun pins s σ H Q I ⟨ρ, rel, g⟩ => (pts_one (ok_e a X sc fn x c h.1).2).run pins s σ H Q I ⟨ρ, rel, ?_⟩⟩
      have g : ((boolOf (ev C true a ρ)).bind fun k ρ => if k then evC C .n ρ else Res.ok false ρ).gx _ := g
      rw [gx_bind] at g
      exact g.mono fun k ρ1 q => by cases k <;> exact q
    | [], _, h => cases h
    | _ :: _ :: _, hl, _ => simp at hl
theorem ok_o : ∀ (e : Oe) {Z : ZT} (X : Cx) (sc : Scope) (fn : Str → Bool) (x : Option Expr), CtxOk Γ C Z sc fn X → chkO Γ sc fn e x = true → PO X x (tO X.K Z C e)
  | .no, Z, X, sc, fn, x, c, h => by
    cases x with
    | none => exact ⟨fun pins s σ H Q I ⟨ρ, rel, g⟩ => po_none.run pins s σ H Q I (g H (Aft.refl rel))⟩
    | some _ => cases h
  | .so e, Z, X, sc, fn, x, c, h => by
    cases x with
    | none => cases h
    | some x =>
      have h : chk Γ sc fn e x = true := h
      refine ⟨fun pins s σ H Q I ⟨ρ, rel, g⟩ => (po_some (ok_e e X sc fn x c h).1).run pins s σ H Q I ⟨ρ, rel, ?_⟩⟩
      simp only [evO, gx_bind, gx_optR, gx_ok] at g
      refine g.mono fun o ρ1 ⟨i, hi, g1⟩ v H1 aft ro fr => ?_
      obtain rfl := part_of hi
      exact ⟨i, RepS.int ro.1, g1 H1 aft⟩
theorem ok_i : ∀ (e : It) {Z : ZT} (X : Cx) (sc : Scope) (fn : Str → Bool) (t x : Expr), CtxOk Γ C Z sc fn X → chkI Γ sc fn e t x = true → PI X t x (tI X.K Z C e)
  | .seq a, Z, X, sc, fn, t, x, c, h => by
    have h : chk Γ sc fn a x = true := h
    refine ⟨fun pins s σ H R I ⟨ρ, rel, g⟩ => (pi_sq (tg := t) (pe_fz (ok_e a X sc fn x c h).1)).run pins s σ H R I ⟨ρ, rel, ?_⟩⟩
    have g : ((ev C false a ρ).bind fun o ρ => (take o ρ).bind fun x ρ => lift (seqD x) ρ).gx _ := g
    rw [gx_bind] at g
    refine g.mono fun o ρ1 g1 v H1 aft ro fr => ?_
    rw [gx_bind] at g1
    refine take_fz aft ro fr g1 fun d ρ2 H2 g2 a2 _ _ rd _ => .done ?_
    obtain ⟨xs, e, q⟩ := gx_lift.mp g2
    cases rd with
    | lst hs hz hr => cases e; exact .inl ⟨_, _, rfl, .inl ⟨hs, q _ H2 a2 (yields_l hs hz hr)⟩⟩
    | tup hs hz hr => cases e; exact .inl ⟨_, _, rfl, .inr ⟨hs, q _ H2 a2 (yields_t hs hz hr)⟩⟩
    | dct hs hr =>
      obtain ⟨o, hs⟩ := hs
      simp only [seqD] at e
      split at e
      · rename_i hz
        cases e
        exact .inr (.inl ⟨_, o, _, rfl, hs, q _ H2 a2 (yields_k hs (by simpa using hz.1) hr)⟩)
      · cases e
    | str z hz => cases e; exact .inr (.inr ⟨z, rfl, q _ H2 a2 (yields_c hz)⟩)
    | fn hs => simp [seqD, isF] at e
    | _ => cases e
  | .rg es, Z, X, sc, fn, t, x, c, h => by
    cases x with
    | Call y xs ks p =>
      match xs, ks, h with
      | [x0], [], h =>
        simp only [chkI, Bool.and_eq_true] at h
        obtain ⟨py, rfl, gl, mg⟩ := bl_of c (by decide) h.1
        have pa := ok_es es X sc fn [x0] c h.2
        refine ⟨fun pins s σ H R I ⟨ρ, rel, g⟩ => (pi_range1 (tg := t) gl mg pa (es_star h.2 X.env).1).run pins s σ H R I ⟨ρ, rel, ?_⟩⟩
        simp only [evI] at g
        rw [gx_bind] at g
        refine (evs_len g).mono fun os ρ1 ⟨l1, g1⟩ vs H1 aft ro fr => ?_
        rw [gx_optR] at g1
        obtain ⟨ss, e1, q⟩ := g1
        obtain ⟨xs, e2, q⟩ := gx_lift.mp q
        have rs := ro.peeks aft.rel e1
        have hl := chkEs_len h.2
        have l2 := peeks_len e1
        unfold rgSem at e2
        split at e2
        · rename_i j
          split at e2
          · rename_i hj
            cases e2
            obtain ⟨v, rfl, rv⟩ := rs.one
            simp only [rgOk, Bool.and_eq_true, decide_eq_true_eq] at hj
            exact ⟨j, by rw [rv.int], hj.1.1, hj.1.2, q _ H1 aft (yields_r (show _ ≤ 16777216 by omega))⟩
          · cases e2
        · simp only [List.length_cons, List.length_nil] at l2 hl
          omega
        · simp only [List.length_cons, List.length_nil] at l2 hl
          omega
        · cases e2
      | [x0, x1], [], h =>
        simp only [chkI, Bool.and_eq_true] at h
        obtain ⟨py, rfl, gl, mg⟩ := bl_of c (by decide) h.1
        have pa := ok_es es X sc fn [x0, x1] c h.2
        obtain ⟨st1, r, hr⟩ := es_star h.2 X.env
        obtain ⟨st2, r2, hr2⟩ := es_star hr X.env
        refine ⟨fun pins s σ H R I ⟨ρ, rel, g⟩ => (pi_range2 (tg := t) gl mg pa (by rw [st1, st2]; rfl) (by rw [st2]; rfl)).run pins s σ H R I ⟨ρ, rel, ?_⟩⟩
        simp only [evI] at g
        rw [gx_bind] at g
        refine (evs_len g).mono fun os ρ1 ⟨l1, g1⟩ vs H1 aft ro fr => ?_
        rw [gx_optR] at g1
        obtain ⟨ss, e1, q⟩ := g1
        obtain ⟨xs, e2, q⟩ := gx_lift.mp q
        have rs := ro.peeks aft.rel e1
        have hl := chkEs_len h.2
        have l2 := peeks_len e1
        unfold rgSem at e2
        split at e2
        · simp only [List.length_cons, List.length_nil] at l2 hl
          omega
        · rename_i i j
          split at e2
          · rename_i hj
            cases e2
            obtain ⟨v, w, rfl, rv, rw'⟩ := rs.two
            simp only [rgOk, Bool.and_eq_true, decide_eq_true_eq] at hj
            exact ⟨i, j, by rw [rv.int, rw'.int], ⟨hj.1.1.1, hj.1.1.2, hj.1.2.1, hj.1.2.2⟩, q _ H1 aft (yields_r (show _ ≤ 16777216 by omega))⟩
          · cases e2
        · simp only [List.length_cons, List.length_nil] at l2 hl
          omega
        · cases e2
      | [x0, x1, x2], [], h =>
        simp only [chkI, Bool.and_eq_true] at h
        obtain ⟨py, rfl, gl, mg⟩ := bl_of c (by decide) h.1
        have pa := ok_es es X sc fn [x0, x1, x2] c h.2
        obtain ⟨st1, r, hr⟩ := es_star h.2 X.env
        obtain ⟨st2, r2, hr2⟩ := es_star hr X.env
        obtain ⟨st3, r3, hr3⟩ := es_star hr2 X.env
        refine ⟨fun pins s σ H R I ⟨ρ, rel, g⟩ => (pi_range3 (tg := t) gl mg pa (by rw [st1, st2, st3] <;> rfl) (by rw [st2, st3] <;> rfl)).run pins s σ H R I ⟨ρ, rel, ?_⟩⟩
        simp only [evI] at g
        rw [gx_bind] at g
        refine (evs_len g).mono fun os ρ1 ⟨l1, g1⟩ vs H1 aft ro fr => ?_
        rw [gx_optR] at g1
        obtain ⟨ss, e1, q⟩ := g1
        obtain ⟨xs, e2, qz⟩ := gx_lift.mp q
        have rs := ro.peeks aft.rel e1
        have hl := chkEs_len h.2
        have l2 := peeks_len e1
        unfold rgSem at e2
        split at e2
        · simp only [List.length_cons, List.length_nil] at l2 hl
          omega
        · simp only [List.length_cons, List.length_nil] at l2 hl
          omega
        · rename_i i j k
          split at e2
          · rename_i hj
            cases e2
            simp only [rgOk, Bool.and_eq_true, decide_eq_true_eq] at hj
            cases rs with
            | cons h1 rs =>
            cases rs with
            | cons h2 rs =>
            cases rs with
            | cons h3 rs =>
            cases rs
            obtain ⟨rfl, hj⟩ := hj
            exact ⟨i, j, -1, (i - j).toNat, by rw [RepS.int h1, RepS.int h2, RepS.int h3], RgC.neg hj.1.1.1 hj.1.1.2 hj.1.2.1 hj.1.2.2, qz _ H1 aft (yields_c3 (show _ ≤ 16777216 by omega))⟩
          · cases e2
        · cases e2
      | [], _, h => cases h
      | _ :: _ :: _ :: _ :: _, _, h => cases h
      | [_], _ :: _, h => cases h
      | [_, _], _ :: _, h => cases h
      | [_, _, _], _ :: _, h => cases h
    | _ => cases h
  | .zip es, Z, X, sc, fn, t, x, c, h => by
    cases t <;> try (cases h)
    cases x with
    | Call y xs ks p =>
      match xs, ks, h with
      | [x0, x1], [], h =>
        simp only [chkI, Bool.and_eq_true] at h
        obtain ⟨py, rfl, gl, mg⟩ := bl_of c (by decide) h.1
        have pa := ok_es es X sc fn [x0, x1] c h.2
        obtain ⟨st1, r, hr⟩ := es_star h.2 X.env
        obtain ⟨st2, r2, hr2⟩ := es_star hr X.env
        refine ⟨fun pins s σ H R I ⟨ρ, rel, g⟩ => (pi_z gl mg (pa_fz pa) st1 (by rw [st2]; rfl)).run pins s σ H R I ⟨ρ, rel, ?_⟩⟩
        simp only [evI] at g
        rw [gx_bind] at g
        refine (evs_len g).mono fun os ρ1 ⟨l1, g1⟩ vs H1 aft ro fr => ?_
        rw [gx_bind] at g1
        have hl := chkEs_len h.2
        refine takes_fz aft ro fr g1 fun ds ρ2 H2 g2 a2 _ rd => .done ?_
        obtain ⟨zs, e, q⟩ := gx_lift.mp g2
        have l3 := rd.length
        have l4 := ro.length
        unfold zipSem at e
        split at e
        · rename_i da db
          split at e
          · rename_i xs ys e1 e2
            cases e
            cases rd with | cons ra rd =>
            cases rd with | cons rb rd =>
            cases rd
            obtain ⟨k1, a1, vs1, rfl, s1, z1, r1⟩ := src_of ra e1
            obtain ⟨k2, b1, ws1, rfl, s2, z2, r2⟩ := src_of rb e2
            exact ⟨k1, k2, a1, b1, vs1, ws1, rfl, s1, s2, q _ H2 a2 (yields_z s1 s2 z1 r1 r2)⟩
          · cases e
        · simp only [List.length_cons, List.length_nil] at l3 hl
          omega
        · cases e
      | [x0, x1, x2], [], h =>
        simp only [chkI, Bool.and_eq_true] at h
        obtain ⟨py, rfl, gl, mg⟩ := bl_of c (by decide) h.1
        have pa := ok_es es X sc fn [x0, x1, x2] c h.2
        obtain ⟨st1, r, hr⟩ := es_star h.2 X.env
        obtain ⟨st2, r2, hr2⟩ := es_star hr X.env
        obtain ⟨st3, r3, hr3⟩ := es_star hr2 X.env
        refine ⟨fun pins s σ H R I ⟨ρ, rel, g⟩ => (pi_z3 gl mg (pa_fz pa) st1 (by rw [st2, st3]; rfl)).run pins s σ H R I ⟨ρ, rel, ?_⟩⟩
        simp only [evI] at g
        rw [gx_bind] at g
        refine (evs_len g).mono fun os ρ1 ⟨l1, g1⟩ vs H1 aft ro fr => ?_
        rw [gx_bind] at g1
        have hl := chkEs_len h.2
        refine takes_fz aft ro fr g1 fun ds ρ2 H2 g2 a2 _ rd => .done ?_
        obtain ⟨zs, e, q⟩ := gx_lift.mp g2
        have l3 := rd.length
        have l4 := ro.length
        unfold zipSem at e
        split at e
        · simp only [List.length_cons, List.length_nil] at l3 hl
          omega
        · rename_i da db dd
          split at e
          · rename_i xs ys zs e1 e2 e3
            cases e
            cases rd with | cons ra rd =>
            cases rd with | cons rb rd =>
            cases rd with | cons rc rd =>
            cases rd
            obtain ⟨k1, a1, vs1, rfl, s1, z1, r1⟩ := src_of ra e1
            obtain ⟨k2, b1, ws1, rfl, s2, z2, r2⟩ := src_of rb e2
            obtain ⟨k3, c1, us1, rfl, s3, z3, r3⟩ := src_of rc e3
            exact ⟨k1, k2, k3, a1, b1, c1, vs1, ws1, us1, rfl, s1, s2, s3, q _ H2 a2 (yields_z3 s1 s2 s3 z1 r1 r2 r3)⟩
          · cases e
        · cases e
      | [], _, h => cases h
      | [_], _, h => cases h
      | _ :: _ :: _ :: _ :: _, _, h => cases h
      | [_, _], _ :: _, h => cases h
      | [_, _, _], _ :: _, h => cases h
    | _ => cases h
  | .enum a, Z, X, sc, fn, t, x, c, h => by
    cases t <;> try (cases h)
    cases x with
    | Call y xs ks p =>
      match xs, ks, h with
      | [x0], [], h =>
        simp only [chkI, Bool.and_eq_true] at h
        obtain ⟨py, rfl, gl, mg⟩ := bl_of c (by decide) h.1
        refine ⟨fun pins s σ H R I ⟨ρ, rel, g⟩ => (pi_e gl mg (pa_cons (pe_fz (ok_e a X sc fn x0 c h.2).1) pa_nil (star_of h.2 _ _)) (star_of h.2 _ _)).run pins s σ H R I ⟨ρ, rel, ?_⟩⟩
        have g : ((ev C false a ρ).bind fun o ρ => (take o ρ).bind fun x ρ => lift ((itemsD x).map (enumD 0)) ρ).gx _ := g
        rw [gx_bind] at g
        refine g.mono fun o ρ1 g1 v H1 aft ro fr => ?_
        rw [gx_bind] at g1
        refine take_fz aft ro fr g1 fun d ρ2 H2 g2 a2 _ _ rd _ => .done ?_
        obtain ⟨xs', e, q⟩ := gx_lift.mp g2
        rw [Option.map_eq_some_iff] at e
        obtain ⟨xs, e, rfl⟩ := e
        obtain ⟨k, b, vs, rfl, hs, hz, hr⟩ := src_of rd e
        exact ⟨k, b, vs, rfl, hs, q _ H2 a2 (yields_e hs hz hr)⟩
      | [], _, h => cases h
      | _ :: _ :: _, _, h => cases h
      | [_], _ :: _, h => cases h
    | _ => cases h
end
end
end Q

namespace Q
open PySem PySem.Spec PyProof.Rows L2
variable [LamT]
/-! ### statements: what changes -/
theorem AftS.refl {K : PySem.W.Frag} {W : Nat → Prop} {σ : St} {H : Hp} {ρ : Rho} (r : RelE K σ H ρ) : AftS K W σ ρ H σ ρ H := ⟨fun _ _ h _ _ => h, r, fun _ h => .inl h, fun _ h => h, fun _ _ => rfl, rfl⟩
theorem AftS.im {K : PySem.W.Frag} {W : Nat → Prop} {σ σ' : St} {ρ ρ' : Rho} {H H' : Hp} (r : RelE K σ H ρ) (a : AftS K W σ ρ H σ' ρ' H') : Im H H' := by
  refine ⟨fun x xs h => ?_, fun x o u h => ?_⟩
  · rcases h with h | ⟨o, h⟩
    · refine .inl (a.kp _ _ h fun q => ?_)
      rcases q.lst r with ⟨vs, e⟩ | ⟨vs, e⟩ <;> (rw [h] at e; cases e)
    · refine .inr ⟨o, a.kp _ _ h fun q => ?_⟩
      rcases q.lst r with ⟨vs, e⟩ | ⟨vs, e⟩ <;> (rw [h] at e; cases e)
  · refine a.kp _ _ h fun q => ?_
    rcases q.lst r with ⟨vs, e⟩ | ⟨vs, e⟩ <;> (rw [h] at e; cases e)
/-- behind a statement -/
def PoS (K : PySem.W.Frag) (np : Nat) (W : Nat → Prop) (σ : St) (ρ : Rho) (H : Hp) (D : Ends) : Fl → Rho → Prop
  | .nx, ρ' => ∀ σ' H', AftS K W σ ρ H σ' ρ' H' → D.nx σ' H'
  | .brk, ρ' => ∀ σ' H', AftS K W σ ρ H σ' ρ' H' → D.bk σ' H'
  | .cnt, ρ' => ∀ σ' H', AftS K W σ ρ H σ' ρ' H' → D.ct σ' H'
  | .ret r, ρ' => ∀ v σ' H', AftS K W σ ρ H σ' ρ' H' → RepS K H' v r → (r.own = true → ∀ a, v = .ref a → H a = none ∨ ∃ i s, np ≤ i ∧ gt ρ' i = some s ∧ s.own = true ∧ σ'[i]? = some (some (.ref a))) → D.rt v H'
theorem PoS.shift {K : PySem.W.Frag} {np : Nat} {W : Nat → Prop} {σ σ1 : St} {ρ ρ1 : Rho} {H H1 : Hp} {D : Ends} {f : Fl} {ρ' : Rho} (h : PoS K np W σ ρ H D f ρ') (a : AftS K W σ ρ H σ1 ρ1 H1) : PoS K np W σ1 ρ1 H1 D f ρ' := by
  cases f with
  | nx => exact fun σ' H' b => h σ' H' (a.trans b)
  | brk => exact fun σ' H' b => h σ' H' (a.trans b)
  | cnt => exact fun σ' H' b => h σ' H' (a.trans b)
  | ret r => exact fun v σ' H' b rr fr => h v σ' H' (a.trans b) rr fun o x e => (fr o x e).imp (a.trk x) id
def tS (K : PySem.W.Frag) (Z : ZT) (C : Call) (np : Nat) (W : Nat → Prop) (s : S) : TS := fun D σ H => ∃ ρ, RelE K σ H ρ ∧ (evS C np s ρ).gx (W := zkS W Z σ ρ H) (PoS K np W σ ρ H D)
def tSs (K : PySem.W.Frag) (Z : ZT) (C : Call) (np : Nat) (W : Nat → Prop) (s : Ss) : TS := fun D σ H => ∃ ρ, RelE K σ H ρ ∧ (evSs C np s ρ).gx (W := zkS W Z σ ρ H) (PoS K np W σ ρ H D)
mutual
/-- the slots that a statement stores -/
def wrS : S → List Nat
  | .set tg _ => tg.slots
  | .par js _ => js
  | .sub i _ _ => []
  | .aug i _ _ => [i]
  | .ex _ => []
  | .app _ _ => []
  | .ite _ a b => wrSs a ++ wrSs b
  | .wh _ b => wrSs b
  | .for_ tg _ b => tg.slots ++ wrSs b
  | _ => []
def wrSs : Ss → List Nat
  | .n => []
  | .c s r => wrS s ++ wrSs r
end
/-- a store of a new value -/
theorem aftS_set {K : PySem.W.Frag} {W : Nat → Prop} {σ σ0 : St} {ρ0 ρ1 : Rho} {H0 H1 : Hp} {i : Nat} {v : V} {s : SV} (a : AftS K W σ0 ρ0 H0 σ ρ1 H1) (h : RepS K H1 v s) (n : s.own = true → ∀ a, v = .ref a → ¬ OwnA σ ρ1 a ∧ H0 a = none) (hw : W i) : AftS K W σ0 ρ0 H0 (σ.set i (some v)) (ρ1.set i (some s)) H1 := by
  refine ⟨fun _ _ h n _ => a.kp _ _ h n, a.rel.set h fun o b e => (n o b e).1, fun b q => ?_, a.trk, fun k hk => ?_, by rw [List.length_set]; exact a.len⟩
  · rcases OwnA.set a.rel.len q with q | ⟨o, e⟩
    · exact a.sub b q
    · exact .inr (n o b e).2
  · rw [List.getElem?_set_ne (fun e => hk (by rw [← e]; exact hw))]
    exact a.fix k hk
/-- the own list of a slot gets another content -/
theorem own_putM {K : PySem.W.Frag} {σ : St} {ρ : Rho} {H : Hp} {i : Nat} {s0 s1 : SV} {a : Addr} {u0 u1 : HO} (r : RelE K σ H ρ) (e : gt ρ i = some s0) (o0 : s0.own = true) (ea : σ[i]? = some (some (.ref a))) (h : H a = some u0) (mk : OwnK u0) (rw' : Im H (upd H a u1) → RepS K (upd H a u1) (.ref a) s1) :
    Aft K σ ρ H (ρ.set i (some s1)) (upd H a u1) := by
  have im : Im H (upd H a u1) := im_updM h mk.mu
  have oa : OwnA σ ρ a := ⟨i, _, e, o0, ea⟩
  have hl := gt_lt e
  have sub : ∀ b, OwnA σ (ρ.set i (some s1)) b → OwnA σ ρ b := fun b ⟨j, s, hs, ho, hb⟩ => by
    rw [gt_set] at hs
    by_cases hj : j = i ∧ i < ρ.length
    · obtain ⟨rfl, _⟩ := hj
      rw [ea] at hb; cases hb
      exact oa
    · rw [if_neg hj] at hs
      exact ⟨j, s, hs, ho, hb⟩
  refine ⟨fun b u hb n nt => ?_, ⟨by rw [List.length_set]; exact r.len, fun j s hs => ?_, fun j k s t b h1 h2 o1 o2 e1 e2 => ?_, tabs_upd r.tab h mk⟩, sub, fun b hb => ?_⟩
  · rw [upd_ne (fun q => n (by rw [q]; exact oa))]; exact hb
  · rw [gt_set] at hs
    by_cases hj : j = i ∧ i < ρ.length
    · rw [if_pos hj] at hs
      cases hs
      obtain ⟨rfl, _⟩ := hj
      exact ⟨.ref a, ea, rw' im⟩
    · rw [if_neg hj] at hs
      obtain ⟨v, e2, rs⟩ := r.at_ j s hs
      exact ⟨v, e2, rs.apart im fun o z => hj ⟨r.dis j i _ _ a hs e o o0 (by rw [e2, z]) ea, hl⟩⟩
  · have key : ∀ (j : Nat) (s : SV), gt (ρ.set i (some s1)) j = some s → s.own = true → ∃ t, gt ρ j = some t ∧ t.own = true := fun j s hs ho => by
      rw [gt_set] at hs
      by_cases hj : j = i ∧ i < ρ.length
      · obtain ⟨rfl, _⟩ := hj
        exact ⟨_, e, o0⟩
      · rw [if_neg hj] at hs
        exact ⟨s, hs, ho⟩
    obtain ⟨t1, g1, p1⟩ := key j s h1 o1
    obtain ⟨t2, g2, p2⟩ := key k t h2 o2
    exact r.dis j k t1 t2 b g1 g2 p1 p2 e1 e2
  · by_cases q : b = a
    · rw [q, upd_same] at hb; cases hb
    · rw [upd_ne q] at hb; exact hb
theorem own_put {K : PySem.W.Frag} {σ : St} {ρ : Rho} {H : Hp} {i : Nat} {xs ys : List D} {a : Addr} {vs ws : List V} (r : RelE K σ H ρ) (e : gt ρ i = some (.ml xs)) (ea : σ[i]? = some (some (.ref a))) (h : H a = some (.lst vs)) (rw' : RepDs K H ws ys) (z : ws.length ≤ sizeLine) :
    Aft K σ ρ H (ρ.set i (some (.ml ys))) (upd H a (.lst ws)) := own_putM r e rfl ea h (.inl ⟨_, rfl⟩) fun im => ⟨a, ws, rfl, upd_same, z, rw'.im im⟩
/-- operands moved into slots -/
theorem moves_fz {K : PySem.W.Frag} {σ : St} {ρ0 : Rho} {H0 : Hp} {R : Hp → Prop} : ∀ {vs : List V} {os : List Opd} {ρ : Rho} {H : Hp} {P : List SV → Rho → Prop} {Wx : Exn → Prop}, Aft K σ ρ0 H0 ρ H → RepOs K H σ ρ vs os → FreshL H0 vs os → (movesR os ρ).gx (W := Wx) P →
    (∀ ss ρ' H', P ss ρ' → Aft K σ ρ0 H0 ρ' H' → Im H H' → (∀ a, OwnA σ ρ' a → OwnA σ ρ a) → (∀ b u, H b = some u → ¬ OwnA σ ρ b → H' b = some u) → RepArgs K H' vs ss → (∀ (j : Nat) (s : SV) a, ss[j]? = some s → s.own = true → vs[j]? = some (.ref a) → ¬ OwnA σ ρ' a ∧ H0 a = none ∧ ∃ o, os[j]? = some o ∧ isTmp o = true) → FzQ R H') → FzQ R H
  | _, _, ρ, H, P, Wx, base, .nil, _, g, q => q [] ρ H g base (Im.refl H) (fun _ z => z) (fun _ _ z _ => z) ⟨.nil, base.rel.tab, fun i j s t a h => by simp at h⟩ fun j s a h => by simp at h
  | _, _, ρ, H, P, Wx, base, .cons (v := v) (vs := vs) (o := .s k) (os := os) h r f, fr, g, q => by
    have g : ((take (.s k) ρ).bind fun x ρ => (movesR os ρ).bind fun ss ρ => .ok (.d x :: ss) ρ).gx (W := Wx) P := g
    rw [gx_bind] at g
    refine take_fz base h (fr 0 _ _ rfl rfl) g fun x ρ1 H1 g1 b1 i1 sub1 rx k1 => ?_
    rw [gx_bind] at g1
    have k1' : ∀ b u, H b = some u → ¬ OwnA σ ρ b → H1 b = some u := fun b u e n => k1 b u e n fun z => nomatch z
    have r1 : RepOs K H1 σ ρ1 vs os := r.stay i1 sub1 fun j o' a u e1 e2 e3 e4 => by
      refine k1' a u e4 fun z => ?_
      obtain ⟨v', ev, ro⟩ := r.get e1
      rw [e3] at ev; cases ev
      cases o' with
      | s _ => cases e2
      | v s' => exact ro.2 e2 a rfl z
    refine moves_fz b1 r1 (fun j v' o' e1 e2 => fr (j + 1) v' o' (by simpa using e1) (by simpa using e2)) g1 fun ss ρ2 H2 g2 b2 i2 s2 k2 r2 f2 => ?_
    refine q _ ρ2 H2 g2 b2 (i1.trans i2) (fun a z => sub1 a (s2 a z)) (fun b u e n => k2 b u (k1' b u e n) fun z => n (sub1 b z)) ⟨.cons (s := .d x) (rx.im i2) r2.rep, r2.tab, fun i j s t a h1 h2 o1 o2 a1 a2 => ?_⟩ fun j s a h1 o1 a1 => ?_
    · cases i with
      | zero => simp at h1; subst h1; cases o1
      | succ i =>
        cases j with
        | zero => simp at h2; subst h2; cases o2
        | succ j => rw [r2.dis i j s t a (by simpa using h1) (by simpa using h2) o1 o2 (by simpa using a1) (by simpa using a2)]
    · cases j with
      | zero => simp at h1; subst h1; cases o1
      | succ j => exact f2 j s a (by simpa using h1) o1 (by simpa using a1)
  | _, _, ρ, H, P, Wx, base, .cons (v := v) (vs := vs) (o := .v s0) (os := os) h r f, fr, g, q => by
    have g : ((movesR os ρ).bind fun ss ρ => .ok (s0 :: ss) ρ).gx (W := Wx) P := g
    rw [gx_bind] at g
    have frT : FreshL H0 vs os := fun j v' o' e1 e2 => fr (j + 1) v' o' (by simpa using e1) (by simpa using e2)
    refine moves_fz base r frT g fun ss ρ2 H2 g2 b2 i2 s2 k2 r2 f2 => ?_
    have hr : RepS K H2 v s0 := by
      obtain ⟨h1, h2⟩ := h
      cases s0 with
      | d x => exact RepD.im i2 h1
      | ml ys =>
        obtain ⟨a, us, e1, e2, e3, e4⟩ := h1
        exact ⟨a, us, e1, k2 a _ e2 (h2 rfl a e1), e3, e4.im i2⟩
      | md _ =>
        obtain ⟨a, ks, e1, e2, e3⟩ := h1
        exact ⟨a, ks, e1, k2 a _ e2 (h2 rfl a e1), e3.im i2⟩
      | rl _ => exact RepS.rlIm i2 h1
    refine q _ ρ2 H2 g2 b2 i2 s2 k2 ⟨.cons hr r2.rep, r2.tab, fun i j s t a h1 h2 o1 o2 a1 a2 => ?_⟩ fun j s a h1 o1 a1 => ?_
    · cases i with
      | zero =>
        cases j with
        | zero => rfl
        | succ j =>
          simp at h1 a1; subst h1
          obtain ⟨_, _, o', p1, p2⟩ := f2 j t a (by simpa using h2) o2 (by simpa using a2)
          exact absurd (by simpa using a2) (f o1 a a1 j o' p1 p2)
      | succ i =>
        cases j with
        | zero =>
          simp at h2 a2; subst h2
          obtain ⟨_, _, o', p1, p2⟩ := f2 i s a (by simpa using h1) o1 (by simpa using a1)
          exact absurd (by simpa using a1) (f o2 a a2 i o' p1 p2)
        | succ j => rw [r2.dis i j s t a (by simpa using h1) (by simpa using h2) o1 o2 (by simpa using a1) (by simpa using a2)]
    · cases j with
      | zero =>
        simp at h1 a1; subst h1
        exact ⟨fun z => h.2 o1 a a1 (s2 a z), fr 0 _ _ rfl rfl o1 a a1, _, rfl, o1⟩
      | succ j =>
        obtain ⟨p1, p2, p3⟩ := f2 j s a (by simpa using h1) o1 (by simpa using a1)
        exact ⟨p1, p2, by simpa using p3⟩
def setSt : List Nat → List V → St → St
  | i :: is, v :: vs, σ => setSt is vs (σ.set i (some v))
  | _, _, σ => σ
theorem setAll_ok {K : PySem.W.Frag} {W : Nat → Prop} {σ0 : St} {ρ0 : Rho} {H0 H : Hp} : ∀ {js : List Nat} {vs : List V} {ss : List SV} {σ : St} {ρ ρ' : Rho}, AftS K W σ0 ρ0 H0 σ ρ H → RepArgs K H vs ss → (∀ (j : Nat) (s : SV) a, ss[j]? = some s → s.own = true → vs[j]? = some (.ref a) → ¬ OwnA σ ρ a ∧ H0 a = none) →
    (∀ j ∈ js, W j) → setAll js ss ρ = some ρ' → AftS K W σ0 ρ0 H0 (setSt js vs σ) ρ' H ∧ js.length = vs.length
  | [], vs, ss, σ, ρ, ρ', a, r, f, hw, e => by
    cases ss with
    | nil =>
      simp only [setAll, Option.some.injEq] at e
      subst e
      have := r.rep.length
      exact ⟨a, by simpa using this.symm⟩
    | cons _ _ => simp [setAll] at e
  | j :: js, vs, ss, σ, ρ, ρ', a, r, f, hw, e => by
    cases ss with
    | nil => simp [setAll] at e
    | cons s ss =>
      obtain ⟨rr, tb, dis⟩ := r
      cases rr with
      | cons hv hvs =>
      rename_i v vs
      have e : setAll js ss (ρ.set j (some s)) = some ρ' := e
      have a1 := aftS_set (i := j) a hv (fun o b eb => f 0 s b rfl o (by rw [eb]; rfl)) (hw j List.mem_cons_self)
      have f' : ∀ (k : Nat) (t : SV) b, ss[k]? = some t → t.own = true → vs[k]? = some (.ref b) → ¬ OwnA (σ.set j (some v)) (ρ.set j (some s)) b ∧ H0 b = none := fun k t b h1 o1 b1 => by
        obtain ⟨p1, p2⟩ := f (k + 1) t b (by simpa using h1) o1 (by simpa using b1)
        refine ⟨fun z => ?_, p2⟩
        rcases OwnA.set a.rel.len z with z | ⟨o, eb⟩
        · exact p1 z
        · have := dis 0 (k + 1) s t b rfl (by simpa using h1) o o1 (by rw [eb]; rfl) (by simpa using b1)
          omega
      obtain ⟨a2, hl⟩ := setAll_ok (js := js) a1 ⟨hvs, tb, fun i k s t b h1 h2 o1 o2 b1 b2 => by
          have := dis (i + 1) (k + 1) s t b (by simpa using h1) (by simpa using h2) o1 o2 (by simpa using b1) (by simpa using b2)
          omega⟩ f' (fun k hk => hw k (List.mem_cons_of_mem _ hk)) e
      exact ⟨a2, by simp [hl]⟩
end Q

namespace Q
open PySem PySem.Spec PyProof.Rows L2
variable [LamT]
/-! ### every statement of ours does what it is worth -/
section
variable {C : Call} {Z : ZT} {Γ : Kx}
theorem chk_setC {Γ : Kx} {sc : Scope} {fn : Str → Bool} {e : E} {a b c d} : chk Γ sc fn e (.SetComp a b c d) = false := by cases e <;> rfl
theorem sw_none {sc : Scope} {fn : Str → Bool} {e : E} {v : Expr} (h : chk Γ sc fn e v = true) (hn : ∀ a b c d, v ≠ .ListComp a b c d) (hn2 : ∀ a b c d f, v ≠ .DictComp a b c d f) (t : Option Expr) (l : Nat) (env : PySem.Env) : swapsWith v t l env = pure false := by
  cases v <;> first
    | rfl
    | (rw [chk_setC] at h; cases h)
    | exact absurd rfl (hn _ _ _ _)
    | exact absurd rfl (hn2 _ _ _ _ _)
theorem sw_lc {a b c d} {y : Str} {py : Pos} {l : Nat} {env : PySem.Env} : swapsWith (.ListComp a b c d) (some (.Name y py)) l env = pure (env.blockKind == .function && env.kindOf y == some .local && py.line == d.line && !(c.names.any fun (n, k) => n == y && (k == .local || k == .cell))) := rfl
theorem sw_lcT {a b c d} {es k p} {l : Nat} {env : PySem.Env} : swapsWith (.ListComp a b c d) (some (.Tuple es k p)) l env = pure false := rfl
theorem sw_dc {a b c d f} {y : Str} {py : Pos} {l : Nat} {env : PySem.Env} : swapsWith (.DictComp a b c d f) (some (.Name y py)) l env = pure (env.blockKind == .function && env.kindOf y == some .local && py.line == f.line && !(d.names.any fun (n, k) => n == y && (k == .local || k == .cell))) := rfl
theorem isDc_em (v : Expr) : (∃ a b c d f, v = .DictComp a b c d f) ∨ ∀ a b c d f, v ≠ .DictComp a b c d f := by
  cases v <;> first | exact .inl ⟨_, _, _, _, _, rfl⟩ | exact .inr fun _ _ _ _ _ => nofun
theorem isLc_em (v : Expr) : (∃ a b c d, v = .ListComp a b c d) ∨ ∀ a b c d, v ≠ .ListComp a b c d := by
  cases v <;> first | exact .inl ⟨_, _, _, _, rfl⟩ | exact .inr fun _ _ _ _ => nofun
theorem stB_of {X : Cx} {sc : Scope} {i : Nat} {x : Expr} (c : CtxOk Γ C Z sc (fun _ => true) X) (h : stB Γ sc (fun _ => true) i x = true) : ∃ n p, x = .Name n p ∧ X.N[i]? = some n ∧ Loc X.env.scope n ∧ (X.fn n = true ∨ X.env.scope.names.lookup n = some .local) := by
  cases x with
  | Name n p =>
    simp only [stB, Bool.and_eq_true, decide_eq_true_eq, Bool.or_eq_true] at h
    obtain ⟨⟨⟨h1, h2⟩, h3⟩, h4⟩ := h
    exact ⟨n, p, rfl, by rw [c.N]; exact h1, by rw [c.hsc]; exact loc_of h2, .inl (c.fnX n (okName_lam h4))⟩
  | _ => cases h
/-- a value is stored under a name -/
theorem set_read {K : PySem.W.Frag} {np : Nat} {W : Nat → Prop} {i : Nat} {e : E} {D : Ends} {σ : St} {H : Hp} (hw : W i) (h : ∃ ρ, RelE K σ H ρ ∧ ((ev C false e ρ).bind fun o ρ => setOpd i o ρ).gx (W := zkS W Z σ ρ H) (PoS K np W σ ρ H D)) : tAsg (tFz (tE K Z C false e)) (gName i) D σ H := by
  obtain ⟨ρ, rel, g⟩ := h
  rw [gx_bind] at g
  refine ⟨ρ, rel, g.mono fun o ρ1 g1 v H1 aft ro fr => ?_⟩
  show FzQ (fun H2 => D.nx (σ.set i (some v)) H2) H1
  cases o with
  | v s =>
    refine .done (g1 _ _ (aftS_set (AftS.of aft) ro.1 (fun o a e => ⟨ro.2 o a e, fr o a e⟩) hw))
  | s j =>
    have g1 : ((take (.s j) ρ1).bind fun x ρ => .ok .nx (ρ.set i (some (.d x)))).gx (W := zkS W Z σ ρ H) (PoS K np W σ ρ H D) := g1
    rw [gx_bind] at g1
    refine take_fz aft ro fr g1 fun x ρ2 H2 g2 a2 _ _ rx _ => .done ?_
    exact g2 _ _ (aftS_set (s := .d x) (AftS.of a2) rx (fun z => nomatch z) hw)
theorem set_readLc {K : PySem.W.Frag} {np : Nat} {W : Nat → Prop} {i : Nat} {elt : E} {tg : Tg} {it : It} {cs : Es} {vs : List Nat} {D : Ends} {σ : St} {H : Hp} (hw : W i) (h : ∃ ρ, RelE K σ H ρ ∧ ((ev C false (.lc elt tg it cs vs) ρ).bind fun o ρ => setOpd i o ρ).gx (W := zkS W Z σ ρ H) (PoS K np W σ ρ H D)) :
    ∃ ρ, RelE K σ H ρ ∧ (ev C false (.lc elt tg it cs vs) ρ).gx (W := zk Z σ ρ H) (PoE K σ ρ H fun x H1 => gName i x σ H1 D.nx) := by
  obtain ⟨ρ, rel, g⟩ := h
  rw [gx_bind] at g
  refine ⟨ρ, rel, ?_⟩
  have key : ∀ (r : Res Opd), (∃ x : Res (List PyData), ∃ f : List PyData → Rho → Rho, r = x.bind fun ys ρ => Res.ok (Opd.v (SV.ml ys)) (f ys ρ)) → r.gx (W := zkS W Z σ ρ H) (fun o ρ1 => (setOpd i o ρ1).gx (W := zkS W Z σ ρ H) (PoS K np W σ ρ H D)) → r.gx (W := zk Z σ ρ H) (PoE K σ ρ H fun x H1 => gName i x σ H1 D.nx) := by
    rintro r ⟨x, f, rfl⟩ g
    rw [gx_bind] at g ⊢
    refine g.mono fun ys ρ1 g1 v H1 aft ro fr => ?_
    exact g1 _ _ (aftS_set (AftS.of aft) ro.1 (fun o a e => ⟨ro.2 o a e, fr o a e⟩) hw)
  refine key _ ?_ g
  show ∃ x : Res (List PyData), ∃ f : List PyData → Rho → Rho, ((evI C it ρ).bind fun xs ρ1 => (lcGo (lcStep C elt tg cs vs) xs ρ1).nox.bind fun ys ρ2 => Res.ok (Opd.v (SV.ml ys)) (backR ρ1 ρ2 vs)) = x.bind fun ys ρ => Res.ok (Opd.v (SV.ml ys)) (f ys ρ)
  cases e1 : evI C it ρ with
  | ok xs ρ1 =>
    exact ⟨(lcGo (lcStep C elt tg cs vs) xs ρ1).nox, fun _ ρ2 => backR ρ1 ρ2 vs, rfl⟩
  | exc a b => exact ⟨.exc a b, fun _ ρ => ρ, rfl⟩
  | bad => exact ⟨.bad, fun _ ρ => ρ, rfl⟩
theorem set_readLc2 {K : PySem.W.Frag} {np : Nat} {W : Nat → Prop} {i : Nat} {elt : E} {tg tg1 : Tg} {it it1 : It} {cs cs1 : Es} {vs vs1 : List Nat} {D : Ends} {σ : St} {H : Hp} (hw : W i) (h : ∃ ρ, RelE K σ H ρ ∧ ((ev C false (.lc2 elt tg it cs tg1 it1 cs1 vs vs1) ρ).bind fun o ρ => setOpd i o ρ).gx (W := zkS W Z σ ρ H) (PoS K np W σ ρ H D)) :
    ∃ ρ, RelE K σ H ρ ∧ (ev C false (.lc2 elt tg it cs tg1 it1 cs1 vs vs1) ρ).gx (W := zk Z σ ρ H) (PoE K σ ρ H fun x H1 => gName i x σ H1 D.nx) := by
  obtain ⟨ρ, rel, g⟩ := h
  rw [gx_bind] at g
  refine ⟨ρ, rel, ?_⟩
  have key : ∀ (r : Res Opd), (∃ x : Res (List PyData), ∃ f : List PyData → Rho → Rho, r = x.bind fun ys ρ => Res.ok (Opd.v (SV.ml ys)) (f ys ρ)) → r.gx (W := zkS W Z σ ρ H) (fun o ρ1 => (setOpd i o ρ1).gx (W := zkS W Z σ ρ H) (PoS K np W σ ρ H D)) → r.gx (W := zk Z σ ρ H) (PoE K σ ρ H fun x H1 => gName i x σ H1 D.nx) := by
    rintro r ⟨x, f, rfl⟩ g
    rw [gx_bind] at g ⊢
    refine g.mono fun ys ρ1 g1 v H1 aft ro fr => ?_
    exact g1 _ _ (aftS_set (AftS.of aft) ro.1 (fun o a e => ⟨ro.2 o a e, fr o a e⟩) hw)
  refine key _ ?_ g
  show ∃ x : Res (List PyData), ∃ f : List PyData → Rho → Rho, ((evI C it ρ).bind fun xs ρ1 => (lcOut (lc2Step C elt tg cs tg1 it1 cs1 vs vs1) xs [] ρ1).nox.bind fun ys ρ2 => Res.ok (Opd.v (SV.ml ys)) (backR ρ1 ρ2 vs)) = x.bind fun ys ρ => Res.ok (Opd.v (SV.ml ys)) (f ys ρ)
  cases e1 : evI C it ρ with
  | ok xs ρ1 =>
    exact ⟨(lcOut (lc2Step C elt tg cs tg1 it1 cs1 vs vs1) xs [] ρ1).nox, fun _ ρ2 => backR ρ1 ρ2 vs, rfl⟩
  | exc a b => exact ⟨.exc a b, fun _ ρ => ρ, rfl⟩
  | bad => exact ⟨.bad, fun _ ρ => ρ, rfl⟩
theorem set_readDc {K : PySem.W.Frag} {np : Nat} {W : Nat → Prop} {i : Nat} {kx vx : E} {tg : Tg} {it : It} {cs : Es} {vs : List Nat} {D : Ends} {σ : St} {H : Hp} (hw : W i) (h : ∃ ρ, RelE K σ H ρ ∧ ((ev C false (.dcm kx vx tg it cs vs) ρ).bind fun o ρ => setOpd i o ρ).gx (W := zkS W Z σ ρ H) (PoS K np W σ ρ H D)) :
    ∃ ρ, RelE K σ H ρ ∧ (ev C false (.dcm kx vx tg it cs vs) ρ).gx (W := zk Z σ ρ H) (PoE K σ ρ H fun x H1 => gName i x σ H1 D.nx) := by
  obtain ⟨ρ, rel, g⟩ := h
  rw [gx_bind] at g
  refine ⟨ρ, rel, ?_⟩
  have key : ∀ (r : Res Opd), (∃ x : Res (List (L2.Key × PyData)), ∃ f : List (L2.Key × PyData) → Rho → Rho, r = x.bind fun ys ρ => Res.ok (Opd.v (SV.md ys)) (f ys ρ)) → r.gx (W := zkS W Z σ ρ H) (fun o ρ1 => (setOpd i o ρ1).gx (W := zkS W Z σ ρ H) (PoS K np W σ ρ H D)) → r.gx (W := zk Z σ ρ H) (PoE K σ ρ H fun x H1 => gName i x σ H1 D.nx) := by
    rintro r ⟨x, f, rfl⟩ g
    rw [gx_bind] at g ⊢
    refine g.mono fun ys ρ1 g1 v H1 aft ro fr => ?_
    exact g1 _ _ (aftS_set (AftS.of aft) ro.1 (fun o a e => ⟨ro.2 o a e, fr o a e⟩) hw)
  refine key _ ?_ g
  show ∃ x : Res (List (L2.Key × PyData)), ∃ f : List (L2.Key × PyData) → Rho → Rho, ((evI C it ρ).bind fun xs ρ1 => (dcGo (dcStep C kx vx tg cs vs) xs [] ρ1).nox.bind fun ys ρ2 => Res.ok (Opd.v (SV.md ys)) (backR ρ1 ρ2 vs)) = x.bind fun ys ρ => Res.ok (Opd.v (SV.md ys)) (f ys ρ)
  cases e1 : evI C it ρ with
  | ok xs ρ1 =>
    exact ⟨(dcGo (dcStep C kx vx tg cs vs) xs [] ρ1).nox, fun _ ρ2 => backR ρ1 ρ2 vs, rfl⟩
  | exc a b => exact ⟨.exc a b, fun _ ρ => ρ, rfl⟩
  | bad => exact ⟨.bad, fun _ ρ => ρ, rfl⟩
/-- a tuple is taken apart -/
theorem setT_read {K : PySem.W.Frag} {np : Nat} {W : Nat → Prop} {ts : Tgs} {e : E} {D : Ends} {σ : St} {H : Hp} (hw : ∀ j ∈ ts.slots, W j) (h : ∃ ρ, RelE K σ H ρ ∧ ((ev C false e ρ).bind fun o ρ => setSem (.t ts) o ρ).gx (W := zkS W Z σ ρ H) (PoS K np W σ ρ H D)) : tAsg (tFz (tE K Z C false e)) (gT K (.t ts)) D σ H := by
  obtain ⟨ρ, rel, g⟩ := h
  rw [gx_bind] at g
  refine ⟨ρ, rel, g.mono fun o ρ1 g1 v H1 aft ro fr => ?_⟩
  show FzQ (fun H2 => gT K (.t ts) v σ H2 D.nx) H1
  have g1 : ((take o ρ1).bind fun x ρ => optR (setTg (.t ts) x ρ) fun ρ => .ok .nx ρ).gx (W := zkS W Z σ ρ H) (PoS K np W σ ρ H D) := g1
  rw [gx_bind] at g1
  refine take_fz aft ro fr g1 fun x ρ2 H2 g2 a2 _ _ rx _ => .done ?_
  rw [gx_optR] at g2
  obtain ⟨ρ3, e3, g3⟩ := g2
  refine setTg_ok (.t ts) v x σ ρ2 ρ3 D.nx e3 a2.rel rx fun σ' r' l' k' o' => g3 _ _ ⟨fun _ _ h n _ => a2.kp _ _ h n, r', fun a z => .inl (a2.sub a (o' a z)), a2.trk, fun k hk => k' k fun z => hk (hw k z), l'⟩
theorem ret_read {K : PySem.W.Frag} {np : Nat} {W : Nat → Prop} {e : E} {D : Ends} {σ : St} {H : Hp} (h : ∃ ρ, RelE K σ H ρ ∧ ((ev C false e ρ).bind fun o ρ => retSem np o ρ).gx (W := zkS W Z σ ρ H) (PoS K np W σ ρ H D)) : tRet (tFz (tE K Z C false e)) D σ H := by
  obtain ⟨ρ, rel, g⟩ := h
  rw [gx_bind] at g
  refine ⟨ρ, rel, g.mono fun o ρ1 g1 v H1 aft ro fr => ?_⟩
  show FzQ (D.rt v) H1
  cases o with
  | v s => exact .done (g1 v σ H1 (AftS.of aft) ro.1 fun o a e => .inl (fr o a e))
  | s j =>
    by_cases hj : j < np
    · have g1 : (if j < np then (take (.s j) ρ1).bind fun x ρ => .ok (.ret (.d x)) ρ else optR (gt ρ1 j) fun s => .ok (.ret s) ρ1).gx (W := zkS W Z σ ρ H) (PoS K np W σ ρ H D) := g1
      rw [if_pos hj, gx_bind] at g1
      refine take_fz aft ro fr g1 fun x ρ2 H2 g2 a2 _ _ rx _ => .done ?_
      exact g2 v σ H2 (AftS.of a2) rx fun z => nomatch z
    · have g1 : (if j < np then (take (.s j) ρ1).bind fun x ρ => .ok (.ret (.d x)) ρ else optR (gt ρ1 j) fun s => .ok (.ret s) ρ1).gx (W := zkS W Z σ ρ H) (PoS K np W σ ρ H D) := g1
      rw [if_neg hj, gx_optR] at g1
      obtain ⟨s, e1, g2⟩ := g1
      exact .done (g2 v σ H1 (AftS.of aft) (ro.peek aft.rel e1) fun o a e => .inr ⟨j, s, by omega, e1, o, by rw [← e]; exact ro⟩)
theorem while_read {K : PySem.W.Frag} {np : Nat} {W : Nat → Prop} {c : E} {b : Ss} {D : Ends} {σ : St} {H : Hp} (h : ∃ ρ, RelE K σ H ρ ∧ (whileR (fun ρ => whStep (ev C true c ρ) fun ρ => evSs C np b ρ) ρ).gx (W := zkS W Z σ ρ H) (PoS K np W σ ρ H D)) : tWhile (tTB K Z C c) (tSs K Z C np W b) D σ H := by
  obtain ⟨ρ, rel, g⟩ := h
  unfold whileR at g
  generalize WF = m0 at g
  cases hr : iterW (fun ρ => whStep (ev C true c ρ) fun ρ => evSs C np b ρ) m0 ρ with
  | none => rw [hr] at g; exact False.elim g
  | some r0 =>
  rw [hr] at g
  have g : r0.gx (W := zkS W Z σ ρ H) (PoS K np W σ ρ H D) := g
  refine ⟨fun m σ1 H1 => ∃ ρ1, iterW (fun ρ => whStep (ev C true c ρ) fun ρ => evSs C np b ρ) m ρ1 = some r0 ∧ AftS K W σ ρ H σ1 ρ1 H1, ⟨_, ρ, hr, AftS.refl rel⟩, ?_⟩
  rintro m σ1 H1 ⟨ρ1, e1, a1⟩
  refine ⟨ρ1, a1.rel, ?_⟩
  cases m with
  | zero => simp [iterW] at e1
  | succ m =>
    simp only [iterW, whStep] at e1
    cases eb : boolOf (ev C true c ρ1) with
    | exc e2 ρ2 =>
      simp only [eb, Option.some.injEq] at e1
      subst e1; exact zkS.e (zkS.aft a1 g)
    | bad =>
      simp only [eb, Option.some.injEq] at e1
      subst e1; exact False.elim g
    | ok k ρ2 =>
      intro H2 a2
      have a12 := a1.trans (AftS.of a2)
      cases k with
      | false =>
        simp only [eb, Option.some.injEq] at e1
        subst e1
        rw [if_neg Bool.false_ne_true]
        exact g σ1 H2 a12
      | true =>
        rw [if_pos rfl]
        refine ⟨fun σ3 H3 => ∃ ρ3, iterW (fun ρ => whStep (ev C true c ρ) fun ρ => evSs C np b ρ) m ρ3 = some r0 ∧ AftS K W σ ρ H σ3 ρ3 H3, fun σ3 H3 q => ⟨m, Nat.lt_succ_self m, q⟩, ρ2, a12.rel, ?_⟩
        simp only [eb] at e1
        cases es : evSs C np b ρ2 with
        | exc e2 ρ3 =>
          simp only [es, Option.some.injEq] at e1
          subst e1; exact zkS.aft a12 g
        | bad =>
          simp only [es, Option.some.injEq] at e1
          subst e1; exact False.elim g
        | ok f ρ3 =>
          cases f with
          | nx =>
            simp only [es] at e1
            exact fun σ3 H3 a3 => ⟨ρ3, e1, a12.trans a3⟩
          | cnt =>
            simp only [es] at e1
            exact fun σ3 H3 a3 => ⟨ρ3, e1, a12.trans a3⟩
          | brk =>
            simp only [es, Option.some.injEq] at e1
            subst e1
            exact fun σ3 H3 a3 => g σ3 H3 (a12.trans a3)
          | ret r =>
            simp only [es, Option.some.injEq] at e1
            subst e1
            exact PoS.shift (f := .ret r) g a12
theorem for_read {K : PySem.W.Frag} {np : Nat} {W : Nat → Prop} {tg : Tg} {it : It} {b : Ss} {D : Ends} {σ : St} {H : Hp} (hw : ∀ j ∈ tg.slots, W j) (h : ∃ ρ, RelE K σ H ρ ∧ ((evI C it ρ).bind fun xs ρ => forGo (fun x ρ => optR (setTg tg x ρ) fun ρ => evSs C np b ρ) xs ρ).gx (W := zkS W Z σ ρ H) (PoS K np W σ ρ H D)) : tFor (tI K Z C it) (gT K tg) (tSs K Z C np W b) D σ H := by
  obtain ⟨ρ, rel, g⟩ := h
  rw [gx_bind] at g
  refine ⟨ρ, rel, g.mono fun xs ρ1 g1 J H1 aft Y => ?_⟩
  have a1 := AftS.of (W := W) aft
  refine ⟨fun i m σ2 H2 => m = xs.length - i ∧ i ≤ xs.length ∧ Im H1 H2 ∧ ∃ ρ2, AftS K W σ ρ H σ2 ρ2 H2 ∧ (forGo (fun x ρ => optR (setTg tg x ρ) fun ρ => evSs C np b ρ) (xs.drop i) ρ2).gx (W := zkS W Z σ ρ H) (PoS K np W σ ρ H D), ⟨xs.length, by simp, Nat.zero_le _, Im.refl _, ρ1, a1, by simpa using g1⟩, ?_⟩
  rintro i m σ2 H2 ⟨rfl, hi, im2, ρ2, a2, g2⟩
  by_cases hlt : i < xs.length
  · have hd : xs.drop i = xs[i] :: xs.drop (i + 1) := List.drop_eq_getElem_cons hlt
    rw [hd] at g2
    simp only [forGo] at g2
    rw [gx_bind] at g2
    refine .inr ⟨Y.go i H2 im2 hlt, fun σ3 H3 => i + 1 ≤ xs.length ∧ Im H1 H3 ∧ ∃ ρ3, AftS K W σ ρ H σ3 ρ3 H3 ∧ (forGo (fun x ρ => optR (setTg tg x ρ) fun ρ => evSs C np b ρ) (xs.drop (i + 1)) ρ3).gx (W := zkS W Z σ ρ H) (PoS K np W σ ρ H D), fun σ3 H3 ⟨q1, q2, q3⟩ => ⟨xs.length - (i + 1), by omega, rfl, q1, q2, q3⟩, fun v H3 y => ?_⟩
    obtain ⟨sm, rx⟩ := Y.yld i H2 v H3 xs[i] im2 (by simp [hlt]) y
    have a3 : AftS K W σ ρ H σ2 ρ2 H3 := a2.trans (AftS.of (Aft.same a2.rel sm))
    have im3 : Im H1 H3 := im2.trans (Same.im sm)
    rw [gx_optR] at g2
    obtain ⟨ρ4, e4, g4⟩ := g2
    refine setTg_ok tg v xs[i] σ2 ρ2 ρ4 _ e4 a3.rel rx fun σ4 r4 l4 k4 o4 => ?_
    have a4 : AftS K W σ ρ H σ4 ρ4 H3 := ⟨fun _ _ h n _ => a3.kp _ _ h n, r4, fun a z => a3.sub a (o4 a z), a3.trk, fun k hk => (k4 k fun z => hk (hw k z)).trans (a3.fix k hk), l4.trans a3.len⟩
    refine ⟨ρ4, r4, g4.mono fun f ρ5 g5 => ?_⟩
    have on : (forGo (fun x ρ => optR (setTg tg x ρ) fun ρ => evSs C np b ρ) (xs.drop (i + 1)) ρ5).gx (W := zkS W Z σ ρ H) (PoS K np W σ ρ H D) → ∀ σ' H', AftS K W σ4 ρ4 H3 σ' ρ5 H' → i + 1 ≤ xs.length ∧ Im H1 H' ∧ ∃ ρ3, AftS K W σ ρ H σ' ρ3 H' ∧ (forGo (fun x ρ => optR (setTg tg x ρ) fun ρ => evSs C np b ρ) (xs.drop (i + 1)) ρ3).gx (W := zkS W Z σ ρ H) (PoS K np W σ ρ H D) :=
      fun g σ' H' a5 => ⟨hlt, im3.trans (a5.im r4), ρ5, a4.trans a5, g⟩
    cases f with
    | nx => exact on g5
    | cnt => exact on g5
    | brk => exact fun σ' H' a5 => g5 σ' H' (a4.trans a5)
    | ret r => exact PoS.shift (f := .ret r) g5 a4
  · have e : i = xs.length := by omega
    subst e
    rw [List.drop_length] at g2
    have g2 : (Res.ok Fl.nx ρ2).gx (W := zkS W Z σ ρ H) (PoS K np W σ ρ H D) := g2
    exact .inl ⟨Y.stop H2 im2, g2 σ2 H2 a2⟩
end
end Q

namespace Q
open PySem PySem.Spec PyProof.Rows L2
variable [LamT]
section
variable {C : Call} {Z : ZT} {Γ : Kx}
theorem ixPut_ixN {xs ys : List D} {k : Int} {x : D} (h : ixPut xs k x = some ys) : ∃ j, ixN xs.length k = some j ∧ ys = xs.set j x := by
  unfold ixPut at h
  unfold ixN
  split at h
  · rename_i h0
    rw [if_pos h0]
    split at h
    · rename_i h1
      cases h
      exact ⟨k.toNat, by rw [if_pos h1], rfl⟩
    · cases h
  · rename_i h0
    rw [if_neg h0]
    split at h
    · rename_i h1
      cases h
      exact ⟨_, by rw [if_pos h1], rfl⟩
    · cases h
theorem var_read {K : PySem.W.Frag} {σ : St} {H : Hp} {ρ : Rho} {i : Nat} {s : SV} (rel : RelE K σ H ρ) (e : gt ρ i = some s) {Q : VK} (q : ∀ v, σ[i]? = some (some v) → RepS K H v s → Q v H) : tVar i σ H Q := by
  obtain ⟨v, h1, h2⟩ := rel.at_ i s e
  exact ⟨v, h1, q v h1 h2⟩
/-- a list's or a dict's item is stored -/
def rSetQ : TSet := fun o i v H Q => rSetL o i v H Q ∨ rSetD o i v H Q
theorem set_Q {X : Cx} (hu : X.A.units + 1 < cLine) : PSet X rSetQ := by
  intro pins s σ H o i v ov iv u Q I ro ri rv h
  rcases h with h | h
  · exact set_list pins s σ H o i v ov iv u Q I ro ri rv h
  · exact set_dict hu pins s σ H o i v ov iv u Q I ro ri rv h
theorem sub_read {K : PySem.W.Frag} {np : Nat} {W : Nat → Prop} {i : Nat} {ie e : E} {D : Ends} {σ : St} {H : Hp} (h : ∃ ρ, RelE K σ H ρ ∧ (evS C np (.sub i ie e) ρ).gx (W := zkS W Z σ ρ H) (PoS K np W σ ρ H D)) : tAsg (tFz (tE K Z C false e)) (gSub (tVar i) (tE K Z C false ie) rSetQ) D σ H := by
  obtain ⟨ρ, rel, g⟩ := h
  have g : ((ev C false e ρ).bind fun o ρ => (take o ρ).bind fun x ρ => optR (gt ρ i) fun _ => (ev C false ie ρ).bind fun k ρ => optR (gt ρ i) fun s => optR (peek ρ k) fun t => optR (subSem s t x) fun s' => .ok .nx (ρ.set i (some s'))).gx (W := zkS W Z σ ρ H) (PoS K np W σ ρ H D) := g
  rw [gx_bind] at g
  refine ⟨ρ, rel, g.mono fun o ρ1 g1 v H1 aft ro fr => ?_⟩
  show FzQ (fun H2 => gSub (tVar i) (tE K Z C false ie) rSetQ v σ H2 D.nx) H1
  rw [gx_bind] at g1
  refine take_fz aft ro fr g1 fun x ρ2 H2 g2 a2 _ _ rx _ => .done ?_
  rw [gx_optR] at g2
  obtain ⟨s0, e0, g2⟩ := g2
  rw [gx_bind] at g2
  refine var_read a2.rel e0 fun w hw _ => ⟨ρ2, a2.rel, g2.mono fun k ρ3 g3 z H3 a3 rk _ => ?_⟩
  rw [gx_optR] at g3
  obtain ⟨s, e3, g3⟩ := g3
  rw [gx_optR] at g3
  obtain ⟨t, e4, g3⟩ := g3
  rw [gx_optR] at g3
  obtain ⟨s', e5, g3⟩ := g3
  have rt := rk.peek a3.rel e4
  unfold subSem at e5
  split at e5
  · rename_i xs n
    simp only [Option.map_eq_some_iff] at e5
    obtain ⟨ys, e5, rfl⟩ := e5
    obtain ⟨j, j1, rfl⟩ := ixPut_ixN e5
    have ez : z = .int n := RepS.int rt
    subst ez
    obtain ⟨w', w1, b, us, hb, q2, q3, q4⟩ := a3.rel.at_ i _ e3
    rw [hw] at w1; cases w1
    subst hb
    have rx3 : RepD K H3 v x := rx.im (a3.im a2.rel)
    refine .inl ⟨b, us, n, j, rfl, rfl, q2, by rw [q4.length]; exact j1, ?_⟩
    exact g3 _ _ (AftS.of ((a2.trans a3).trans (own_put a3.rel e3 hw q2 (q4.set rx3 j) (by rw [List.length_set]; exact q3))))
  · rename_i kvs y
    split at e5
    · rename_i kk ek
      split at e5
      · rename_i hz
        cases e5
        obtain ⟨w', w1, b, ks, hb, q2, q3⟩ := a3.rel.at_ i _ e3
        rw [hw] at w1; cases w1
        subst hb
        have rx3 : RepD K H3 v x := rx.im (a3.im a2.rel)
        obtain ⟨rfl, ko, _⟩ := key_rep (show RepD K H3 z y from rt) ek
        refine .inr ⟨b, _, rfl, .inl ⟨ks, kk, q2, rfl, by rw [q3.length, ← sz_eq]; exact hz, rfl⟩, ?_⟩
        exact g3 _ _ (AftS.of ((a2.trans a3).trans (own_putM (s1 := .md (putG kvs kk x)) (u1 := .dK (putK ks kk v)) a3.rel e3 rfl hw q2 (.inr ⟨_, rfl⟩) fun im => ⟨b, _, rfl, upd_same, (q3.put ko rx3).im im⟩)))
      · cases e5
    · cases e5
  · cases e5
theorem app_read {K : PySem.W.Frag} {np : Nat} {W : Nat → Prop} {i : Nat} {e : E} {D : Ends} {σ : St} {H : Hp} (h : ∃ ρ, RelE K σ H ρ ∧ (evS C np (.app i e) ρ).gx (W := zkS W Z σ ρ H) (PoS K np W σ ρ H D)) : tDrop (tBM K "list" rAppend (tVar i) (tFzA (tEs K Z C (.c e .n)))) D σ H := by
  obtain ⟨ρ, rel, g⟩ := h
  have g : (optR (mlAt ρ i) fun _ => (ev C false e ρ).bind fun o ρ => (take o ρ).bind fun x ρ => optR (gt ρ i) fun s => optR (appSem s x) fun s' => .ok .nx (ρ.set i (some s'))).gx (W := zkS W Z σ ρ H) (PoS K np W σ ρ H D) := g
  rw [gx_optR] at g
  obtain ⟨_, e0, g⟩ := g
  have e0 : ∃ xs, gt ρ i = some (.ml xs) := by
    unfold mlAt at e0
    split at e0
    · exact ⟨_, by assumption⟩
    · cases e0
  obtain ⟨xs0, e0⟩ := e0
  rw [gx_bind] at g
  show tVar i σ H (fun x H1 => tyV K "list" x H1 ∧ tFzA (tEs K Z C (.c e .n)) σ H1 fun xs H2 => rAppend x xs H2 fun _ H3 => D.nx σ H3)
  refine var_read rel e0 fun w hw rw0 => ⟨?_, ρ, rel, ?_⟩
  · obtain ⟨b, us, rfl, q2, _⟩ := rw0
    exact .inl ⟨rfl, us, SqL.of q2⟩
  · show ((ev C false e ρ).bind fun x ρ => (evs C .n ρ).bind fun xs ρ => Res.ok (x :: xs) ρ).gx _
    rw [gx_bind]
    refine g.mono fun o ρ1 g1 => ?_
    show ∀ vs H', Aft K σ ρ H ρ1 H' → RepOs K H' σ ρ1 vs [o] → FreshL H vs [o] → FzQ _ H'
    intro vs H1 aft ros frs
    cases ros with
    | @cons v _ _ _ ro r0 _ =>
    cases r0
    rw [gx_bind] at g1
    refine take_fz aft ro (frs 0 v o rfl rfl) g1 fun x ρ2 H2 g2 a2 _ _ rx _ => .done ?_
    rw [gx_optR] at g2
    obtain ⟨s, e2, g2⟩ := g2
    rw [gx_optR] at g2
    obtain ⟨s', e3, g2⟩ := g2
    unfold appSem at e3
    split at e3
    · rename_i xs
      split at e3
      · rename_i hz
        cases e3
        obtain ⟨w', w1, b, us, hb, q2, q3, q4⟩ := a2.rel.at_ i _ e2
        rw [hw] at w1; cases w1
        subst hb
        have hz' : us.length < sizeLine := by rw [q4.length, ← sz_eq]; exact hz
        refine ⟨b, us, v, rfl, rfl, q2, hz', ?_⟩
        exact g2 _ _ (AftS.of (a2.trans (own_put a2.rel e2 hw q2 (q4.append (.cons rx .nil)) (by rw [List.length_append, List.length_singleton]; exact hz'))))
      · cases e3
    · cases e3
section
variable {X : Cx}
def rAugQ (K : PySem.W.Frag) (op : Operator) : TIp := fun x y H Q => ∃ s t r, RepS K H x s ∧ RepS K H y t ∧ augSem op s t = some r ∧ After K H r Q
theorem ip_augQ (op : Operator) : PIp X op (rAugQ X.K op) := by
  intro pins s σ H x y v u Q I rx ry h
  obtain ⟨a, b, r, ra, rb, e, q⟩ := h
  unfold augSem at e
  split at e
  · rename_i i j
    rw [RepS.int (show RepS X.K H x (.d (.int i)) from ra)] at rx
    rw [RepS.int (show RepS X.K H y (.d (.int j)) from rb)] at ry
    cases op <;> first
      | (cases e; exact ip_add pins s σ H _ _ v u Q I rx ry ⟨i, j, rfl, rfl, q.dat (.int _)⟩)
      | (cases e; exact ip_sub pins s σ H _ _ v u Q I rx ry ⟨i, j, rfl, rfl, q.dat (.int _)⟩)
      | cases e
  · rename_i i j
    obtain ⟨e1, k1⟩ := RepS.str (show RepS X.K H x (.d (.str i)) from ra)
    obtain ⟨e2, k2⟩ := RepS.str (show RepS X.K H y (.d (.str j)) from rb)
    subst e1 e2
    cases op <;> first
      | (simp only at e
         split at e
         · rename_i hz
           cases e
           exact iop_add_str pins s σ H _ _ v u Q I rx ry ⟨i, j, rfl, rfl, by rw [← sz_eq]; exact hz, q.dat (.str _ (strOk_app k1 k2 hz))⟩
         · cases e)
      | cases e
  · cases e
end
theorem aug_read {K : PySem.W.Frag} {np : Nat} {W : Nat → Prop} {i : Nat} {op : Operator} {e : E} {D : Ends} {σ : St} {H : Hp} (hw : W i) (h : ∃ ρ, RelE K σ H ρ ∧ (evS C np (.aug i op e) ρ).gx (W := zkS W Z σ ρ H) (PoS K np W σ ρ H D)) : tAug i (tE K Z C false e) (rAugQ K op) D σ H := by
  obtain ⟨ρ, rel, g⟩ := h
  have g : (optR (gt ρ i) fun s => (ev C false e ρ).bind fun o ρ => optR (peek ρ o) fun t => optR (augSem op s t) fun r => .ok .nx (ρ.set i (some r))).gx (W := zkS W Z σ ρ H) (PoS K np W σ ρ H D) := g
  rw [gx_optR] at g
  obtain ⟨s, e0, g⟩ := g
  rw [gx_bind] at g
  obtain ⟨w, w1, w2⟩ := rel.at_ i s e0
  refine ⟨w, w1, ρ, rel, g.mono fun o ρ1 g1 v H1 aft ro fr => ?_⟩
  rw [gx_optR] at g1
  obtain ⟨t, e1, g1⟩ := g1
  rw [gx_optR] at g1
  obtain ⟨r, e2, g1⟩ := g1
  have rd : RepS K H1 w s := by
    cases s with
    | d x => exact RepD.im (aft.im rel) w2
    | _ => simp [augSem] at e2
  refine ⟨s, t, r, rd, ro.peek aft.rel e1, e2, fun z H2 sm rs fz => ?_⟩
  have a2 := aft.trans (Aft.same aft.rel sm)
  refine g1 _ _ (aftS_set (AftS.of a2) rs (fun o a ea => ⟨fun q => ?_, aft.trk a (fz o a ea)⟩) hw)
  have := fz o a ea
  rcases q.lst aft.rel with ⟨us, hh⟩ | ⟨us, hh⟩ <;> (rw [hh] at this; cases this)
theorem ex_read {K : PySem.W.Frag} {np : Nat} {W : Nat → Prop} {e : E} {D : Ends} {σ : St} {H : Hp} (h : ∃ ρ, RelE K σ H ρ ∧ (evS C np (.ex e) ρ).gx (W := zkS W Z σ ρ H) (PoS K np W σ ρ H D)) : tDrop (tE K Z C false e) D σ H := by
  obtain ⟨ρ, rel, g⟩ := h
  have g : ((ev C false e ρ).bind fun _ ρ => .ok .nx ρ).gx (W := zkS W Z σ ρ H) (PoS K np W σ ρ H D) := g
  rw [gx_bind] at g
  exact ⟨ρ, rel, g.mono fun o ρ1 g1 v H1 aft ro fr => g1 σ H1 (AftS.of aft)⟩
/-- several names from a display -/
theorem par_read {K : PySem.W.Frag} {np : Nat} {W : Nat → Prop} {js : List Nat} {es : Es} {D : Ends} {σ : St} {H : Hp} (hw : ∀ j ∈ js, W j) (h : ∃ ρ, RelE K σ H ρ ∧ (evS C np (.par js es) ρ).gx (W := zkS W Z σ ρ H) (PoS K np W σ ρ H D)) :
    ∃ ρ, RelE K σ H ρ ∧ (evs C es ρ).gx (W := zk Z σ ρ H) fun os ρ' => os.length = es.len ∧ ∀ vs H', Aft K σ ρ H ρ' H' → RepOs K H' σ ρ' vs os → FreshL H vs os → FzQ (fun H2 => vs.length = os.length ∧ js.length = vs.length ∧ ∀ H3, Same H2 H3 → D.nx (setSt js vs σ) H3) H' := by
  obtain ⟨ρ, rel, g⟩ := h
  have g : ((evs C es ρ).bind fun os ρ => (movesR os ρ).bind fun ss ρ => optR (setAll js ss ρ) fun ρ => .ok .nx ρ).gx (W := zkS W Z σ ρ H) (PoS K np W σ ρ H D) := g
  rw [gx_bind] at g
  refine ⟨ρ, rel, (evs_len g).mono fun os ρ1 ⟨l1, g1⟩ => ⟨l1, fun vs H1 aft ro fr => ?_⟩⟩
  rw [gx_bind] at g1
  refine moves_fz aft ro fr g1 fun ss ρ2 H2 g2 a2 _ _ _ ra f => .done ⟨ro.length, ?_⟩
  rw [gx_optR] at g2
  obtain ⟨ρ3, e3, g3⟩ := g2
  obtain ⟨a3, l3⟩ := setAll_ok (AftS.of (W := W) a2) ra (fun j s a h1 h2 h3 => ⟨(f j s a h1 h2 h3).1, (f j s a h1 h2 h3).2.1⟩) hw e3
  exact ⟨l3, fun H3 sm => g3 _ _ (a3.trans (AftS.of (Aft.same a3.rel sm)))⟩
end
end Q

namespace Q
open PySem PySem.Spec PyProof.Rows L2
variable [LamT]
section
variable {C : Call} {Z : ZT} {Γ : Kx} {X : Cx} {sc : Scope}
theorem blk_fn (c : CtxOk Γ C Z sc (fun _ => true) X) : X.env.blockKind = .function := by
  unfold Env.blockKind
  rw [c.hsc, c.kind]; rfl
theorem star_none : ∀ {es : Es} {vs : List Expr}, chkEs Γ sc (fun _ => true) es vs = true → (vs.any fun | .Starred .. => true | _ => false) = false
  | .n, [], _ => rfl
  | .n, _ :: _, h => by cases h
  | .c _ _, [], h => by cases h
  | .c a r, v :: vs, h => by
    simp only [chkEs, Bool.and_eq_true] at h
    rw [List.any_cons, star_none h.2, Bool.or_false]
    cases v <;> first | rfl | (have := h.1; rw [chk_star] at this; cases this)
/-- no exchange of the stores -/
theorem sw_stores_none (c : CtxOk Γ C Z sc (fun _ => true) X) {es : Es} {ts vs : List Expr} {k1 p1 k2 p2} (he : chkEs Γ sc (fun _ => true) es vs = true) (h : swNone sc ts vs = true) : swappedStores [.Tuple ts k1 p1] (.Tuple vs k2 p2) X.env = pure none := by
  have hb := blk_fn c
  obtain rfl := c.hsc
  unfold swappedStores
  simp only [hb]
  unfold swNone at h
  simp only [Bool.or_eq_true] at h
  by_cases h1 : (!(ts.length == 2 || ts.length == 3) || vs.length != ts.length) = true
  · exact if_pos (by rw [h1]; rfl)
  · refine (if_neg (by rw [Bool.not_eq_true] at h1; rw [h1]; decide)).trans ?_
    refine (if_neg fun z => Bool.false_ne_true ((star_none he).symm.trans z)).trans ?_
    rcases h with (h | h) | h
    · exact absurd (by simpa using h) h1
    · exact if_pos (show ((swNames X.env.scope ts).length != ts.length || (swNames X.env.scope ts).eraseDups.length != (swNames X.env.scope ts).length) = true from by simpa using h)
    · by_cases h2 : ((swNames X.env.scope ts).length != ts.length || (swNames X.env.scope ts).eraseDups.length != (swNames X.env.scope ts).length) = true
      · exact if_pos h2
      · exact (if_neg h2).trans (if_pos h)
/-- the stores exchanged -/
theorem sw_stores_some (c : CtxOk Γ C Z sc (fun _ => true) X) {es : Es} {ts vs : List Expr} {k1 p1 k2 p2} (he : chkEs Γ sc (fun _ => true) es vs = true) (h : swNone sc ts vs = false) (hc : vs.all (constantsAlone 8) = false) : swappedStores [.Tuple ts k1 p1] (.Tuple vs k2 p2) X.env = pure (some (swNames sc ts)) ∧ (swNames sc ts).length = ts.length ∧ ts.length = vs.length := by
  have hb := blk_fn c
  obtain rfl := c.hsc
  unfold swNone at h
  simp only [Bool.or_eq_false_iff] at h
  obtain ⟨⟨h1, h2⟩, h3⟩ := h
  refine ⟨?_, ?_, ?_⟩
  · unfold swappedStores
    simp only [hb]
    refine (if_neg (by rw [h1.1, h1.2]; decide)).trans ?_
    refine (if_neg fun z => Bool.false_ne_true ((star_none he).symm.trans z)).trans ?_
    refine (if_neg (show ¬ ((swNames X.env.scope ts).length != ts.length || (swNames X.env.scope ts).eraseDups.length != (swNames X.env.scope ts).length) = true from by rw [h2.1, h2.2]; decide)).trans ?_
    refine (if_neg (by rw [h3]; decide)).trans ?_
    exact if_neg (by rw [hc]; decide)
  · simpa using h2.1
  · have := h1.2
    simp at this
    exact this.symm
theorem swNames_at : ∀ {ts : List Expr} {js : List Nat} {l : Nat}, chkTs Γ sc (fun _ => true) (js.foldr (fun j r => .c (.n j) r) .n) ts = true → (ts.filterMap fun
    | .Name id pos => if (sc.names.lookup id == some .local) && (pos.line == l) then some id else none
    | _ => none).length = ts.length → (∀ t ∈ ts, ∃ n p, t = .Name n p ∧ sc.names.lookup n = some .local) ∧ (ts.filterMap fun
    | .Name id pos => if (sc.names.lookup id == some .local) && (pos.line == l) then some id else none
    | _ => none) = ts.filterMap fun
    | .Name id _ => some id
    | _ => none := by
  intro ts
  induction ts with
  | nil => intro js l h hl; exact ⟨fun t ht => by simp at ht, rfl⟩
  | cons t ts ih =>
    intro js l h hl
    cases js with
    | nil => cases h
    | cons j js =>
      simp only [List.foldr_cons, chkTs, Bool.and_eq_true] at h
      obtain ⟨h1, h2⟩ := h
      have h1 : stB Γ sc (fun _ => true) j t = true := h1
      cases t with
      | Name n p =>
        rw [List.filterMap_cons] at hl
        by_cases hc : ((sc.names.lookup n == some .local) && (p.line == l)) = true
        · simp only [hc, if_true, List.length_cons] at hl
          obtain ⟨a, b⟩ := ih (l := l) h2 (by omega)
          refine ⟨fun t ht => ?_, ?_⟩
          · rcases List.mem_cons.mp ht with rfl | ht
            · refine ⟨n, p, rfl, ?_⟩
              simp only [Bool.and_eq_true, beq_iff_eq] at hc
              exact hc.1
            · exact a t ht
          · rw [List.filterMap_cons, List.filterMap_cons]
            simp only [hc, if_true]
            rw [b]
        · simp only [hc, Bool.false_eq_true, if_false, List.length_cons] at hl
          have : ts.length + 1 ≤ ts.length := by
            rw [← hl]
            exact List.length_filterMap_le _ _
          exact absurd this (Nat.not_succ_le_self _)
      | _ => cases h1
end
end Q

namespace Q
open PySem PySem.Spec PyProof.Rows L2
variable [LamT]
section
variable {C : Call} {Z : ZT} {Γ : Kx} {X : Cx} {sc : Scope}
theorem tgs_len (js : List Nat) : (js.foldr (fun j r => Tgs.c (.n j) r) .n).len = js.length := by
  induction js with
  | nil => rfl
  | cons j r ih => simp [Tgs.len, ih]
theorem gTs_par {K : PySem.W.Frag} : ∀ {js : List Nat} {vs : List V} {σ : St} {H : Hp} {Q : St → Hp → Prop}, js.length = vs.length → Q (setSt js vs σ) H → gTs K (js.foldr (fun j r => Tgs.c (.n j) r) .n) vs σ H Q
  | [], [], σ, H, Q, _, q => ⟨rfl, q⟩
  | [], _ :: _, σ, H, Q, h, _ => by simp at h
  | _ :: _, [], σ, H, Q, h, _ => by simp at h
  | j :: js, v :: vs, σ, H, Q, h, q => ⟨v, vs, rfl, gTs_par (js := js) (by simpa using h) q⟩
/-- from a display in order -/
theorem par_plain {K : PySem.W.Frag} {np : Nat} {W : Nat → Prop} {js : List Nat} {es : Es} {D : Ends} {σ : St} {H : Hp} (hl : es.len ≤ 1000) (hw : ∀ j ∈ js, W j) (h : ∃ ρ, RelE K σ H ρ ∧ (evS C np (.par js es) ρ).gx (W := zkS W Z σ ρ H) (PoS K np W σ ρ H D)) : tAsg (tTup (tFzA (tEs K Z C es))) (gTup K js.length (gTs K (js.foldr (fun j r => Tgs.c (.n j) r) .n))) D σ H := by
  obtain ⟨ρ, rel, g⟩ := par_read hw h
  refine ⟨ρ, rel, g.mono fun os ρ1 ⟨l1, g1⟩ vs H1 aft ro fr => FzQ.mono (g1 vs H1 aft ro fr) fun H2 ⟨l2, l3, q⟩ => ⟨by rw [l2, l1]; exact small_line hl, fun p hp => ?_⟩⟩
  exact ⟨p, vs, rfl, SqT.of upd_same, l3.symm, gTs_par l3 (q _ (same_upd hp))⟩
theorem par_two {K : PySem.W.Frag} {np : Nat} {W : Nat → Prop} {i j : Nat} {es : Es} {D : Ends} {σ : St} {H : Hp} (hw : ∀ k ∈ [i, j], W k) (h : ∃ ρ, RelE K σ H ρ ∧ (evS C np (.par [i, j] es) ρ).gx (W := zkS W Z σ ρ H) (PoS K np W σ ρ H D)) : tPar i j (tFzA (tEs K Z C es)) D σ H := by
  obtain ⟨ρ, rel, g⟩ := par_read hw h
  refine ⟨ρ, rel, g.mono fun os ρ1 ⟨l1, g1⟩ vs H1 aft ro fr => FzQ.mono (g1 vs H1 aft ro fr) fun H2 ⟨l2, l3, q⟩ => ?_⟩
  match vs, l3, q with
  | [v, w], _, q => exact ⟨v, w, rfl, q _ (Same.refl _)⟩
  | [], l3, _ => simp at l3
  | [_], l3, _ => simp at l3
  | _ :: _ :: _ :: _, l3, _ => simp at l3
theorem par_three {K : PySem.W.Frag} {np : Nat} {W : Nat → Prop} {i j l : Nat} {es : Es} {D : Ends} {σ : St} {H : Hp} (hw : ∀ k ∈ [i, j, l], W k) (h : ∃ ρ, RelE K σ H ρ ∧ (evS C np (.par [i, j, l] es) ρ).gx (W := zkS W Z σ ρ H) (PoS K np W σ ρ H D)) : tPar3 i j l (tFzA (tEs K Z C es)) D σ H := by
  obtain ⟨ρ, rel, g⟩ := par_read hw h
  refine ⟨ρ, rel, g.mono fun os ρ1 ⟨l1, g1⟩ vs H1 aft ro fr => FzQ.mono (g1 vs H1 aft ro fr) fun H2 ⟨l2, l3, q⟩ => ?_⟩
  match vs, l3, q with
  | [u, v, w], _, q => exact ⟨u, v, w, rfl, q _ (Same.refl _)⟩
  | [], l3, _ => simp at l3
  | [_], l3, _ => simp at l3
  | [_, _], l3, _ => simp at l3
  | _ :: _ :: _ :: _ :: _, l3, _ => simp at l3
theorem ne_slots {i j : Nat} {n m : Str} (c : CtxOk Γ C Z sc (fun _ => true) X) (h1 : X.N[i]? = some n) (h2 : X.N[j]? = some m) (h : [i, j].Nodup) : i ≠ j := by
  simp only [List.nodup_cons, List.mem_singleton] at h
  exact h.1
theorem shape_par {js : List Nat} {es : Es} {st : Stmt} (h : chkS Γ sc (.par js es) st = true) : ∃ ts k1 p1 vs k2 p2 pos, st = .Assign [.Tuple ts k1 p1] (.Tuple vs k2 p2) pos := by
  unfold chkS at h
  split at h
  · exact ⟨_, _, _, _, _, _, _, rfl⟩
  · cases h
theorem shape_sub {i : Nat} {a b : E} {st : Stmt} (h : chkS Γ sc (.sub i a b) st = true) : ∃ x k p v pos, st = .Assign [.Subscript x k p] v pos := by
  unfold chkS at h
  split at h
  · exact ⟨_, _, _, _, _, rfl⟩
  · cases h
theorem shape_app {i : Nat} {a : E} {st : Stmt} (h : chkS Γ sc (.app i a) st = true) : ∃ x m p v q pos, st = .Expr (.Call (.Attribute x m p) [v] [] q) pos := by
  unfold chkS at h
  split at h
  · exact ⟨_, _, _, _, _, _, rfl⟩
  · cases h
/-- an exception of a class of the program is made -/
theorem pmk_ownN {X : Cx} {Cl : Addr} {bmL : List Value} {Bn newI initI : String} {y : Str} {ae : Expr} {tz : TE} {pp posn : Pos} (Fx : ExcBaseFacts Bn newI initI bmL) (qx : PySem.W.excIn X.K Cl bmL newI = true) (gx : X.mg y = some (.ref Cl)) (kx : PySem.W.keepIn X.K (.ref Cl) = true) (rx : Raises X (.ref Cl)) (hgl : Gl X y)
    (hae : PE X ae tz) (hst : starEach [ae] X.env = (false, eval ae X.env) :: starEach [] X.env := by rfl) (hdbg : (y == ("__debug__" : Str)) = false := by decide) :
    L2N.PMk X (.Call (.Name y pp) [ae] [] posn) (fun σ H Q => tz σ H fun _ H1 => Q (.ref Cl) none H1) := by
  intro pins s σ H Q I h
  refine wpAny_Call_Name_kw (ld_glob I hgl gx ?_ hdbg)
  refine PySem.W.callWith_K (h₀ := X.base) I.ok.mod.kin kx ?_ hst (by rfl)
  rw [hst]
  show wpAny _ _ (spliced ((false, eval ae X.env) :: backTo posn (starEach [] X.env))) _ _ s
  refine Calls.spliced_cons (thn (hae.run pins s σ H _ I h) fun u s1 ⟨v, H1, I1, r1, q1⟩ => ?_)
  refine Calls.spliced_nil ⟨I1.kIn, ?_⟩
  show wpAny _ _ (call (.ref Cl) [u]) _ _ _
  obtain ⟨_, _, _, _, _, _, _, _, _, _, _, _, _, _, _, _, _, hC, hN, hni, T⟩ := exc_obj I1.kIn qx
  refine wpAny_call_exc_subT Fx T hC hN hni (fun h' e hm => ?_) (by show 1 ≤ sizeLine; rw [sizeLine_eq]; omega)
  exact L2N.mk_of I1 hm rx q1 (I1.hok.gone hm.new)
theorem shape_raise {k : String} {e : E} {st : Stmt} (h : chkS Γ sc (.raise k e) st = true) : ∃ x p a pos p2, st = .Raise (some (.Call (.Name x p) [a] [] pos)) none p2 := by
  simp only [chkS] at h
  split at h
  · exact ⟨_, _, _, _, _, rfl⟩
  · cases h
mutual
theorem ok_s {W : Nat → Prop} {np : Nat} : ∀ (s : S) {Z : ZT} (X : Cx) (sc : Scope) (st : Stmt), CtxOk Γ C Z sc (fun _ => true) X → PassesOwn (model X.prog X.w) X.A X.env X.xe → chkS Γ sc s st = true → (∀ j ∈ wrS s, W j) → PS X st (tS X.K Z C np W s)
  | .set tg e, Z, X, sc, st, c, hp, h, hw => by
    cases st with
    | Assign ts v pos =>
      match ts, h with
      | [], h => cases h
      | _ :: _ :: _, h => cases h
      | [t], h =>
        simp only [chkS, Bool.and_eq_true] at h
        obtain ⟨⟨h1, h2⟩, h3⟩ := h
        cases tg with
        | t ts =>
          cases t with
          | Tuple es k p =>
            have hs : swapsWithSole [.Tuple es k p] v pos.line X.env = pure false := by
              rcases isLc_em v with ⟨a, b, c', d, rfl⟩ | hn
              · rfl
              · rcases isDc_em v with ⟨a, b, c', d, f, rfl⟩ | hn2
                · rfl
                · exact sw_none h2 hn hn2 (some (.Tuple es k p)) pos.line X.env
            have hst : swappedStores [.Tuple es k p] v X.env = pure none := by
              cases v <;> first | rfl | cases h3
            exact PS.weak (ps_asg (pe_fz (ok_e e X sc _ v c h2).1) (pg_T c (.t ts) _ h1) hs hst (by rw [chkT_shape h1]; rfl)) fun D σ H g => setT_read (fun j hj => hw j hj) g
          | _ => cases h1
        | n i =>
          obtain ⟨n, p, rfl, s1, s2, s3⟩ := stB_of c (show stB Γ sc (fun _ => true) i t = true from h1)
          have hwi : W i := hw i (by simp [wrS, Tg.slots])
          have plain : swapsWith v (some (.Name n p)) pos.line X.env = pure false → PS X (.Assign [.Name n p] v pos) (tS X.K Z C np W (.set (.n i) e)) := fun hs =>
            PS.weak (ps_set (by rw [c.N]; exact c.nd) s1 s2 (pe_fz (ok_e e X sc _ v c h2).1) hs s3) fun D σ H g => set_read hwi g
          rcases isLc_em v with ⟨y, gens, scope, q, rfl⟩ | hn
          · have hsw := sw_lc (a := y) (b := gens) (c := scope) (d := q) (y := n) (py := p) (l := pos.line) (env := X.env)
            cases hb : (X.env.blockKind == .function && X.env.kindOf n == some .local && p.line == q.line && !(scope.names.any fun (m, k) => m == n && (k == .local || k == .cell))) with
            | false => rw [hb] at hsw; exact plain hsw
            | true =>
              rw [hb] at hsw
              have hyl : X.env.scope.names.lookup n = some .local := by
                simp only [Bool.and_eq_true, beq_iff_eq] at hb
                exact hb.1.1.2
              cases e with
              | lc elt tg it cs vs =>
                match gens, h2, hsw with
                | [⟨t, i', ifs, n'⟩], h2, hsw =>
                  simp only [chk, Bool.and_eq_true, decide_eq_true_eq] at h2
                  obtain ⟨⟨⟨⟨⟨⟨⟨⟨rfl, h1'⟩, h2'⟩, h3'⟩, h4⟩, h5⟩, h6⟩, h7⟩, h8⟩ := h2
                  have b := blkOk_by h3'
                  have cb := fun s H Cl cl fp => blk_ok c b s H Cl cl fp
                  refine PS.weak (ps_setLc (own := ownN Γ vs) (g := gT X.K tg) (tt := tCs X.K Z0 C cs) (te := tFz (tE X.K Z0 C false elt)) c.calm (by rw [c.N]; exact c.nd) s1 hyl hsw (ok_i it X sc _ t i' c h4) (by rw [c.N, c.hsc]; exact b)
                    (fun s H Cl cl fp => pg_T (cb s H Cl cl fp) tg t h5) (fun s H Cl cl fp => ok_cs cs _ _ _ ifs (cb s H Cl cl fp) h6 h7) (fun s H Cl cl fp => pe_fz (ok_e elt _ _ _ y (cb s H Cl cl fp) h8).1) (fun v => foldI_of h4 _ v)) fun D σ H g => ?_
                  rw [own_snd]
                  exact lc_read (fun j hj => by simpa using List.all_eq_true.mp h2' j hj) (set_readLc hwi g)
                | [], h2, _ => cases h2
                | ⟨_, _, _, _⟩ :: _ :: _, h2, _ => cases h2
              | lc2 elt tg it cs tg1 it1 cs1 vs vs1 =>
                match gens, h2, hsw with
                | [⟨t, i', ifs, n'⟩, ⟨t1, i1', ifs1, n1'⟩], h2, hsw =>
                  simp only [chk, Bool.and_eq_true, decide_eq_true_eq] at h2
                  obtain ⟨⟨⟨⟨⟨⟨⟨⟨⟨⟨⟨⟨⟨⟨⟨rfl, rfl⟩, k1⟩, k2⟩, k2'⟩, k2''⟩, k3⟩, k4⟩, k5⟩, k6⟩, k7⟩, k8⟩, k9⟩, k10⟩, k11⟩, k12⟩ := h2
                  have b := blkOk_by k3
                  have cb := fun s H Cl cl fp => blk_ok c b s H Cl cl fp
                  refine PS.weak (ps_setLc2 (own := ownN Γ vs) (vs1 := vs1) (wi1 := tI X.K Z0 C it1) (g := gT X.K tg) (tt := tCs X.K Z0 C cs) (g1 := gT X.K tg1) (tt1 := tCs X.K Z0 C cs1) (te := tFz (tE X.K Z0 C false elt)) c.calm (by rw [c.N]; exact c.nd) s1 hyl hsw (ok_i it X sc _ t i' c k4) (by rw [c.N, c.hsc]; exact b) (by rw [own_snd]; exact fun j hj => by simpa using List.all_eq_true.mp k2'' j hj)
                    (fun s H Cl cl fp => pg_T (cb s H Cl cl fp) tg t k5) (fun s H Cl cl fp => ok_cs cs _ _ _ ifs (cb s H Cl cl fp) k6 k7)
                    (fun s H Cl cl fp => ok_i it1 _ _ _ t1 i1' (cb s H Cl cl fp) k8) (fun s H Cl cl fp => pg_T (cb s H Cl cl fp) tg1 t1 k9) (fun s H Cl cl fp => ok_cs cs1 _ _ _ ifs1 (cb s H Cl cl fp) k10 k11)
                    (fun s H Cl cl fp => pe_fz (ok_e elt _ _ _ y (cb s H Cl cl fp) k12).1) (fun v => foldI_of k4 _ v) (fun env v => foldI_of k8 env v)) fun D σ H g => ?_
                  rw [own_snd]
                  exact lc2_read (fun j hj => by simpa using List.all_eq_true.mp k2 j hj) (fun j hj => by simpa using List.all_eq_true.mp k2' j hj) (fun j hj => by simpa using List.all_eq_true.mp k2'' j hj) (set_readLc2 hwi g)
                | [], h2, _ => cases h2
                | [⟨_, _, _, _⟩], h2, _ => cases h2
                | ⟨_, _, _, _⟩ :: ⟨_, _, _, _⟩ :: _ :: _, h2, _ => cases h2
              | _ => cases h2
          · rcases isDc_em v with ⟨kk, y, gens, scope, q, rfl⟩ | hn2
            · have hsw := sw_dc (a := kk) (b := y) (c := gens) (d := scope) (f := q) (y := n) (py := p) (l := pos.line) (env := X.env)
              cases hb : (X.env.blockKind == .function && X.env.kindOf n == some .local && p.line == q.line && !(scope.names.any fun (m, k) => m == n && (k == .local || k == .cell))) with
              | false => rw [hb] at hsw; exact plain hsw
              | true =>
                rw [hb] at hsw
                have hyl : X.env.scope.names.lookup n = some .local := by
                  simp only [Bool.and_eq_true, beq_iff_eq] at hb
                  exact hb.1.1.2
                cases e <;> try (cases h2)
                rename_i kx vx tg it cs vs
                match gens, h2, hsw with
                | [⟨t, i', ifs, n'⟩], h2, hsw =>
                  simp only [chk, Bool.and_eq_true, decide_eq_true_eq] at h2
                  obtain ⟨⟨⟨⟨⟨⟨⟨⟨⟨rfl, h1'⟩, h2'⟩, h3'⟩, h4⟩, h5⟩, h6⟩, h7⟩, h8⟩, h9⟩ := h2
                  have b := blkOk_by h3'
                  have cb := fun s H Cl cl fp => blk_ok c b s H Cl cl fp
                  refine PS.weak (ps_setDc (own := ownN Γ vs) (g := gT X.K tg) (tt := tCs X.K Z0 C cs) (tk := tFz (tE X.K Z0 C false kx)) (tv := tFz (tE X.K Z0 C false vx)) c.calm (by rw [c.N]; exact c.nd) s1 hyl hsw (ok_i it X sc _ t i' c h4) (by rw [c.N, c.hsc]; exact b)
                    (fun s H Cl cl fp => pg_T (cb s H Cl cl fp) tg t h5) (fun s H Cl cl fp => ok_cs cs _ _ _ ifs (cb s H Cl cl fp) h6 h7) (fun s H Cl cl fp => pe_fz (ok_e kx _ _ _ kk (cb s H Cl cl fp) h8).1) (fun s H Cl cl fp => pe_fz (ok_e vx _ _ _ y (cb s H Cl cl fp) h9).1) (fun v => foldI_of h4 _ v)) fun D σ H g => ?_
                  rw [own_snd]
                  exact dc_read (fun j hj => by simpa using List.all_eq_true.mp h2' j hj) (set_readDc hwi g)
                | [], h2, _ => cases h2
                | ⟨_, _, _, _⟩ :: _ :: _, h2, _ => cases h2
            · exact plain (sw_none h2 hn hn2 _ _ _)
    | _ => cases h
  | .par js es, Z, X, sc, st, c, hp, h, hw => by
      obtain ⟨ts, k1, p1, vs, k2, p2, pos, rfl⟩ := shape_par h
      have h := h
      · simp only [chkS, Bool.and_eq_true, decide_eq_true_eq] at h
        obtain ⟨⟨⟨⟨h1, h2⟩, h3⟩, h4⟩, h5⟩ := h
        have hl := chkEs_len h2
        have hw' : ∀ j ∈ js, W j := hw
        have hs : swapsWithSole [.Tuple ts k1 p1] (.Tuple vs k2 p2) pos.line X.env = pure false := rfl
        cases hsn : swNone sc ts vs with
        | true =>
          have h1' := chkTs_each X.env h1
          refine PS.weak (ps_asg (pe_tup (pa_fz (ok_es es X sc _ vs c h2))) (pg_tup (n := js.length) c.calm (pg_Ts c _ ts h1) (by rw [h1'.1, tgs_len]) h1'.2) hs (sw_stores_none c h2 hsn) rfl) fun D σ H g => par_plain (by rw [← hl]; exact h4) hw' g
        | false =>
          rw [hsn] at h5
          simp only [Bool.false_eq_true, false_or, Bool.and_eq_true, Bool.or_eq_true, decide_eq_true_eq, Bool.not_eq_true', beq_iff_eq] at h5
          obtain ⟨⟨hlen, hca⟩, hnd⟩ := h5
          obtain ⟨q1, q2, q3⟩ := sw_stores_some (k1 := k1) (p1 := p1) (k2 := k2) (p2 := p2) c h2 hsn hca
          obtain ⟨r1, r2⟩ := swNames_at h1 (show _ = _ from q2)
          have r2 : swNames sc ts = _ := r2
          rw [r2] at q1
          have hjl : ts.length = js.length := by rw [chkTs_len h1, tgs_len]
          match ts, vs, js, hlen, hjl, h3, h1, h2, hs, hw', hnd, r1, q1 with
          | [t1, t2], [v1, v2], [i, j], _, _, _, h1, h2, hs, hw', hnd, r1, q1 =>
            obtain ⟨x, px, rfl, hx⟩ := r1 t1 (by simp)
            obtain ⟨y, py, rfl, hy⟩ := r1 t2 (by simp)
            simp only [List.foldr_cons, List.foldr_nil, chkTs, Bool.and_eq_true] at h1
            obtain ⟨_, _, e1, i1, i2, i3⟩ := stB_of c (show stB Γ sc (fun _ => true) i (.Name x px) = true from h1.1)
            obtain ⟨_, _, e2, j1, j2, j3⟩ := stB_of c (show stB Γ sc (fun _ => true) j (.Name y py) = true from h1.2.1)
            cases e1; cases e2
            refine PS.weak (ps_par c.calm (by rw [c.N]; exact c.nd) i1 j1 (ne_slots c i1 j1 hnd) (by rw [c.hsc]; exact hx) (by rw [c.hsc]; exact hy) (pa_fz (ok_es es X sc _ [v1, v2] c h2)) q1 hs) fun D σ H g => par_two hw' g
          | [t1, t2, t3], [v1, v2, v3], [i, j, l], _, _, _, h1, h2, hs, hw', hnd, r1, q1 =>
            obtain ⟨x, px, rfl, hx⟩ := r1 t1 (by simp)
            obtain ⟨y, py, rfl, hy⟩ := r1 t2 (by simp)
            obtain ⟨z, pz, rfl, hz⟩ := r1 t3 (by simp)
            simp only [List.foldr_cons, List.foldr_nil, chkTs, Bool.and_eq_true] at h1
            obtain ⟨_, _, e1, i1, i2, i3⟩ := stB_of c (show stB Γ sc (fun _ => true) i (.Name x px) = true from h1.1)
            obtain ⟨_, _, e2, j1, j2, j3⟩ := stB_of c (show stB Γ sc (fun _ => true) j (.Name y py) = true from h1.2.1)
            obtain ⟨_, _, e3, l1, l2, l3⟩ := stB_of c (show stB Γ sc (fun _ => true) l (.Name z pz) = true from h1.2.2.1)
            cases e1; cases e2; cases e3
            simp only [List.nodup_cons, List.mem_cons, List.not_mem_nil, or_false, not_or] at hnd
            refine PS.weak (ps_par3 c.calm (by rw [c.N]; exact c.nd) i1 j1 l1 hnd.1.1 hnd.1.2 hnd.2.1 (by rw [c.hsc]; exact hx) (by rw [c.hsc]; exact hy) (by rw [c.hsc]; exact hz) (pa_fz (ok_es es X sc _ [v1, v2, v3] c h2)) q1 hs) fun D σ H g => par_three hw' g
  | .sub i ie e, Z, X, sc, st, c, hp, h, hw => by
      obtain ⟨x, k, p, v, pos, rfl⟩ := shape_sub h
      · simp only [chkS, Bool.and_eq_true] at h
        obtain ⟨⟨h1, h2⟩, h3⟩ := h
        have hs : swapsWithSole [.Subscript x k p] v pos.line X.env = pure false := by
          rcases isLc_em v with ⟨a, b, c', d, rfl⟩ | hn
          · rfl
          · rcases isDc_em v with ⟨a, b, c', d, f, rfl⟩ | hn2
            · rfl
            · exact sw_none h3 hn hn2 (some (.Subscript x k p)) pos.line X.env
        have ha : ∀ v, assign (.Subscript x k p) X.env v = (do
            let ov ← holding [v] (eval x X.env)
            let iv ← holding [v, ov] (eval k X.env)
            standAt p
            holding [v, ov, iv] (setItem ov iv v)
            release [v, ov, iv] []) := by
          intro v
          cases k <;> first | rfl | (rw [chk_slice] at h2; cases h2)
        exact PS.weak (ps_asg (pe_fz (ok_e e X sc _ v c h3).1) (pg_sub (rdB_of c h1).1 (ok_e ie X sc _ k c h2).1 (set_Q (by have := c.hu; omega)) ha) hs rfl rfl) fun D σ H g => sub_read g
  | .aug i op e, Z, X, sc, st, c, hp, h, hw => by
    cases st with
    | AugAssign x o v pos =>
      simp only [chkS, Bool.and_eq_true, decide_eq_true_eq] at h
      obtain ⟨⟨h1, rfl⟩, h3⟩ := h
      obtain ⟨n, p, rfl, s1, s2, s3⟩ := stB_of c h1
      exact PS.weak (ps_aug (by rw [c.N]; exact c.nd) s1 s2 (ok_e e X sc _ v c h3).1 (ip_augQ op) s3) fun D σ H g => aug_read (hw i (by simp [wrS])) g
    | _ => cases h
  | .ex e, Z, X, sc, st, c, hp, h, hw => by
    cases st with
    | Expr v pos =>
      simp only [chkS, Bool.and_eq_true, Bool.not_eq_true'] at h
      have hs : swapsWith v none pos.line X.env = pure false := by
        cases v <;> first | rfl | cases h.2
      exact PS.weak (ps_expr (ok_e e X sc _ v c h.1).1 hs) fun D σ H g => ex_read g
    | _ => cases h
  | .app i e, Z, X, sc, st, c, hp, h, hw => by
      obtain ⟨x, m, p, v, q, pos, rfl⟩ := shape_app h
      · simp only [chkS, Bool.and_eq_true, strB, decide_eq_true_eq] at h
        obtain ⟨⟨⟨h1, rfl⟩, h3⟩, h4⟩ := h
        obtain ⟨pe, n, p', rfl⟩ := rdB_of c h1
        have hss : starEach [v] X.env = (false, eval v X.env) :: starEach [] X.env := star_of h4 _ _
        have ha : PA X [v] (tEs X.K Z C (.c e .n)) := ok_es (.c e .n) X sc _ [v] c (by simp [chkEs, h4])
        refine PS.weak (ps_expr (pe_bm PySem.F.plainAttrs_list PySem.F.slot_list_append PySem.F.type_list_append mt_append pe (pa_fz ha) rfl (by rw [hss]; rfl) h3 hss rfl) rfl) fun D σ H g => app_read g
  | .ite e a b, Z, X, sc, st, c, hp, h, hw => by
    cases st with
    | If x y z pos =>
      simp only [chkS, Bool.and_eq_true] at h
      obtain ⟨⟨h1, h2⟩, h3⟩ := h
      refine PS.weak (ps_if (ok_e e X sc _ x c h1).2 (ok_ss (np := np) (W := W) a X sc y c hp h2 fun j hj => hw j (by simp [wrS, hj])) (ok_ss (np := np) (W := W) b X sc z c hp h3 fun j hj => hw j (by simp [wrS, hj]))) fun D σ H ⟨ρ, rel, g⟩ => ?_
      have g : ((boolOf (ev C true e ρ)).bind fun t ρ => if t then evSs C np a ρ else evSs C np b ρ).gx (W := zkS W Z σ ρ H) (PoS X.K np W σ ρ H D) := g
      rw [gx_bind] at g
      refine ⟨ρ, rel, g.mono fun t ρ1 g1 H1 aft => ?_⟩
      cases t with
      | true =>
        rw [if_pos rfl] at g1 ⊢
        exact ⟨ρ1, aft.rel, g1.mono fun f ρ2 g2 => PoS.shift g2 (AftS.of aft)⟩
      | false =>
        rw [if_neg Bool.false_ne_true] at g1 ⊢
        exact ⟨ρ1, aft.rel, g1.mono fun f ρ2 g2 => PoS.shift g2 (AftS.of aft)⟩
    | _ => cases h
  | .wh e b, Z, X, sc, st, c, hp, h, hw => by
    cases st with
    | While x y z pos =>
      cases z with
      | nil =>
        simp only [chkS, Bool.and_eq_true] at h
        exact PS.weak (ps_while hp (ok_e e X sc _ x c h.1).2 (ok_ss (np := np) (W := W) b X sc y c hp h.2 hw)) fun D σ H g => while_read g
      | cons _ _ => cases h
    | _ => cases h
  | .for_ tg it b, Z, X, sc, st, c, hp, h, hw => by
    cases st with
    | For t i y z pos =>
      cases z with
      | nil =>
        simp only [chkS, Bool.and_eq_true] at h
        obtain ⟨⟨h1, h2⟩, h3⟩ := h
        exact PS.weak (ps_for hp c.calm (ok_i it X sc _ t i c h2) (pg_T c tg t h1) (ok_ss (np := np) (W := W) b X sc y c hp h3 fun j hj => hw j (by simp [wrS, hj])) (fun v => foldI_of h2 _ v)) fun D σ H g => for_read (fun j hj => hw j (by simp [wrS, hj])) g
      | cons _ _ => cases h
    | _ => cases h
  | .ret e, Z, X, sc, st, c, hp, h, hw => by
    cases st with
    | Return v pos =>
      cases v with
      | none => cases h
      | some v => exact PS.weak (ps_ret (pe_fz (ok_e e X sc _ v c h).1)) fun D σ H g => ret_read g
    | _ => cases h
  | .retN, Z, X, sc, st, c, hp, h, hw => by
    cases st with
    | Return v pos =>
      cases v with
      | some _ => cases h
      | none => exact PS.weak ps_retN fun D σ H ⟨ρ, rel, g⟩ => g .non σ H (AftS.refl rel) RepD.non fun z => nomatch z
    | _ => cases h
  | .raise k e, Z, X, sc, st, c, hp, h, hw => by
    obtain ⟨x, p, a, pos, p2, rfl⟩ := shape_raise h
    simp only [chkS, Bool.and_eq_true, strB, decide_eq_true_eq] at h
    obtain ⟨⟨⟨⟨h1, rfl⟩, h3⟩, h4⟩, h5⟩ := h
    obtain ⟨Ca, bmB, B, ni, ii, m1, m2, m3, m4, m5, m6, m7⟩ := (c.er k h1).ex
    refine PS.weak (L2N.ps_raise c.calm c.tk (pmk_ownN m3 m4 m1 m5 (raises_own m6 m7) (Gl_of c h3) (ok_e e X sc _ a c h5).1 (star_of h5 _ _) (okName_of h4).1)) fun D σ H ⟨ρ, rel, g⟩ => ?_
    have g : ((ev C false e ρ).bind fun o ρ => optR (datOf o) fun x => Res.exc ⟨k, [x]⟩ ρ).gx (W := zkS W Z σ ρ H) (PoS X.K np W σ ρ H D) := g
    rw [gx_bind] at g
    refine ⟨ρ, rel, g.mono fun o ρ1 g1 v H1 aft ro fr => ?_⟩
    rw [gx_optR] at g1
    obtain ⟨d, e1, g2⟩ := g1
    exact ⟨_, ⟨rfl, Ca, m2, rfl⟩, zkS.e g2 H1 aft.kpr⟩
  | .never, Z, X, sc, st, c, hp, h, hw => PS.weak ps_never fun D σ H ⟨ρ, rel, g⟩ => False.elim g
  | .brk, Z, X, sc, st, c, hp, h, hw => by
    cases st with
    | Break pos => exact PS.weak ps_break fun D σ H ⟨ρ, rel, g⟩ => g σ H (AftS.refl rel)
    | _ => cases h
  | .cnt, Z, X, sc, st, c, hp, h, hw => by
    cases st with
    | Continue pos => exact PS.weak ps_continue fun D σ H ⟨ρ, rel, g⟩ => g σ H (AftS.refl rel)
    | _ => cases h
  | .pass, Z, X, sc, st, c, hp, h, hw => by
    cases st with
    | Pass pos => exact PS.weak ps_pass fun D σ H ⟨ρ, rel, g⟩ => g σ H (AftS.refl rel)
    | _ => cases h
theorem ok_ss {W : Nat → Prop} {np : Nat} : ∀ (s : Ss) {Z : ZT} (X : Cx) (sc : Scope) (st : List Stmt), CtxOk Γ C Z sc (fun _ => true) X → PassesOwn (model X.prog X.w) X.A X.env X.xe → chkSs Γ sc s st = true → (∀ j ∈ wrSs s, W j) → PSs X st (tSs X.K Z C np W s)
  | .n, Z, X, sc, st, c, hp, h, hw => by
    cases st with
    | nil => exact PSs.weak pss_nil fun D σ H ⟨ρ, rel, g⟩ => g σ H (AftS.refl rel)
    | cons _ _ => cases h
  | .c s r, Z, X, sc, st, c, hp, h, hw => by
    cases st with
    | nil => cases h
    | cons x xs =>
      simp only [chkSs, Bool.and_eq_true] at h
      refine PSs.weak (pss_cons (ok_s (np := np) (W := W) s X sc x c hp h.1 fun j hj => hw j (by simp [wrSs, hj])) (ok_ss (np := np) (W := W) r X sc xs c hp h.2 fun j hj => hw j (by simp [wrSs, hj]))) fun D σ H ⟨ρ, rel, g⟩ => ?_
      have g : ((evS C np s ρ).bind fun f ρ => match f with
        | .nx => evSs C np r ρ
        | f => .ok f ρ).gx (W := zkS W Z σ ρ H) (PoS X.K np W σ ρ H D) := g
      rw [gx_bind] at g
      refine ⟨ρ, rel, g.mono fun f ρ1 g1 => ?_⟩
      cases f with
      | nx => exact fun σ1 H1 a1 => ⟨ρ1, a1.rel, Res.gx.mono g1 fun f ρ2 g2 => PoS.shift g2 a1⟩
      | brk => exact g1
      | cnt => exact g1
      | ret r => exact g1
end
end
end Q

namespace Q
open PySem PySem.Spec PyProof.Rows L2
variable [LamT]
/-! ### defs -/
theorem RepS.dIm {K : PySem.W.Frag} {H H' : Hp} {v : V} {s : SV} (i : Im H H') (o : s.own = false) (r : RepS K H v s) : RepS K H' v s := by
  cases s with
  | d x => exact RepD.im i r
  | ml _ => cases o
  | md _ => cases o
  | rl _ => exact RepS.rlIm i r
theorem start_at {N : List Str} {vs : List V} {i : Nat} {v : V} (h : vs[i]? = some v) : (L2.start N vs)[i]? = some (some v) := by
  unfold L2.start
  have hl : i < vs.length := (List.getElem?_eq_some_iff.mp h).1
  rw [List.getElem?_append_left (by rw [List.length_map]; exact hl), List.getElem?_map, h]; rfl
theorem gt_start {ss : List SV} {n i : Nat} {s : SV} (h : gt (ss.map some ++ List.replicate n none) i = some s) : ss[i]? = some s := by
  unfold gt at h
  by_cases hl : i < ss.length
  · rw [List.getElem?_append_left (by rw [List.length_map]; exact hl), List.getElem?_map, List.getElem?_eq_getElem hl] at h
    simp only [Option.map_some, Option.some.injEq] at h
    rw [List.getElem?_eq_getElem hl, h]
  · rw [List.getElem?_append_right (by rw [List.length_map]; omega)] at h
    rw [List.getElem?_replicate] at h
    split at h
    · rename_i h2
      split at h2 <;> cases h2
    · cases h
theorem start_gt {ss : List SV} {n i : Nat} {s : SV} (h : ss[i]? = some s) : gt (ss.map some ++ List.replicate n none) i = some s := by
  have hl : i < ss.length := (List.getElem?_eq_some_iff.mp h).1
  unfold gt
  rw [List.getElem?_append_left (by rw [List.length_map]; exact hl), List.getElem?_map, h]; rfl
theorem rel_start {K : PySem.W.Frag} {H : Hp} {N : List Str} {vs : List V} {ss : List SV} (r : RepArgs K H vs ss) (hn : vs.length ≤ N.length) : RelE K (L2.start N vs) H (ss.map some ++ List.replicate (N.length - ss.length) none) ∧ (∀ a, OwnA (L2.start N vs) (ss.map some ++ List.replicate (N.length - ss.length) none) a → OwnL vs ss a) := by
  have hl := r.rep.length
  refine ⟨⟨by simp [L2.start, hl], fun i s h => ?_, fun i j s t a h1 h2 o1 o2 a1 a2 => ?_, r.tab⟩, fun a ⟨i, s, h, o, ea⟩ => ?_⟩
  · obtain ⟨v, h1, h2⟩ := r.rep.get (gt_start h)
    exact ⟨v, start_at h1, h2⟩
  · obtain ⟨v, v1, _⟩ := r.rep.get (gt_start h1)
    obtain ⟨w, w1, _⟩ := r.rep.get (gt_start h2)
    rw [start_at v1] at a1; cases a1
    rw [start_at w1] at a2; cases a2
    exact r.dis i j s t a (gt_start h1) (gt_start h2) o1 o2 v1 w1
  · obtain ⟨v, v1, _⟩ := r.rep.get (gt_start h)
    rw [start_at v1] at ea; cases ea
    exact ⟨i, s, gt_start h, o, v1⟩
theorem frzL_fz {K : PySem.W.Frag} {σ : St} {R : Hp → Prop} : ∀ (is : List Nat) {ρ0 ρ : Rho} {H0 H : Hp}, Aft K σ ρ0 H0 ρ H → (∀ H', Aft K σ ρ0 H0 (frzL is ρ) H' → R H') → FzQ R H
  | [], ρ0, ρ, H0, H, a, q => .done (q H a)
  | i :: is, ρ0, ρ, H0, H, a, q => by
    cases e : gt ρ i with
    | none =>
      have : frzAt ρ i = ρ := by unfold frzAt; rw [e]
      refine frzL_fz is a fun H' a' => q H' ?_
      show Aft K σ ρ0 H0 (frzL is (frzAt ρ i)) H'
      rw [this]; exact a'
    | some s =>
      cases ho : s.own with
      | false =>
        refine frzL_fz is a fun H' a' => q H' ?_
        show Aft K σ ρ0 H0 (frzL is (frzAt ρ i)) H'
        rw [frzAt_data e ho]; exact a'
      | true =>
        obtain ⟨v, v1, v2⟩ := a.rel.at_ i s e
        obtain ⟨b, u, e1, e2, mu, _⟩ := v2.own_ref ho
        subst e1
        refine .step e2 mu fun od => ?_
        obtain ⟨r', s'⟩ := own_frz_slot (od := od) a.rel e ho v1 e2
        have oa : OwnA σ ρ b := ⟨i, _, e, ho, v1⟩
        refine frzL_fz is (ρ0 := ρ0) (ρ := frzAt ρ i) (H0 := H0) ⟨fun c u h n nt => ?_, r', fun c h => a.sub c (s' c h), fun c h => ?_⟩ fun H' a' => q H' a'
        · have ne : c ≠ b := fun z => by subst z; exact n (a.sub c oa)
          rw [upd_ne ne]; exact a.kp c u h n
        · have ne : c ≠ b := fun z => by subst z; rw [upd_same] at h; cases h
          rw [upd_ne ne] at h; exact a.trk c h
theorem frzL_len : ∀ (is : List Nat) (ρ : Rho), (frzL is ρ).length = ρ.length
  | [], _ => rfl
  | i :: is, ρ => by simp only [frzL]; rw [frzL_len is, frzAt_len]
theorem gt_frzL {k : Nat} : ∀ (is : List Nat) {ρ : Rho} {s : SV}, gt ρ k = some s → gt (frzL is ρ) k = some (if k ∈ is then s.frz else s)
  | [], ρ, s, h => by simpa [frzL] using h
  | i :: is, ρ, s, h => by
    simp only [frzL]
    by_cases hk : k = i
    · subst hk
      have e : gt (frzAt ρ k) k = some s.frz := by rw [gt_frzAt, if_pos rfl, h]; rfl
      rw [gt_frzL is e]
      have : s.frz.frz = s.frz := SV.frz_of (SV.own_frz s)
      simp [this]
    · have e : gt (frzAt ρ i) k = some s := by rw [gt_frzAt, if_neg hk]; exact h
      rw [gt_frzL is e]
      simp [hk]
theorem outs_len (asg : List Nat) (ρ : Rho) : ∀ (k : Nat) (ss : List SV), (outsOf asg ρ k ss).length = ss.length
  | _, [] => rfl
  | k, s :: ss => by simp [outsOf, outs_len asg ρ (k + 1) ss]
theorem outs_get (asg : List Nat) (ρ : Rho) : ∀ (k : Nat) (ss : List SV) {i : Nat} {s : SV}, ss[i]? = some s → (outsOf asg ρ k ss)[i]? = some (if k + i ∈ asg then s.frz else (gt ρ (k + i)).getD s)
  | k, [], i, s, h => by simp at h
  | k, t :: ss, 0, s, h => by simp at h; subst h; rfl
  | k, t :: ss, i + 1, s, h => by
    have := outs_get asg ρ (k + 1) ss (i := i) (by simpa using h)
    have e : k + 1 + i = k + (i + 1) := by omega
    rw [e] at this
    simpa [outsOf] using this
theorem pss_fz {X : Cx} {st : List Stmt} {t : TS} (h : PSs X st t) : PSs X st (fun D σ H => FzQ (fun H' => t D σ H') H) := by
  refine ⟨fun pins s σ H D I q => ?_⟩
  obtain ⟨H2, I2, q2⟩ := FzQ.run q I
  exact h.run pins s σ H2 D I2 q2
abbrev Wof (asg : List Nat) (np : Nat) : Nat → Prop := fun k => k ∈ asg ∨ np ≤ k
theorem callFn_lenR {C : Call} {f : Fn} {ss : List SV} {r : SV} {outs : List SV} (e : callFn C f ss = .ret r outs) : ss.length = f.np := by
  unfold callFn at e
  split at e
  · assumption
  · cases e
theorem callFn_lenX {C : Call} {f : Fn} {ss : List SV} {r : Exn} {outs : List SV} (e : callFn C f ss = .exc r outs) : ss.length = f.np := by
  unfold callFn at e
  split at e
  · assumption
  · cases e
/-- the promise of a def from its body -/
theorem body_read {K : PySem.W.Frag} {C : Call} {f : Fn} {N : List Str} {vs : List V} {H : Hp} {Q : VK} {ss : List SV} {E : XK} (hns : f.ns = N.length) (hnp : f.np ≤ N.length) (hasg : ∀ k ∈ f.asg, k < f.np) (ra : RepArgs K H vs ss) (h : (∃ r outs, callFn C f ss = .ret r outs ∧ ∀ v H', Back K H vs ss v r outs H' → Q v H') ∨ ∃ e outs, callFn C f ss = .exc e outs ∧ ∀ cls d H', ExR K e cls d → BackX H vs ss H' → E cls d H') :
    FzQ (fun H1 => tSs K (zE K E) C (if ss.any SV.own then f.ns else f.np) (Wof f.asg f.np) f.body { nx := fun _ H' => Q .non H', rt := Q } (L2.start N vs) H1) H := by
  have hl : ss.length = f.np := by
    rcases h with ⟨r, outs, e, _⟩ | ⟨e, outs, e2, _⟩
    · exact callFn_lenR e
    · exact callFn_lenX e2
  have hvl := ra.rep.length
  obtain ⟨rel0, own0⟩ := rel_start (N := N) ra (by omega)
  rw [hl, ← hns] at rel0 own0
  refine frzL_fz f.asg (Aft.refl rel0) fun H1 a1 => ⟨_, a1.rel, ?_⟩
  have im1 := a1.im rel0
  -- what comes out at a result
  have fin : ∀ (v : V) (σ' : St) (H' : Hp) (ρ' : Rho) (r' : SV), parOk f.np ρ' = true → AftS K (Wof f.asg f.np) (L2.start N vs) (frzL f.asg (ss.map some ++ List.replicate (f.ns - f.np) none)) H1 σ' ρ' H' → RepS K H' v r' →
      (r'.own = true → ∀ a, v = .ref a → H1 a = none ∨ ∃ i s, (if ss.any SV.own then f.ns else f.np) ≤ i ∧ gt ρ' i = some s ∧ s.own = true ∧ σ'[i]? = some (some (.ref a))) → Back K H vs ss v r' (outsOf f.asg ρ' 0 ss) H' := by
    intro v σ' H' ρ' r' hp a2 rr fr
    have a12 : AftS K (Wof f.asg f.np) (L2.start N vs) (ss.map some ++ List.replicate (f.ns - f.np) none) H σ' ρ' H' := (AftS.of a1).trans a2
    refine ⟨fun a u h n nt => a12.kp a u h fun z => n (own0 a z), a12.trk, a12.rel.tab, rr, fun o a ea => ?_, outs_len _ _ _ _, fun i s o w h1 h2 h3 h4 => ?_⟩
    · rcases fr o a ea with z | ⟨i, s, hi, gi, oi, ai⟩
      · exact a1.trk a z
      · rcases a12.sub a ⟨i, s, gi, oi, ai⟩ with z | z
        · obtain ⟨j, t, t1, t2, t3⟩ := own0 a z
          have : ss.any SV.own = true := List.any_eq_true.mpr ⟨t, List.mem_of_getElem? t1, t2⟩
          rw [if_pos this] at hi
          have h5 := gt_lt gi
          have h6 := a12.rel.len
          have h7 : σ'.length = N.length := by
            rw [a12.len]
            simp only [L2.start, List.length_append, List.length_map, List.length_replicate]
            omega
          omega
        · exact z
    · rw [outs_get f.asg ρ' 0 ss h1, Nat.zero_add] at h3
      have hi : i < f.np := by rw [← hl]; exact (List.getElem?_eq_some_iff.mp h1).1
      by_cases hk : i ∈ f.asg
      · rw [if_pos hk] at h3
        cases h3
        have g1 := gt_frzL f.asg (start_gt (n := f.ns - f.np) h1)
        rw [if_pos hk] at g1
        obtain ⟨w', w1, w2⟩ := a1.rel.at_ i _ g1
        rw [start_at h4] at w1; cases w1
        exact RepS.dIm (a2.im a1.rel) (SV.own_frz s) w2
      · rw [if_neg hk] at h3
        have hp' := List.all_eq_true.mp hp i (List.mem_range.mpr hi)
        obtain ⟨t, ht⟩ := Option.isSome_iff_exists.mp hp'
        rw [ht] at h3
        cases h3
        obtain ⟨w', w1, w2⟩ := a12.rel.at_ i _ ht
        have hfix := a12.fix i (fun z => z.elim hk fun z => absurd hi (by omega))
        rw [hfix, start_at h4] at w1
        cases w1
        exact w2
  unfold callFn at h
  rw [if_pos hl] at h
  cases es : evSs C (if ss.any SV.own then f.ns else f.np) f.body (frzL f.asg (ss.map some ++ List.replicate (f.ns - f.np) none)) with
  | ok fl ρ' =>
    simp only [es] at h
    cases fl with
    | ret r' =>
      rcases h with ⟨r, outs, e, q⟩ | ⟨e, outs, e2, _⟩
      · simp only at e
        split at e
        · rename_i hp
          cases e
          exact fun v σ' H' a2 rr fr => q v H' (fin v σ' H' ρ' _ hp a2 rr fr)
        · cases e
      · simp only at e2
        split at e2 <;> cases e2
    | nx =>
      rcases h with ⟨r, outs, e, q⟩ | ⟨e, outs, e2, _⟩
      · simp only at e
        split at e
        · rename_i hp
          cases e
          exact fun σ' H' a2 => q .non H' (fin .non σ' H' ρ' _ hp a2 RepD.non fun z => nomatch z)
        · cases e
      · simp only at e2
        split at e2 <;> cases e2
    | brk => rcases h with ⟨_, _, e, _⟩ | ⟨_, _, e, _⟩ <;> cases e
    | cnt => rcases h with ⟨_, _, e, _⟩ | ⟨_, _, e, _⟩ <;> cases e
  | exc x ρ' =>
    simp only [es] at h
    rcases h with ⟨r, outs, e, q⟩ | ⟨e, outs, e2, q⟩
    · split at e <;> cases e
    · split at e2
      · cases e2
        exact fun σ' H' k cls d hx => q cls d H' hx ⟨fun a u h n nt => k.kp a u (a1.kp a u h fun z => n (own0 a z)) fun z => n (own0 a (a1.sub a z)), fun a h => a1.trk a (k.trk a h), k.tab⟩
      · cases e2
  | bad =>
    simp only [es] at h
    rcases h with ⟨_, _, e, _⟩ | ⟨_, _, e, _⟩ <;> cases e
end Q

namespace Q
open PySem PySem.Spec PyProof.Rows L2
variable [LamT]
/-! ### a module -/
structure Df where
  nm : String
  st : Stmt
  N : List Str
  ps : List Str
  fn : Fn
  /-- whether its text makes lambdas -/
  lam : Bool
abbrev Df.x (d : Df) : Str := Str.ofString d.nm
def scB (N P : List Str) (sc : Scope) : Bool :=
  decide (sc.kind = .function) && !sc.isCoroutine && !sc.isGenerator && decide N.Nodup && decide (N.take P.length = P) && P.all (fun x => decide (sc.names.lookup x = some .local) || decide (sc.names.lookup x = some .cell)) && sc.names.all (fun y => !decide (y.2 = .free))
theorem scB_of {N P : List Str} {sc : Scope} (h : scB N P sc = true) : FnScope N P sc := by
  unfold scB at h
  simp only [Bool.and_eq_true, Bool.not_eq_true', decide_eq_true_eq, List.all_eq_true, Bool.or_eq_true, decide_eq_false_iff_not] at h
  obtain ⟨⟨⟨⟨⟨⟨h1, h2⟩, h3⟩, h4⟩, h5⟩, h6⟩, h7⟩ := h
  exact ⟨h1, h2, h3, h4, h5, h6, h7⟩
def wsOf (ws : List (String × WT)) (d : Df) : List (String × WT) := if d.lam then ws else []
def chkD (fs : List String) (cs : List (Str × D)) (es : List String) (ws : List (String × WT)) (d : Df) : Bool :=
  scB d.N d.ps (defScope d.st) && chkSs ⟨d.N, fs, cs, es, wsOf ws d⟩ (defScope d.st) d.fn.body (defBody d.st) && decide (d.fn.ns = d.N.length) && decide (d.fn.np = d.ps.length) && d.fn.asg.all (fun k => decide (k < d.fn.np)) && (wrSs d.fn.body).all (fun k => decide (k ∈ d.fn.asg) || decide (d.fn.np ≤ k))
/-- a class of exceptions, by the module's names -/
structure ErrM (K : PySem.W.Frag) (mg : Str → Option Value) (k : String) : Prop where
  ex : ∃ (C : Addr) (bmB : List Value) (B newId initId : String), mg (Str.ofString k) = some (.ref C) ∧ PySem.W.nsIn K mainGlobals (Str.ofString k) = some (some (.ref C)) ∧ ExcBaseFacts B newId initId bmB ∧ PySem.W.excIn K C bmB newId = true ∧
    PySem.W.keepIn K (.ref C) = true ∧ PySem.W.subIn K (.ref C) (.type "BaseException") = some true ∧ PySem.W.typeIn K (.ref C) = some (.type "type")
structure ModQ (K : PySem.W.Frag) (mg : Str → Option Value) (ds : List Df) (cs : List (Str × D)) (es : List String) : Prop where
  fn : ∀ d ∈ ds, ∃ fa fd, Fun K d.x d.x d.st fa fd ∧ mg d.x = some (.ref fa) ∧ PySem.W.nsIn K mainGlobals d.x = some (some (.ref fa)) ∧ Binds K fd d.ps []
  bl : ∀ b ∈ bnames, mg (Str.ofString b) = none
  cs : ∀ x d, cs.lookup x = some d → ∃ u v, mg x = some u ∧ RelV v u ∧ ∀ K H, RepD K H v d
  es : ∀ k ∈ es, ErrM K mg k
abbrev progOf (ds : List Df) : Prog := ds.map fun d => (d.nm, d.fn)
abbrev namesOf (ds : List Df) : List String := ds.map (·.nm)
theorem spQ_len {K : PySem.W.Frag} {C : Call} {i : String} {vs : List V} {H : Hp} {Q : VK} {E : XK} {np : Nat} (h : spQ K C i vs H Q E) (hc : ∀ ss r outs, C i ss = .ret r outs → ss.length = np) (hx : ∀ ss r outs, C i ss = .exc r outs → ss.length = np) : vs.length = np := by
  obtain ⟨ss, ra, ⟨r, outs, e, _⟩ | ⟨r, outs, e, _⟩⟩ := h
  · rw [ra.rep.length, hc _ _ _ e]
  · rw [ra.rep.length, hx _ _ _ e]
omit [LamT] in
theorem look_of : ∀ {ds : List Df} {d : Df}, (namesOf ds).Nodup → d ∈ ds → (progOf ds).lookup d.nm = some d.fn
  | [], _, _, h => by simp at h
  | e :: ds, d, n, h => by
    simp only [namesOf, List.map_cons, List.nodup_cons] at n
    rcases List.mem_cons.mp h with rfl | h
    · simp [progOf, List.lookup_cons]
    · have ne : (d.nm == e.nm) = false := by
        rw [beq_eq_false_iff_ne]
        intro z
        exact n.1 (by rw [← z]; exact List.mem_map_of_mem h)
      have := look_of (ds := ds) n.2 h
      simp only [progOf, List.map_cons, List.lookup_cons, ne]
      exact this
omit [LamT] in
theorem callN_of {ds : List Df} {d : Df} (hn : (namesOf ds).Nodup) (h : d ∈ ds) (n : Nat) (ss : List SV) : callN (progOf ds) (n + 1) d.nm ss = callFn (callN (progOf ds) n) d.fn ss := by
  simp only [callN, look_of hn h]
variable {P : Program} {w : World} {K : PySem.W.Frag} {mg : Str → Option Value} {base : Heap}
/-- as okX of the kit, over exceptions without a context -/
theorem okN {y qn : Str} {sd : Stmt} {fz : Addr} {fdz : FuncData} {Nz pz : List Str} {kz : Nat} {spz : Sp} (Fz : Fun K y qn sd fz fdz) (Sz : FnScope Nz pz (defScope sd)) (hlen : ∀ vs H Q E, spz vs H Q E → vs.length = pz.length)
    (hb : ∀ (cz : Value), cz = fdz.code → ∀ (A : Around) (outer : List Env) (s : Shared) (H : Hp) (vs : List V) (Q : VK) (E : XK), Room kz (A.deeper (envOfC qn (defScope sd) s.heap.objs.size fz cz)) → spz vs H Q E →
      ∃ t, PSs (cxOf (L2N.CX P w) P w K mg base Nz qn (defScope sd) fz cz A outer s H E) (defBody sd) t ∧ t { nx := fun _ H' => Q .non H', rt := Q } (start Nz vs) H) : FnOk P w K mg base (L2N.CX P w) (kz + 1) fz fdz pz spz := by
  obtain ⟨_, _, _, _, _, _, _, _, _, rfl, lk, hcd⟩ := Fz.ex
  exact fn_of lk hcd Sz hlen fun A outer s H vs Q E hr hsp => hb _ rfl A outer s H vs Q E hr hsp
/-- every def keeps its promise -/
theorem all_ok {ds : List Df} {cs : List (Str × D)} {es : List String} {ws : List (String × WT)} (M : ModQ K mg ds cs es) (HW : ∀ f t, ws.lookup f = some t → WdOk P w K mg base f t)
    (HL : ∀ d ∈ ds, d.lam = true → ∀ fa fd, Fun K d.x d.x d.st fa fd → mg d.x = some (.ref fa) → ∃ (c Pt : Addr), LamX.TabB base mg c Pt ∧ fd.code = .ref c ∧ (Pt, (d.x ++ ".<locals>.") ++ "<lambda>") ∈ LamT.T ∧ ∀ p ∈ LamT.T, p.1 = Pt → p.2 = (d.x ++ ".<locals>.") ++ "<lambda>")
    (hd : ∀ d ∈ ds, chkD (namesOf ds) cs es ws d = true) (hn : (namesOf ds).Nodup) : ∀ (n : Nat) (d : Df), d ∈ ds → ∀ fa fd, Fun K d.x d.x d.st fa fd → mg d.x = some (.ref fa) → FnOk P w K mg base (L2N.CX P w) (2 * n + 1) fa fd d.ps (spQ K (callN (progOf ds) n) d.nm)
  | 0, d, hi, fa, fd, F, _ => ⟨fun vs H Q E h => (by obtain ⟨ss, ra, ⟨r, outs, e, _⟩ | ⟨r, outs, e, _⟩⟩ := h <;> cases e), fun A outer s H args us vs Q E _ _ _ _ h => (by obtain ⟨ss, ra, ⟨r, outs, e, _⟩ | ⟨r, outs, e, _⟩⟩ := h <;> cases e)⟩
  | n + 1, d, hi, fa, fd, F, hmg => by
    have ck := hd d hi
    unfold chkD at ck
    simp only [Bool.and_eq_true, decide_eq_true_eq] at ck
    obtain ⟨⟨⟨⟨⟨c1, c2⟩, c3⟩, c4⟩, c5⟩, c6⟩ := ck
    have S := scB_of c1
    have hp : (progOf ds).lookup d.nm = some d.fn := look_of hn hi
    have call_eq : ∀ ss, callN (progOf ds) (n + 1) d.nm ss = callFn (callN (progOf ds) n) d.fn ss := fun ss => by
      simp only [callN, hp]
    show FnOk P w K mg base (L2N.CX P w) ((2 * n + 2) + 1) fa fd d.ps _
    refine okN F S (fun vs H Q E h => ?_) (fun cdv hcdv A outer s H vs Q E hr h => ?_)
    · refine spQ_len h (fun ss r outs e => ?_) fun ss r outs e => ?_
      · rw [call_eq] at e
        rw [← c4]; exact callFn_lenR e
      · rw [call_eq] at e
        rw [← c4]; exact callFn_lenX e
    · obtain ⟨ss, ra, h⟩ := h
      simp only [call_eq] at h
      have hpl : d.ps.length ≤ d.N.length := by
        have := congrArg List.length S.pre
        rw [List.length_take] at this
        omega
      have hrm : ∀ e1 e2, Room (2 * n + 1) (((A.deeper (envOfC d.x (defScope d.st) s.heap.objs.size fa cdv)).deeper e1).deeper e2) := fun e1 e2 => by
        have h1 := hr.dp
        have h2 := hr.un
        have z1 : A.depth + 1 + 3 * (2 * n + 2) + 5 < recursionLimit := h1
        have z2 : A.units + 3 + 16 * (2 * n + 2) + 200 < cLine := h2
        exact ⟨hr.hd, by show A.depth + 1 + 1 + 1 + 3 * (2 * n + 1) + 5 < _; omega, by show A.units + 3 + 3 + 3 + 16 * (2 * n + 1) + 200 < _; omega⟩
      have ctx : CtxOk ⟨d.N, namesOf ds, cs, es, wsOf ws d⟩ (callN (progOf ds) n) (zE K E) (defScope d.st) (fun _ => true) (cxOf (L2N.CX P w) P w K mg base d.N d.x (defScope d.st) fa cdv A outer s H E) :=
        { N := rfl, nd := S.nd, hsc := rfl, kind := S.kind, fnX := fun _ _ => rfl, calm := rfl
          hu := by
            have := hr.un
            show (A.deeper _).units + 65 < cLine
            omega
          bl := M.bl
          cs := M.cs
          er := fun k hk => ⟨(M.es k hk).ex⟩
          tk := L2N.Takes.imp (L2N.takes_of rfl rfl rfl rfl) fun cls d σ H' ⟨e, hx, z⟩ => z cls d hx
          call := fun f hx => by
            have hx : f ∈ namesOf ds := hx
            simp only [namesOf, List.mem_map] at hx
            obtain ⟨d', h1, rfl⟩ := hx
            obtain ⟨fa', fd', F', m', k', b'⟩ := M.fn d' h1
            exact ⟨fa', fd', d'.ps, 2 * n + 1, m', k', F'.kp, all_ok M HW HL hd hn n d' h1 fa' fd' F' m', Room.mono hr (by omega), b'⟩
          lm := fun _ hws => by
            have hl : d.lam = true := by
              cases e : d.lam with
              | true => rfl
              | false => exact absurd (show wsOf ws d = [] by unfold wsOf; rw [e]; rfl) hws
            obtain ⟨c, Pt, t1, t2, t3, t4⟩ := HL d hi hl fa fd F hmg
            exact ⟨Room.mono hr (by omega), c, Pt, t1, hcdv.trans t2, t3, t4⟩
          sp := fun _ _ f hx e1 e2 => by
            have hx : f ∈ namesOf ds := hx
            simp only [namesOf, List.mem_map] at hx
            obtain ⟨d', h1, rfl⟩ := hx
            obtain ⟨fa', fd', F', m', k', b'⟩ := M.fn d' h1
            exact ⟨fa', fd', d'.ps, 2 * n + 1, m', k', F'.kp, all_ok M HW HL hd hn n d' h1 fa' fd' F' m', hrm e1 e2, b'⟩
          wd := fun f t h => by
            unfold wsOf at h
            split at h
            · exact HW f t h
            · cases h }
      refine ⟨_, pss_fz (ok_ss (np := if ss.any SV.own then d.fn.ns else d.fn.np) (W := Wof d.fn.asg d.fn.np) d.fn.body _ _ _ ctx (passes_of rfl) c2 fun j hj => ?_), body_read c3 (by omega) (fun k hk => ?_) ra h⟩
      · have := List.all_eq_true.mp c6 j hj
        simpa using this
      · have := List.all_eq_true.mp c5 k hk
        simpa using this
omit [LamT] in
theorem mem_lookup {cs : List (Str × D)} {x : Str} {d : D} (h : cs.lookup x = some d) : (x, d) ∈ cs := by
  induction cs with
  | nil => simp at h
  | cons p r ih =>
    obtain ⟨y, e⟩ := p
    rw [List.lookup_cons] at h
    split at h
    · rename_i hb
      cases h
      rw [beq_iff_eq] at hb
      subst hb
      exact List.mem_cons_self
    · exact List.mem_cons_of_mem _ (ih h)
theorem rep_ints {K : PySem.W.Frag} {H : Hp} : ∀ ns : List Int, RepDs K H (ns.map V.int) (ns.map PyData.int)
  | [] => .nil
  | n :: r => .cons (.int n) (rep_ints r)
/-- the law's own promise, for the head -/
theorem law_sp {C : Call} {i : String} {H : Hp} {a : Addr} {ns : List Int} (hn : ns.length ≤ 63) (hTb : TabsOk H) (hR0 : H a = none ∨ ∃ o xs, H a = some (.frz o (.lst xs))) (hS : SqL K H a (ns.map V.int)) (h : ∃ outs, C i [.rl (ns.map PyData.int)] = .ret (.d (.bool true)) outs) : spQ K C i [.ref a] H (fun v _ => v = .bl true) fun _ _ _ => False := by
  obtain ⟨outs, e⟩ := h
  have hz : (ns.map V.int).length ≤ sizeLine := by
    rw [List.length_map]
    exact small_line (by omega)
  have hR : RoL K H a (ns.map V.int) := by
    rcases hS with (h | h) | h
    · rcases hR0 with z | ⟨o, xs, z⟩ <;> (rw [h] at z; cases z)
    · exact .inl h
    · exact .inr h
  refine ⟨_, ⟨.cons (s := .rl (ns.map PyData.int)) ⟨a, _, rfl, hR, hz, rep_ints ns⟩ .nil, hTb, fun i j s t b h1 h2 o1 _ _ _ => ?_⟩, .inl ⟨_, outs, e, fun v H' b => ?_⟩⟩
  · cases i with
    | zero => simp at h1; subst h1; cases o1
    | succ i => simp at h1
  · exact RepS.bl (show RepS K H' v (.d (.bool true)) from b.res)
end Q

namespace Q
open PySem PySem.Spec PyProof.Rows L2 HotX L2H
variable [LamT]
/-! ### what an except suite makes of its exception: a text -/
mutual
inductive HE where
  | k (s : Str) | v (i : Nat) | isx (k : String) | isv | lst (es : HEs) | tup (es : HEs) | add (a b : HE) | spl (a : Str) (ws : List Str) | jn (a : Str) (b : HE) | ifne (a b c : HE) | ifv (b c : HE) | lcz (w g : Nat) (a b : HE)
inductive HEs where
  | n | c (a : HE) (r : HEs)
end
def keepB : List D → List D → List D
  | x :: xs, .bool b :: bs => if b then x :: keepB xs bs else keepB xs bs
  | _, _ => []
def allB : List D → Bool
  | [] => true
  | .bool _ :: r => allB r
  | _ => false
mutual
/-- ix: of which classes the exception is -/
def hev (ix : String → Bool) (η : Rho) : HE → Option SV
  | .k s => some (.d (.str s))
  | .v i => gt η i
  | .isx k => some (.d (.bool (ix k)))
  | .isv => some (.d (.bool true))
  | .lst es => (hevs ix η es).map .ml
  | .tup es => (hevs ix η es).map fun xs => .d (.tuple xs)
  | .add a b => match hev ix η a, hev ix η b with
    | some (.ml xs), some (.ml ys) => if xs.length + ys.length ≤ SZ then some (.ml (xs ++ ys)) else none
    | _, _ => none
  | .spl _ ws => some (.ml (ws.map .str))
  | .jn a b => match hev ix η b with
    | some (.ml xs) => match strsOf xs with
      | some ys => if okWord (Txt.join a ys) = true ∧ (ys.map (·.length)).sum + ys.length * a.length ≤ 16777216 then some (.d (.str (Txt.join a ys))) else none
      | none => none
    | _ => none
  | .ifne a b c => match hev ix η a with
    | some s => match cmpSem .NotEq s (.ml []) with
      | some true => hev ix η b
      | some false => hev ix η c
      | none => none
    | none => none
  | .ifv b _ => hev ix η b
  | .lcz _ _ a b => match hev ix η a, hev ix η b with
    | some s, some (.ml bs) => match items? s with
      | some xs => if allB bs = true ∧ xs.length = bs.length then some (.ml (keepB xs bs)) else none
      | none => none
    | _, _ => none
def hevs (ix : String → Bool) (η : Rho) : HEs → Option (List D)
  | .n => some []
  | .c a r => match hev ix η a, hevs ix η r with
    | some (.d x), some xs => some (x :: xs)
    | _, _ => none
end
/-! ### that a text is such -/
structure HK where
  N : List Str
  /-- the exception's name -/
  er : Str
  ks : List String
def hrd (Γ : HK) (sc : Scope) (i : Nat) (e : Expr) : Bool := match e with
  | .Name x _ => decide (Γ.N[i]? = some x) && visB sc x && okName x
  | _ => false
def hst (Γ : HK) (sc : Scope) (cl : Bool) (i : Nat) (e : Expr) : Bool := match e with
  | .Name x _ => decide (Γ.N[i]? = some x) && locB sc x && ((!cl && true) || isLocal sc x) && okName x
  | _ => false
def herr (Γ : HK) (sc : Scope) (e : Expr) : Bool := match e with
  | .Name x _ => strB x Γ.er && visB sc x && okName x
  | _ => false
def isvB (Γ : HK) (sc : Scope) (e : Expr) : Bool := match e with
  | .Call y [x, t] [] _ => blB sc "isinstance" y && herr Γ sc x && blB sc "ValueError" t
  | _ => false
mutual
def hck (Γ : HK) (sc : Scope) : HE → Expr → Bool
  | .k s, e => match e with
    | .Constant (.str z) _ _ => strB s z && okWord s
    | _ => false
  | .v i, e => hrd Γ sc i e
  | .isx k, e => match e with
    | .Call y [x, .Name z _] [] _ => blB sc "isinstance" y && herr Γ sc x && decide (k ∈ Γ.ks) && strB z (Str.ofString k) && glB sc z && okName z
    | _ => false
  | .isv, e => isvB Γ sc e
  | .lst es, e => match e with
    | .List xs _ => hcks Γ sc es xs && decide (xs.length ≤ 1000)
    | _ => false
  | .tup es, e => match e with
    | .Tuple xs _ _ => hcks Γ sc es xs && decide (xs.length ≤ 1000)
    | _ => false
  | .add a b, e => match e with
    | .BinOp x .Add y _ => hck Γ sc a x && hck Γ sc b y
    | _ => false
  | .spl a ws, e => match e with
    | .Call (.Attribute (.Constant (.str z) _ _) m p) [.Constant (.str y) _ _] [] q => strB m "split" && strB a z && strB y " " && (p.endLine == q.line) && okWord a && ws.all okWord && decide (ws.length ≤ 1000) && decide (Txt.split a " " = ws) && decide (a.length ≤ 1000)
    | _ => false
  | .jn a b, e => match e with
    | .Call (.Attribute (.Constant (.str z) _ _) m p) [x] [] q => strB m "join" && strB a z && (p.endLine == q.line) && okWord a && hck Γ sc b x
    | _ => false
  | .ifne a b c, e => match e with
    | .IfExp (.Compare x [.NotEq] [.List [] _] _) y z _ => hck Γ sc a x && hck Γ sc b y && hck Γ sc c z
    | _ => false
  | .ifv b c, e => match e with
    | .IfExp t y z _ => isvB Γ sc t && hck Γ sc b y && hck Γ sc c z
    | _ => false
  | .lcz w g a b, e => match e with
    | .ListComp x [⟨.Tuple [t1, t2] _ _, .Call y [xa, xb] [] _, [u], n⟩] scope _ => decide (n = 0) && decide (w < Γ.N.length) && decide (g < Γ.N.length) && blkC Γ.N sc scope [(Γ.N.getD w "", w), (Γ.N.getD g "", g)] && decide (w ≠ g) && blB sc "zip" y && hck Γ sc a xa && hck Γ sc b xb &&
      hst Γ (relS scope sc) true w t1 && hst Γ (relS scope sc) true g t2 && hrd Γ (relS scope sc) g u && hrd Γ (relS scope sc) w x
    | _ => false
def hcks (Γ : HK) (sc : Scope) : HEs → List Expr → Bool
  | .n, es => match es with
    | [] => true
    | _ => false
  | .c a r, es => match es with
    | e :: es => hck Γ sc a e && hcks Γ sc r es
    | [] => false
end
/-! ### what stands for a value -/
def GrF (H0 H H' : Hp) : Prop := ∀ a u, H a = some u → H' a = some u ∨ (H0 a = none ∧ OwnK u ∧ ∃ o, H' a = some (.frz o u))
theorem GrF.refl (H0 H : Hp) : GrF H0 H H := fun _ _ h => .inl h
theorem GrF.of {H0 H H' : Hp} (s : Same H H') : GrF H0 H H' := fun a u h => .inl (s a u h)
theorem GrF.trans {H0 H H1 H2 : Hp} (a : GrF H0 H H1) (b : GrF H0 H1 H2) : GrF H0 H H2 := fun x u h => by
  rcases a x u h with h1 | ⟨n, k, o, h1⟩
  · exact b x u h1
  · rcases b x _ h1 with h2 | ⟨_, k2, _⟩
    · exact .inr ⟨n, k, o, h2⟩
    · rcases k2 with ⟨_, z⟩ | ⟨_, z⟩ <;> cases z
theorem GrF.base {H0 H H' : Hp} (s : Same H0 H) (g : GrF H0 H H') : Same H0 H' := fun a u h => by
  rcases g a u (s a u h) with h1 | ⟨n, _⟩
  · exact h1
  · rw [h] at n; cases n
theorem GrF.im {H0 H H' : Hp} (g : GrF H0 H H') : Im H H' := ⟨fun a xs h => by
    rcases h with h | ⟨o, h⟩
    · rcases g a _ h with h1 | ⟨_, k, _⟩
      · exact .inl h1
      · rcases k with ⟨_, z⟩ | ⟨_, z⟩ <;> cases z
    · rcases g a _ h with h1 | ⟨_, k, _⟩
      · exact .inr ⟨o, h1⟩
      · rcases k with ⟨_, z⟩ | ⟨_, z⟩ <;> (cases z), fun a o u h => by
    rcases g a _ h with h1 | ⟨_, k, _⟩
    · exact h1
    · rcases k with ⟨_, z⟩ | ⟨_, z⟩ <;> (cases z)⟩
/-- a value of the suite: data, or a list of the suite's own -/
def RH (K : PySem.W.Frag) (H0 H : Hp) (v : V) : SV → Prop
  | .d x => RepD K H v x
  | .ml xs => ∃ a vs, v = .ref a ∧ H0 a = none ∧ Rd H a (.lst vs) ∧ vs.length ≤ sizeLine ∧ RepDs K H vs xs
  | _ => False
theorem RH.gr {K : PySem.W.Frag} {H0 H H' : Hp} {v : V} {s : SV} (g : GrF H0 H H') (r : RH K H0 H v s) : RH K H0 H' v s := by
  cases s with
  | d x => exact RepD.im g.im r
  | ml xs =>
    obtain ⟨a, vs, h1, h2, h3, h4, h5⟩ := r
    refine ⟨a, vs, h1, h2, ?_, h4, h5.im g.im⟩
    rcases h3 with h3 | ⟨o, h3⟩
    · rcases g a _ h3 with h6 | ⟨_, _, o, h6⟩
      · exact .inl h6
      · exact .inr ⟨o, h6⟩
    · exact .inr ⟨o, g.im.2 _ _ _ h3⟩
  | md _ => exact r
  | rl _ => exact r
theorem RH.s {K : PySem.W.Frag} {H0 H : Hp} {v : V} {s : SV} (r : RH K H0 H v s) : ∃ t, RepS K H v t ∧ t.dat = s.dat ∧ t.seqL = s.seqL := by
  cases s with
  | d x => exact ⟨.d x, r, rfl, rfl⟩
  | ml xs =>
    obtain ⟨a, vs, h1, h2, h3, h4, h5⟩ := r
    rcases h3 with h3 | h3
    · exact ⟨.ml xs, ⟨a, vs, h1, h3, h4, h5⟩, rfl, rfl⟩
    · subst h1
      exact ⟨.d (.list xs), RepD.lst h3 h4 h5, rfl, rfl⟩
  | md _ => exact r.elim
  | rl _ => exact r.elim
def RelH (K : PySem.W.Frag) (H0 : Hp) (σ : St) (H : Hp) (η : Rho) : Prop := ∀ i s, gt η i = some s → ∃ v, σ[i]? = some (some v) ∧ RH K H0 H v s
theorem RelH.gr {K : PySem.W.Frag} {H0 H H' : Hp} {σ : St} {η : Rho} (g : GrF H0 H H') (r : RelH K H0 σ H η) : RelH K H0 σ H' η := fun i s h => let ⟨v, h1, h2⟩ := r i s h; ⟨v, h1, h2.gr g⟩
def He (nl ie : Nat) (ea : Addr) (σ : St) : Prop := σ[ie]? = some (some (.ref ea)) ∧ σ.length = nl
def hE (K : PySem.W.Frag) (H0 : Hp) (ix : String → Bool) (nl ie : Nat) (ea : Addr) (e : HE) : TE := fun σ H Q => Same H0 H ∧ He nl ie ea σ ∧ ∃ η, RelH K H0 σ H η ∧ ∃ s, hev ix η e = some s ∧ ∀ v H', GrF H0 H H' → RH K H0 H' v s → Q v H'
def hEs (K : PySem.W.Frag) (H0 : Hp) (ix : String → Bool) (nl ie : Nat) (ea : Addr) (e : HEs) : TA := fun σ H Q => Same H0 H ∧ He nl ie ea σ ∧ ∃ η, RelH K H0 σ H η ∧ ∃ s, hevs ix η e = some s ∧ ∀ vs H', GrF H0 H H' → RepDs K H' vs s → Q vs H'
/-- the context of an except suite -/
structure HotOk (Γ : HK) (K : PySem.W.Frag) (mg : Str → Option Value) (ix : String → Bool) (sc : Scope) (ie : Nat) (Dx : Addr) (p : Addr × Obj) (X : Cx) : Prop where
  k : X.K = K
  m : X.mg = mg
  N : X.N = Γ.N
  nd : Γ.N.Nodup
  ei : Γ.N[ie]? = some Γ.er
  hsc : X.env.scope = sc
  hu : X.A.units + 65 < cLine
  hot : Hot1 X.A p
  pn : p ∈ X.pn
  is : CallR X (.builtin "isinstance") (rIsE K Dx p.1)
  bl : ∀ b ∈ ["isinstance", "zip", "ValueError"], mg (Str.ofString b) = none
  ks : ∀ k ∈ Γ.ks, ∃ C, mg (Str.ofString k) = some (.ref C) ∧ PySem.W.kitOne K (.ref Dx) (.ref C) = some (ix k)
  ve : PySem.W.kitOne K (.ref Dx) (.type "ValueError") = some true
theorem allB_of {K : PySem.W.Frag} {H : Hp} : ∀ {ws : List V} {bs : List D}, RepDs K H ws bs → allB bs = true → ∃ cs : List Bool, ws = cs.map V.bl ∧ bs = cs.map PyData.bool
  | _, _, .nil, _ => ⟨[], rfl, rfl⟩
  | _, _, .cons h r, e => by
    rename_i d ds
    cases d with
    | bool b =>
      obtain ⟨cs, h1, h2⟩ := allB_of r (by simpa [allB] using e)
      cases h
      exact ⟨b :: cs, by rw [h1]; rfl, by rw [h2]; rfl⟩
    | _ => simp [allB] at e
theorem keepB_snoc : ∀ (xs : List D) (cs : List Bool) (x : D) (b : Bool), xs.length = cs.length → keepB (xs ++ [x]) ((cs ++ [b]).map PyData.bool) = keepB xs (cs.map PyData.bool) ++ (if b then [x] else [])
  | [], [], x, b, _ => by cases b <;> rfl
  | [], _ :: _, _, _, h => by simp at h
  | _ :: _, [], _, _, h => by simp at h
  | y :: xs, c :: cs, x, b, h => by
    have ih := keepB_snoc xs cs x b (by simpa using h)
    simp only [List.cons_append, List.map_cons, keepB, ih]
    cases c <;> simp
theorem items_rep {K : PySem.W.Frag} {H0 H : Hp} {v : V} {s : SV} {xs : List D} (r : RH K H0 H v s) (e : items? s = some xs) : ∃ a vs, v = .ref a ∧ vs.length ≤ sizeLine ∧ RepDs K H vs xs ∧ ((H0 a = none ∧ H a = some (.lst vs)) ∨ FzL H a vs ∨ SqT K H a vs) := by
  cases s with
  | d x =>
    cases x with
    | list ys =>
      cases e
      cases (show RepD K H v (.list xs) from r) with
      | lst h z r => exact ⟨_, _, rfl, z, r, .inr (.inl h)⟩
    | tuple ys =>
      cases e
      cases (show RepD K H v (.tuple xs) from r) with
      | tup h z r => exact ⟨_, _, rfl, z, r, .inr (.inr h)⟩
    | _ => cases e
  | ml ys =>
    cases e
    obtain ⟨a, vs, h1, h2, h3, h4, h5⟩ := r
    rcases h3 with h3 | h3
    · exact ⟨a, vs, h1, h4, h5, .inl ⟨h2, h3⟩⟩
    · exact ⟨a, vs, h1, h4, h5, .inr (.inl h3)⟩
  | md _ => exact r.elim
  | rl _ => exact r.elim
/-- what is walked is frozen -/
theorem src_fz {K : PySem.W.Frag} {H0 H : Hp} {a : Addr} {vs : List V} {R : Hp → Prop} (h : (H0 a = none ∧ H a = some (.lst vs)) ∨ FzL H a vs ∨ SqT K H a vs) (q : ∀ H' k, GrF H0 H H' → Src K H' a vs k → FzQ R H') : FzQ R H := by
  rcases h with ⟨h0, h⟩ | h | h
  · refine .step h trivial fun od => q _ .L (fun b u e => ?_) ⟨od, upd_same⟩
    by_cases hb : b = a
    · subst hb
      rw [h] at e; cases e
      exact .inr ⟨h0, .inl ⟨_, rfl⟩, od, upd_same⟩
    · exact .inl (by rw [upd_ne hb]; exact e)
  · exact q H .L (GrF.refl _ _) h
  · exact q H .T (GrF.refl _ _) h

theorem same_none {H0 H : Hp} (s : Same H0 H) {a : Addr} (h : H a = none) : H0 a = none := by
  cases e : H0 a with
  | none => rfl
  | some u => rw [s a u e] at h; cases h
theorem binSem_seq {s t : SV} {xs ys : List D} (h1 : s.seqL = some xs) (h2 : t.seqL = some ys) (hz : xs.length + ys.length ≤ SZ) : binSem .Add s t = some (.ml (xs ++ ys)) := by
  have key : ∀ s : SV, s.seqL = some xs → s = .ml xs ∨ s = .d (.list xs) := fun s h => by
    cases s with
    | ml z => cases h; exact .inl rfl
    | d z => cases z <;> first | (cases h; exact .inr rfl) | cases h
    | _ => cases h
  have key2 : ∀ s : SV, s.seqL = some ys → s = .ml ys ∨ s = .d (.list ys) := fun s h => by
    cases s with
    | ml z => cases h; exact .inl rfl
    | d z => cases z <;> first | (cases h; exact .inr rfl) | cases h
    | _ => cases h
  rcases key s h1 with rfl | rfl <;> rcases key2 t h2 with rfl | rfl <;> simp [binSem, SV.seqL, hz]
theorem rep_words {K : PySem.W.Frag} {H : Hp} : ∀ {ws : List Str}, (∀ w ∈ ws, okWord w = true) → RepDs K H (ws.map V.str) (ws.map PyData.str)
  | [], _ => .nil
  | w :: r, h => .cons (.str w (okWord_str (h w List.mem_cons_self))) (rep_words fun x hx => h x (List.mem_cons_of_mem _ hx))
theorem words_rep {K : PySem.W.Frag} {H : Hp} : ∀ {vs : List V} {xs : List D} {ys : List Str}, RepDs K H vs xs → strsOf xs = some ys → vs = ys.map V.str
  | _, _, _, .nil, e => by simp [strsOf] at e; subst e; rfl
  | _, _, ys, .cons (d := .str i) h r, e => by
    simp only [strsOf, Option.map_eq_some_iff] at e
    obtain ⟨m, e1, e2⟩ := e
    subst e2
    cases h
    rw [words_rep r e1]; rfl
  | _, _, _, .cons (d := .none) _ _, e => by simp [strsOf] at e
  | _, _, _, .cons (d := .bool _) _ _, e => by simp [strsOf] at e
  | _, _, _, .cons (d := .int _) _ _, e => by simp [strsOf] at e
  | _, _, _, .cons (d := .list _) _ _, e => by simp [strsOf] at e
  | _, _, _, .cons (d := .tuple _) _ _, e => by simp [strsOf] at e
  | _, _, _, .cons (d := .dict _) _ _, e => by simp [strsOf] at e
/-- a new list of the suite -/
theorem RH.newL {K : PySem.W.Frag} {H0 H : Hp} {xs : List D} {vs : List V} {Q : VK} (sm : Same H0 H) (r : RepDs K H vs xs) (z : vs.length ≤ sizeLine) (q : ∀ v H', GrF H0 H H' → RH K H0 H' v (.ml xs) → Q v H') : ∀ b, H b = none → Q (.ref b) (upd H b (.lst vs)) := fun b hb =>
  q _ _ (GrF.of (same_upd hb)) ⟨b, vs, rfl, same_none sm hb, .inl upd_same, z, r.im (Same.im (same_upd hb))⟩
section
variable {X : Cx} {Γ : HK} {K : PySem.W.Frag} {mg : Str → Option Value} {ix : String → Bool} {sc : Scope} {ie : Nat} {Dx : Addr} {p : Addr × Obj}
theorem hck_star {e : HE} {x : Expr} (h : hck Γ sc e x = true) (env : PySem.Env) (r : List Expr) : starEach (x :: r) env = (false, eval x env) :: starEach r env := by
  cases x <;> first | rfl | (cases e <;> cases h)
theorem hcks_len : ∀ {es : HEs} {xs : List Expr} {η : Rho} {ys : List D}, hcks Γ sc es xs = true → hevs ix η es = some ys → ys.length = xs.length
  | .n, [], _, _, _, e => by simp only [hevs, Option.some.injEq] at e; subst e; rfl
  | .n, _ :: _, _, _, h, _ => by cases h
  | .c _ _, [], _, _, h, _ => by cases h
  | .c a r, x :: xs, η, ys, h, e => by
    simp only [hcks, Bool.and_eq_true] at h
    simp only [hevs] at e
    split at e
    · rename_i z zs e1 e2
      cases e
      simp [hcks_len h.2 e2]
    · cases e
theorem hbl_of (c : HotOk Γ K mg ix sc ie Dx p X) {b : String} {y : Expr} (hb : b ∈ ["isinstance", "zip", "ValueError"]) (h : blB sc b y = true) : ∃ q, y = .Name (Str.ofString b) q ∧ Gl X (Str.ofString b) ∧ X.mg (Str.ofString b) = none := by
  unfold blB at h
  split at h
  · simp only [Bool.and_eq_true, strB, decide_eq_true_eq] at h
    obtain ⟨⟨rfl, h2⟩, h3⟩ := h
    exact ⟨_, rfl, by show X.env.scope.names.lookup _ = _; rw [c.hsc]; exact gl_of h2, by rw [c.m]; exact c.bl b hb⟩
  · cases h
theorem herr_of (c : HotOk Γ K mg ix sc ie Dx p X) {y : Expr} (h : herr Γ sc y = true) : PE X y (tVar ie) ∧ ∃ q, y = .Name Γ.er q := by
  unfold herr at h
  split at h
  · simp only [Bool.and_eq_true, strB, decide_eq_true_eq] at h
    obtain ⟨⟨rfl, h2⟩, h3⟩ := h
    obtain ⟨d1, d2, _⟩ := okName_of h3
    exact ⟨pe_var (by rw [c.N]; exact c.ei) (by rw [c.hsc]; exact vis_of h2) d1 d2, _, rfl⟩
  · cases h
theorem hrd_of {N : List Str} {sx : Scope} {Y : Cx} (hN : Y.N = Γ.N) (hs : Y.env.scope = sx) {i : Nat} {y : Expr} (h : hrd Γ sx i y = true) : PE Y y (tVar i) ∧ ∃ n q, y = .Name n q := by
  unfold hrd at h
  split at h
  · simp only [Bool.and_eq_true, decide_eq_true_eq] at h
    obtain ⟨⟨h1, h2⟩, h3⟩ := h
    obtain ⟨d1, d2, _⟩ := okName_of h3
    exact ⟨pe_var (by rw [hN]; exact h1) (by rw [hs]; exact vis_of h2) d1 d2, _, _, rfl⟩
  · cases h
theorem hst_of {Y : Cx} {sx : Scope} (hN : Y.N = Γ.N) (nd : Γ.N.Nodup) (hs : Y.env.scope = sx) {i : Nat} {y : Expr} (h : hst Γ sx true i y = true) : PG Y y (gName i) ∧ ∃ n q, y = .Name n q := by
  unfold hst at h
  split at h
  · simp only [Bool.and_eq_true, decide_eq_true_eq, Bool.not_true, Bool.false_and, Bool.false_or] at h
    obtain ⟨⟨⟨h1, h2⟩, h3⟩, h4⟩ := h
    exact ⟨pg_name (by rw [hN]; exact nd) (by rw [hN]; exact h1) (by rw [hs]; exact loc_of h2) (.inr (by rw [hs]; exact local_of h3)), _, _, rfl⟩
  · cases h
theorem hst_name {sx : Scope} {cl : Bool} {i : Nat} {y : Expr} (h : hst Γ sx cl i y = true) : ∃ n q, y = .Name n q := by
  unfold hst at h
  split at h
  · exact ⟨_, _, rfl⟩
  · cases h
theorem hrd_name {sx : Scope} {i : Nat} {y : Expr} (h : hrd Γ sx i y = true) : ∃ n q, y = .Name n q := by
  unfold hrd at h
  split at h
  · exact ⟨_, _, rfl⟩
  · cases h
theorem kve : bootBuiltins (Str.ofString "ValueError") = some (.type "ValueError") := by decide +kernel
/-- isinstance(e, ValueError) -/
theorem isv_pe {H0 : Hp} (c : HotOk Γ K mg ix sc ie Dx p X) {x : Expr} (h : isvB Γ sc x = true) : PE X x (hE K H0 ix Γ.N.length ie p.1 .isv) ∧ ∃ y r q, x = .Call y r [] q := by
  unfold isvB at h
  split at h
  · rename_i y x0 t q
    simp only [Bool.and_eq_true] at h
    obtain ⟨⟨h1, h2⟩, h3⟩ := h
    obtain ⟨q1, rfl, g1, m1⟩ := hbl_of c (b := "isinstance") (by decide) h1
    obtain ⟨q2, rfl, g2, m2⟩ := hbl_of c (b := "ValueError") (by decide) h3
    obtain ⟨pe, q3, rfl⟩ := herr_of c h2
    have pT : PE X (.Name (Str.ofString "ValueError") q2) (tC (.ty "ValueError")) := pe_bltn g2 m2 kve rfl (by decide) (by decide)
    refine ⟨PE.weak (pe_callB c.is g1 m1 (by decide +kernel) (pa_cons pe (pa_cons pT pa_nil) rfl) (by decide) (by decide) rfl rfl) fun σ H Q ⟨sm, he, η, rel, s, e, q⟩ => ?_, _, _, _, rfl⟩
    cases e
    exact ⟨.ref p.1, he.1, .ty "ValueError", .type "ValueError", true, rfl, fun u r => r, c.ve, q (.bl true) H (GrF.refl _ _) (.bl true)⟩
  · cases h
theorem spl_pe {H0 : Hp} (c : HotOk Γ K mg ix sc ie Dx p X) {a : Str} {ws : List Str} {x : Expr} (h : hck Γ sc (.spl a ws) x = true) : PE X x (hE K H0 ix Γ.N.length ie p.1 (.spl a ws)) := by
  simp only [hck] at h
  split at h
  · simp only [Bool.and_eq_true, strB, decide_eq_true_eq, List.all_eq_true] at h
    obtain ⟨⟨⟨⟨⟨⟨⟨⟨rfl, rfl⟩, rfl⟩, h4⟩, h5⟩, h6⟩, h7⟩, h8⟩, h9⟩ := h
    refine PE.weak (pe_split pe_str pe_str rfl rfl h4) fun σ H Q ⟨sm, he, η, rel, s, e, q⟩ => ?_
    cases e
    have z : a.length + 2 ≤ sizeLine := by rw [sizeLine_eq]; omega
    refine ⟨⟨a, rfl⟩, a, " ", rfl, rfl, by decide, z, ?_⟩
    rw [h8]
    exact RH.newL sm (rep_words h6) (by rw [List.length_map]; exact small_line h7) q
  · cases h
/-- turns of the comprehension over two lists -/
theorem lcz_read {H0 : Hp} {w g : Nat} {a b : HE} {σ : St} {H : Hp} {Q : VK} (hwg : w ≠ g) (hw : w < Γ.N.length) (hg : g < Γ.N.length) (h : hE K H0 ix Γ.N.length ie p.1 (.lcz w g a b) σ H Q) :
    tLc (iZ K (tFzA (tCons (hE K H0 ix Γ.N.length ie p.1 a) (tCons (hE K H0 ix Γ.N.length ie p.1 b) tNil)))) (gTup K 2 (gCons (gName w) (gCons (gName g) gNil))) (fun σ H Q => tVar g σ H fun x H' => ∃ k, TruV K x H' k ∧ Q k H') (tVar w) [w, g] σ H Q := by
  obtain ⟨sm, he, η, rel, s, e, q⟩ := h
  simp only [hev] at e
  split at e
  · rename_i s1 bs e1 e2
    split at e
    · rename_i xs e3
      split at e
      · rename_i hz
        cases e
        refine ⟨sm, he, η, rel, s1, e1, fun v1 H1 g1 r1 => ⟨GrF.base sm g1, he, η, rel.gr g1, _, e2, fun v2 H2 g2 r2 => ?_⟩⟩
        obtain ⟨a1, vs, rfl, z1, rd1, src1⟩ := items_rep (r1.gr g2) e3
        refine src_fz src1 fun H3 k1 g3 sr1 => ?_
        obtain ⟨a2, ws, rfl, z2, rd2, src2⟩ := items_rep (s := .ml bs) (r2.gr g3) rfl
        refine src_fz src2 fun H4 k2 g4 sr2 => .done ⟨k1, k2, a1, a2, vs, ws, rfl, sr1.im g4.im, sr2, fun Dl hD => ?_⟩
        have gr4 : GrF H0 H H4 := ((g1.trans g2).trans g3).trans g4
        have rx : RepDs K H4 vs xs := rd1.im (g3.trans g4).im
        have sr1' : Src K H4 a1 vs k1 := sr1.im g4.im
        obtain ⟨cs, rfl, rfl⟩ := allB_of rd2 hz.1
        have hl : xs.length = cs.length := by simpa using hz.2
        have hlv : vs.length = cs.length := by rw [rx.length, hl]
        have keepU : ∀ u, Same H4 (upd H4 Dl u) := fun u => same_upd hD
        refine ⟨fun i m Hc => m = cs.length - i ∧ i ≤ cs.length ∧ Same H4 Hc ∧ ∃ accV, Hc Dl = some (.lst accV) ∧ accV.length ≤ i ∧ RepDs K Hc accV (keepB (xs.take i) ((cs.take i).map PyData.bool)), ⟨cs.length, by simp, Nat.zero_le _, keepU _, [], upd_same, Nat.le_refl _, by simpa [keepB] using RepDs.nil⟩, ?_⟩
        rintro i m Hc ⟨rfl, hi, sc4, accV, hA, hAl, rA⟩
        have im4 : Im H4 Hc := Same.im sc4
        by_cases hlt : i < cs.length
        · refine .inr ⟨⟨sr1'.im im4, sr2.im im4, by simp [hlv, hlt]⟩, fun H' => Same H4 H' ∧ ∃ accV, H' Dl = some (.lst accV) ∧ accV.length ≤ i + 1 ∧ RepDs K H' accV (keepB (xs.take (i + 1)) ((cs.take (i + 1)).map PyData.bool)),
            fun H' ⟨h1, accW, h2, h3, h4⟩ => ⟨cs.length - (i + 1), by omega, rfl, by omega, h1, accW, h2, h3, h4⟩, fun v H' y => ?_⟩
          obtain ⟨T, x, y, rfl, hT, rfl, ex, ey⟩ := y
          rw [List.getElem?_map, List.getElem?_eq_getElem hlt] at ey
          cases ey
          obtain ⟨dx, hdx, rdx⟩ := rx.getV ex
          have smT : Same Hc (upd Hc T (.tup [x, .bl cs[i]])) := same_upd hT
          have tk1 : xs.take (i + 1) = xs.take i ++ [dx] := by rw [List.take_add_one, hdx]; rfl
          have tk2 : cs.take (i + 1) = cs.take i ++ [cs[i]] := by rw [List.take_add_one, List.getElem?_eq_getElem hlt]; rfl
          have kp : keepB (xs.take (i + 1)) ((cs.take (i + 1)).map PyData.bool) = keepB (xs.take i) ((cs.take i).map PyData.bool) ++ (if cs[i] then [dx] else []) := by
            rw [tk1, tk2, keepB_snoc _ _ _ _ (by simp [hl])]
          have hAT : (upd Hc T (.tup [x, .bl cs[i]])) Dl = some (.lst accV) := smT _ _ hA
          have lw : (wipe σ [w, g]).length = Γ.N.length := by rw [wipe_length]; exact he.2
          refine ⟨T, [x, .bl cs[i]], rfl, SqT.of upd_same, rfl, x, [.bl cs[i]], rfl, .bl cs[i], [], rfl, rfl, ?_⟩
          refine ⟨?_, ?_⟩
          · have e1 : wipe (wipe σ [w, g]) [w, g] = wipe σ [w, g] := wipe_eq (wipe_length σ _) fun k hk => wipe_out hk
            refine (wipe_eq (by simp) fun k hk => ?_).trans e1
            simp only [List.mem_cons, List.not_mem_nil, or_false, not_or] at hk
            rw [List.getElem?_set_ne (Ne.symm hk.2), List.getElem?_set_ne (Ne.symm hk.1)]
          · refine ⟨.bl cs[i], by rw [List.getElem?_set_self (by rw [List.length_set, lw]; exact hg)], cs[i], rfl, ?_⟩
            cases hb : cs[i] with
            | false =>
              simp only [Bool.false_eq_true, if_false]
              rw [hb] at kp hAT smT
              exact ⟨fun a u h => smT _ _ (sc4 a u h), accV, hAT, Nat.le_succ_of_le hAl, by rw [kp]; simpa using rA.im (Same.im smT)⟩
            | true =>
              simp only [if_true]
              rw [hb] at kp hAT smT
              refine ⟨x, by rw [List.getElem?_set_ne (Ne.symm hwg), List.getElem?_set_self (by rw [lw]; exact hw)], accV, hAT, ?_, ?_⟩
              · have := z1
                rw [hlv] at this
                omega
              · have imD := im_updD (ws := accV ++ [x]) hAT
                refine ⟨fun a u h => ?_, accV ++ [x], upd_same, by simp; omega, ?_⟩
                · have nd : a ≠ Dl := fun z => by rw [z, hD] at h; cases h
                  rw [upd_ne nd]; exact smT _ _ (sc4 a u h)
                · rw [kp]
                  exact ((rA.append (.cons (rdx.im im4) .nil)).im (Same.im smT)).im imD
        · have ei : i = cs.length := by omega
          subst ei
          refine .inl ⟨⟨sr1'.im im4, sr2.im im4, by simp [hlv]⟩, q _ Hc (gr4.trans (GrF.of sc4)) ⟨Dl, accV, rfl, same_none (GrF.base sm gr4) hD, .inl hA, ?_, ?_⟩⟩
          · exact Nat.le_trans hAl (by rw [← hlv]; exact z1)
          · rw [List.take_of_length_le (by omega), List.take_of_length_le (Nat.le_refl _)] at rA
            exact rA
      · cases e
    · cases e
  · cases e
mutual
theorem hok {H0 : Hp} (c : HotOk Γ K mg ix sc ie Dx p X) : ∀ (e : HE) (x : Expr), hck Γ sc e x = true → PE X x (hE K H0 ix Γ.N.length ie p.1 e)
  | .k s, x, h => by
    simp only [hck] at h
    split at h
    · simp only [Bool.and_eq_true, strB, decide_eq_true_eq] at h
      obtain ⟨rfl, h2⟩ := h
      refine PE.weak pe_str fun σ H Q ⟨sm, he, η, rel, s', e, q⟩ => ?_
      cases e
      exact q _ H (GrF.refl _ _) (RepD.str _ (okWord_str h2))
    · cases h
  | .v i, x, h => by
    refine PE.weak (hrd_of (N := Γ.N) c.N c.hsc (show hrd Γ sc i x = true from h)).1 fun σ H Q ⟨sm, he, η, rel, s, e, q⟩ => ?_
    obtain ⟨v, h1, h2⟩ := rel i s e
    exact ⟨v, h1, q v H (GrF.refl _ _) h2⟩
  | .isx k, x, h => by
    simp only [hck] at h
    split at h
    · simp only [Bool.and_eq_true, strB, decide_eq_true_eq] at h
      obtain ⟨⟨⟨⟨⟨h1, h2⟩, h3⟩, rfl⟩, h5⟩, h6⟩ := h
      obtain ⟨q1, rfl, g1, m1⟩ := hbl_of c (b := "isinstance") (by decide) h1
      obtain ⟨pe, q3, rfl⟩ := herr_of c h2
      obtain ⟨C, mC, kC⟩ := c.ks k h3
      have gz : Gl X (Str.ofString k) := by show X.env.scope.names.lookup _ = _; rw [c.hsc]; exact gl_of h5
      have mX : X.mg (Str.ofString k) = some (.ref C) := by rw [c.m]; exact mC
      refine PE.weak (pe_callB c.is g1 m1 (by decide +kernel) (pa_cons pe (pa_cons (pe_glob (v := .ref C) gz mX rfl (okName_of h6).1) pa_nil rfl) rfl) (by decide) (by decide) rfl rfl) fun σ H Q ⟨sm, he, η, rel, s, e, q⟩ => ?_
      cases e
      exact ⟨.ref p.1, he.1, .ref C, .ref C, ix k, rfl, fun u r => r, kC, q (.bl _) H (GrF.refl _ _) (.bl _)⟩
    · cases h
  | .isv, x, h => (isv_pe c h).1
  | .lst es, x, h => by
    simp only [hck] at h
    split at h
    · simp only [Bool.and_eq_true, decide_eq_true_eq] at h
      refine PE.weak (pe_lst (hoks (H0 := H0) c es _ h.1)) fun σ H Q ⟨sm, he, η, rel, s, e, q⟩ => ?_
      simp only [hev, Option.map_eq_some_iff] at e
      obtain ⟨xs, e1, rfl⟩ := e
      refine ⟨sm, he, η, rel, xs, e1, fun vs H1 g rd => ?_⟩
      have z : vs.length ≤ sizeLine := by rw [rd.length, hcks_len h.1 e1]; exact small_line h.2
      exact ⟨z, RH.newL (GrF.base sm g) rd z fun v H' g' r => q v H' (g.trans g') r⟩
    · cases h
  | .tup es, x, h => by
    simp only [hck] at h
    split at h
    · simp only [Bool.and_eq_true, decide_eq_true_eq] at h
      refine PE.weak (pe_tup (hoks (H0 := H0) c es _ h.1)) fun σ H Q ⟨sm, he, η, rel, s, e, q⟩ => ?_
      simp only [hev, Option.map_eq_some_iff] at e
      obtain ⟨xs, e1, rfl⟩ := e
      refine ⟨sm, he, η, rel, xs, e1, fun vs H1 g rd => ?_⟩
      have z : vs.length ≤ sizeLine := by rw [rd.length, hcks_len h.1 e1]; exact small_line h.2
      exact ⟨z, fun b hb => q _ _ (g.trans (GrF.of (same_upd hb))) (RepD.tup (SqT.of upd_same) z (rd.im (Same.im (same_upd hb))))⟩
    · cases h
  | .add a b, x, h => by
    simp only [hck] at h
    split at h
    · simp only [Bool.and_eq_true] at h
      refine PE.weak (pe_op (op_binQ .Add) (hok (H0 := H0) c a _ h.1) (hok (H0 := H0) c b _ h.2)) fun σ H Q ⟨sm, he, η, rel, s, e, q⟩ => ?_
      simp only [hev] at e
      split at e
      · rename_i xs ys e1 e2
        split at e
        · rename_i hz
          cases e
          refine ⟨sm, he, η, rel, _, e1, fun v H1 g1 r1 => ⟨GrF.base sm g1, he, η, rel.gr g1, _, e2, fun w H2 g2 r2 => ?_⟩⟩
          obtain ⟨s1, a1, _, a3⟩ := (r1.gr g2).s
          obtain ⟨s2, b1, _, b3⟩ := r2.s
          rw [c.k]
          refine ⟨s1, s2, _, a1, b1, binSem_seq a3 b3 hz, fun u H3 sm3 ru fr => q u H3 ((g1.trans g2).trans (GrF.of sm3)) ?_⟩
          obtain ⟨d, us, rfl, k1, k2, k3⟩ := ru
          exact ⟨d, us, rfl, same_none (GrF.base sm (g1.trans g2)) (fr rfl d rfl), .inl k1, k2, k3⟩
        · cases e
      · cases e
    · cases h
  | .spl a ws, x, h => spl_pe (H0 := H0) c h
  | .jn a b, x, h => by
    simp only [hck] at h
    split at h
    · simp only [Bool.and_eq_true, strB, decide_eq_true_eq] at h
      obtain ⟨⟨⟨⟨rfl, rfl⟩, h3⟩, h4⟩, h5⟩ := h
      refine PE.weak (pe_join pe_str (hok (H0 := H0) c b _ h5) (hck_star h5 _ _) rfl h3) fun σ H Q ⟨sm, he, η, rel, s, e, q⟩ => ?_
      simp only [hev] at e
      split at e
      · rename_i xs e1
        split at e
        · rename_i ys e2
          split at e
          · rename_i hz
            cases e
            refine ⟨⟨a, rfl⟩, sm, he, η, rel, _, e1, fun v H1 g1 r1 => ?_⟩
            obtain ⟨d, us, rfl, k1, k2, k3, k4⟩ := r1
            have ev := words_rep k4 e2
            subst ev
            exact ⟨a, d, ys, rfl, rfl, .inl (Rd.sq k2), hz.2, q _ H1 g1 (RepD.str _ (okWord_str hz.1))⟩
          · cases e
        · cases e
      · cases e
    · cases h
  | .ifne a b d, x, h => by
    simp only [hck] at h
    split at h
    · simp only [Bool.and_eq_true] at h
      obtain ⟨⟨h1, h2⟩, h3⟩ := h
      refine PE.weak (pe_ifExp (pt_cmpR (op_cmpQ c.hu .NotEq) (hok (H0 := H0) c a _ h1) (pe_lst pa_nil) rfl) (hok (H0 := H0) c b _ h2) (hok (H0 := H0) c d _ h3)) fun σ H Q ⟨sm, he, η, rel, s, e, q⟩ => ?_
      simp only [hev] at e
      split at e
      · rename_i s1 e1
        refine ⟨sm, he, η, rel, _, e1, fun v H1 g1 r1 => ⟨Nat.zero_le _, fun n hn => ?_⟩⟩
        obtain ⟨t1, a1, a2, _⟩ := (r1.gr (GrF.of (H0 := H0) (same_upd (o := .lst []) hn))).s
        rw [c.k]
        have rn : RepS K (upd H1 n (.lst [])) (.ref n) (.ml []) := ⟨n, [], rfl, upd_same, Nat.zero_le _, .nil⟩
        have g2 := g1.trans (GrF.of (H0 := H0) (same_upd (o := .lst []) hn))
        split at e
        · rename_i e2
          refine ⟨t1, .ml [], true, a1, rn, by simp only [cmpSem, a2] at e2 ⊢; exact e2, true, rfl, ?_⟩
          simp only [if_true]
          exact ⟨GrF.base sm g2, he, η, rel.gr g2, s, e, fun v H' g' r => q v H' (g2.trans g') r⟩
        · rename_i e2
          refine ⟨t1, .ml [], false, a1, rn, by simp only [cmpSem, a2] at e2 ⊢; exact e2, false, rfl, ?_⟩
          simp only [Bool.false_eq_true, if_false]
          exact ⟨GrF.base sm g2, he, η, rel.gr g2, s, e, fun v H' g' r => q v H' (g2.trans g') r⟩
        · cases e
      · cases e
    · cases h
  | .ifv b d, x, h => by
    simp only [hck] at h
    split at h
    · simp only [Bool.and_eq_true] at h
      obtain ⟨⟨h1, h2⟩, h3⟩ := h
      obtain ⟨pv, y0, r0, q0, rfl⟩ := isv_pe (H0 := H0) c h1
      refine PE.weak (pe_ifExp (pt_truth pv fun _ => rfl) (hok (H0 := H0) c b _ h2) (hok (H0 := H0) c d _ h3)) fun σ H Q ⟨sm, he, η, rel, s, e, q⟩ => ?_
      simp only [hev] at e
      refine ⟨sm, he, η, rel, _, rfl, fun v H1 g1 r1 => ?_⟩
      cases (show RepD K H1 v (.bool true) from r1)
      refine ⟨true, rfl, ?_⟩
      simp only [if_true]
      exact ⟨GrF.base sm g1, he, η, rel.gr g1, s, e, fun v H' g' r => q v H' (g1.trans g') r⟩
    · cases h
  | .lcz w g a b, x, h => by
    simp only [hck] at h
    split at h
    · simp only [Bool.and_eq_true, decide_eq_true_eq] at h
      obtain ⟨⟨⟨⟨⟨⟨⟨⟨⟨⟨⟨rfl, h1⟩, h2⟩, h3⟩, h4⟩, h5⟩, h6⟩, h7⟩, h8⟩, h9⟩, h10⟩, h11⟩ := h
      obtain ⟨q1, rfl, gz, mz⟩ := hbl_of c (b := "zip") (by decide) h5
      rename_i x0 t1 t2 kk tp xa xb pq u scp lp
      obtain ⟨n1, y1, rfl⟩ := hst_name h8
      obtain ⟨n2, y2, rfl⟩ := hst_name h9
      obtain ⟨n3, y3, rfl⟩ := hrd_name h10
      have bk := blkOk_by h3
      have hs : ∀ (s : Shared) (Hs : Hp) (Cc : Addr) (cl : List (Str × Addr)) (fp : List Addr), (X.blk s Hs scp (compEnvC scp cl Cc X.env) fp).env.scope = relS scp sc := fun s Hs Cc cl fp => by
        show relabel scp X.env = relS scp sc
        unfold relabel relS Env.kindOf
        rw [c.hsc]
      refine PE.weak (pe_lcX (own := [(Γ.N.getD w "", w), (Γ.N.getD g "", g)]) (g := gTup X.K 2 (gCons (gName w) (gCons (gName g) gNil))) (tt := fun σ H Q => tVar g σ H fun x H' => ∃ k, TruV X.K x H' k ∧ Q k H') (te := tVar w) c.hot c.pn (by rw [c.N]; exact c.nd)
        (pi_zX c.pn gz mz (pa_fz (pa_cons (hok (H0 := H0) c a _ h6) (pa_cons (hok (H0 := H0) c b _ h7) pa_nil (hck_star h7 _ _)) (hck_star h6 _ _))) (hck_star h6 _ _) (by rw [hck_star h7]; rfl)) (by rw [c.N, c.hsc]; exact bk)
        (fun s Hs Cc cl fp hot => pg_tupX hot (pgs_cons (hst_of (Γ := Γ) (Y := X.blk s Hs scp (compEnvC scp cl Cc X.env) fp) c.N c.nd (hs s Hs Cc cl fp) h8).1 (pgs_cons (hst_of (Γ := Γ) (Y := X.blk s Hs scp (compEnvC scp cl Cc X.env) fp) c.N c.nd (hs s Hs Cc cl fp) h9).1 pgs_nil rfl) rfl) rfl rfl)
        (fun s Hs Cc cl fp => pts_one (pt_truth (hrd_of (N := Γ.N) (Y := X.blk s Hs scp (compEnvC scp cl Cc X.env) fp) c.N (hs s Hs Cc cl fp) h10).1 fun _ => rfl)) (fun s Hs Cc cl fp => (hrd_of (N := Γ.N) (Y := X.blk s Hs scp (compEnvC scp cl Cc X.env) fp) c.N (hs s Hs Cc cl fp) h11).1) (fun v => rfl)) fun σ H Q h => ?_
      rw [c.k]
      exact lcz_read h4 h1 h2 h
    · cases h
theorem hoks {H0 : Hp} (c : HotOk Γ K mg ix sc ie Dx p X) : ∀ (e : HEs) (x : List Expr), hcks Γ sc e x = true → PA X x (hEs K H0 ix Γ.N.length ie p.1 e)
  | .n, x, h => by
    cases x with
    | nil =>
      refine PA.weak pa_nil fun σ H Q ⟨sm, he, η, rel, s, e, q⟩ => ?_
      simp only [hevs, Option.some.injEq] at e
      subst e
      exact q [] H (GrF.refl _ _) .nil
    | cons _ _ => cases h
  | .c a r, x, h => by
    cases x with
    | nil => cases h
    | cons y ys =>
      simp only [hcks, Bool.and_eq_true] at h
      refine PA.weak (pa_cons (hok (H0 := H0) c a y h.1) (hoks (H0 := H0) c r ys h.2) (hck_star h.1 _ _)) fun σ H Q ⟨sm, he, η, rel, s, e, q⟩ => ?_
      simp only [hevs] at e
      split at e
      · rename_i d ds e1 e2
        cases e
        exact ⟨sm, he, η, rel, _, e1, fun v H1 g1 r1 => ⟨GrF.base sm g1, he, η, rel.gr g1, _, e2, fun vs H2 g2 r2 => q (v :: vs) H2 (g1.trans g2) (.cons (RepD.im g2.im r1) r2)⟩⟩
      · cases e
end
end
end Q

namespace Q
open PySem PySem.Spec PyProof.Rows L2 HotX L2H
variable [LamT]
/-! ### except suites, defs that tell a word -/
/-- as the kit's ps_setLc, while an exception is handled -/
theorem ps_setLcX {X : Cx} {p1 : Addr × Obj} {j : Nat} {yn : Str} {yp : Pos} {el tgx itx : Expr} {tests : List Expr} {scp : Scope} {ownd : List (Str × Nat)} {lp stp : Pos} {wi : TI} {g : TG} {tt : TT} {te : TE} (hot1 : Hot1 X.A p1) (hpn : p1 ∈ X.pn) (hNd : X.N.Nodup) (hyj : X.N[j]? = some yn) (hyl : X.env.scope.names.lookup yn = some .local)
    (hsw : swapsWith (.ListComp el [⟨tgx, itx, tests, 0⟩] scp lp) (some (.Name yn yp)) stp.line X.env = pure true) (hIt : PIX X p1.1 tgx itx wi) (okB : BlkOk X.N X.env.scope scp ownd)
    (hgT : ∀ (s : Shared) (Hs : Hp) (Cc : Addr) (cl : List (Str × Addr)) (fp : List Addr), HotX1 (X.blk s Hs scp (compEnvC scp cl Cc X.env) fp) p1 → PG (X.blk s Hs scp (compEnvC scp cl Cc X.env) fp) tgx g) (htT : ∀ (s : Shared) (Hs : Hp) (Cc : Addr) (cl : List (Str × Addr)) (fp : List Addr), PTs (X.blk s Hs scp (compEnvC scp cl Cc X.env) fp) tests tt)
    (heE : ∀ (s : Shared) (Hs : Hp) (Cc : Addr) (cl : List (Str × Addr)) (fp : List Addr), PE (X.blk s Hs scp (compEnvC scp cl Cc X.env) fp) el te) (hsF : ∀ xx, foldedSetIterable itx X.env xx = pure xx) :
    PS X (.Assign [.Name yn yp] (.ListComp el [⟨tgx, itx, tests, 0⟩] scp lp) stp) (tAsg (tLc wi g tt te (ownd.map (·.2))) (gName j)) := by
  refine ⟨fun pns st σ0 Hs Dv Iv h => ?_⟩
  rw [exec_Assign_Name_used _ _ _ _ hsw]
  refine wpAny_bind (wpAny_standAt (wpAny_bind ?_))
  show wpAny _ X.A (do let _ ← comprehension (.ListComp el [⟨tgx, itx, tests, 0⟩] scp lp) scp X.env (firstIterPos [⟨tgx, itx, tests, 0⟩] lp) (newList []) false (eval itx X.env) (some (assign (.Name yn yp) X.env))) _ _ st
  have h : tLc wi g tt te (ownd.map (·.2)) σ0 Hs (fun x H1 => gName j x σ0 H1 Dv.nx) := h
  refine wpAny_bind (thn (lc_hot (Qfin := fun _ s' => SP X pns Dv .next s') hot1 hpn hNd Iv hIt okB hgT htT heE hsF h fun Lx Cx s' mx Hx Jx qx hnx fx => ?_) fun _ s' hq => wpAny_pure (wpAny_pure hq))
  show wpAny _ _ (assign (.Name yn yp) X.env (.ref Lx)) _ _ _
  refine wpAny_assign_Name (store_ok2 (v := V.ref Lx) Jx hNd hyj (.inl hyl) rfl (fun s2 I2 ⟨ax, sb, ha⟩ => ?_) (.inr hyl))
  obtain ⟨f0, f1, f2, f3, f4, f5⟩ := fx
  have haC : Cx ≠ ax := by
    rcases ha with z | z
    · rw [z]; exact f1
    · exact fun e => f4 yn ax z e.symm
  refine ⟨mx, hnx.sameBut sb haC, fun h3 sb3 => ?_⟩
  exact ⟨_, Hx, I2.turned (t' := s2.toks) (fun bb oo hb eq => (sb3.2 bb hb).trans eq) f0 f1 f3 f4 f5, qx⟩
inductive HS where
  | set (j : Nat) (e : HE) (r : HS) | ret (e : HE)
def hrun (ix : String → Bool) (η : Rho) : HS → Option SV
  | .ret e => hev ix η e
  | .set j e r => match hev ix η e with
    | some s => hrun ix (η.set j (some s)) r
    | none => none
def hckS (Γ : HK) (sc : Scope) (ie : Nat) : HS → List Stmt → Bool
  | .ret e, st => match st with
    | [.Return (some v) _] => hck Γ sc e v
    | _ => false
  | .set j e r, st => match st with
    | .Assign [t] v _ :: xs => hst Γ sc false j t && decide (j ≠ ie) && hck Γ sc e v && hckS Γ sc ie r xs
    | _ => false
def tH (K : PySem.W.Frag) (H0 : Hp) (ix : String → Bool) (nl ie : Nat) (ea : Addr) (s : HS) : TS := fun D σ H => Same H0 H ∧ He nl ie ea σ ∧ ∃ η, RelH K H0 σ H η ∧ ∃ r, hrun ix η s = some r ∧ ∀ v H', GrF H0 H H' → RH K H0 H' v r → D.rt v H'
section
variable {X : Cx} {Γ : HK} {K : PySem.W.Frag} {mg : Str → Option Value} {ix : String → Bool} {sc : Scope} {ie : Nat} {Dx : Addr} {p : Addr × Obj}
theorem hsw_of {e : HE} {v : Expr} (h : hck Γ sc e v = true) (hn : ∀ a b c d, v ≠ .ListComp a b c d) (t : Option Expr) (l : Nat) (env : PySem.Env) : swapsWith v t l env = pure false := by
  cases v <;> first
    | rfl
    | exact absurd rfl (hn _ _ _ _)
    | (cases e <;> cases h)
/-- a value is stored -/
theorem hset {H0 : Hp} (c : HotOk Γ K mg ix sc ie Dx p X) (hfn : ∀ y, X.fn y = true) {j : Nat} {e : HE} {t v : Expr} {pos : Pos} (ht : hst Γ sc false j t = true) (h : hck Γ sc e v = true) : PS X (.Assign [t] v pos) (tAsg (hE K H0 ix Γ.N.length ie p.1 e) (gName j)) := by
  obtain ⟨n, q, rfl⟩ := hst_name ht
  simp only [hst, Bool.and_eq_true, decide_eq_true_eq] at ht
  obtain ⟨⟨⟨t1, t2⟩, t3⟩, t4⟩ := ht
  have plain : swapsWith v (some (.Name n q)) pos.line X.env = pure false → PS X (.Assign [.Name n q] v pos) (tAsg (hE K H0 ix Γ.N.length ie p.1 e) (gName j)) := fun hs =>
    ps_set (by rw [c.N]; exact c.nd) (by rw [c.N]; exact t1) (by rw [c.hsc]; exact loc_of t2) (hok c e v h) hs (.inl (hfn n))
  rcases isLc_em v with ⟨y, gens, scp, lp, rfl⟩ | hn
  · have hsw := sw_lc (a := y) (b := gens) (c := scp) (d := lp) (y := n) (py := q) (l := pos.line) (env := X.env)
    cases hb : (X.env.blockKind == .function && X.env.kindOf n == some .local && q.line == lp.line && !(scp.names.any fun (m, k) => m == n && (k == .local || k == .cell))) with
    | false => rw [hb] at hsw; exact plain hsw
    | true =>
      rw [hb] at hsw
      have hyl : X.env.scope.names.lookup n = some .local := by
        simp only [Bool.and_eq_true, beq_iff_eq] at hb
        exact hb.1.1.2
      cases e <;> try (cases h)
      rename_i w g a b
      simp only [hck] at h
      split at h
      · rename_i x0 u1 u2 kk tp y0 xa xb pq u nn scp2 lp2 heq
        cases heq
        simp only [Bool.and_eq_true, decide_eq_true_eq] at h
        obtain ⟨⟨⟨⟨⟨⟨⟨⟨⟨⟨⟨rfl, h1⟩, h2⟩, h3⟩, h4⟩, h5⟩, h6⟩, h7⟩, h8⟩, h9⟩, h10⟩, h11⟩ := h
        obtain ⟨q1, rfl, gz, mz⟩ := hbl_of c (b := "zip") (by decide) h5
        obtain ⟨n1, y1, rfl⟩ := hst_name h8
        obtain ⟨n2, y2, rfl⟩ := hst_name h9
        obtain ⟨n3, y3, rfl⟩ := hrd_name h10
        have bk := blkOk_by h3
        have hs : ∀ (s : Shared) (Hs : Hp) (Cc : Addr) (cl : List (Str × Addr)) (fp : List Addr), (X.blk s Hs scp (compEnvC scp cl Cc X.env) fp).env.scope = relS scp sc := fun s Hs Cc cl fp => by
          show relabel scp X.env = relS scp sc
          unfold relabel relS Env.kindOf
          rw [c.hsc]
        refine PS.weak (ps_setLcX (ownd := [(Γ.N.getD w "", w), (Γ.N.getD g "", g)]) (g := gTup X.K 2 (gCons (gName w) (gCons (gName g) gNil))) (tt := fun σ H Q => tVar g σ H fun x H' => ∃ k, TruV X.K x H' k ∧ Q k H') (te := tVar w) c.hot c.pn (by rw [c.N]; exact c.nd) (by rw [c.N]; exact t1) hyl hsw
          (pi_zX c.pn gz mz (pa_fz (pa_cons (hok (H0 := H0) c a _ h6) (pa_cons (hok (H0 := H0) c b _ h7) pa_nil (hck_star h7 _ _)) (hck_star h6 _ _))) (hck_star h6 _ _) (by rw [hck_star h7]; rfl)) (by rw [c.N, c.hsc]; exact bk)
          (fun s Hs Cc cl fp hot => pg_tupX hot (pgs_cons (hst_of (Γ := Γ) (Y := X.blk s Hs scp (compEnvC scp cl Cc X.env) fp) c.N c.nd (hs s Hs Cc cl fp) h8).1 (pgs_cons (hst_of (Γ := Γ) (Y := X.blk s Hs scp (compEnvC scp cl Cc X.env) fp) c.N c.nd (hs s Hs Cc cl fp) h9).1 pgs_nil rfl) rfl) rfl rfl)
          (fun s Hs Cc cl fp => pts_one (pt_truth (hrd_of (N := Γ.N) (Y := X.blk s Hs scp (compEnvC scp cl Cc X.env) fp) c.N (hs s Hs Cc cl fp) h10).1 fun _ => rfl)) (fun s Hs Cc cl fp => (hrd_of (N := Γ.N) (Y := X.blk s Hs scp (compEnvC scp cl Cc X.env) fp) c.N (hs s Hs Cc cl fp) h11).1) (fun v => rfl)) fun D σ H h => ?_
        rw [c.k]
        exact lcz_read h4 h1 h2 h
      · cases h
  · exact plain (hsw_of h hn _ _ _)
theorem gt_len {ρ : Rho} {i : Nat} {s : SV} (h : gt ρ i = some s) : i < ρ.length := gt_lt h
theorem hsuite {H0 : Hp} (c : HotOk Γ K mg ix sc ie Dx p X) (hfn : ∀ y, X.fn y = true) : ∀ (s : HS) (st : List Stmt), hckS Γ sc ie s st = true → PSs X st (tH K H0 ix Γ.N.length ie p.1 s)
  | .ret e, st, h => by
    simp only [hckS] at h
    split at h
    · exact PSs.weak (pss_one (ps_ret (hok c e _ h))) fun D σ H ⟨sm, he, η, rel, r, e1, q⟩ => ⟨sm, he, η, rel, r, e1, q⟩
    · cases h
  | .set j e r, st, h => by
    simp only [hckS] at h
    split at h
    · simp only [Bool.and_eq_true, decide_eq_true_eq] at h
      obtain ⟨⟨⟨h1, h2⟩, h3⟩, h4⟩ := h
      refine PSs.weak (pss_cons (hset (H0 := H0) c hfn h1 h3) (hsuite (H0 := H0) c hfn r _ h4)) fun D σ H ⟨sm, he, η, rel, z, e1, q⟩ => ?_
      simp only [hrun] at e1
      split at e1
      · rename_i s1 e2
        have hj : j < Γ.N.length := by
          simp only [hst] at h1
          split at h1
          · simp only [Bool.and_eq_true, decide_eq_true_eq] at h1
            exact (List.getElem?_eq_some_iff.mp h1.1.1.1).1
          · cases h1
        refine ⟨sm, he, η, rel, s1, e2, fun v H1 g1 r1 => ⟨GrF.base sm g1, ⟨?_, by rw [List.length_set]; exact he.2⟩, η.set j (some s1), fun i t hi => ?_, z, e1, fun v' H' g' r' => q v' H' (g1.trans g') r'⟩⟩
        · rw [List.getElem?_set_ne h2]; exact he.1
        · rw [gt_set] at hi
          split at hi
          · rename_i hh
            cases hi
            obtain ⟨rfl, _⟩ := hh
            exact ⟨v, List.getElem?_set_self (by rw [he.2]; exact hj), r1⟩
          · rename_i hh
            obtain ⟨u, u1, u2⟩ := rel i t hi
            by_cases hij : i = j
            · subst hij
              exact absurd ⟨rfl, gt_lt hi⟩ hh
            · exact ⟨u, by rw [List.getElem?_set_ne (Ne.symm hij)]; exact u1, u2.gr g1⟩
      · cases e1
    · cases h
end
end Q

namespace Q
open PySem PySem.Spec PyProof.Rows L2 HotX L2H
variable [LamT]
/-- try: a() / except pe as er: suite / return .. -/
structure WD where
  N : List Str
  a : Str
  ie : Nat
  er : Str
  pe : String
  suite : HS
  ks : List String
  ec : List (String × List String)
def isW : Option SV → Str → Bool
  | some (.d (.str x)), w => strB x w
  | _, _ => false
def wdB (d : WD) (t : WT) (st : Stmt) : Bool :=
  scB d.N [d.a] (defScope st) && decide (d.N[0]? = some d.a) && okName d.a && decide (d.N[d.ie]? = some d.er) &&
  (match defBody st with
    | [.Try [.Expr (.Call (.Name x _) [] [] _) _] [.ExceptHandler (some (.Name y _)) (some n) (s0 :: ss) _] [] [] _, .Return (some (.Constant (.str z) _ _)) _] =>
      strB x d.a && strB y (Str.ofString d.pe) && glB (defScope st) y && okName y && strB n d.er && isLocal (defScope st) n && strB z t.dflt && hckS ⟨d.N, d.er, d.ks⟩ (defScope st) d.ie d.suite (s0 :: ss)
    | _ => false) &&
  t.tab.all fun p => match d.ec.lookup p.1 with
    | some sup => isW (hrun (fun k => sup.contains k) (List.replicate d.N.length none) d.suite) p.2
    | none => false
/-- what the module's classes must say -/
structure WdF (K : PySem.W.Frag) (mg : Str → Option Value) (d : WD) : Prop where
  pc : ∃ CP, mg (Str.ofString d.pe) = some (.ref CP) ∧ ∀ c sup, d.ec.lookup c = some sup → ∃ D, PySem.W.nsIn K mainGlobals (Str.ofString c) = some (some (.ref D)) ∧ ExcC K D ∧ PySem.W.exmOne K (.ref D) (.ref CP) = some true ∧
    (∀ k ∈ d.ks, ∃ C, mg (Str.ofString k) = some (.ref C) ∧ PySem.W.kitOne K (.ref D) (.ref C) = some (sup.contains k)) ∧ PySem.W.kitOne K (.ref D) (.type "ValueError") = some true
  bl : ∀ b ∈ ["isinstance", "zip", "ValueError"], mg (Str.ofString b) = none
theorem gt_rep (n i : Nat) : gt (List.replicate n none) i = none := by
  unfold gt
  rw [List.getElem?_replicate]
  split
  · rename_i h
    split at h <;> cases h
  · rfl
theorem isW_of {o : Option SV} {w : Str} (h : isW o w = true) : o = some (.d (.str w)) := by
  unfold isW at h
  split at h
  · simp only [strB, decide_eq_true_eq] at h
    rw [h]
  · cases h
theorem wd_gives {P : Program} {w : World} {K : PySem.W.Frag} {mg : Str → Option Value} {base : Heap} {d : WD} {t : WT} {st : Stmt} {x : Str} {g : Addr} (h : wdB d t st = true) (F : WdF K mg d) (cw : Value) : GivesN P w K mg base d.N x (defScope st) g cw (defBody st) d.a (TTw K t) := by
  unfold wdB at h
  simp only [Bool.and_eq_true, decide_eq_true_eq] at h
  obtain ⟨⟨⟨⟨⟨h1, h2⟩, h3⟩, h4⟩, h5⟩, h6⟩ := h
  have S := scB_of h1
  generalize hbody : defBody st = bd at h5 ⊢
  split at h5
  · rename_i px pc pe' y py n s0 ss ph pt z zk zp pr
    simp only [Bool.and_eq_true, strB, decide_eq_true_eq] at h5
    obtain ⟨⟨⟨⟨⟨⟨⟨rfl, rfl⟩, k3⟩, k4⟩, rfl⟩, k6⟩, rfl⟩, k8⟩ := h5
    obtain ⟨CP, mP, hP⟩ := F.pc
    intro q A stk f c' s H Q tl hroom act hco ht
    have hgl : Gl (cxOf C8.CX0 P w K mg base d.N x (defScope st) g cw A stk s H C8.E0).nox (Str.ofString d.pe) := gl_of k3
    have hie : d.ie < d.N.length := (List.getElem?_eq_some_iff.mp h4).1
    refine ⟨_, pss_cons (L2N.ps_try_as (X := (cxOf C8.CX0 P w K mg base d.N x (defScope st) g cw A stk s H C8.E0).nox) (c := .ref CP) (i := d.ie)
      (tb := fun W D σ H => ∃ Ech : XK, (∀ cls d σ' H', Ech cls d H' → W cls d σ' H') ∧ σ[0]? = some (some (.ref f)) ∧ H c' = some (LamX.CodeO c' q) ∧ tl Ech H fun _ H1 => D.nx σ H1)
      (ts := fun a cls dd D σ H => σ.length = d.N.length → ∃ cn sup Dx, dd = none ∧ cls = .ref Dx ∧ d.ec.lookup cn = some sup ∧ PySem.W.nsIn K mainGlobals (Str.ofString cn) = some (some (.ref Dx)) ∧ tH K H (fun k => sup.contains k) d.N.length d.ie a d.suite D σ H)
      (Wout := fun _ _ _ _ => False) rfl rfl S.nd h4 (local_of k6) ⟨hgl, (okName_of k4).1, .inl mP⟩ (fun _ _ z => ?_) (fun W pn xe tk _ => ?_) (fun a oe cls dd pn hz hf => ?_)) (pss_one (ps_ret pe_str)), ?_⟩
    · obtain ⟨_, _, _, _, _, _, _, _, _, _, _, _, _, _, _, _, z⟩ := z
      exact z.elim
    · refine ⟨fun pins s' σ H' D I h' => ?_⟩
      obtain ⟨Ech, hW, e1, e2, e3⟩ := h'
      have hp := act W pn xe Ech px pc tk hW
      exact (pss_one (ps_expr (pos := pe') hp rfl)).run pins s' σ H' D I ⟨e1, e2, e3⟩
    · refine ⟨fun pins s' σ H' D I h' => ?_⟩
      obtain ⟨cn, sup, Dx, rfl, rfl, e1, e2, e3⟩ := h' I.len
      obtain ⟨D2, n1, n2, n3, n4, n5⟩ := hP cn sup e1
      rw [e2] at n1
      cases n1
      obtain ⟨vs, hv⟩ := hf
      refine (hsuite (H0 := H') (X := (cxOf C8.CX0 P w K mg base d.N x (defScope st) g cw A stk s H C8.E0).nox.suite a ((a, oe) :: pn)) (Γ := ⟨d.N, d.er, d.ks⟩) (K := K) (mg := mg) (ix := fun k => sup.contains k) (sc := defScope st) (ie := d.ie) (Dx := Dx) (p := (a, oe)) ?_ (fun _ => rfl) d.suite _ k8).run pins s' σ H' D I e3
      exact { k := rfl, m := rfl, N := rfl, nd := S.nd, ei := h4, hsc := rfl
              hu := by
                have z : A.units + 3 + 16 * 0 + 200 < cLine := hroom.un
                show A.units + 3 + 65 < cLine
                omega
              hot := ⟨rfl, vs, hv, hz.2.2 vs hv⟩
              pn := List.mem_cons_self
              is := call_isE n2 hz.zc ⟨vs, hv⟩
              bl := F.bl
              ks := n4
              ve := n5 }
    · refine ⟨fun cls dd H' => ∃ e w, ExR K e cls dd ∧ t.tab.lookup e.cls = some w ∧ ∀ H'', Same H' H'' → Q (.str w) H'', fun cls dd σ' H' ⟨e, ww, hx, hl, hq⟩ => ?_, start_at rfl, hco, ht⟩
      obtain ⟨rfl, C, n0, rfl⟩ := hx
      have h7 := List.all_eq_true.mp h6 _ (look_mem hl)
      split at h7
      · rename_i sup e1
        have h8 := isW_of h7
        obtain ⟨D2, n1, n2, n3, n4, n5⟩ := hP _ sup e1
        rw [n0] at n1
        cases n1
        refine ⟨true, n3, fun _ a ha hlen => ⟨e.cls, sup, C, rfl, rfl, e1, n0, Same.refl _, ⟨?_, hlen⟩, _, fun i sv hi => ?_, _, h8, fun v H2 gr rv => ?_⟩, nofun⟩
        · rw [List.length_set] at hlen
          exact List.getElem?_set_self (by rw [hlen]; exact hie)
        · rw [gt_rep] at hi; cases hi
        · cases (show RepD K H2 v (.str ww) from rv)
          exact hq H2 (GrF.base (Same.refl _) gr)
      · cases h7
  · cases h5
theorem wd_ok {P : Program} {w : World} {K : PySem.W.Frag} {mg : Str → Option Value} {base : Heap} {d : WD} {t : WT} {f : String} {st : Stmt} {g : Addr} {fd : FuncData} (h : wdB d t st = true) (F : WdF K mg d) (Fg : Fun K (Str.ofString f) (Str.ofString f) st g fd) (hm : mg (Str.ofString f) = some (.ref g)) (hb : Binds K fd [d.a] []) : WdOk P w K mg base f t := by
  have h0 := h
  unfold wdB at h
  simp only [Bool.and_eq_true, decide_eq_true_eq] at h
  obtain ⟨⟨⟨⟨⟨h1, h2⟩, h3⟩, h4⟩, h5⟩, h6⟩ := h
  exact ⟨g, fd, st, d.N, d.a, Fg, hm, hb, scB_of h1, h2, h3, fun cw => wd_gives h0 F cw⟩
end Q

namespace Q
open PySem PySem.Spec PyProof.Rows L2 LamX
/-! ### the part without the tables; the end -/
abbrev flt (K : PySem.W.Frag) : PySem.W.Frag := K.filter fun q => !He.emptyTab q.2
theorem flt_look {K : PySem.W.Frag} {a : Addr} {o : Obj} (h : K.lookup a = some o) (n : He.emptyTab o = false) : (flt K).lookup a = some o := by
  induction K with
  | nil => cases h
  | cons p r ih =>
    obtain ⟨b, u⟩ := p
    rw [List.lookup_cons] at h
    unfold flt
    rw [List.filter_cons]
    cases hb : (a == b) with
    | true =>
      rw [hb] at h
      cases h
      simp only [n, Bool.not_false, if_true]
      rw [List.lookup_cons, hb]
    | false =>
      rw [hb] at h
      split
      · rw [List.lookup_cons, hb]; exact ih h
      · exact ih h
theorem flt_mem {K : PySem.W.Frag} {a : Addr} {o : Obj} (h : (flt K).lookup a = some o) : He.emptyTab o = false ∧ (a, o) ∈ K := by
  have h1 := He.lookup_mem h
  obtain ⟨h2, h3⟩ := List.mem_filter.mp h1
  exact ⟨by simpa using h3, h2⟩
/-- the part is told without doubles -/
def fltIn {K : PySem.W.Frag} {h : Heap} (X : K.In h) (nd : (K.map (·.1)).Nodup) : (flt K).In h := by
  intro a o e
  obtain ⟨_, hm⟩ := flt_mem e
  refine X a o ?_
  clear e X
  induction K with
  | nil => cases hm
  | cons p r ih =>
    obtain ⟨b, u⟩ := p
    simp only [List.map_cons, List.nodup_cons] at nd
    rcases List.mem_cons.mp hm with e | hm
    · cases e
      rw [List.lookup_cons, beq_self_eq_true]
    · have ne : (a == b) = false := by
        rw [beq_eq_false_iff_ne]
        intro z
        have hx : a ∈ r.map (·.1) := List.mem_map.mpr ⟨(a, o), hm, rfl⟩
        exact nd.1 (z ▸ hx)
      rw [List.lookup_cons, ne]
      exact ih nd.2 hm
theorem em_cls (oc : Value) (od : Option Addr) (cd : ClassData) (sl : Array (Option Value)) : He.emptyTab ⟨oc, od, .cls cd, sl⟩ = false := by
  cases oc <;> first | rfl | (cases od <;> rfl)
theorem em_dict (oc : Value) (od : Option Addr) (es : Array DictEntry) (n : Nat) (sl : Array (Option Value)) : He.emptyTab ⟨oc, od, .dict es n, sl⟩ = false := by
  cases oc <;> first | rfl | (cases od <;> rfl)
theorem em_func (oc : Value) (od : Option Addr) (fd : FuncData) (sl : Array (Option Value)) : He.emptyTab ⟨oc, od, .func fd, sl⟩ = false := by
  cases oc <;> first | rfl | (cases od <;> rfl)
theorem em_type (T : String) (od : Option Addr) (d : Data) (sl : Array (Option Value)) : He.emptyTab ⟨.type T, od, d, sl⟩ = false := rfl
section
variable {K : PySem.W.Frag}
theorem flt_ns {a : Addr} {x : Str} {v : Option Value} (h : PySem.W.nsIn K a x = some v) : PySem.W.nsIn (flt K) a x = some v := by
  unfold PySem.W.nsIn at h ⊢
  split at h
  · rename_i e
    rw [flt_look e (em_dict _ _ _ _ _)]
    exact h
  · cases h
theorem flt_cls {C : Addr} {cd : ClassData} (h : PySem.W.clsIn K C = some cd) : PySem.W.clsIn (flt K) C = some cd := by
  unfold PySem.W.clsIn at h ⊢
  split at h
  · rename_i e
    rw [flt_look e (em_cls _ _ _ _)]
    exact h
  · cases h
theorem flt_mro {C : Addr} {b : Value} {r : Bool} (h : PySem.W.mroIn K C b = some r) : PySem.W.mroIn (flt K) C b = some r := by
  unfold PySem.W.mroIn at h ⊢
  obtain ⟨cd, h1, h2⟩ := Option.bind_eq_some_iff.mp h
  rw [flt_cls h1]
  exact h2
theorem flt_sub {t b : Value} {r : Bool} (h : PySem.W.subIn K t b = some r) : PySem.W.subIn (flt K) t b = some r := by
  cases t with
  | ref C => exact flt_mro h
  | type T => exact h
  | _ => cases h
theorem flt_type {C : Addr} {T : String} (h : PySem.W.typeIn K (.ref C) = some (.type T)) : PySem.W.typeIn (flt K) (.ref C) = some (.type T) := by
  obtain ⟨o, h1, h2⟩ := Option.map_eq_some_iff.mp (show (K.lookup C).map (·.cls) = some (.type T) from h)
  obtain ⟨oc, od, dt, sl⟩ := o
  cases h2
  show ((flt K).lookup C).map (·.cls) = _
  rw [flt_look h1 (em_type _ _ _ _)]
  rfl
theorem flt_own {x : Str} {c : Value} {v : Option Value} (h : PySem.W.ownIn K x c = some v) : PySem.W.ownIn (flt K) x c = some v := by
  cases c with
  | ref a =>
    unfold PySem.W.ownIn at h ⊢
    simp only at h ⊢
    split at h
    · rename_i e
      rw [flt_look e (em_cls _ _ _ _)]
      exact flt_ns h
    · cases h
  | _ => exact h
theorem flt_along {x : Str} : ∀ {l : List Value} {v : Option Value}, PySem.W.alongIn K x l = some v → PySem.W.alongIn (flt K) x l = some v
  | [], v, h => h
  | c :: r, v, h => by
    unfold PySem.W.alongIn at h ⊢
    split at h
    · rename_i w e
      rw [flt_own e]
      exact h
    · rename_i e
      rw [flt_own e]
      exact flt_along h
    · cases h
theorem flt_find {C : Addr} {x : Str} {v : Option Value} (h : PySem.W.findIn K (.ref C) x = some v) : PySem.W.findIn (flt K) (.ref C) x = some v := by
  unfold PySem.W.findIn at h ⊢
  simp only at h ⊢
  split at h
  · rename_i e
    rw [flt_look e (em_cls _ _ _ _)]
    exact flt_along h
  · cases h
theorem flt_hd {C : Addr} (h : PySem.W.hasDictIn K C = true) : PySem.W.hasDictIn (flt K) C = true := by
  unfold PySem.W.hasDictIn at h ⊢
  cases e : PySem.W.clsIn K C with
  | none => rw [e] at h; cases h
  | some cd => rw [e] at h; rw [flt_cls e]; exact h
theorem flt_code {c : Value} {x : Str} (h : PySem.W.codeIn K c x = true) : PySem.W.codeIn (flt K) c x = true := by
  unfold PySem.W.codeIn at h ⊢
  split at h
  · rename_i a
    split at h
    · rename_i oc od vs sl e
      split at h
      · rename_i v0 n t r hv
        have hn : He.emptyTab ⟨oc, od, .fields vs, sl⟩ = false := by
          have : vs.isEmpty = false := by
            cases hz : vs.isEmpty with
            | false => rfl
            | true =>
              rw [Array.isEmpty_iff.mp hz] at hv
              cases hv
          cases oc <;> first | rfl | (cases od <;> first | rfl | (show (vs.isEmpty && sl.isEmpty) = false; rw [this]; rfl))
        (try dsimp only)
        rw [flt_look e hn]
        (try dsimp only)
        rw [hv]
        exact h
      · cases h
    · cases h
  · cases h
theorem flt_keep {f : Addr} {oc : Value} {od : Option Addr} {fd : FuncData} {sl : Array (Option Value)} (h : K.lookup f = some ⟨oc, od, .func fd, sl⟩) : PySem.W.keepIn (flt K) (.ref f) = true := by
  unfold PySem.W.keepIn
  simp only
  rw [flt_look h (em_func _ _ _ _)]
theorem flt_spec {C : Addr} {x : Str} {v : Option Value} {T : String} (ht : PySem.W.typeIn K (.ref C) = some (.type T)) (h : PySem.W.specialIn K (.ref C) x = some v) : PySem.W.specialIn (flt K) (.ref C) x = some v := by
  unfold PySem.W.specialIn at h ⊢
  rw [ht] at h
  rw [flt_type ht]
  exact h
theorem flt_keepC {C : Addr} {T : String} (ht : PySem.W.typeIn K (.ref C) = some (.type T)) (h : PySem.W.keepIn K (.ref C) = true) : PySem.W.keepIn (flt K) (.ref C) = true := by
  unfold PySem.W.keepIn at h ⊢
  simp only at h ⊢
  split at h
  · rename_i e
    rw [flt_look e (em_func _ _ _ _)]
  · rename_i e
    rw [flt_look e (em_cls _ _ _ _)]
    simp only [beq_iff_eq] at h ⊢
    exact flt_spec ht h
  · cases h
theorem flt_nsOk {N : Addr} (h : PySem.W.nsOkIn K N = true) : PySem.W.nsOkIn (flt K) N = true := by
  unfold PySem.W.nsOkIn at h ⊢
  split at h
  · rename_i e
    rw [flt_look e (em_dict _ _ _ _ _)]
    exact h
  · cases h
theorem flt_tail {bm : List Value} : ∀ {l : List Value}, PySem.W.tailIn K bm l = true → PySem.W.tailIn (flt K) bm l = true
  | [], h => h
  | v :: r, h => by
    unfold PySem.W.tailIn at h ⊢
    rw [Bool.or_eq_true] at h ⊢
    rcases h with h | h
    · exact .inl h
    · refine .inr ?_
      split at h
      · rename_i A
        (try dsimp only)
        split at h
        · rename_i e
          rw [flt_look e (em_cls _ _ _ _)]
          simp only [Bool.and_eq_true, beq_iff_eq] at h
          show (PySem.W.nsOkIn (flt K) _ && PySem.W.nsIn (flt K) _ "__init__" == some none && PySem.W.tailIn (flt K) bm r) = true
          simp only [Bool.and_eq_true, beq_iff_eq]
          exact ⟨⟨flt_nsOk h.1.1, flt_ns h.1.2⟩, flt_tail h.2⟩
        · cases h
      · cases h
theorem flt_exc {C : Addr} {bm : List Value} {n : String} (h : PySem.W.excIn K C bm n = true) : PySem.W.excIn (flt K) C bm n = true := by
  unfold PySem.W.excIn at h ⊢
  split at h
  · rename_i e
    rw [flt_look e (em_cls _ _ _ _)]
    split at h
    · rename_i C' bm' k0 k1 k2 k3 n' k5 hm hs
      simp only [Bool.and_eq_true] at h
      obtain ⟨⟨⟨⟨⟨h1, h2⟩, h3⟩, h4⟩, h5⟩, h6⟩ := h
      split
      · rename_i hh
        cases hh
        rw [hm, hs]
        simp only [Bool.and_eq_true]
        exact ⟨⟨⟨⟨⟨h1, h2⟩, h3⟩, flt_tail h4⟩, flt_nsOk h5⟩, by rw [beq_iff_eq] at h6 ⊢; exact flt_ns h6⟩
      · rename_i hh
        exact absurd rfl (hh _ _ _)
    · cases h
  · cases h
theorem spec_get (K : PySem.W.Frag) : PySem.W.specialIn K (.builtin "object.__class__") "__get__" = some (some (.builtin "getset_descriptor.__get__")) := by
  have e : PySem.W.typeIn K (.builtin "object.__class__") = some (.type "getset_descriptor") := by
    show PySem.W.pureOf (fastBuiltinType "object.__class__") = _
    kernel_rfl
  unfold PySem.W.specialIn
  rw [e]
  show fastLookup "getset_descriptor" "__get__" = _
  kernel_rfl
theorem takes_cls (K : PySem.W.Frag) : PySem.W.takesIn K (.builtin "object.__class__") = some true := by
  have e : PySem.W.typeIn K (.builtin "object.__class__") = some (.type "getset_descriptor") := by
    show PySem.W.pureOf (fastBuiltinType "object.__class__") = _
    kernel_rfl
  have e2 : PySem.W.specialIn K (.builtin "object.__class__") "__set__" = some (some (.builtin "getset_descriptor.__set__")) := by
    unfold PySem.W.specialIn
    rw [e]
    show fastLookup "getset_descriptor" "__set__" = _
    kernel_rfl
  unfold PySem.W.takesIn
  rw [e2]
/-- what a class of exceptions says, in the part with the tables -/
structure ClF (K : PySem.W.Frag) (c : String) (D : Addr) : Prop where
  ns : PySem.W.nsIn K mainGlobals (Str.ofString c) = some (some (.ref D))
  hg : PySem.W.findIn K (.ref D) "__getattribute__" = some (some (.builtin "BaseException.__getattribute__"))
  hk : PySem.W.findIn K (.ref D) "__getattr__" = some none
  ha : PySem.W.findIn K (.ref D) "__class__" = some (some (.builtin "object.__class__"))
  hd : PySem.W.hasDictIn K D = true
  ty : PySem.W.typeIn K (.ref D) = some (.type "type")
  be : PySem.W.subIn K (.ref D) (.type "BaseException") = some true
  ve : PySem.W.subIn K (.ref D) (.type "ValueError") = some true
  ob : PySem.W.mroIn K D (.type "object") = some true
  se : PySem.W.subIn K (.ref D) (.ref D) = some true
theorem ClF.exc {c : String} {D : Addr} (h : ClF K c D) : ExcC (flt K) D :=
  ⟨flt_find h.hg, flt_find h.hk, flt_sub h.be, flt_hd h.hd, flt_find h.ha, spec_get _, takes_cls _, flt_mro h.ob⟩
theorem kit_ref {c : String} {C D : Addr} {b : Bool} (h : ClF K c C) (s : PySem.W.subIn K (.ref D) (.ref C) = some b) : PySem.W.kitOne (flt K) (.ref D) (.ref C) = some b := by
  unfold PySem.W.kitOne
  by_cases e : D = C
  · subst e
    rw [h.se] at s
    rw [if_pos (beq_self_eq_true _)]
    exact s
  · have ne : (Value.ref D == Value.ref C) = false := by
      rw [beq_eq_false_iff_ne]
      exact fun z => e (Value.ref.inj z)
    rw [ne, if_neg Bool.false_ne_true]
    unfold PySem.W.kitCls
    have hc : ((PySem.W.clsIn (flt K) C).isSome && PySem.W.typeIn (flt K) (.ref C) == some (.type "type")) = true := by
      rw [flt_type h.ty]
      have := flt_hd h.hd
      unfold PySem.W.hasDictIn at this
      cases e : PySem.W.clsIn (flt K) C with
      | none => rw [e] at this; cases this
      | some _ => rfl
    simp only [hc, if_true]
    exact flt_sub s
theorem kit_ve {c : String} {D : Addr} (h : ClF K c D) : PySem.W.kitOne (flt K) (.ref D) (.type "ValueError") = some true := by
  unfold PySem.W.kitOne
  rw [if_neg (by intro z; cases z)]
  unfold PySem.W.kitCls
  have hm : PySem.W.kitMeta "ValueError" = true := by decide +kernel
  simp only [hm, if_true]
  exact flt_sub h.ve
theorem exm_of {c : String} {C D : Addr} (h : ClF K c C) (s : PySem.W.subIn K (.ref D) (.ref C) = some true) : PySem.W.exmOne (flt K) (.ref D) (.ref C) = some true :=
  PySem.W.exm_ref (flt_sub h.be) (flt_hd h.hd) (flt_type h.ty) (flt_sub s)
theorem fun_code {x : Str} {st : Stmt} {f : Addr} {fd gd : FuncData} {oc : Value} {od : Option Addr} {sl : Array (Option Value)} (F : Fun K x x st f fd) (lk : K.lookup f = some ⟨oc, od, .func gd, sl⟩) : fd = gd := by
  obtain ⟨_, _, _, _, _, _, _, _, _, rfl, l2, _⟩ := F.ex
  rw [lk] at l2
  cases l2
  rfl
theorem tabs_uniq {T : List (Addr × Str)} {P : Addr} {q : Str} (nd : (T.map (·.1)).Nodup) (h : (P, q) ∈ T) : ∀ p ∈ T, p.1 = P → p.2 = q := by
  induction T with
  | nil => cases h
  | cons x r ih =>
    simp only [List.map_cons, List.nodup_cons] at nd
    intro p hp e
    rcases List.mem_cons.mp h with h1 | h1
    · rcases List.mem_cons.mp hp with h2 | h2
      · rw [h2, ← h1]
      · exact absurd (List.mem_map.mpr ⟨p, h2, by rw [e, ← h1]⟩) nd.1
    · rcases List.mem_cons.mp hp with h2 | h2
      · exact absurd (List.mem_map.mpr ⟨(P, q), h1, by rw [← h2, e]⟩) nd.1
      · exact ih nd.2 h1 p h2 e
/-- a code object and its table -/
def cdB (vs : Array Value) (c P : Addr) : Bool := (match (vs[11]? : Option Value) with | some (.ref P') => P' == P | _ => false) &&
      (match vs.getD 18 .none with | .str _ _ => true | _ => false) && (match vs.getD 7 .none with | .int _ _ => true | _ => false) &&
      (match vs.getD 9 .none with | .bool _ => true | _ => false) && (match vs.getD 10 .none with | .int _ _ => true | _ => false) && c != P
theorem cdB_hd {h : Heap} {c P : Addr} {od : Option Addr} {vs : Array Value} {sl : Array (Option Value)} (X : K.In h) (e : K.lookup c = some ⟨.type "code", od, .fields vs, sl⟩) (b : cdB vs c P = true) : PySem.W.CodeHd h c P := by
  refine PySem.W.codeHd_of_K X ?_
  unfold PySem.W.codeHdIn
  rw [e]
  exact b
theorem flt_tab {h : Heap} {P : Addr} (X : K.In h) (nd : (K.map (·.1)).Nodup) (e : h.get? P = some { cls := .none, data := .fields #[] }) : h.get? P = some { cls := .none, data := .fields #[] } ∧ (flt K).lookup P = none := by
  refine ⟨e, ?_⟩
  cases z : (flt K).lookup P with
  | none => rfl
  | some o =>
    have h1 := fltIn X nd P o z
    rw [e] at h1
    have h2 := (flt_mem z).1
    rw [← Option.some.inj h1] at h2
    cases h2
end
/-- as the kit's law_callTs; of the script's list it is told that it is frozen -/
theorem law_callQ {P : Program} {w : World} {K : PySem.W.Frag} {mg mb : Str → Option Value} {CX : CXT} {k : Nat} {fa a : Addr} {cs : List (Addr × Addr)} {fd : FuncData} {x : Str} {sp : Sp} {s₁ : Shared} {vsq : List Value} {ns : List Int}
    (KXq : K.In s₁.heap) (hnq : s₁.heap.Ns mainGlobals mg) (hbq : s₁.heap.Ns builtinsNs mb) (hbbq : ∀ x : Str, x ≠ "__name__" → mb x = bootBuiltins x) (hlq : s₁.heap.NoLimit) (hgq : s₁.gens = #[])
    (hTq : ∀ p ∈ cs, s₁.heap.get? p.2 = some { cls := .none, data := .fields #[] }) (nTq : ∀ p ∈ cs, K.lookup p.2 = none) (C : ∀ p ∈ cs, PySem.W.CodeHd s₁.heap p.1 p.2)
    (hbmq : ∃ (bmq : Addr) (obq : Obj), mg "__builtins__" = some (.ref bmq) ∧ bmq ≠ builtinsNs ∧ s₁.heap.get? bmq = some obq ∧ obq.cls = .type "module" ∧ obq.dict = some builtinsNs ∧ obq.data = .plain)
    (haq : s₁.heap.get? a = some { cls := .type "list", data := .seq vsq.toArray }) (hiq : IntsAre vsq ns) (hlnq : ns.length ≤ sizeLine) (hrq : Room k callerA)
    (F : ∀ base : Heap, K.In base → base.Ns mainGlobals mg → (∀ p ∈ cs, TabB base mg p.1 p.2) → FnOk P w K mg base CX k fa fd [x] sp) (hbdq : ∀ (s : Shared) (u : Value), BindsTo s fd ⟨[u], []⟩ [(x, u)])
    (hspq : ∀ H : Hp, (∀ p ∈ cs, H p.2 = some (.tbl #[])) → (H a = none ∨ ∃ o xs, H a = some (.frz o (.lst xs))) → SqL K H a (ns.map V.int) → sp [.ref a] H (fun v _ => v = .bl true) fun _ _ _ => False)
    (hCXq : ∀ H e s', CX [] H s₁ (fun _ _ _ => False) e s' → False) :
    codeAny (model P w) callerA (.call (.ref fa) ⟨[.ref a], []⟩) (fun r s' => r = .ok (.ret (.bool true)) ∧ OldK s₁.heap s'.heap ∧ s'.os = s₁.os ∧ AllBare s'.gens) s₁ := by
  have rvq := vals_ints hiq
  have lenq := hiq.length
  have isTq : ∀ b : Addr, b ∈ cs.map (·.2) → s₁.heap.get? b = some { cls := .none, data := .fields #[] } := fun b hbq => by
    obtain ⟨p, hpq, e⟩ := List.mem_map.mp hbq
    rw [← e]
    exact hTq p hpq
  have aTq : a ∉ cs.map (·.2) := fun z => by
    have q := isTq a z
    rw [haq] at q
    have zq : Data.seq vsq.toArray _ = Data.fields #[] := congrArg Obj.data (Option.some.inj q)
    cases zq
  have memq : ∀ p ∈ cs, p.2 ∈ cs.map (·.2) := fun p hpq => List.mem_map.mpr ⟨p, hpq, rfl⟩
  -- from an abstract heap in which nothing but the script and the tables may be tracked
  have coreq : ∀ H : Hp, (∀ p ∈ cs, H p.2 = some (.tbl #[])) → (∀ b, H b = none ∨ b ∈ cs.map (·.2) ∨ ∃ o xs, H b = some (.frz o (.lst xs))) → SqL K H a (ns.map V.int) → HOk P w H s₁.heap → (∀ b, H b ≠ none → b = a ∨ b ∈ cs.map (·.2)) → (H a ≠ none → K.lookup a = none) →
      codeAny (model P w) callerA (.call (.ref fa) ⟨[.ref a], []⟩) (fun r s' => r = .ok (.ret (.bool true)) ∧ OldK s₁.heap s'.heap ∧ s'.os = s₁.os ∧ AllBare s'.gens) s₁ := by
    intro H hHq hOq hSq hokq hAq hKq
    have baseq : ∀ {b : Addr} {o : Obj}, s₁.heap.get? b = some o → H b = none → (hidT s₁.heap H).get? b = some o := fun e n => hidT_get e n
    have noDq : ∀ {b : Addr} {o : Obj}, s₁.heap.get? b = some o → (∀ vsq n, o.data ≠ .seq vsq n) → o.data ≠ .fields #[] → H b = none := fun {b o} e h1 h2 => by
      cases q : H b with
      | none => rfl
      | some u =>
        rcases hAq b (by rw [q]; simp) with e' | e'
        · rw [e', haq] at e
          cases e
          exact (h1 _ _ rfl).elim
        · rw [isTq b e'] at e
          cases e
          exact (h2 rfl).elim
    have noAq : ∀ {b : Addr} {o : Obj} {esq : Array DictEntry} {epq : Nat}, s₁.heap.get? b = some o → o.data = .dict esq epq → H b = none := fun {b o esq epq} e d => by
      refine noDq e (fun vsq n z => ?_) fun z => ?_
      · rw [d] at z
        cases z
      · rw [d] at z
        cases z
    have nsKq : ∀ {b : Addr} {m : Str → Option Value}, s₁.heap.Ns b m → (hidT s₁.heap H).Ns b m := fun {b m} ⟨o, esq, epq, e, d, r⟩ => ⟨o, esq, epq, baseq e (noAq e d), d, r⟩
    have hKbq : K.In (hidT s₁.heap H) := fun b o e => baseq (KXq b o e) (by
      cases q : H b with
      | none => rfl
      | some u =>
        rcases hAq b (by rw [q]; simp) with e' | e'
        · rw [e'] at e q
          rw [hKq (by rw [q]; simp)] at e
          cases e
        · obtain ⟨p, hpq, epq⟩ := List.mem_map.mp e'
          rw [← epq, nTq p hpq] at e
          cases e)
    have hMq : L2.Mod K mg (hidT s₁.heap H) := ⟨hKbq, nsKq hnq, ⟨mb, nsKq hbq, hbbq⟩, let ⟨mc, h1, h2⟩ := hlq; ⟨mc, nsKq h1, h2⟩⟩
    have TBq : ∀ p ∈ cs, TabB (hidT s₁.heap H) mg p.1 p.2 := fun p hpq => by
      have hTpq := hTq p hpq
      refine ⟨?_, ?_, fun z => ?_⟩
      · obtain ⟨o, us, file, tf, flags, tg, inF, text, tt, e1, r1, r2, r3, r4, r5, r6, r7, r8, hne⟩ := C p hpq
        refine ⟨o, us, file, tf, flags, tg, inF, text, tt, baseq e1 (noDq e1 (fun vsq n z => ?_) fun z => ?_), r1, r2, r3, r4, r5, r6, r7, r8, hne⟩
        · rw [r2] at z
          cases z
        · rw [r2] at z
          cases z
          simp at r3
      · obtain ⟨bmq, obq, b1, b2, b3, b4, b5, b6⟩ := hbmq
        have nGq : bmq ≠ mainGlobals := fun q => by
          obtain ⟨o, esq, epq, e, hdq, _⟩ := hnq
          rw [q, e] at b3
          cases b3
          rw [hdq] at b6
          cases b6
        have nPq : bmq ≠ p.2 := fun q => by
          rw [q, hTpq] at b3
          cases b3
          cases b6
        refine ⟨bmq, obq, b1, b2, nGq, nPq, baseq b3 (noDq b3 (fun vsq n z => ?_) fun z => ?_), b4, b5, b6⟩
        · rw [b6] at z
          cases z
        · rw [b6] at z
          cases z
      · obtain ⟨o, esq, epq, e, hdq, _⟩ := hnq
        rw [z, hTpq] at e
        cases e
        cases hdq
    have e0q : Env0 P w K mg (hidT s₁.heap H) callerA [] s₁ H := ⟨rfl, hMq, fun b o e => of_hidT e, Nat.le_of_eq (hidT_size _ _), trivial, fun b hbq => absurd (show b ∈ ([] : List Addr) from hbq) (by simp), hokq, .of_eq hgq⟩
    refine codeAny_mono ((F _ hKbq (nsKq hnq) TBq).run callerA [] s₁ H ⟨[.ref a], []⟩ [.ref a] [.ref a] _ _ hrq e0q (hbdq s₁ (.ref a)) (.cons rfl .nil) (hspq H hHq ((hOq a).elim .inl fun z => z.elim (fun z => absurd z aTq) .inr) hSq)) fun r s' h => ?_
    cases r with
    | error e => exact (hCXq H e s' h).elim
    | ok fl =>
      cases fl with
      | next => exact False.elim h
      | brk => exact False.elim h
      | cont => exact False.elim h
      | ret u =>
        obtain ⟨v, H', os, bare, unq, hokq', r', q⟩ := h
        have q' : v = .bl true := q
        subst q'
        obtain rfl : u = Value.bool true := r'
        have keyq : ∀ b o, b ∉ cs.map (·.2) → s₁.heap.get? b = some o → s'.heap.get? b = some o := fun b o nb e => by
          cases q : H b with
          | none => exact unq.keep b o e q (by intro z; exact absurd (show b ∈ ([] : List Addr) from z) (by simp)) (by simp)
          | some u =>
            rcases hOq b with z | z | ⟨obq, xs, z⟩
            · rw [q] at z; cases z
            · exact absurd z nb
            · have z2q := unq.frzs b obq _ z
              obtain ⟨e1, _⟩ := hokq b _ z
              obtain ⟨e2, _⟩ := hokq' b _ z2q
              rw [e] at e1; cases e1
              exact e2
        have grq : ∀ p ∈ cs, ∃ morq : Array Value, s'.heap.get? p.2 = some { cls := .none, data := .fields morq } := fun p hpq => by
          obtain ⟨morq, z⟩ := unq.tbls p.2 #[] (hHq p hpq)
          exact ⟨_, hokq' p.2 _ z⟩
        refine ⟨rfl, ⟨fun b o e => ?_, fun b o e => ?_⟩, os, bare⟩
        · by_cases hbq : b ∈ cs.map (·.2)
          · obtain ⟨p, hpq, epq⟩ := List.mem_map.mp hbq
            obtain ⟨morq, hmq⟩ := grq p hpq
            rw [← epq] at e ⊢
            rw [hTq p hpq] at e
            cases e
            exact .inr (.inl ⟨((C p hpq).tab (hTq p hpq)).isCodeTable, rfl, #[], morq, rfl, by rw [Array.empty_append]; exact hmq⟩)
          · exact .inl (keyq b o hbq e)
        · by_cases hbq : b ∈ cs.map (·.2)
          · obtain ⟨p, hpq, epq⟩ := List.mem_map.mp hbq
            obtain ⟨morq, hmq⟩ := grq p hpq
            rw [← epq]
            exact ⟨_, hmq⟩
          · exact ⟨o, keyq b o hbq e⟩
  cases hk : K.lookup a with
  | some o =>
    have e := KXq a o hk
    rw [haq] at e
    cases e
    refine coreq (fun b => if b ∈ cs.map (·.2) then some (.tbl #[]) else none) (fun p hpq => if_pos (memq p hpq)) (fun b => ?_) (.inr ⟨_, vsq.toArray, _, hk, rfl, rfl, rfl, by rw [List.size_toArray, lenq]; exact hlnq, by simpa using rvq⟩) (fun b u z => ?_) (fun b z => ?_) fun z => absurd (show (if a ∈ cs.map (·.2) then some (HO.tbl #[]) else none) = none from if_neg aTq) z
    · by_cases hbq : b ∈ cs.map (·.2)
      · exact .inr (.inl hbq)
      · exact .inl (if_neg hbq)
    · by_cases hbq : b ∈ cs.map (·.2)
      · have zq := (if_pos hbq).symm.trans z
        cases zq
        exact isTq b hbq
      · have zq := (if_neg hbq).symm.trans z
        cases zq
    · by_cases hbq : b ∈ cs.map (·.2)
      · exact .inr hbq
      · exact absurd (if_neg hbq) z
  | none =>
    refine coreq (fun b => if b = a then some (.frz { cls := .type "list", data := .seq vsq.toArray } (.lst (ns.map V.int))) else if b ∈ cs.map (·.2) then some (.tbl #[]) else none) (fun p hpq => (if_neg (show ¬ p.2 = a from fun z => aTq (by rw [← z]; exact memq p hpq))).trans (if_pos (memq p hpq))) (fun b => ?_)
      (.inl (.inr ⟨{ cls := .type "list", data := .seq vsq.toArray }, if_pos rfl⟩)) (fun b u z => ?_) (fun b z => ?_) fun _ => hk
    · by_cases hbq : b = a
      · exact .inr (.inr ⟨_, _, if_pos hbq⟩)
      · by_cases hb2q : b ∈ cs.map (·.2)
        · exact .inr (.inl hb2q)
        · exact .inl ((if_neg hbq).trans (if_neg hb2q))
    · by_cases hbq : b = a
      · have zq := (if_pos hbq).symm.trans z
        cases zq
        rw [hbq]
        exact ⟨haq, by rw [List.length_map]; exact hlnq, vsq, _, rvq, haq⟩
      · have z1 := (if_neg hbq).symm.trans z
        by_cases hb2q : b ∈ cs.map (·.2)
        · have zq := (if_pos hb2q).symm.trans z1
          cases zq
          exact isTq b hb2q
        · have zq := (if_neg hb2q).symm.trans z1
          cases zq
    · by_cases hbq : b = a
      · exact .inl hbq
      · by_cases hb2q : b ∈ cs.map (·.2)
        · exact .inr hb2q
        · exact absurd ((if_neg hbq).trans (if_neg hb2q)) z

theorem km_nd {K : Params → PySem.W.Frag} {as : List Addr} {e : ∀ P, as = (K P).map (·.1)} {ts : List Addr} {w : World} {h : Heap} (Y : (PySem.W.kmHook K as e ts).says w h) (n : as.Nodup) : ((K w.params).map (·.1)).Nodup := by
  rw [← e]
  exact n
/-- what is known of the law's promise at the head's heap -/
def LawAtQ (l : PySem.W.OpenLaw) (w : World) (K : PySem.W.Frag) (k : Nat) (mg : Str → Option Value) (fa : Addr) (h : Heap) : Prop :=
  ∃ (fd : FuncData) (cs : List (Addr × Addr)) (sp : Sp), (∀ p ∈ cs, h.get? p.2 = some { cls := .none, data := .fields #[] }) ∧ (∀ p ∈ cs, K.lookup p.2 = none) ∧ (∀ p ∈ cs, PySem.W.CodeHd h p.1 p.2) ∧ (∀ (s : Shared) (u : Value), BindsTo s fd ⟨[u], []⟩ [("script", u)]) ∧
    (∀ (H : Hp) (a : Addr) (ns : List Int), ns.length ≤ 63 → (∀ p ∈ cs, H p.2 = some (.tbl #[])) → (H a = none ∨ ∃ o xs, H a = some (.frz o (.lst xs))) → SqL K H a (ns.map V.int) → sp [.ref a] H (fun v _ => v = .bl true) fun _ _ _ => False) ∧
    ∀ base : Heap, K.In base → base.Ns mainGlobals mg → (∀ p ∈ cs, TabB base mg p.1 p.2) → FnOk l.prog w K mg base (L2N.CX l.prog w) k fa fd ["script"] sp
theorem walk_q {l : PySem.W.OpenLaw} {k : Nat} {q : Program} {loose : List Str} {XP : (Str → Option Value) → Heap → Prop} {YP : World → Heap → Prop} {d : DefRec}
    (hn : l.most = some 63) (hdf : d.params.defaults = []) (hr : Room k callerA)
    (F : ∀ (w : World) (mg : Str → Option Value) (fa : Addr) (h : Heap), YP w h → h.Ns mainGlobals mg → mg d.name = some (.ref fa) → ∃ K : PySem.W.Frag, K.In h ∧ LawAtQ l w K k mg fa h) :
    PySem.W.WalkO q loose XP YP l.row.toRowW d [] (fun f vs => PySem.call f vs) := by
  refine Att.attach_callB hn hdf fun w s₀ s₁ mg mb fa o pm cd doc a vs ns G Y ho hd hcd hmg hobj hints hlen hbits hg => ?_
  obtain ⟨K, KX, fd, cs, sp, hT, nT, C, hb, hsp, hF⟩ := F w mg fa _ Y G.T.g hmg
  refine law_callQ KX G.T.g G.T.b G.T.builtins G.T.nolimit hg hT nT C G.T.bmain hobj hints (Nat.le_trans hlen (by rw [sizeLine_eq]; decide)) hr hF hb (fun H hH hR hS => hsp H a ns hlen hH hR hS) fun H e s' z => ?_
  obtain ⟨_, _, _, _, _, _, _, _, _, _, _, _, z⟩ := z
  exact z.elim
end Q

namespace Q
open PySem
local instance : LamT := ⟨[]⟩
/-! ### the plain side: how a text of ours is reckoned -/
section
variable {C : Call} {α β : Type}
theorem bind_ok {a : α} {ρ : Rho} {f : α → Rho → Res β} : (Res.ok a ρ).bind f = f a ρ := id rfl
theorem bind_exc {e : Exn} {ρ : Rho} {f : α → Rho → Res β} : (Res.exc e ρ : Res α).bind f = .exc e ρ := id rfl
theorem bind_bad {f : α → Rho → Res β} : (Res.bad : Res α).bind f = .bad := id rfl
theorem bind_ite {c : Prop} [Decidable c] {a b : Res α} {f : α → Rho → Res β} : (if c then a else b).bind f = if c then a.bind f else b.bind f := by split <;> rfl
theorem optR_some {a : α} {f : α → Res β} : optR (some a) f = f a := id rfl
theorem optR_none {f : α → Res β} : optR none f = .bad := id rfl
theorem optR_ite {c : Prop} [Decidable c] {a b : Option α} {f : α → Res β} : optR (if c then a else b) f = if c then optR a f else optR b f := by split <;> rfl
theorem lift_some {a : α} {ρ : Rho} : lift (some a) ρ = .ok a ρ := id rfl
theorem tst_f {r : Res Opd} : tst false r = r := id rfl
theorem tst_t {s : SV} {ρ : Rho} : tst true (.ok (.v s) ρ) = optR (truth s) fun b => .ok (.v (.d (.bool b))) ρ := id rfl
theorem tst_s {i : Nat} {ρ : Rho} : tst true (.ok (.s i) ρ) = optR (gt ρ i) fun s => optR (truth s) fun b => .ok (.v (.d (.bool b))) ρ := id rfl
theorem tst_ite {m : Bool} {c : Prop} [Decidable c] {a b : Res Opd} : tst m (if c then a else b) = if c then tst m a else tst m b := by split <;> rfl
theorem tst_bind {m : Bool} {r : Res α} {f : α → Rho → Res Opd} : tst m (r.bind f) = r.bind fun a ρ => tst m (f a ρ) := by
  cases m <;> cases r <;> rfl
theorem tst_optR {m : Bool} {r : Option α} {f : α → Res Opd} : tst m (optR r f) = optR r fun a => tst m (f a) := by
  cases m <;> cases r <;> rfl
theorem boolOf_ok {b : Bool} {ρ : Rho} : boolOf (.ok (.v (.d (.bool b))) ρ) = .ok b ρ := id rfl
theorem boolOf_ite {c : Prop} [Decidable c] {a b : Res Opd} : boolOf (if c then a else b) = if c then boolOf a else boolOf b := by split <;> rfl
theorem boolOf_bind {r : Res α} {f : α → Rho → Res Opd} : boolOf (r.bind f) = r.bind fun a ρ => boolOf (f a ρ) := by cases r <;> rfl
theorem boolOf_optR {r : Option α} {f : α → Res Opd} : boolOf (optR r f) = optR r fun a => boolOf (f a) := by cases r <;> rfl
theorem gt_0 {s : SV} {ρ : Rho} : gt (some s :: ρ) 0 = some s := id rfl
theorem gt_n0 {ρ : Rho} : gt (none :: ρ) 0 = none := id rfl
theorem gt_s {x : Option SV} {ρ : Rho} {n : Nat} : gt (x :: ρ) (n + 1) = gt ρ n := id rfl
theorem peek_v {ρ : Rho} {s : SV} : peek ρ (.v s) = some s := id rfl
theorem peek_s {ρ : Rho} {i : Nat} : peek ρ (.s i) = gt ρ i := id rfl
theorem take_d {ρ : Rho} {x : D} : take (.v (.d x)) ρ = .ok x ρ := id rfl
theorem take_ml {ρ : Rho} {x : List D} : take (.v (.ml x)) ρ = .ok (.list x) ρ := id rfl
theorem take_s {ρ : Rho} {i : Nat} : take (.s i) ρ = optR (gt ρ i) fun s => optR s.dat fun x => .ok x (frzAt ρ i) := by
  show (match gt ρ i with
    | some s => match s.dat with
      | some x => Res.ok x (frzAt ρ i)
      | none => .bad
    | none => .bad) = _
  cases gt ρ i with
  | none => rfl
  | some s => cases h : s.dat <;> simp only [optR, h]
theorem takes_n {ρ : Rho} : takes [] ρ = .ok [] ρ := id rfl
theorem takes_c {ρ : Rho} {o : Opd} {os : List Opd} : takes (o :: os) ρ = (take o ρ).bind fun x ρ => (takes os ρ).bind fun xs ρ => .ok (x :: xs) ρ := id rfl
theorem peeks_n {ρ : Rho} : peeks ρ [] = some [] := id rfl
theorem peeks_v {ρ : Rho} {s : SV} {os : List Opd} : peeks ρ (.v s :: os) = (peeks ρ os).map (s :: ·) := by
  show (match peek ρ (.v s), peeks ρ os with
    | some s, some ss => some (s :: ss)
    | _, _ => none) = _
  cases peeks ρ os <;> rfl
theorem peeks_s {ρ : Rho} {i : Nat} {os : List Opd} : peeks ρ (.s i :: os) = (gt ρ i).bind fun s => (peeks ρ os).map (s :: ·) := by
  show (match gt ρ i, peeks ρ os with
    | some s, some ss => some (s :: ss)
    | _, _ => none) = _
  cases gt ρ i <;> cases peeks ρ os <;> rfl
/-! the own syntax -/
theorem ev_k {m ρ d} : ev C m (.k d) ρ = tst m (.ok (.v (.d d)) ρ) := id rfl
theorem ev_v {m ρ i} : ev C m (.v i) ρ = tst m (optR (gt ρ i) fun s => if s.own then .ok (.s i) ρ else .ok (.v s) ρ) := id rfl
theorem ev_g {m ρ x d} : ev C m (.g x d) ρ = tst m (.ok (.v (.d d)) ρ) := id rfl
theorem ev_tup {m ρ es} : ev C m (.tup es) ρ = tst m ((evs C es ρ).bind fun os ρ => (takes os ρ).bind fun xs ρ => .ok (.v (.d (.tuple xs))) ρ) := id rfl
theorem ev_lst {m ρ es} : ev C m (.lst es) ρ = tst m ((evs C es ρ).bind fun os ρ => (takes os ρ).bind fun xs ρ => .ok (.v (.ml xs)) ρ) := id rfl
theorem ev_bin {m ρ op a b} : ev C m (.bin op a b) ρ = tst m ((ev C false a ρ).bind fun x ρ => (ev C false b ρ).bind fun y ρ => optR (peek ρ x) fun s => optR (peek ρ y) fun t => optR (binSem op s t) fun r => .ok (.v r) ρ) := id rfl
theorem ev_neg {m ρ a} : ev C m (.neg a) ρ = tst m ((ev C false a ρ).bind fun x ρ => optR (partOf x) fun i => .ok (.v (.d (.int (-i)))) ρ) := id rfl
theorem ev_not_t {ρ a} : ev C true (.not a) ρ = (boolOf (ev C true a ρ)).bind fun b ρ => .ok (.v (.d (.bool (!b)))) ρ := id rfl
theorem ev_not_f {ρ a} : ev C false (.not a) ρ = (boolOf (tst true (ev C false a ρ))).bind fun b ρ => .ok (.v (.d (.bool (!b)))) ρ := id rfl
theorem ev_and_t {ρ a b} : ev C true (.and a b) ρ = (boolOf (ev C true a ρ)).bind fun c ρ => if c then ev C true b ρ else .ok (.v (.d (.bool false))) ρ := id rfl
theorem ev_and_f {ρ a b} : ev C false (.and a b) ρ = (ev C false a ρ).bind fun x ρ => optR (peek ρ x) fun s => optR (truth s) fun c => if c then ev C false b ρ else .ok x ρ := id rfl
theorem ev_or_t {ρ a b} : ev C true (.or a b) ρ = (boolOf (ev C true a ρ)).bind fun c ρ => if c then .ok (.v (.d (.bool true))) ρ else ev C true b ρ := id rfl
theorem ev_or_f {ρ a b} : ev C false (.or a b) ρ = (ev C false a ρ).bind fun x ρ => optR (peek ρ x) fun s => optR (truth s) fun c => if c then .ok x ρ else ev C false b ρ := id rfl
theorem ev_ite {m ρ c a b} : ev C m (.ite c a b) ρ = (boolOf (ev C true c ρ)).bind fun t ρ => if t then ev C m a ρ else ev C m b ρ := id rfl
theorem ev_cmp {m ρ op a b} : ev C m (.cmp op a b) ρ = (ev C false a ρ).bind fun x ρ => (ev C false b ρ).bind fun y ρ => optR (peek ρ x) fun s => optR (peek ρ y) fun t => optR (cmpSem op s t) fun k => .ok (.v (.d (.bool k))) ρ := id rfl
theorem ev_chn {m ρ o1 o2 a b c} : ev C m (.chn o1 o2 a b c) ρ = (ev C false a ρ).bind fun x ρ => (ev C false b ρ).bind fun y ρ => optR (peek ρ x) fun s => optR (peek ρ y) fun t => optR (cmpSem o1 s t) fun k =>
      if k then (ev C false c ρ).bind fun z ρ => optR (peek ρ y) fun t => optR (peek ρ z) fun u => optR (cmpSem o2 t u) fun k => .ok (.v (.d (.bool k))) ρ
      else .ok (.v (.d (.bool false))) ρ := id rfl
theorem ev_ix {m ρ a i} : ev C m (.ix a i) ρ = tst m ((ev C false a ρ).bind fun x ρ => (ev C false i ρ).bind fun y ρ => optR (peek ρ x) fun s => optR (peek ρ y) fun t => optR (ixSem s t) fun r => .ok (.v r) ρ) := id rfl
theorem ev_sl {m ρ a lo hi} : ev C m (.sl a lo hi) ρ = tst m ((ev C false a ρ).bind fun x ρ => (evO C lo ρ).bind fun l ρ => (evO C hi ρ).bind fun h ρ => optR (peek ρ x) fun s => optR (slSem s l h) fun r => .ok (.v r) ρ) := id rfl
theorem ev_call {m ρ f es} : ev C m (.call f es) ρ = tst m ((evs C es ρ).bind fun os ρ => callSem C f os ρ) := id rfl
theorem ev_bi {m ρ b es} : ev C m (.bi b es) ρ = tst m ((evs C es ρ).bind fun os ρ => optR (peeks ρ os) fun ss => optR (biSem b ss) fun r => .ok (.v r) ρ) := id rfl
theorem ev_isi {m ρ a T} : ev C m (.isi a T) ρ = tst m ((ev C false a ρ).bind fun x ρ => optR (peek ρ x) fun s => optR s.dat fun x => optR (isiSem x T) fun k => .ok (.v (.d (.bool k))) ρ) := id rfl
theorem ev_dic {m ρ a} : ev C m (.dic a) ρ = tst m ((ev C false a ρ).bind fun o ρ => optR (peek ρ o) fun s => optR (dicSem s) fun x => .ok (.v (.d x)) ρ) := id rfl
theorem ev_srt {m ρ a} : ev C m (.srt a) ρ = tst m ((ev C false a ρ).bind fun o ρ => optR (peek ρ o) fun s => optR (srtSem s) fun xs => .ok (.v (.ml xs)) ρ) := id rfl
theorem evs_n {ρ} : evs C .n ρ = .ok [] ρ := id rfl
theorem evs_c {ρ a r} : evs C (.c a r) ρ = (ev C false a ρ).bind fun x ρ => (evs C r ρ).bind fun xs ρ => .ok (x :: xs) ρ := id rfl
theorem evC_n {ρ} : evC C .n ρ = .ok true ρ := id rfl
theorem evC_c {ρ a r} : evC C (.c a r) ρ = (boolOf (ev C true a ρ)).bind fun k ρ => if k then evC C r ρ else .ok false ρ := id rfl
theorem evO_n {ρ} : evO C .no ρ = .ok none ρ := id rfl
theorem evO_s {ρ e} : evO C (.so e) ρ = (ev C false e ρ).bind fun x ρ => optR (partOf x) fun i => .ok (some i) ρ := id rfl
theorem evI_seq {ρ a} : evI C (.seq a) ρ = (ev C false a ρ).bind fun o ρ => (take o ρ).bind fun x ρ => lift (seqD x) ρ := id rfl
theorem evI_rg {ρ es} : evI C (.rg es) ρ = (evs C es ρ).bind fun os ρ => optR (peeks ρ os) fun ss => lift (rgSem ss) ρ := id rfl
theorem evI_zip {ρ es} : evI C (.zip es) ρ = (evs C es ρ).bind fun os ρ => (takes os ρ).bind fun xs ρ => lift (zipSem xs) ρ := id rfl
theorem evI_enum {ρ a} : evI C (.enum a) ρ = (ev C false a ρ).bind fun o ρ => (take o ρ).bind fun x ρ => lift ((itemsD x).map (enumD 0)) ρ := id rfl
theorem part_i {i : Int} : partOf (.v (.d (.int i))) = some i := id rfl
variable {np : Nat}
theorem evS_set {ρ tg e} : evS C np (.set tg e) ρ = (ev C false e ρ).bind fun o ρ => setSem tg o ρ := id rfl
theorem evS_par {ρ js es} : evS C np (.par js es) ρ = (evs C es ρ).bind fun os ρ => (movesR os ρ).bind fun ss ρ => optR (setAll js ss ρ) fun ρ => .ok .nx ρ := id rfl
theorem evS_sub {ρ i ie e} : evS C np (.sub i ie e) ρ = (ev C false e ρ).bind fun o ρ => (take o ρ).bind fun x ρ => optR (gt ρ i) fun _ => (ev C false ie ρ).bind fun k ρ => optR (gt ρ i) fun s => optR (peek ρ k) fun t => optR (subSem s t x) fun s' => .ok .nx (ρ.set i (some s')) := id rfl
theorem evS_aug {ρ i op e} : evS C np (.aug i op e) ρ = optR (gt ρ i) fun s => (ev C false e ρ).bind fun o ρ => optR (peek ρ o) fun t => optR (augSem op s t) fun r => .ok .nx (ρ.set i (some r)) := id rfl
theorem evS_ex {ρ e} : evS C np (.ex e) ρ = (ev C false e ρ).bind fun _ ρ => .ok .nx ρ := id rfl
theorem evS_app {ρ i e} : evS C np (.app i e) ρ = optR (mlAt ρ i) fun _ => (ev C false e ρ).bind fun o ρ => (take o ρ).bind fun x ρ => optR (gt ρ i) fun s => optR (appSem s x) fun s' => .ok .nx (ρ.set i (some s')) := id rfl
theorem evS_ite {ρ c a b} : evS C np (.ite c a b) ρ = (boolOf (ev C true c ρ)).bind fun t ρ => if t then evSs C np a ρ else evSs C np b ρ := id rfl
theorem evS_for {ρ tg it b} : evS C np (.for_ tg it b) ρ = (evI C it ρ).bind fun xs ρ => forGo (fun x ρ => optR (setTg tg x ρ) fun ρ => evSs C np b ρ) xs ρ := id rfl
theorem evS_wh {ρ c b} : evS C np (.wh c b) ρ = whileR (fun ρ => whStep (ev C true c ρ) fun ρ => evSs C np b ρ) ρ := id rfl
theorem evS_ret {ρ e} : evS C np (.ret e) ρ = (ev C false e ρ).bind fun o ρ => retSem np o ρ := id rfl
theorem evS_retN {ρ} : evS C np .retN ρ = .ok (.ret (.d .none)) ρ := id rfl
theorem evS_brk {ρ} : evS C np .brk ρ = .ok .brk ρ := id rfl
theorem evS_cnt {ρ} : evS C np .cnt ρ = .ok .cnt ρ := id rfl
theorem evS_pass {ρ} : evS C np .pass ρ = .ok .nx ρ := id rfl
theorem evSs_n {ρ} : evSs C np .n ρ = .ok .nx ρ := id rfl
def flow (f : Fl) (k : Res Fl) (ρ : Rho) : Res Fl := match f with
  | .nx => k
  | f => .ok f ρ
theorem flow_nx {k : Res Fl} {ρ : Rho} : flow .nx k ρ = k := id rfl
theorem flow_brk {k : Res Fl} {ρ : Rho} : flow .brk k ρ = .ok .brk ρ := id rfl
theorem flow_cnt {k : Res Fl} {ρ : Rho} : flow .cnt k ρ = .ok .cnt ρ := id rfl
theorem flow_ret {r : SV} {k : Res Fl} {ρ : Rho} : flow (.ret r) k ρ = .ok (.ret r) ρ := id rfl
theorem evSs_c {ρ s r} : evSs C np (.c s r) ρ = (evS C np s ρ).bind fun f ρ => flow f (evSs C np r ρ) ρ := by
  show (evS C np s ρ).bind _ = _
  congr 1
theorem set_n {i o ρ} : setSem (.n i) o ρ = setOpd i o ρ := id rfl
theorem set_t {ts o ρ} : setSem (.t ts) o ρ = (take o ρ).bind fun x ρ => optR (setTg (.t ts) x ρ) fun ρ => .ok .nx ρ := id rfl
theorem setO_v {i s ρ} : setOpd i (.v s) ρ = .ok .nx (ρ.set i (some s)) := id rfl
theorem setO_s {i j ρ} : setOpd i (.s j) ρ = (take (.s j) ρ).bind fun x ρ => .ok .nx (ρ.set i (some (.d x))) := id rfl
theorem ret_v {s ρ} : retSem np (.v s) ρ = .ok (.ret s) ρ := id rfl
theorem ret_s {i ρ} : retSem np (.s i) ρ = if i < np then (take (.s i) ρ).bind fun x ρ => .ok (.ret (.d x)) ρ else optR (gt ρ i) fun s => .ok (.ret s) ρ := id rfl
theorem moves_n {ρ} : movesR [] ρ = .ok [] ρ := id rfl
theorem moves_v {ρ s os} : movesR (.v s :: os) ρ = (movesR os ρ).bind fun ss ρ => .ok (s :: ss) ρ := id rfl
theorem moves_s {ρ i os} : movesR (.s i :: os) ρ = (take (.s i) ρ).bind fun x ρ => (movesR os ρ).bind fun ss ρ => .ok (.d x :: ss) ρ := id rfl
theorem setAll_n {ρ} : setAll [] [] ρ = some ρ := id rfl
theorem setAll_c {ρ i is s ss} : setAll (i :: is) (s :: ss) ρ = setAll is ss (ρ.set i (some s)) := id rfl
/-! calls -/
def cout (k : Opd → Rho → Res Opd) (r : COut) (ρ : List SV → Rho) : Res Opd := match r with
  | .ret r outs => .ok (.v r) (ρ outs)
  | .exc e outs => .exc e (ρ outs)
  | .bad => .bad
/-- the end of a def -/
def fin (np : Nat) (asg : List Nat) (ss : List SV) (r : Res Fl) : COut := match r with
  | .ok (.ret r) ρ => if parOk np ρ then .ret r (outsOf asg ρ 0 ss) else .bad
  | .ok .nx ρ => if parOk np ρ then .ret (.d .none) (outsOf asg ρ 0 ss) else .bad
  | .ok _ _ => .bad
  | .exc e ρ => if parOk np ρ then .exc e (outsOf asg ρ 0 ss) else .bad
  | .bad => .bad
theorem callFn_fin {f : Fn} {ss : List SV} (h : ss.length = f.np) : callFn C f ss = fin f.np f.asg ss (evSs C (if ss.any SV.own then f.ns else f.np) f.body (frzL f.asg (ss.map some ++ List.replicate (f.ns - f.np) none))) := by
  unfold callFn
  rw [if_pos h]
  unfold fin
  rfl
theorem fin_ret {np asg ss r ρ} : fin np asg ss (.ok (.ret r) ρ) = if parOk np ρ then .ret r (outsOf asg ρ 0 ss) else .bad := id rfl
theorem fin_nx {np asg ss ρ} : fin np asg ss (.ok .nx ρ) = if parOk np ρ then .ret (.d .none) (outsOf asg ρ 0 ss) else .bad := id rfl
theorem fin_ite {np asg ss} {c : Prop} [Decidable c] {a b : Res Fl} : fin np asg ss (if c then a else b) = if c then fin np asg ss a else fin np asg ss b := by split <;> rfl
/-- from what is wanted of the body -/
theorem callFn_good {f : Fn} {ss : List SV} {Q : SV → List SV → Prop} (h : ss.length = f.np) (g : (evSs C (if ss.any SV.own then f.ns else f.np) f.body (frzL f.asg (ss.map some ++ List.replicate (f.ns - f.np) none))).good fun fl ρ => parOk f.np ρ = true ∧ match fl with
    | .ret r => Q r (outsOf f.asg ρ 0 ss)
    | .nx => Q (.d .none) (outsOf f.asg ρ 0 ss)
    | _ => False) : ∃ r outs, callFn C f ss = .ret r outs ∧ Q r outs := by
  rw [callFn_fin h]
  generalize evSs C (if ss.any SV.own then f.ns else f.np) f.body (frzL f.asg (ss.map some ++ List.replicate (f.ns - f.np) none)) = x at g
  cases x with
  | ok fl ρ =>
    obtain ⟨h1, h2⟩ := g
    cases fl with
    | ret r => exact ⟨r, _, by rw [fin_ret, if_pos h1], h2⟩
    | nx => exact ⟨_, _, by rw [fin_nx, if_pos h1], h2⟩
    | brk => exact h2.elim
    | cnt => exact h2.elim
  | exc e ρ => exact g.elim
  | bad => exact g.elim
theorem call_ret {f : String} {os : List Opd} {ρ : Rho} {ss : List SV} {r : SV} {outs : List SV} (e : peeks ρ os = some ss) (n : (slotsOf os).Nodup) (h : C f ss = .ret r outs) : callSem C f os ρ = .ok (.v r) (backs ρ os ss outs) := by
  unfold callSem
  rw [e, optR_some, if_pos n, h]
theorem slots_n : slotsOf [] = [] := id rfl
theorem slots_v {s os} : slotsOf (.v s :: os) = slotsOf os := id rfl
theorem slots_s {i os} : slotsOf (.s i :: os) = i :: slotsOf os := id rfl
theorem good_ite {c : Prop} [Decidable c] {a b : Res α} {P : α → Rho → Prop} : (if c then a else b).good P ↔ if c then a.good P else b.good P := by split <;> exact Iff.rfl
theorem good_okR {a : α} {ρ : Rho} {P : α → Rho → Prop} : (Res.ok a ρ).good P ↔ P a ρ := Iff.rfl
/-! ### comprehensions -/
abbrev lcBody (C : Call) (elt : E) (tg : Tg) (cs : Es) (x : D) (w : Rho) : Res (Option D) := optR (setTg tg x w) fun ρ => (evC C cs ρ).bind fun k ρ => if k then (ev C false elt ρ).bind fun o ρ => (take o ρ).bind fun y ρ => .ok (some y) ρ else .ok none ρ
theorem nox_ok {a : α} {ρ : Rho} : (Res.ok a ρ).nox = .ok a ρ := id rfl
theorem ev_lc_eq {m ρ elt tg it cs vs} : ev C m (.lc elt tg it cs vs) ρ = tst m ((evI C it ρ).bind fun xs ρ1 => (lcGo (fun x ρ => lcBody C elt tg cs x (wipeR ρ vs)) xs ρ1).nox.bind fun ys ρ2 => .ok (.v (.ml ys)) (backR ρ1 ρ2 vs)) := id rfl
theorem wipeR_at {vs : List Nat} : ∀ {ρ ρ' : Rho}, wipeR ρ vs = wipeR ρ' vs → ∀ k, k ∉ vs → ρ[k]? = ρ'[k]? := by
  have aux : ∀ (vs : List Nat) (ρ : Rho) (k : Nat), k ∉ vs → (wipeR ρ vs)[k]? = ρ[k]? := by
    intro vs
    induction vs with
    | nil => intro ρ k _; rfl
    | cons v r ih =>
      intro ρ k hk
      simp only [List.mem_cons, not_or] at hk
      show ((wipeR ρ r).set v none)[k]? = _
      rw [List.getElem?_set_ne (Ne.symm hk.1), ih ρ k hk.2]
  intro ρ ρ' e k hk
  rw [← aux vs ρ k hk, e, aux vs ρ' k hk]
theorem wipe_len (ρ : Rho) : ∀ vs : List Nat, (wipeR ρ vs).length = ρ.length
  | [] => rfl
  | v :: vs => by simp [wipeR, wipe_len ρ vs]
theorem back_len (ρ0 ρ : Rho) : ∀ vs : List Nat, (backR ρ0 ρ vs).length = ρ.length
  | [] => rfl
  | v :: vs => by simp [backR, back_len ρ0 ρ vs]
theorem back_at {ρ0 ρ : Rho} (hl : ρ0.length = ρ.length) : ∀ (vs : List Nat) (k : Nat), (backR ρ0 ρ vs)[k]? = if k ∈ vs then ρ0[k]? else ρ[k]?
  | [], k => by simp [backR]
  | v :: vs, k => by
    simp only [backR]
    by_cases hk : v = k
    · subst hk
      by_cases hb : v < ρ.length
      · rw [List.getElem?_set_self (by rw [back_len]; exact hb), if_pos List.mem_cons_self, List.getElem?_eq_getElem (by omega)]
        rfl
      · rw [List.getElem?_eq_none (by rw [List.length_set, back_len]; omega), if_pos List.mem_cons_self, List.getElem?_eq_none (by omega)]
    · rw [List.getElem?_set_ne hk, back_at hl vs k]
      have : (k ∈ v :: vs) = (k ∈ vs) := by simp [Ne.symm hk]
      simp only [this]
/-- behind a comprehension that changes nothing else -/
theorem back_same {ρ1 ρ2 : Rho} {vs : List Nat} (h : wipeR ρ2 vs = wipeR ρ1 vs) : backR ρ1 ρ2 vs = ρ1 := by
  have hl : ρ1.length = ρ2.length := by rw [← wipe_len ρ1 vs, ← wipe_len ρ2 vs, h]
  refine List.ext_getElem? fun k => ?_
  rw [back_at hl]
  split
  · rfl
  · rename_i hk
    exact wipeR_at h k hk
theorem lcGo_pure {γ : Type} {step : D → Rho → Res (Option D)} {vs : List Nat} {w : Rho} {e : γ → D} {g : γ → Option D} : ∀ {l : List γ} {ρ : Rho}, wipeR ρ vs = w → (∀ a ∈ l, ∀ ρ, wipeR ρ vs = w → ∃ ρ2, step (e a) ρ = .ok (g a) ρ2 ∧ wipeR ρ2 vs = w) → ∃ ρ2, lcGo step (l.map e) ρ = .ok (l.filterMap g) ρ2 ∧ wipeR ρ2 vs = w
  | [], ρ, hw, h => ⟨ρ, rfl, hw⟩
  | a :: l, ρ, hw, h => by
    obtain ⟨ρ2, e1, w1⟩ := h a List.mem_cons_self ρ hw
    obtain ⟨ρ3, e2, w2⟩ := lcGo_pure (l := l) w1 fun b hb => h b (List.mem_cons_of_mem _ hb)
    refine ⟨ρ3, ?_, w2⟩
    simp only [List.map_cons, lcGo, e1, bind_ok, e2]
    cases hg : g a with
    | none => rw [List.filterMap_cons_none hg]; rfl
    | some y => rw [List.filterMap_cons_some hg]; rfl
/-- over data, nothing else changes: filterMap -/
theorem ev_lcF {γ : Type} {ρ ρ1 elt tg it cs vs} (l : List γ) (e : γ → D) (g : γ → Option D) (hI : evI C it ρ = .ok (l.map e) ρ1) (h : ∀ a ∈ l, ∃ ρ2, lcBody C elt tg cs (e a) (wipeR ρ1 vs) = .ok (g a) ρ2 ∧ wipeR ρ2 vs = wipeR ρ1 vs) :
    ev C false (.lc elt tg it cs vs) ρ = .ok (.v (.ml (l.filterMap g))) ρ1 := by
  rw [ev_lc_eq, tst_f, hI, bind_ok]
  obtain ⟨ρ2, e1, w1⟩ := lcGo_pure (step := fun x ρ => lcBody C elt tg cs x (wipeR ρ vs)) (vs := vs) (w := wipeR ρ1 vs) (e := e) (g := g) (l := l) rfl fun a ha ρ hw => by
    show ∃ ρ2, lcBody C elt tg cs (e a) (wipeR ρ vs) = _ ∧ _
    rw [hw]; exact h a ha
  rw [e1, nox_ok, bind_ok, back_same w1]
theorem ev_lcM {γ : Type} {ρ ρ1 elt tg it vs} (l : List γ) (e : γ → D) (g : γ → D) (hI : evI C it ρ = .ok (l.map e) ρ1) (h : ∀ a ∈ l, ∃ ρ2, lcBody C elt tg .n (e a) (wipeR ρ1 vs) = .ok (some (g a)) ρ2 ∧ wipeR ρ2 vs = wipeR ρ1 vs) :
    ev C false (.lc elt tg it .n vs) ρ = .ok (.v (.ml (l.map g))) ρ1 := by
  rw [ev_lcF l e (fun a => some (g a)) hI h, List.filterMap_eq_map']
theorem fm_filter {γ : Type} (p : γ → Bool) (g : γ → D) : ∀ l : List γ, l.filterMap (fun a => if p a then some (g a) else none) = (l.filter p).map g
  | [] => rfl
  | b :: r => by
    by_cases hq : p b = true
    · rw [List.filterMap_cons_some (by rw [if_pos hq]), List.filter_cons_of_pos hq, List.map_cons, fm_filter p g r]
    · rw [List.filterMap_cons_none (by rw [if_neg hq]), List.filter_cons_of_neg hq, fm_filter p g r]
theorem ev_lcP {γ : Type} {ρ ρ1 elt tg it cs vs} (l : List γ) (e : γ → D) (p : γ → Bool) (g : γ → D) (hI : evI C it ρ = .ok (l.map e) ρ1) (h : ∀ a ∈ l, ∃ ρ2, lcBody C elt tg cs (e a) (wipeR ρ1 vs) = .ok (if p a then some (g a) else none) ρ2 ∧ wipeR ρ2 vs = wipeR ρ1 vs) :
    ev C false (.lc elt tg it cs vs) ρ = .ok (.v (.ml ((l.filter p).map g))) ρ1 := by
  rw [ev_lcF l e (fun a => if p a then some (g a) else none) hI h, fm_filter]
/-- any comprehension, by an invariant: what is left, what has come, the other slots -/
theorem back_set {ρ0 : Rho} {v : Nat} {x y : Option SV} : ∀ (vs : List Nat) (σ : Rho), (backR ρ0 (σ.set v y) vs).set v x = (backR ρ0 σ vs).set v x
  | [], σ => by simp [backR]
  | u :: vs, σ => by
    simp only [backR]
    by_cases h : u = v
    · subst h
      rw [List.set_set, List.set_set, back_set vs σ]
    · rw [List.set_comm _ _ h, back_set vs σ, List.set_comm _ _ h]
theorem back_wipe {ρ0 : Rho} : ∀ (vs : List Nat) (ρ : Rho), backR ρ0 ρ vs = backR ρ0 (wipeR ρ vs) vs
  | [], ρ => rfl
  | v :: vs, ρ => by
    show (backR ρ0 ρ vs).set v _ = (backR ρ0 ((wipeR ρ vs).set v none) vs).set v _
    rw [back_set, ← back_wipe vs ρ]
def gtO (ρ : Rho) (v : Nat) : Option SV := (ρ[v]?).getD none
theorem gtO_0 {x : Option SV} {ρ : Rho} : gtO (x :: ρ) 0 = x := rfl
theorem gtO_s {x : Option SV} {ρ : Rho} {n : Nat} : gtO (x :: ρ) (n + 1) = gtO ρ n := id rfl
theorem back_n {ρ0 ρ : Rho} : backR ρ0 ρ [] = ρ := id rfl
theorem back_c {ρ0 ρ : Rho} {v : Nat} {vs : List Nat} : backR ρ0 ρ (v :: vs) = (backR ρ0 ρ vs).set v (gtO ρ0 v) := id rfl
theorem lc_wp {ρ elt tg it cs vs} {P : Opd → Rho → Prop} (g : (evI C it ρ).good fun xs ρ1 => ∃ I : List D → List D → Rho → Prop, I xs [] (wipeR ρ1 vs) ∧
      (∀ x r acc w, I (x :: r) acc w → (lcBody C elt tg cs x w).good fun y ρ2 => I r (acc ++ y.toList) (wipeR ρ2 vs)) ∧ ∀ acc w, I [] acc w → P (.v (.ml acc)) (backR ρ1 w vs)) :
    (ev C false (.lc elt tg it cs vs) ρ).good P := by
  rw [ev_lc_eq, tst_f]
  cases eI : evI C it ρ with
  | exc _ _ => rw [eI] at g; exact g.elim
  | bad => rw [eI] at g; exact g.elim
  | ok xs ρ1 =>
    rw [eI] at g
    obtain ⟨I, h0, hs, hd⟩ := g
    rw [bind_ok]
    have key : ∀ (xs acc : List D) (ρ : Rho), I xs acc (wipeR ρ vs) → (lcGo (fun x ρ => lcBody C elt tg cs x (wipeR ρ vs)) xs ρ).good fun ys ρ2 => I [] (acc ++ ys) (wipeR ρ2 vs) := by
      intro xs
      induction xs with
      | nil => intro acc ρ h; show I [] (acc ++ []) _; rw [List.append_nil]; exact h
      | cons x r ih =>
        intro acc ρ h
        have h1 := hs x r acc _ h
        show ((lcBody C elt tg cs x (wipeR ρ vs)).bind fun y ρ => (lcGo _ r ρ).bind fun ys ρ => Res.ok (y.toList ++ ys) ρ).good _
        cases e1 : lcBody C elt tg cs x (wipeR ρ vs) with
        | exc _ _ => rw [e1] at h1; exact h1.elim
        | bad => rw [e1] at h1; exact h1.elim
        | ok y ρ2 =>
          rw [e1] at h1
          have h2 := ih (acc ++ y.toList) ρ2 h1
          rw [bind_ok]
          cases e2 : lcGo (fun x ρ => lcBody C elt tg cs x (wipeR ρ vs)) r ρ2 with
          | exc _ _ => rw [e2] at h2; exact h2.elim
          | bad => rw [e2] at h2; exact h2.elim
          | ok ys ρ3 =>
            rw [e2] at h2
            show I [] (acc ++ (y.toList ++ ys)) _
            rw [← List.append_assoc]; exact h2
    have h1 := key xs [] ρ1 h0
    cases e1 : lcGo (fun x ρ => lcBody C elt tg cs x (wipeR ρ vs)) xs ρ1 with
    | exc _ _ => rw [e1] at h1; exact h1.elim
    | bad => rw [e1] at h1; exact h1.elim
    | ok ys ρ2 =>
      rw [e1] at h1
      show P (.v (.ml ys)) (backR ρ1 ρ2 vs)
      rw [back_wipe]
      exact hd ys _ h1
/-! ### loops -/
/-- for, by an invariant over what is left -/
theorem for_wp {ρ tg it b} {P : Fl → Rho → Prop} (g : (evI C it ρ).good fun xs ρ1 => ∃ I : List D → Rho → Prop, I xs ρ1 ∧
      (∀ x r ρ, I (x :: r) ρ → (optR (setTg tg x ρ) fun ρ => evSs C np b ρ).good fun f ρ2 => match f with
        | .nx => I r ρ2
        | .cnt => I r ρ2
        | .brk => P .nx ρ2
        | .ret v => P (.ret v) ρ2) ∧ ∀ ρ2, I [] ρ2 → P .nx ρ2) : (evS C np (.for_ tg it b) ρ).good P := by
  rw [evS_for]
  cases eI : evI C it ρ with
  | exc _ _ => rw [eI] at g; exact g.elim
  | bad => rw [eI] at g; exact g.elim
  | ok xs ρ1 =>
    rw [eI] at g
    obtain ⟨I, h0, hs, hd⟩ := g
    rw [bind_ok]
    clear eI
    induction xs generalizing ρ1 with
    | nil => exact hd ρ1 h0
    | cons x r ih =>
      have h1 := hs x r ρ1 h0
      show ((optR (setTg tg x ρ1) fun ρ => evSs C np b ρ).bind fun f ρ => match f with
        | .nx => forGo _ r ρ
        | .cnt => forGo _ r ρ
        | .brk => .ok .nx ρ
        | .ret r => .ok (.ret r) ρ).good P
      cases e1 : (optR (setTg tg x ρ1) fun ρ => evSs C np b ρ) with
      | exc _ _ => rw [e1] at h1; exact h1.elim
      | bad => rw [e1] at h1; exact h1.elim
      | ok f ρ2 =>
        rw [e1] at h1
        rw [bind_ok]
        cases f with
        | nx => exact ih ρ2 h1
        | cnt => exact ih ρ2 h1
        | brk => exact h1
        | ret v => exact h1
theorem iterW_det {step : Rho → Wt} : ∀ {n m : Nat} {ρ : Rho} {a b : Res Fl}, iterW step n ρ = some a → iterW step m ρ = some b → a = b
  | 0, _, _, _, _, h, _ => by simp [iterW] at h
  | _, 0, _, _, _, _, h => by simp [iterW] at h
  | n + 1, m + 1, ρ, a, b, h1, h2 => by
    simp only [iterW] at h1 h2
    cases e : step ρ with
    | on ρ' =>
      rw [e] at h1 h2
      exact iterW_det h1 h2
    | end_ r =>
      rw [e] at h1 h2
      cases h1; cases h2; rfl
theorem iterW_mono {step : Rho → Wt} : ∀ {n m : Nat} {ρ : Rho} {a : Res Fl}, iterW step n ρ = some a → n ≤ m → iterW step m ρ = some a
  | 0, _, _, _, h, _ => by simp [iterW] at h
  | n + 1, 0, _, _, _, h => by omega
  | n + 1, m + 1, ρ, a, h1, h2 => by
    simp only [iterW] at h1 ⊢
    cases e : step ρ with
    | on ρ' =>
      rw [e] at h1
      exact iterW_mono h1 (by omega)
    | end_ r =>
      rw [e] at h1
      exact h1
theorem while_of {step : Rho → Wt} {ρ : Rho} {n : Nat} {r : Res Fl} (h : iterW step n ρ = some r) (hn : n ≤ 4611686018427387904) : whileR step ρ = r := by
  unfold whileR
  rw [iterW_mono h (m := WF) hn]
  rfl
/-- while, by an invariant with a measure -/
theorem while_wp {ρ c b} {P : Fl → Rho → Prop} (I : Nat → Rho → Prop) (n : Nat) (h0 : I n ρ) (hs : ∀ n ρ, I n ρ → (boolOf (ev C true c ρ)).good fun k ρ2 => if k then (evSs C np b ρ2).good fun f ρ3 => (match f with
        | .nx => ∃ m, m < n ∧ I m ρ3
        | .cnt => ∃ m, m < n ∧ I m ρ3
        | .brk => P .nx ρ3
        | .ret v => P (.ret v) ρ3) else P .nx ρ2) (hn : n < 4611686018427387904 := by omega) : (evS C np (.wh c b) ρ).good P := by
  rw [evS_wh]
  have key : ∀ (n : Nat) (ρ : Rho), I n ρ → ∃ m r, iterW (fun ρ => whStep (ev C true c ρ) fun ρ => evSs C np b ρ) m ρ = some r ∧ m ≤ n + 1 ∧ r.good P := by
    intro n
    induction n using Nat.strongRecOn with
    | _ n ih =>
      intro ρ h
      have h1 := hs n ρ h
      cases e1 : boolOf (ev C true c ρ) with
      | exc _ _ => rw [e1] at h1; exact h1.elim
      | bad => rw [e1] at h1; exact h1.elim
      | ok k ρ2 =>
        rw [e1] at h1
        cases k with
        | false => exact ⟨1, .ok .nx ρ2, by simp only [iterW, whStep, e1], by omega, h1⟩
        | true =>
          have h1 : (evSs C np b ρ2).good _ := h1
          cases e2 : evSs C np b ρ2 with
          | exc _ _ => rw [e2] at h1; exact h1.elim
          | bad => rw [e2] at h1; exact h1.elim
          | ok f ρ3 =>
            rw [e2] at h1
            cases f with
            | nx =>
              obtain ⟨m, hm, im⟩ := h1
              obtain ⟨m', r, e3, hm', g⟩ := ih m hm ρ3 im
              exact ⟨m' + 1, r, by simp only [iterW, whStep, e1, e2]; exact e3, by omega, g⟩
            | cnt =>
              obtain ⟨m, hm, im⟩ := h1
              obtain ⟨m', r, e3, hm', g⟩ := ih m hm ρ3 im
              exact ⟨m' + 1, r, by simp only [iterW, whStep, e1, e2]; exact e3, by omega, g⟩
            | brk => exact ⟨1, .ok .nx ρ3, by simp only [iterW, whStep, e1, e2], by omega, h1⟩
            | ret v => exact ⟨1, .ok (.ret v) ρ3, by simp only [iterW, whStep, e1, e2], by omega, h1⟩
  obtain ⟨m, r, e, hm, g⟩ := key n ρ h0
  rw [while_of e (by omega)]; exact g
/-! ### of lists of data -/
theorem boolsOf_map {γ : Type} (l : List γ) (p : γ → Bool) : boolsOf (l.map fun a => PyData.bool (p a)) = some (l.map p) := by
  induction l with
  | nil => rfl
  | cons a r ih => simp only [List.map_cons, boolsOf, ih]; rfl
theorem intsOf_map {γ : Type} (l : List γ) (p : γ → Int) : intsOf (l.map fun a => PyData.int (p a)) = some (l.map p) := by
  induction l with
  | nil => rfl
  | cons a r ih => simp only [List.map_cons, intsOf, ih]; rfl
theorem intsOf_int (l : List Int) : intsOf (l.map PyData.int) = some l := by
  have := intsOf_map l id
  simpa using this
theorem all_map {γ : Type} {l : List γ} {p : γ → Bool} : biSem .all [.ml (l.map fun a => PyData.bool (p a))] = some (.d (.bool (l.all p))) := by
  show biAll (.ml (l.map fun a => PyData.bool (p a))) = _
  simp only [biAll, SV.seqL, boolsOf_map, Option.map_some]
  congr 3
  induction l with
  | nil => rfl
  | cons a r ih => simp only [List.map_cons, List.all_cons, ih, id]
theorem any_map {γ : Type} {l : List γ} {p : γ → Bool} : biSem .any [.ml (l.map fun a => PyData.bool (p a))] = some (.d (.bool (l.any p))) := by
  show biAny (.ml (l.map fun a => PyData.bool (p a))) = _
  simp only [biAny, SV.seqL, boolsOf_map, Option.map_some]
  congr 3
  induction l with
  | nil => rfl
  | cons a r ih => simp only [List.map_cons, List.any_cons, ih, id]
theorem zip2_map {γ δ : Type} (e : γ → D) (f : δ → D) : ∀ (l : List γ) (m : List δ), zip2D (l.map e) (m.map f) = (l.zip m).map fun p => .tuple [e p.1, f p.2]
  | [], _ => rfl
  | _ :: _, [] => rfl
  | a :: l, b :: m => by simp only [List.map_cons, zip2D, List.zip_cons_cons, zip2_map e f l m]
end
end Q
namespace Q
open PySem
section
variable {C : Call}
def afterC (r : COut) (g : List SV → Rho) : Res Opd := match r with
  | .ret r outs => .ok (.v r) (g outs)
  | .exc e outs => .exc e (g outs)
  | .bad => .bad
theorem afterC_ret {r outs g} : afterC (.ret r outs) g = .ok (.v r) (g outs) := id rfl
theorem call_eq {f os ρ} : callSem C f os ρ = optR (peeks ρ os) fun ss => if (slotsOf os).Nodup then afterC (C f ss) (fun outs => backs ρ os ss outs) else .bad := by
  unfold callSem
  congr 1
theorem backs_n {ρ ss ts} : backs ρ [] ss ts = ρ := id rfl
theorem backs_v {ρ o os s ss t ts} : backs ρ (.v o :: os) (s :: ss) (t :: ts) = backs ρ os ss ts := id rfl
theorem backs_s {ρ i os s ss t ts} : backs ρ (.s i :: os) (s :: ss) (t :: ts) = if s.own then (backs ρ os ss ts).set i (some t) else backs ρ os ss ts := id rfl
theorem par_0 {ρ} : parOk 0 ρ = true := id rfl
theorem par_s {n ρ} : parOk (n + 1) ρ = (parOk n ρ && (gt ρ n).isSome) := by
  unfold parOk
  rw [List.range_succ, List.all_append, List.all_cons, List.all_nil, Bool.and_true]
theorem outs_n {asg ρ k} : outsOf asg ρ k [] = [] := id rfl
theorem outs_c {asg ρ k s ss} : outsOf asg ρ k (s :: ss) = (if k ∈ asg then s.frz else (gt ρ k).getD s) :: outsOf asg ρ (k + 1) ss := id rfl
theorem frzL_n {ρ} : frzL [] ρ = ρ := id rfl
theorem frzL_c {ρ i is} : frzL (i :: is) ρ = frzL is (frzAt ρ i) := id rfl
theorem frz_eq {ρ i} : frzAt ρ i = match gt ρ i with
  | some s => if s.own then ρ.set i (some s.frz) else ρ
  | none => ρ := id rfl
theorem own_d {x} : SV.own (.d x) = false := id rfl
theorem own_ml {x} : SV.own (.ml x) = true := id rfl
theorem own_rl {x} : SV.own (.rl x) = false := id rfl
theorem dat_d {x} : SV.dat (.d x) = some x := id rfl
theorem dat_ml {x} : SV.dat (.ml x) = some (.list x) := id rfl
theorem frzS_d {x} : SV.frz (.d x) = .d x := id rfl
theorem frzS_ml {x} : SV.frz (.ml x) = .d (.list x) := id rfl
theorem seqL_ml {x} : SV.seqL (.ml x) = some x := id rfl
theorem seqL_d {x} : SV.seqL (.d (.list x)) = some x := id rfl
theorem seqL_t {x} : SV.seqL (.d (.tuple x)) = none := id rfl
theorem lt_ii {i j : Int} : cmpSem .Lt (.d (.int i)) (.d (.int j)) = some (decide (i < j)) := id rfl
theorem le_ii {i j : Int} : cmpSem .LtE (.d (.int i)) (.d (.int j)) = some (decide (i ≤ j)) := id rfl
theorem gt_ii {i j : Int} : cmpSem .Gt (.d (.int i)) (.d (.int j)) = some (decide (j < i)) := id rfl
theorem ge_ii {i j : Int} : cmpSem .GtE (.d (.int i)) (.d (.int j)) = some (decide (j ≤ i)) := id rfl
theorem eq_ii {i j : Int} : cmpSem .Eq (.d (.int i)) (.d (.int j)) = some (decide (i = j)) := id rfl
theorem ne_ii {i j : Int} : cmpSem .NotEq (.d (.int i)) (.d (.int j)) = some (!decide (i = j)) := id rfl
theorem eq_ss {i j : Str} : cmpSem .Eq (.d (.str i)) (.d (.str j)) = some (PyData.eqv (.str i) (.str j)) := id rfl
theorem add_ii {i j : Int} : binSem .Add (.d (.int i)) (.d (.int j)) = some (.d (.int (i + j))) := id rfl
theorem sub_ii {i j : Int} : binSem .Sub (.d (.int i)) (.d (.int j)) = some (.d (.int (i - j))) := id rfl
theorem tru_b {b} : truth (.d (.bool b)) = some b := id rfl
theorem tru_i {i : Int} : truth (.d (.int i)) = some (i != 0) := id rfl
theorem tru_n : truth (.d .none) = some false := id rfl
theorem tru_l {x} : truth (.ml x) = some (!x.isEmpty) := id rfl
theorem tru_t {x} : truth (.d (.tuple x)) = some (!x.isEmpty) := id rfl
theorem abs_i {i : Int} : biSem .abs [.d (.int i)] = some (.d (.int (if i < 0 then -i else i))) := id rfl
theorem len_t {x} : biSem .len [.d (.tuple x)] = some (.d (.int x.length)) := id rfl
theorem len_l {x} : biSem .len [.d (.list x)] = some (.d (.int x.length)) := id rfl
theorem len_m {x} : biSem .len [.ml x] = some (.d (.int x.length)) := id rfl
theorem tup_m {x} : biSem .tuple [.ml x] = some (.d (.tuple x)) := id rfl
theorem tup_t {x} : biSem .tuple [.d (.tuple x)] = some (.d (.tuple x)) := id rfl
theorem tup_l {x} : biSem .tuple [.d (.list x)] = some (.d (.tuple x)) := id rfl
theorem list_m {x} : biSem .list [.ml x] = some (.ml x) := id rfl
theorem list_r {x} : biSem .list [.rl x] = some (.ml x) := id rfl
theorem int_i {x : Int} : biSem .int [.d (.int x)] = some (.d (.int x)) := id rfl
theorem max_ii {i j : Int} : biSem .max [.d (.int i), .d (.int j)] = some (.d (.int (if j > i then j else i))) := id rfl
theorem min_ii {i j : Int} : biSem .min [.d (.int i), .d (.int j)] = some (.d (.int (if j < i then j else i))) := id rfl
theorem ix_t {x : List D} {i : Int} : ixSem (.d (.tuple x)) (.d (.int i)) = (atD x i).map .d := id rfl
theorem ix_l {x : List D} {i : Int} : ixSem (.d (.list x)) (.d (.int i)) = (atD x i).map .d := id rfl
theorem ix_m {x : List D} {i : Int} : ixSem (.ml x) (.d (.int i)) = (atD x i).map .d := id rfl
theorem sl_t {x : List D} {l h} : slSem (.d (.tuple x)) l h = some (.d (.tuple (cutD x l h))) := id rfl
theorem sl_l {x : List D} {l h} : slSem (.d (.list x)) l h = some (.ml (cutD x l h)) := id rfl
theorem sl_m {x : List D} {l h} : slSem (.ml x) l h = some (.ml (cutD x l h)) := id rfl
theorem at_0 {x : D} {xs : List D} : atD (x :: xs) 0 = some x := id rfl
theorem at_1 {x y : D} {xs : List D} : atD (x :: y :: xs) 1 = some y := id rfl
theorem at_2 {x y z : D} {xs : List D} : atD (x :: y :: z :: xs) 2 = some z := id rfl
theorem items_t {x} : itemsD (.tuple x) = some x := id rfl
theorem seq_t {x} : seqD (.tuple x) = some x := id rfl
theorem seq_l {x} : seqD (.list x) = some x := id rfl
theorem own_md {x} : (SV.md x).own = true := id rfl
theorem dat_md {x} : (SV.md x).dat = some (dictD x) := id rfl
theorem frzS_md {x} : (SV.md x).frz = .d (dictD x) := id rfl
theorem ev_dn {m ρ} : ev C m .dn ρ = tst m (.ok (.v (.md [])) ρ) := id rfl
theorem ev_rg1 {m ρ t a} : ev C m (.rg1 t a) ρ = tst m ((ev C false a ρ).bind fun o ρ => optR (partOf o) fun j => optR (rgSem [.d (.int j)]) fun xs => .ok (.v (if t then .d (.tuple xs) else .ml xs)) ρ) := id rfl
theorem ev_rg2 {m ρ t a b} : ev C m (.rg2 t a b) ρ = tst m ((ev C false a ρ).bind fun o ρ => (ev C false b ρ).bind fun o2 ρ => optR (partOf o) fun i => optR (partOf o2) fun j => optR (rgSem [.d (.int i), .d (.int j)]) fun xs => .ok (.v (if t then .d (.tuple xs) else .ml xs)) ρ) := id rfl
theorem items_l {x} : itemsD (.list x) = some x := id rfl
theorem ml_0 {x ρ} : mlAt (some (.ml x) :: ρ) 0 = some () := id rfl
theorem ml_s {o ρ n} : mlAt (o :: ρ) (n + 1) = mlAt ρ n := id rfl
theorem wipe_n {ρ} : wipeR ρ [] = ρ := id rfl
theorem wipe_c {ρ v vs} : wipeR ρ (v :: vs) = (wipeR ρ vs).set v none := id rfl
theorem setT_n {i x ρ} : setTg (.n i) x ρ = some (ρ.set i (some (.d x))) := id rfl
theorem setT_t {ts xs ρ} : setTg (.t ts) (.tuple xs) ρ = setTgs ts xs ρ := id rfl
theorem setTs_n {ρ} : setTgs .n [] ρ = some ρ := id rfl
theorem setTs_c {a r x xs ρ} : setTgs (.c a r) (x :: xs) ρ = (setTg a x ρ).bind fun ρ => setTgs r xs ρ := by
  show (match setTg a x ρ with
    | some ρ => setTgs r xs ρ
    | none => none) = _
  cases setTg a x ρ <;> rfl
theorem isi_i {i : Int} : isiSem (.int i) "int" = some true := id rfl
theorem isi_tt {x} : isiSem (.tuple x) "tuple" = some true := id rfl
theorem drop1 {x : List D} : cutD x (some 1) none = x.drop 1 := by
  unfold cutD
  rw [show HT.sIx x.length 0 (some 1) = min 1 x.length from HT.sIx_nat x.length 0 1, HT.sIx_none]
  cases x with
  | nil => rfl
  | cons a r =>
    rw [show min 1 (a :: r).length = 1 by rw [List.length_cons]; omega]
    show (List.take ((a :: r).length - 1) r) = r
    rw [List.length_cons, Nat.add_sub_cancel]
    exact List.take_length
end
end Q
namespace Q
open PySem
section
variable {C : Call}
theorem lc_map {γ : Type} {ρ elt tg it vs} (l : List γ) (e : γ → D) (g : γ → D) (hI : evI C it ρ = .ok (l.map e) ρ) (h : ∀ a ∈ l, ∃ ρ2, lcBody C elt tg .n (e a) (wipeR ρ vs) = .ok (some (g a)) ρ2 ∧ wipeR ρ2 vs = wipeR ρ vs) :
    ev C false (.lc elt tg it .n vs) ρ = .ok (.v (.ml (l.map g))) ρ := ev_lcM l e g hI h
theorem lc_filter {γ : Type} {ρ elt tg it cs vs} (l : List γ) (e : γ → D) (p : γ → Bool) (g : γ → D) (hI : evI C it ρ = .ok (l.map e) ρ) (h : ∀ a ∈ l, ∃ ρ2, lcBody C elt tg cs (e a) (wipeR ρ vs) = .ok (if p a then some (g a) else none) ρ2 ∧ wipeR ρ2 vs = wipeR ρ vs) :
    ev C false (.lc elt tg it cs vs) ρ = .ok (.v (.ml ((l.filter p).map g))) ρ := ev_lcP l e p g hI h
def dI (xs : List Int) : D := .tuple (xs.map .int)
def dT (L : List (List Int)) : D := .tuple (L.map dI)
theorem gdAll_ints (n : Nat) : ∀ xs : List Int, gdAll n (xs.map .int) = true
  | [] => rfl
  | x :: r => by simp only [List.map_cons, gdAll, gd, gdAll_ints n r, Bool.and_self]
theorem gd_dI {n : Nat} {xs : List Int} : gd (n + 1) (dI xs) = true := by
  unfold dI
  simp only [gd, gdAll_ints]
theorem gdAll_dI (n : Nat) : ∀ L : List (List Int), gdAll (n + 1) (L.map dI) = true
  | [] => rfl
  | x :: r => by simp only [List.map_cons, gdAll, gd_dI, gdAll_dI n r, Bool.and_self]
theorem gd_dT {n : Nat} {L : List (List Int)} : gd (n + 2) (dT L) = true := by
  unfold dT
  simp only [gd, gdAll_dI]
theorem eqv_ii {a b : Int} : PyData.eqv (.int a) (.int b) = decide (a = b) := id rfl
theorem inSeq_ints (c : Int) : ∀ xs : List Int, inSeq (.int c) (xs.map .int) = xs.contains c
  | [] => rfl
  | x :: r => by
    have ih := inSeq_ints c r
    unfold inSeq at ih ⊢
    simp only [List.map_cons, List.any_cons, ih, eqv_ii, List.contains_cons]
    congr 1
    by_cases h : x = c
    · subst h; simp
    · have h' : ¬ c = x := fun e => h e.symm
      simp [h, h']
theorem in_dI {c : Int} {xs : List Int} : cmpSem .In (.d (.int c)) (.d (dI xs)) = some (xs.contains c) := by
  unfold dI
  simp only [cmpSem, SV.dat, gd, gdAll_ints, Bool.and_self, if_true, inSeq_ints]
theorem nin_dI {c : Int} {xs : List Int} : cmpSem .NotIn (.d (.int c)) (.d (dI xs)) = some (!xs.contains c) := by
  unfold dI
  simp only [cmpSem, SV.dat, gd, gdAll_ints, Bool.and_self, if_true, inSeq_ints]
theorem range_d {n : Int} (h0 : 0 ≤ n) (h : n ≤ 16777216) : rgSem [.d (.int n)] = some ((List.range n.toNat).map fun (k : Nat) => PyData.int ((0 : Int) + (k : Int))) := by
  have h1 : (rgOk n && decide (n ≤ 16777216)) = true := by
    simp only [rgOk, Bool.and_eq_true, decide_eq_true_eq]
    omega
  show (if (rgOk n && decide (n ≤ 16777216)) = true then some (rangeD 0 n.toNat) else none) = _
  rw [if_pos h1]
  rfl
/-- 0 .. n - 1 -/
def upto (n : Int) : List Int := (List.range n.toNat).map fun (k : Nat) => (k : Int)
theorem range_up {n : Int} (h : n ≤ 16777216) (h0 : -1000 ≤ n) : rgSem [.d (.int n)] = some ((upto n).map .int) := by
  have h1 : (rgOk n && decide (n ≤ 16777216)) = true := by
    simp only [rgOk, Bool.and_eq_true, decide_eq_true_eq]
    omega
  show (if (rgOk n && decide (n ≤ 16777216)) = true then some (rangeD 0 n.toNat) else none) = _
  rw [if_pos h1]
  congr 1
  unfold rangeD upto
  rw [List.map_map]
  refine List.map_congr_left fun k _ => ?_
  show PyData.int (0 + (k : Int)) = PyData.int (k : Int)
  rw [Int.zero_add]
theorem mem_upto {n k : Int} : k ∈ upto n ↔ 0 ≤ k ∧ k < n := by
  unfold upto
  simp only [List.mem_map, List.mem_range]
  constructor
  · rintro ⟨a, h, rfl⟩; omega
  · rintro ⟨h1, h2⟩; exact ⟨k.toNat, by omega, by omega⟩
theorem at_map {γ : Type} {e : γ → D} {l : List γ} {i : Int} : atD (l.map e) i = ((if 0 ≤ i then l[i.toNat]? else if -(l.length : Int) ≤ i then l[(i + l.length).toNat]? else none).map e) := by
  unfold atD
  simp only [List.length_map, List.getElem?_map]
  split
  · rfl
  · split <;> rfl
theorem at_nat {γ : Type} {e : γ → D} {l : List γ} {i : Int} (h : 0 ≤ i) : atD (l.map e) i = (l[i.toNat]?).map e := by
  rw [at_map, if_pos h]
theorem at_last {γ : Type} {e : γ → D} {l : List γ} (h : l ≠ []) : atD (l.map e) (-1) = some (e (l.getLast h)) := by
  have hl : 0 < l.length := List.length_pos_iff.mpr h
  rw [at_map, if_neg (by omega), if_pos (by omega)]
  have e1 : ((-1 : Int) + l.length).toNat = l.length - 1 := by omega
  rw [e1, List.getLast_eq_getElem, List.getElem?_eq_getElem (by omega)]
  rfl
end
end Q
namespace Q
open PySem
section
variable {C : Call}
theorem callFn_wp {f : Fn} {ss : List SV} {r : SV} {outs : List SV} (h : ss.length = f.np) (g : (evSs C (if ss.any SV.own then f.ns else f.np) f.body (frzL f.asg (ss.map some ++ List.replicate (f.ns - f.np) none))).good fun fl ρ => fin f.np f.asg ss (.ok fl ρ) = .ret r outs) : callFn C f ss = .ret r outs := by
  rw [callFn_fin h]
  generalize evSs C (if ss.any SV.own then f.ns else f.np) f.body (frzL f.asg (ss.map some ++ List.replicate (f.ns - f.np) none)) = x at g
  cases x with
  | ok fl ρ => exact g
  | exc e ρ => exact g.elim
  | bad => exact g.elim
theorem callFn_wpE {f : Fn} {ss : List SV} {Q : SV → List SV → Prop} (h : ss.length = f.np) (g : (evSs C (if ss.any SV.own then f.ns else f.np) f.body (frzL f.asg (ss.map some ++ List.replicate (f.ns - f.np) none))).good fun fl ρ => ∃ r outs, fin f.np f.asg ss (.ok fl ρ) = .ret r outs ∧ Q r outs) : ∃ r outs, callFn C f ss = .ret r outs ∧ Q r outs := by
  rw [callFn_fin h]
  generalize evSs C (if ss.any SV.own then f.ns else f.np) f.body (frzL f.asg (ss.map some ++ List.replicate (f.ns - f.np) none)) = x at g
  cases x with
  | ok fl ρ => exact g
  | exc e ρ => exact g.elim
  | bad => exact g.elim
theorem good_bindR {α β : Type} {r : Res α} {f : α → Rho → Res β} {P : β → Rho → Prop} : (r.bind f).good P ↔ r.good fun a ρ => (f a ρ).good P := by
  cases r <;> exact Iff.rfl
theorem good_badR {α : Type} {P : α → Rho → Prop} : (Res.bad : Res α).good P ↔ False := Iff.rfl
theorem app_m {xs : List D} {x : D} (h : xs.length < 16777216) : appSem (.ml xs) x = some (.ml (xs ++ [x])) := if_pos h
theorem minL_of {xs : List Int} (h : xs ≠ []) : biSem .min [.ml (xs.map .int)] = some (.d (.int (minL xs))) := by
  cases xs with
  | nil => exact absurd rfl h
  | cons x r =>
    show biMin [.ml ((x :: r).map .int)] = _
    simp only [biMin, SV.seqL, intsOf_int]
theorem maxL_of {xs : List Int} (h : xs ≠ []) : biSem .max [.ml (xs.map .int)] = some (.d (.int (maxL xs))) := by
  cases xs with
  | nil => exact absurd rfl h
  | cons x r =>
    show biMax [.ml ((x :: r).map .int)] = _
    simp only [biMax, SV.seqL, intsOf_int]
end
end Q
namespace Q
open PySem
section
variable {C : Call}
theorem minL_ofD {xs : List Int} (h : xs ≠ []) : biSem .min [.d (.list (xs.map .int))] = some (.d (.int (minL xs))) := by
  cases xs with
  | nil => exact absurd rfl h
  | cons x r =>
    show biMin [.d (.list ((x :: r).map .int))] = _
    simp only [biMin, SV.seqL, intsOf_int]
theorem enum_from {γ : Type} (e : γ → D) : ∀ (l : List γ) (k : Nat), enumD (k : Int) (l.map e) = (l.zipIdx k).map fun p => .tuple [.int (p.2 : Int), e p.1]
  | [], _ => rfl
  | x :: r, k => by
    have ih := enum_from e r (k + 1)
    simp only [List.map_cons, enumD, List.zipIdx_cons]
    rw [← ih]
    rfl
theorem enum_map {γ : Type} (e : γ → D) (l : List γ) : enumD 0 (l.map e) = (l.zipIdx 0).map fun p => .tuple [.int (p.2 : Int), e p.1] := enum_from e l 0
theorem eq_nil_m {xs : List Int} : cmpSem .Eq (.ml (xs.map .int)) (.ml []) = some xs.isEmpty := by
  have h : cmpOk (.list (xs.map .int)) (.list []) = true := by
    simp only [cmpOk, gd, gdAll_ints, gdAll, Bool.and_self]
  simp only [cmpSem, SV.dat, h, if_true]
  cases xs <;> rfl
def absI (x : Int) : Int := if x < 0 then -x else x
theorem abs_a {i : Int} : biSem .abs [.d (.int i)] = some (.d (.int (absI i))) := id rfl
end
end Q
namespace Q
theorem ite_ok {α : Type} {c : Prop} [Decidable c] {a b : α} {ρ : Rho} : (if c then Res.ok a ρ else Res.ok b ρ) = Res.ok (if c then a else b) ρ := by split <;> rfl
end Q
namespace Q
theorem eq_nil_0 : cmpSem .Eq (.ml []) (.ml []) = some true := eq_nil_m (xs := [])
end Q
namespace Q
open PySem
theorem mul_r {i j : Int} (h : -(2 ^ 64) < j ∧ j < 2 ^ 64) : binSem .Mult (.d (.int i)) (.d (.int j)) = some (.d (.int (i * j))) := by
  show (if _ ∨ _ then some (i * j) else none : Option Int).map _ = _
  rw [if_pos (.inr h)]; rfl
theorem mul_l {i j : Int} (h : -(2 ^ 64) < i ∧ i < 2 ^ 64) : binSem .Mult (.d (.int i)) (.d (.int j)) = some (.d (.int (i * j))) := by
  show (if _ ∨ _ then some (i * j) else none : Option Int).map _ = _
  rw [if_pos (.inl h)]; rfl
theorem fdiv_r {i j : Int} (h : 0 < j ∧ j < 1073741824) : binSem .FloorDiv (.d (.int i)) (.d (.int j)) = some (.d (.int (i / j))) := by
  show (if _ then some (i / j) else none : Option Int).map _ = _
  rw [if_pos h]; rfl
theorem mod_r {i j : Int} (h : 0 < j) : binSem .Mod (.d (.int i)) (.d (.int j)) = some (.d (.int (i % j))) := by
  show (if _ then some (i % j) else none : Option Int).map _ = _
  rw [if_pos h]; rfl
theorem pow_r {i j : Int} (h : 0 ≤ j ∧ j ≤ 1000000 ∧ i.natAbs < 2 ^ 64) : binSem .Pow (.d (.int i)) (.d (.int j)) = some (.d (.int (i ^ j.toNat))) := by
  show (if _ then some (i ^ j.toNat) else none : Option Int).map _ = _
  rw [if_pos h]; rfl
theorem cat_m {a b : List D} (h : a.length + b.length ≤ 16777216) : binSem .Add (.ml a) (.ml b) = some (.ml (a ++ b)) := by
  show (if a.length + b.length ≤ SZ then some (SV.ml (a ++ b)) else none) = _
  rw [if_pos h]
theorem cat_dm {a b : List D} (h : a.length + b.length ≤ 16777216) : binSem .Add (.d (.list a)) (.ml b) = some (.ml (a ++ b)) := by
  show (if a.length + b.length ≤ SZ then some (SV.ml (a ++ b)) else none) = _
  rw [if_pos h]
theorem cat_md {a b : List D} (h : a.length + b.length ≤ 16777216) : binSem .Add (.ml a) (.d (.list b)) = some (.ml (a ++ b)) := by
  show (if a.length + b.length ≤ SZ then some (SV.ml (a ++ b)) else none) = _
  rw [if_pos h]
theorem cat_dd {a b : List D} (h : a.length + b.length ≤ 16777216) : binSem .Add (.d (.list a)) (.d (.list b)) = some (.ml (a ++ b)) := by
  show (if a.length + b.length ≤ SZ then some (SV.ml (a ++ b)) else none) = _
  rw [if_pos h]
theorem cat_t {a b : List D} (h : a.length + b.length ≤ 16777216) : binSem .Add (.d (.tuple a)) (.d (.tuple b)) = some (.d (.tuple (a ++ b))) := by
  show (if a.length + b.length ≤ SZ then some (SV.d (.tuple (a ++ b))) else none) = _
  rw [if_pos h]
theorem sub_m {xs : List D} {k : Int} {x : D} : subSem (.ml xs) (.d (.int k)) x = (ixPut xs k x).map .ml := id rfl
theorem put_0 {x y : D} {xs : List D} : ixPut (x :: xs) 0 y = some (y :: xs) := by
  unfold ixPut
  rw [if_pos (by omega), if_pos (by simp)]
  rfl
theorem put_1 {x z y : D} {xs : List D} : ixPut (x :: z :: xs) 1 y = some (x :: y :: xs) := by
  unfold ixPut
  rw [if_pos (by omega), if_pos (by simp; omega)]
  rfl
abbrev cupV (a b : Int) : SV := .ml [.int a, .int b]
theorem abs_nn (x : Int) : 0 ≤ absI x := by
  unfold absI
  split <;> omega
end Q
namespace Q
open PySem
theorem isi_it {i : Int} : isiSem (.int i) "tuple" = some false := id rfl
theorem isi_ib {i : Int} : isiSem (.int i) "bool" = some false := id rfl
theorem isi_st {i : Str} : isiSem (.str i) "tuple" = some false := id rfl
theorem isi_sb {i : Str} : isiSem (.str i) "bool" = some false := id rfl
theorem isi_si {i : Str} : isiSem (.str i) "int" = some false := id rfl
theorem isi_ss {i : Str} : isiSem (.str i) "str" = some true := id rfl
theorem is_nn {x : D} : cmpSem .Is (.d x) (.d .none) = isSem x .none := id rfl
theorem isS_i {i : Int} : isSem (.int i) .none = some false := id rfl
theorem isS_s {i : Str} : isSem (.str i) .none = some false := id rfl
theorem str_s {x : Str} : biSem .str [.d (.str x)] = some (.d (.str x)) := id rfl
theorem eqs_self {x : Str} : cmpSem .Eq (.d (.str x)) (.d (.str x)) = some true := by
  show some (PyData.eqv (.str x) (.str x)) = _
  simp [PyData.eqv]
/-- what _law_same can look through, so deep -/
def sameB : Nat → D → Bool
  | 0, _ => false
  | _ + 1, .none => true
  | _ + 1, .bool _ => true
  | _ + 1, .int _ => true
  | _ + 1, .str _ => true
  | n + 1, .tuple xs => decide (xs.length ≤ 16777216) && xs.all (sameB n)
  | _ + 1, _ => false
theorem sameB_dI {n : Nat} {xs : List Int} (h : xs.length ≤ 16777216) : sameB (n + 2) (dI xs) = true := by
  simp only [dI, sameB, List.all_map, List.length_map, h, decide_true, Bool.true_and]
  exact List.all_eq_true.mpr fun _ _ => rfl
theorem sameB_dT {n : Nat} {L : List (List Int)} (h : L.length ≤ 16777216) (h2 : ∀ xs ∈ L, xs.length ≤ 16777216) : sameB (n + 3) (dT L) = true := by
  simp only [dT, sameB, List.all_map, List.length_map, h, decide_true, Bool.true_and]
  exact List.all_eq_true.mpr fun xs hx => sameB_dI (h2 xs hx)
end Q
namespace Q
open PySem
theorem isi_nt : isiSem .none "tuple" = some false := id rfl
theorem isi_bt {b : Bool} : isiSem (.bool b) "tuple" = some false := id rfl
theorem isi_bb {b : Bool} : isiSem (.bool b) "bool" = some true := id rfl
theorem isS_n : isSem .none .none = some true := id rfl
theorem isS_b {b : Bool} : isSem (.bool b) .none = some false := id rfl
theorem is_bb {x y : Bool} : cmpSem .Is (.d (.bool x)) (.d (.bool y)) = some (x == y) := id rfl
theorem at_nat' {xs : List D} {k : Int} {y : D} (h0 : 0 ≤ k) (h : xs[k.toNat]? = some y) : atD xs k = some y := by
  unfold atD
  rw [if_pos h0, h]
end Q
namespace Q
theorem evSs_ret {C : Call} {np : Nat} {s : S} {r : Ss} {ρ ρ' : Rho} {v : SV} (h : evS C np s ρ = .ok (.ret v) ρ') : evSs C np (.c s r) ρ = .ok (.ret v) ρ' := by rw [evSs_c, h]; rfl
theorem evSs_nx {C : Call} {np : Nat} {s : S} {r : Ss} {ρ ρ' : Rho} (h : evS C np s ρ = .ok .nx ρ') : evSs C np (.c s r) ρ = evSs C np r ρ' := by rw [evSs_c, h]; rfl
end Q
namespace Q
open PySem
/-! ### dicts of ints from pairs -/
def addI (ns : List Int) (r : Int) : List Int := if r ∈ ns then ns else ns ++ [r]
def firsts (rs : List Int) : List Int := rs.foldl addI []
theorem putG_keys {acc : List (Key × D)} {ns : List Int} {r : Int} {v : D} (h : acc.map (·.1) = ns.map Sum.inl) : (putG acc (.inl r) v).map (·.1) = (addI ns r).map Sum.inl := by
  have hany : (acc.any fun kv => decide (kv.1 = (.inl r : Key))) = decide (r ∈ ns) := by
    clear v
    induction acc generalizing ns with
    | nil =>
      cases ns with
      | nil => rfl
      | cons _ _ => simp at h
    | cons p acc ih =>
      cases ns with
      | nil => simp at h
      | cons n ns =>
        simp only [List.map_cons, List.cons.injEq] at h
        rw [List.any_cons, ih h.2, h.1]
        by_cases hr : r = n
        · subst hr; simp
        · have : ¬ ((Sum.inl n : Key) = Sum.inl r) := fun e => hr (Sum.inl.inj e).symm
          simp [hr, this]
  unfold putG addI
  rw [hany]
  by_cases hm : r ∈ ns
  · rw [if_pos (by simpa using hm), if_pos hm, ← h, List.map_map]
    refine List.map_congr_left fun p _ => ?_
    simp only [Function.comp]
    split <;> rfl
  · rw [if_neg (by simpa using hm), if_neg hm, List.map_append, h, List.map_append]
    rfl
theorem mergeG_keys {v : Int → D} : ∀ {rs : List Int} {acc : List (Key × D)} {ns : List Int}, acc.map (·.1) = ns.map Sum.inl → (mergeG acc (rs.map fun r => ((.inl r : Key), v r))).map (·.1) = (rs.foldl addI ns).map Sum.inl
  | [], _, _, h => h
  | r :: rs, acc, ns, h => by
    have := mergeG_keys (v := v) (rs := rs) (putG_keys (r := r) (v := v r) h)
    exact this
theorem intKeys_of : ∀ {kvs : List (Key × D)} {ns : List Int}, kvs.map (·.1) = ns.map Sum.inl → intKeys (kvs.map fun p => (keyD p.1, p.2)) = some ns
  | [], [], _ => rfl
  | [], _ :: _, h => by simp at h
  | _ :: _, [], h => by simp at h
  | (k, v) :: kvs, n :: ns, h => by
    simp only [List.map_cons, List.cons.injEq] at h
    obtain ⟨h1, h2⟩ := h
    subst h1
    show (intKeys (kvs.map fun p => (keyD p.1, p.2))).map (n :: ·) = _
    rw [intKeys_of h2]
    rfl
theorem pairsK_of {v : Int → D} : ∀ rs : List Int, pairsK (rs.map fun r => PyData.tuple [.int r, v r]) = some (rs.map fun r => ((.inl r : Key), v r))
  | [] => rfl
  | r :: rs => by
    simp only [List.map_cons, pairsK, asKey, pairsK_of rs]
theorem dic_ints {v : Int → D} {rs : List Int} : dicSem (.ml (rs.map fun r => PyData.tuple [.int r, v r])) = some (dictD (mergeG [] (rs.map fun r => ((.inl r : Key), v r)))) := by
  simp only [dicSem, SV.seqL, pairsK_of, Option.map_some]
theorem srt_dict {v : Int → D} {rs : List Int} (h : (firsts rs).length < 64) : srtSem (.d (dictD (mergeG [] (rs.map fun r => ((.inl r : Key), v r))))) = some ((sortI (firsts rs)).map .int) := by
  have e := intKeys_of (mergeG_keys (v := v) (rs := rs) (acc := []) (ns := []) rfl)
  show (match intKeys ((mergeG [] (rs.map fun r => ((.inl r : Key), v r))).map fun p => (keyD p.1, p.2)) with
    | some ns => if ns.length < 64 then some ((sortI ns).map PyData.int) else none
    | none => none) = _
  rw [e]
  exact if_pos h
theorem addI_nd {ns : List Int} {r : Int} (h : ns.Nodup) : (addI ns r).Nodup := by
  unfold addI
  split
  · exact h
  · rename_i hm
    rw [List.nodup_append]
    exact ⟨h, by simp, fun a ha b hb => by simp at hb; subst hb; intro e; subst e; exact hm ha⟩
theorem mem_addI {ns : List Int} {r n : Int} : n ∈ addI ns r ↔ n ∈ ns ∨ n = r := by
  unfold addI
  split
  · rename_i hm
    exact ⟨.inl, fun h => h.elim id fun e => e ▸ hm⟩
  · simp
theorem firsts_aux : ∀ (rs ns : List Int), ns.Nodup → (rs.foldl addI ns).Nodup ∧ ∀ n, n ∈ rs.foldl addI ns ↔ n ∈ ns ∨ n ∈ rs
  | [], ns, h => ⟨h, fun n => by simp⟩
  | r :: rs, ns, h => by
    obtain ⟨h1, h2⟩ := firsts_aux rs (addI ns r) (addI_nd h)
    refine ⟨h1, fun n => ?_⟩
    rw [List.foldl_cons, h2, mem_addI, List.mem_cons, or_assoc]
theorem firsts_nd (rs : List Int) : (firsts rs).Nodup := (firsts_aux rs [] .nil).1
theorem mem_firsts {rs : List Int} {n : Int} : n ∈ firsts rs ↔ n ∈ rs := by
  have := (firsts_aux rs [] .nil).2 n
  unfold firsts
  rw [this]; simp
/-! sorted lists -/
theorem insI_mem {x n : Int} : ∀ {l : List Int}, n ∈ insI x l ↔ n = x ∨ n ∈ l
  | [] => by simp [insI]
  | y :: r => by
    unfold insI
    split
    · simp
    · rw [List.mem_cons, insI_mem, List.mem_cons]
      constructor
      · rintro (h | h | h)
        · exact .inr (.inl h)
        · exact .inl h
        · exact .inr (.inr h)
      · rintro (h | h | h)
        · exact .inr (.inl h)
        · exact .inl h
        · exact .inr (.inr h)
theorem sortI_mem {n : Int} : ∀ {l : List Int}, n ∈ sortI l ↔ n ∈ l
  | [] => Iff.rfl
  | x :: r => by
    show n ∈ insI x (sortI r) ↔ _
    rw [insI_mem, sortI_mem, List.mem_cons]
theorem insI_strict {x : Int} : ∀ {l : List Int}, l.Pairwise (· < ·) → x ∉ l → (insI x l).Pairwise (· < ·)
  | [], _, _ => by simp [insI]
  | y :: r, h, hx => by
    rw [List.pairwise_cons] at h
    simp only [List.mem_cons, not_or] at hx
    unfold insI
    split
    · rename_i hxy
      rw [List.pairwise_cons]
      refine ⟨fun z hz => ?_, List.pairwise_cons.mpr h⟩
      rcases List.mem_cons.mp hz with rfl | hz
      · omega
      · have := h.1 z hz
        omega
    · rw [List.pairwise_cons]
      refine ⟨fun z hz => ?_, insI_strict h.2 hx.2⟩
      rcases insI_mem.mp hz with rfl | hz
      · omega
      · exact h.1 z hz
theorem sortI_strict : ∀ {l : List Int}, l.Nodup → (sortI l).Pairwise (· < ·)
  | [], _ => .nil
  | x :: r, h => by
    rw [List.nodup_cons] at h
    exact insI_strict (sortI_strict h.2) fun z => h.1 (sortI_mem.mp z)
/-- a strictly rising list between lo and hi -/
theorem strict_len : ∀ {l : List Int} {lo hi : Int}, l.Pairwise (· < ·) → (∀ x ∈ l, lo ≤ x ∧ x < hi) → lo ≤ hi → (l.length : Int) ≤ hi - lo
  | [], lo, hi, _, _, h => by simp; omega
  | x :: r, lo, hi, h, hb, hl => by
    rw [List.pairwise_cons] at h
    have h1 := hb x List.mem_cons_self
    have := strict_len (lo := x + 1) (hi := hi) h.2 (fun y hy => ⟨by have := h.1 y hy; omega, (hb y (List.mem_cons_of_mem _ hy)).2⟩) (by omega)
    rw [List.length_cons]
    omega
end Q
namespace Q
open PySem
theorem eq_nilT {xs : List Int} : cmpSem .Eq (.d (.tuple (xs.map .int))) (.d (.tuple [])) = some xs.isEmpty := by
  have h : cmpOk (.tuple (xs.map .int)) (.tuple []) = true := by
    simp only [cmpOk, gd, gdAll_ints, gdAll, Bool.and_self]
  simp only [cmpSem, SV.dat, h, if_true]
  cases xs <;> rfl
end Q
namespace Q
open PySem
theorem gdAll_ones {γ : Type} (n : Nat) : ∀ l : List γ, gdAll n (l.map fun _ => PyData.int 1) = true
  | [] => rfl
  | x :: r => by simp only [List.map_cons, gdAll, gd, gdAll_ones n r, Bool.and_self]
theorem ne_nil_ones {γ : Type} {l : List γ} : cmpSem .NotEq (.ml (l.map fun _ => PyData.int 1)) (.ml []) = some (!l.isEmpty) := by
  have h : cmpOk (.list (l.map fun _ => PyData.int 1)) (.list []) = true := by
    simp only [cmpOk, gd, gdAll_ones, gdAll, Bool.and_self]
  simp only [cmpSem, SV.dat, h, if_true]
  cases l <;> rfl
theorem eq_nil_ones {γ : Type} {l : List γ} : cmpSem .Eq (.ml (l.map fun _ => PyData.int 1)) (.ml []) = some l.isEmpty := by
  have h : cmpOk (.list (l.map fun _ => PyData.int 1)) (.list []) = true := by
    simp only [cmpOk, gd, gdAll_ones, gdAll, Bool.and_self]
  simp only [cmpSem, SV.dat, h, if_true]
  cases l <;> rfl
end Q
namespace Q
theorem ite_ok2 {c : Prop} [Decidable c] {a b : Int} {ρ : Rho} : (if c then Res.ok (some (PySem.PyData.int a)) ρ else Res.ok (some (PySem.PyData.int b)) ρ) = Res.ok (some (PySem.PyData.int (if c then a else b))) ρ := by split <;> rfl
end Q
namespace Q
theorem sameB_mono : ∀ (n m : Nat), m ≤ n → ∀ x, sameB m x = true → sameB n x = true
  | _, 0, _, x, h => by simp [sameB] at h
  | 0, m + 1, hn, x, h => by omega
  | n + 1, m + 1, hn, x, h => by
    cases x with
    | none => rfl
    | bool _ => rfl
    | int _ => rfl
    | str _ => rfl
    | list _ => simp [sameB] at h
    | dict _ => simp [sameB] at h
    | tuple xs =>
      simp only [sameB, Bool.and_eq_true, List.all_eq_true] at h ⊢
      exact ⟨h.1, fun y hy => sameB_mono n m (by omega) y (h.2 y hy)⟩
end Q
namespace Q
open PySem
theorem mul_t {a : List D} {k : Int} (h1 : 1 ≤ k) (h2 : k ≤ 1000) (h3 : a ≠ []) (h4 : a.length ≤ 1000) : binSem .Mult (.d (.tuple a)) (.d (.int k)) = some (.d (.tuple (List.replicate k.toNat a).flatten)) := by
  show (if k = 1 then some (SV.d (.tuple a)) else if a ≠ [] ∧ 2 ≤ k ∧ k ≤ 1000 ∧ a.length ≤ 1000 then some (.d (.tuple (List.replicate k.toNat a).flatten)) else none) = _
  by_cases h : k = 1
  · subst h
    rw [if_pos rfl]
    simp
  · rw [if_neg h, if_pos ⟨h3, by omega, h2, h4⟩]
theorem mul_m {a : List D} {k : Int} (h1 : -(2 ^ 63) ≤ k) (h2 : k < 2 ^ 63) (h3 : a.length * k.toNat ≤ 16777216) : binSem .Mult (.ml a) (.d (.int k)) = some (.ml (List.replicate k.toNat a).flatten) := by
  show (if -(2 ^ 63) ≤ k ∧ k < 2 ^ 63 ∧ a.length * k.toNat ≤ SZ then some (SV.ml (List.replicate k.toNat a).flatten) else none) = _
  rw [if_pos ⟨h1, h2, h3⟩]
theorem flat_one {γ : Type} (n : Nat) (x : γ) : (List.replicate n [x]).flatten = List.replicate n x := by
  induction n with
  | zero => rfl
  | succ n ih => rw [List.replicate_succ, List.flatten_cons, ih, List.replicate_succ]; rfl
end Q
namespace Q
open PySem
theorem isnot_bb {x y : Bool} : cmpSem .IsNot (.d (.bool x)) (.d (.bool y)) = some (!(x == y)) := id rfl
theorem isnot_n {x : D} : cmpSem .IsNot (.d x) (.d .none) = (isSem x .none).map (!·) := id rfl
theorem eq_nil_dI {l : List (List Int)} : cmpSem .Eq (.ml (l.map dI)) (.ml []) = some l.isEmpty := by
  have h : cmpOk (.list (l.map dI)) (.list []) = true := by
    simp only [cmpOk, gd, gdAll_dI, gdAll, Bool.and_self]
  simp only [cmpSem, SV.dat, h, if_true]
  cases l <;> rfl
theorem ne_nil_dI {l : List (List Int)} : cmpSem .NotEq (.ml (l.map dI)) (.ml []) = some (!l.isEmpty) := by
  have h : cmpOk (.list (l.map dI)) (.list []) = true := by
    simp only [cmpOk, gd, gdAll_dI, gdAll, Bool.and_self]
  simp only [cmpSem, SV.dat, h, if_true]
  cases l <;> rfl
theorem ne_nilT_dI {l : List (List Int)} : cmpSem .NotEq (.d (.tuple (l.map dI))) (.d (.tuple [])) = some (!l.isEmpty) := by
  have h : cmpOk (.tuple (l.map dI)) (.tuple []) = true := by
    simp only [cmpOk, gd, gdAll_dI, gdAll, Bool.and_self]
  simp only [cmpSem, SV.dat, h, if_true]
  cases l <;> rfl
end Q
namespace Q
open PySem
/-! ### dicts -/
theorem asKeysM : ∀ kds : List (Key × D), asKeys (kds.map fun p => (keyD p.1, p.2)) = some kds
  | [] => rfl
  | (.inl i, v) :: r => by
    show (match asKey (PyData.int i), asKeys (List.map (fun p => (keyD p.1, p.2)) r) with | some k, some r => some ((k, v) :: r) | _, _ => none) = _
    rw [asKeysM r]; rfl
  | (.inr x, v) :: r => by
    show (match asKey (PyData.str x), asKeys (List.map (fun p => (keyD p.1, p.2)) r) with | some k, some r => some ((k, v) :: r) | _, _ => none) = _
    rw [asKeysM r]; rfl
theorem getK_d {kvs : List (Key × D)} {y : D} {k : Key} (h : asKey y = some k) : getK (kvs.map fun p => (keyD p.1, p.2)) y = valG kvs k := by
  unfold getK
  rw [asKeysM, h]
theorem ix_mdI {kvs : List (Key × D)} {i : Int} : ixSem (.md kvs) (.d (.int i)) = (valG kvs (.inl i)).map .d := by
  show (getK (kvs.map fun p => (keyD p.1, p.2)) (.int i)).map SV.d = _
  rw [getK_d rfl]
theorem ix_ddI {kvs : List (Key × D)} {i : Int} : ixSem (.d (dictD kvs)) (.d (.int i)) = (valG kvs (.inl i)).map .d := by
  show (getK (kvs.map fun p => (keyD p.1, p.2)) (.int i)).map SV.d = _
  rw [getK_d rfl]
theorem ix_mdS {kvs : List (Key × D)} {i : Str} : ixSem (.md kvs) (.d (.str i)) = (valG kvs (.inr i)).map .d := by
  show (getK (kvs.map fun p => (keyD p.1, p.2)) (.str i)).map SV.d = _
  rw [getK_d rfl]
theorem ix_ddS {kvs : List (Key × D)} {i : Str} : ixSem (.d (dictD kvs)) (.d (.str i)) = (valG kvs (.inr i)).map .d := by
  show (getK (kvs.map fun p => (keyD p.1, p.2)) (.str i)).map SV.d = _
  rw [getK_d rfl]
theorem sub_mdI {kvs : List (Key × D)} {i : Int} {x : D} (h : kvs.length < 16777216) : subSem (.md kvs) (.d (.int i)) x = some (.md (putG kvs (.inl i) x)) := if_pos h
theorem sub_mdS {kvs : List (Key × D)} {i : Str} {x : D} (h : kvs.length < 16777216) : subSem (.md kvs) (.d (.str i)) x = some (.md (putG kvs (.inr i) x)) := if_pos h
theorem isF_dd (kvs : List (Key × D)) : isF (kvs.map fun p => (keyD p.1, p.2)) = false := by
  cases kvs with
  | nil => rfl
  | cons p r => obtain ⟨k, v⟩ := p; cases k <;> rfl
theorem seq_dd {kvs : List (Key × D)} (h : kvs.length ≤ 16777216) : seqD (dictD kvs) = some (kvs.map fun p => keyD p.1) := by
  show (if (kvs.map fun p => (keyD p.1, p.2)).length ≤ SZ ∧ isF (kvs.map fun p => (keyD p.1, p.2)) = false then some ((kvs.map fun p => (keyD p.1, p.2)).map (·.1)) else none) = _
  rw [if_pos ⟨by simpa using h, isF_dd kvs⟩, List.map_map]
  rfl
theorem valG_c {β : Type} (j : Key) (v : β) (r : List (Key × β)) (k : Key) : valG ((j, v) :: r) k = if j = k then some v else valG r k := by
  unfold valG
  rw [List.find?_cons]
  by_cases h : j = k
  · simp only [h, decide_true, if_true]; rfl
  · simp only [h, decide_false, if_false]
end Q
namespace Q
open PySem
theorem ix_dT {A : List (List Int)} {i : Int} : ixSem (.d (dT A)) (.d (.int i)) = (atD (A.map dI) i).map .d := id rfl
theorem ix_dI {A : List Int} {i : Int} : ixSem (.d (dI A)) (.d (.int i)) = (atD (A.map .int) i).map .d := id rfl
theorem seq_dT {A : List (List Int)} : seqD (dT A) = some (A.map dI) := id rfl
theorem seq_dI {A : List Int} : seqD (dI A) = some (A.map .int) := id rfl
theorem items_dT {A : List (List Int)} : itemsD (dT A) = some (A.map dI) := id rfl
theorem items_dI {A : List Int} : itemsD (dI A) = some (A.map .int) := id rfl
theorem len_dI {A : List Int} : biSem .len [.d (dI A)] = some (.d (.int A.length)) := by
  show some (SV.d (.int (A.map PyData.int).length)) = _
  rw [List.length_map]
theorem len_dT {A : List (List Int)} : biSem .len [.d (dT A)] = some (.d (.int A.length)) := by
  show some (SV.d (.int (A.map dI).length)) = _
  rw [List.length_map]
theorem sl_dT {A : List (List Int)} {l h} : slSem (.d (dT A)) l h = some (.d (.tuple (cutD (A.map dI) l h))) := id rfl
theorem sl_dI {A : List Int} {l h} : slSem (.d (dI A)) l h = some (.d (.tuple (cutD (A.map .int) l h))) := id rfl
theorem dI_def (A : List Int) : dI A = .tuple (A.map .int) := id rfl
theorem dT_def (A : List (List Int)) : dT A = .tuple (A.map dI) := id rfl
/-- a part of a list of things, cut out -/
theorem cut_up {xs : List D} {k : Nat} : cutD xs none (some (k : Int)) = xs.take k := by
  unfold cutD
  rw [show HT.sIx xs.length xs.length (some (k : Int)) = min k xs.length from HT.sIx_nat xs.length xs.length k, HT.sIx_none, List.drop_zero, Nat.sub_zero, List.take_eq_take_iff]
  omega
theorem cut_on {xs : List D} {k : Nat} : cutD xs (some (k : Int)) none = xs.drop k := by
  unfold cutD
  rw [show HT.sIx xs.length 0 (some (k : Int)) = min k xs.length from HT.sIx_nat xs.length 0 k, HT.sIx_none, List.take_of_length_le (by simp)]
  by_cases hn : k ≤ xs.length
  · rw [Nat.min_eq_left hn]
  · rw [Nat.min_eq_right (by omega), List.drop_length, List.drop_of_length_le (by omega)]
end Q

namespace K51
open PySem PySem.Spec PyProof.Rows L2 Q
def topS (i : Nat) : Stmt := PySem.Challenge.pw_strongroom_k51_errors_of_drifts.main.body.getD i (.Pass ⟨0, 0, 0, 0⟩)
def wt__law_word : WT := ⟨[("InvalidMake", "make"), ("InvalidKey", "key"), ("InvalidLock", "lock"), ("InvalidNumber", "number"), ("InvalidTries", "tries")], ""⟩
def wd__law_word : WD := ⟨[("call" : Str), ("error" : Str), ("marks" : Str), ("words" : Str), ("word" : Str), ("good" : Str)], "call", 1, "error", "PinsError", .set 2 (.lst (.c (.isx "InvalidMake") (.c (.isx "InvalidKey") (.c (.isx "InvalidLock") (.c (.isx "InvalidTries") (.n)))))) (.set 2 (.add (.v 2) (.lst (.c (.isx "InvalidNumber") (.c (.isx "InvalidName") (.c (.isx "InvalidRooms") (.n)))))) (.set 3 (.lcz 4 5 (.spl "make key lock tries number name rooms" ["make", "key", "lock", "tries", "number", "name", "rooms"]) (.v 2)) (.ret (.ifne (.v 3) (.jn "" (.v 3)) (.k "other"))))), ["InvalidTries", "InvalidLock", "InvalidKey", "InvalidMake", "InvalidRooms", "InvalidName", "InvalidNumber"], [("InvalidMake", ["InvalidMake", "PinsError"]), ("InvalidKey", ["InvalidKey", "PinsError"]), ("InvalidLock", ["InvalidLock", "PinsError"]), ("InvalidNumber", ["InvalidNumber", "PinsError"]), ("InvalidTries", ["InvalidTries", "PinsError"])]⟩
theorem wk__law_word : wdB wd__law_word wt__law_word (topS 61) = true := by decide +kernel
def b_is_whole : Ss := .c (.ret (.and (.isi (.v 0) "int") (.not (.isi (.v 0) "bool")))) (.n)
def d_is_whole : Df := ⟨"is_whole", topS 13, [("value" : Str)], [("value" : Str)], ⟨1, 1, [], b_is_whole⟩, false⟩
def b_fits_whole : Ss := .c (.ret (.and (.call "is_whole" (.c (.v 0) (.n))) (.chn .LtE .LtE (.v 1) (.v 0) (.v 2)))) (.n)
def d_fits_whole : Df := ⟨"fits_whole", topS 14, [("value" : Str), ("low" : Str), ("high" : Str)], [("value" : Str), ("low" : Str), ("high" : Str)], ⟨3, 3, [], b_fits_whole⟩, false⟩
def b_is_tuple_of : Ss := .c (.ret (.and (.isi (.v 0) "tuple") (.chn .LtE .LtE (.v 1) (.bi .len (.c (.v 0) (.n))) (.v 2)))) (.n)
def d_is_tuple_of : Df := ⟨"is_tuple_of", topS 15, [("value" : Str), ("least" : Str), ("most" : Str)], [("value" : Str), ("least" : Str), ("most" : Str)], ⟨3, 3, [], b_is_tuple_of⟩, false⟩
def b_is_rising : Ss := .c (.ret (.bi .all (.c (.lc (.cmp .Lt (.v 1) (.v 2)) (.t (.c (.n 1) (.c (.n 2) .n))) (.zip (.c (.v 0) (.c (.sl (.v 0) (.so (.k (.int 1))) .no) (.n)))) (.n) [1, 2]) (.n)))) (.n)
def d_is_rising : Df := ⟨"is_rising", topS 16, [("values" : Str), ("one" : Str), ("other" : Str)], [("values" : Str)], ⟨1, 3, [], b_is_rising⟩, false⟩
def b_fits_make : Ss := .c (.ite (.or (.not (.call "is_tuple_of" (.c (.v 0) (.c (.k (.int 3)) (.c (.k (.int 3)) (.n)))))) (.not (.call "fits_whole" (.c (.ix (.v 0) (.k (.int 0))) (.c (.k (.int 1)) (.c (.g "PLACES" (.int 8)) (.n))))))) (.c (.ret (.k (.bool false))) (.n)) (.n)) (.c (.ret (.and (.call "fits_whole" (.c (.ix (.v 0) (.k (.int 1))) (.c (.k (.int 2)) (.c (.g "HEIGHTS" (.int 10)) (.n))))) (.call "fits_whole" (.c (.ix (.v 0) (.k (.int 2))) (.c (.k (.int 1)) (.c (.g "STEP" (.int 9)) (.n))))))) (.n))
def d_fits_make : Df := ⟨"fits_make", topS 17, [("value" : Str)], [("value" : Str)], ⟨1, 1, [], b_fits_make⟩, false⟩
def b_fits_cuts : Ss := .c (.ite (.not (.call "is_tuple_of" (.c (.v 1) (.c (.ix (.v 0) (.k (.int 0))) (.c (.ix (.v 0) (.k (.int 0))) (.n)))))) (.c (.ret (.k (.bool false))) (.n)) (.n)) (.c (.ret (.bi .all (.c (.lc (.call "fits_whole" (.c (.v 2) (.c (.k (.int 0)) (.c (.bin .Sub (.ix (.v 0) (.k (.int 1))) (.k (.int 1))) (.n))))) (.n 2) (.seq (.v 1)) (.n) [2]) (.n)))) (.n))
def d_fits_cuts : Df := ⟨"fits_cuts", topS 18, [("make" : Str), ("value" : Str), ("one" : Str)], [("make" : Str), ("value" : Str)], ⟨2, 3, [], b_fits_cuts⟩, false⟩
def b_fits_key : Ss := .c (.ret (.and (.call "fits_cuts" (.c (.v 0) (.c (.v 1) (.n)))) (.bi .all (.c (.lc (.cmp .LtE (.bi .abs (.c (.bin .Sub (.v 2) (.v 3)) (.n))) (.ix (.v 0) (.k (.int 2)))) (.t (.c (.n 2) (.c (.n 3) .n))) (.zip (.c (.v 1) (.c (.sl (.v 1) (.so (.k (.int 1))) .no) (.n)))) (.n) [2, 3]) (.n))))) (.n)
def d_fits_key : Df := ⟨"fits_key", topS 19, [("make" : Str), ("value" : Str), ("one" : Str), ("other" : Str)], [("make" : Str), ("value" : Str)], ⟨2, 4, [], b_fits_key⟩, false⟩
def b_fits_set : Ss := .c (.ite (.or (.not (.call "is_tuple_of" (.c (.v 1) (.c (.k (.int 1)) (.c (.ix (.v 0) (.k (.int 1))) (.n)))))) (.not (.bi .all (.c (.lc (.call "fits_whole" (.c (.v 2) (.c (.k (.int 0)) (.c (.bin .Sub (.ix (.v 0) (.k (.int 1))) (.k (.int 1))) (.n))))) (.n 2) (.seq (.v 1)) (.n) [2]) (.n))))) (.c (.ret (.k (.bool false))) (.n)) (.n)) (.c (.ret (.call "is_rising" (.c (.v 1) (.n)))) (.n))
def d_fits_set : Df := ⟨"fits_set", topS 20, [("make" : Str), ("value" : Str), ("one" : Str)], [("make" : Str), ("value" : Str)], ⟨2, 3, [], b_fits_set⟩, false⟩
def b_fits_lock : Ss := .c (.ret (.and (.call "is_tuple_of" (.c (.v 1) (.c (.ix (.v 0) (.k (.int 0))) (.c (.ix (.v 0) (.k (.int 0))) (.n))))) (.bi .all (.c (.lc (.call "fits_set" (.c (.v 0) (.c (.v 2) (.n)))) (.n 2) (.seq (.v 1)) (.n) [2]) (.n))))) (.n)
def d_fits_lock : Df := ⟨"fits_lock", topS 21, [("make" : Str), ("value" : Str), ("one" : Str)], [("make" : Str), ("value" : Str)], ⟨2, 3, [], b_fits_lock⟩, false⟩
def b_need_make : Ss := .c (.ite (.not (.call "fits_make" (.c (.v 0) (.n)))) (.c (.raise "InvalidMake" (.k (.str "not a make"))) (.n)) (.n)) (.n)
def d_need_make : Df := ⟨"need_make", topS 22, [("value" : Str)], [("value" : Str)], ⟨1, 1, [], b_need_make⟩, false⟩
def b_need_key : Ss := .c (.ite (.not (.call "fits_key" (.c (.v 0) (.c (.v 1) (.n))))) (.c (.raise "InvalidKey" (.k (.str "not a key of the make"))) (.n)) (.n)) (.n)
def d_need_key : Df := ⟨"need_key", topS 23, [("make" : Str), ("value" : Str)], [("make" : Str), ("value" : Str)], ⟨2, 2, [], b_need_key⟩, false⟩
def b_need_lock : Ss := .c (.ite (.not (.call "fits_lock" (.c (.v 0) (.c (.v 1) (.n))))) (.c (.raise "InvalidLock" (.k (.str "not a lock of the make"))) (.n)) (.n)) (.n)
def d_need_lock : Df := ⟨"need_lock", topS 24, [("make" : Str), ("value" : Str)], [("make" : Str), ("value" : Str)], ⟨2, 2, [], b_need_lock⟩, false⟩
def b_fits_wear : Ss := .c (.ite (.or (.not (.call "is_tuple_of" (.c (.v 1) (.c (.ix (.v 0) (.k (.int 0))) (.c (.ix (.v 0) (.k (.int 0))) (.n)))))) (.not (.bi .all (.c (.lc (.call "is_tuple_of" (.c (.v 2) (.c (.k (.int 2)) (.c (.k (.int 2)) (.n))))) (.n 2) (.seq (.v 1)) (.n) [2]) (.n))))) (.c (.ret (.k (.bool false))) (.n)) (.n)) (.c (.ite (.not (.bi .all (.c (.lc2 (.call "fits_whole" (.c (.v 3) (.c (.neg (.g "DRIFT" (.int 3))) (.c (.g "DRIFT" (.int 3)) (.n))))) (.n 2) (.seq (.v 1)) (.n) (.n 3) (.seq (.v 2)) (.n) [2, 3] [3]) (.n)))) (.c (.ret (.k (.bool false))) (.n)) (.n)) (.c (.ret (.bi .all (.c (.lc (.cmp .LtE (.v 4) (.v 5)) (.t (.c (.n 4) (.c (.n 5) .n))) (.seq (.v 1)) (.n) [4, 5]) (.n)))) (.n)))
def d_fits_wear : Df := ⟨"fits_wear", topS 29, [("make" : Str), ("value" : Str), ("one" : Str), ("own" : Str), ("low" : Str), ("high" : Str)], [("make" : Str), ("value" : Str)], ⟨2, 6, [], b_fits_wear⟩, false⟩
def b_fits_seen : Ss := .c (.ite (.or (.not (.call "is_tuple_of" (.c (.v 1) (.c (.k (.int 0)) (.c (.g "SEEN" (.int 20)) (.n)))))) (.not (.bi .all (.c (.lc (.call "is_tuple_of" (.c (.v 2) (.c (.k (.int 2)) (.c (.k (.int 2)) (.n))))) (.n 2) (.seq (.v 1)) (.n) [2]) (.n))))) (.c (.ret (.k (.bool false))) (.n)) (.n)) (.c (.ite (.not (.bi .all (.c (.lc (.and (.call "fits_whole" (.c (.v 3) (.c (.k (.int 0)) (.c (.g "YEARS" (.int 30)) (.n))))) (.call "fits_key" (.c (.v 0) (.c (.v 4) (.n))))) (.t (.c (.n 3) (.c (.n 4) .n))) (.seq (.v 1)) (.n) [3, 4]) (.n)))) (.c (.ret (.k (.bool false))) (.n)) (.n)) (.c (.ret (.call "is_rising" (.c (.lc (.v 3) (.t (.c (.n 3) (.c (.n 4) .n))) (.seq (.v 1)) (.n) [3, 4]) (.n)))) (.n)))
def d_fits_seen : Df := ⟨"fits_seen", topS 30, [("make" : Str), ("value" : Str), ("one" : Str), ("year" : Str), ("key" : Str)], [("make" : Str), ("value" : Str)], ⟨2, 5, [], b_fits_seen⟩, false⟩
def b_need_worn : Ss := .c (.ex (.call "need_make" (.c (.v 0) (.n)))) (.c (.ex (.call "need_lock" (.c (.v 0) (.c (.v 1) (.n))))) (.c (.ite (.not (.call "fits_wear" (.c (.v 0) (.c (.v 2) (.n))))) (.c (.raise "InvalidNumber" (.k (.str "not a wear of the make"))) (.n)) (.n)) (.n)))
def d_need_worn : Df := ⟨"need_worn", topS 31, [("make" : Str), ("lock" : Str), ("wear" : Str)], [("make" : Str), ("lock" : Str), ("wear" : Str)], ⟨3, 3, [], b_need_worn⟩, false⟩
def b_need_year : Ss := .c (.ite (.not (.call "fits_whole" (.c (.v 0) (.c (.k (.int 0)) (.c (.g "YEARS" (.int 30)) (.n)))))) (.c (.raise "InvalidNumber" (.k (.str "not a year"))) (.n)) (.n)) (.n)
def d_need_year : Df := ⟨"need_year", topS 32, [("value" : Str)], [("value" : Str)], ⟨1, 1, [], b_need_year⟩, false⟩
def b_need_seen : Ss := .c (.ite (.not (.call "fits_seen" (.c (.v 0) (.c (.v 1) (.n))))) (.c (.raise "InvalidTries" (.k (.str "not openings of the make"))) (.n)) (.n)) (.n)
def d_need_seen : Df := ⟨"need_seen", topS 33, [("make" : Str), ("value" : Str)], [("make" : Str), ("value" : Str)], ⟨2, 2, [], b_need_seen⟩, false⟩
def b_sure_cuts : Ss := .c (.ite (.cmp .GtE (.bin .Sub (.v 3) (.v 2)) (.ix (.v 0) (.k (.int 1)))) (.c (.ret (.lst (.n))) (.n)) (.n)) (.c (.ret (.lc (.v 4) (.n 4) (.rg (.c (.ix (.v 0) (.k (.int 1))) (.n))) (.c (.bi .all (.c (.lc (.cmp .In (.bin .Sub (.v 4) (.v 5)) (.v 1)) (.n 5) (.rg (.c (.v 2) (.c (.bin .Add (.v 3) (.k (.int 1))) (.n)))) (.n) [5]) (.n))) (.n)) [4])) (.n))
def d_sure_cuts : Df := ⟨"sure_cuts", topS 34, [("make" : Str), ("some" : Str), ("low" : Str), ("high" : Str), ("cut" : Str), ("far" : Str)], [("make" : Str), ("some" : Str), ("low" : Str), ("high" : Str)], ⟨4, 6, [], b_sure_cuts⟩, false⟩
def b_sure_rows : Ss := .c (.ret (.lc (.call "sure_cuts" (.c (.v 0) (.c (.v 4) (.c (.bin .Mult (.v 3) (.v 5)) (.c (.bin .Mult (.v 3) (.v 6)) (.n)))))) (.t (.c (.n 4) (.c (.t (.c (.n 5) (.c (.n 6) .n))) .n))) (.zip (.c (.v 1) (.c (.v 2) (.n)))) (.n) [4, 5, 6])) (.n)
def d_sure_rows : Df := ⟨"sure_rows", topS 35, [("make" : Str), ("lock" : Str), ("wear" : Str), ("year" : Str), ("some" : Str), ("low" : Str), ("high" : Str)], [("make" : Str), ("lock" : Str), ("wear" : Str), ("year" : Str)], ⟨4, 7, [], b_sure_rows⟩, false⟩
def b_both_rows : Ss := .c (.ret (.lc (.lc (.v 4) (.n 4) (.seq (.v 2)) (.c (.cmp .In (.v 4) (.v 3)) (.n)) [4]) (.t (.c (.n 2) (.c (.n 3) .n))) (.zip (.c (.v 0) (.c (.v 1) (.n)))) (.n) [2, 3])) (.n)
def d_both_rows : Df := ⟨"both_rows", topS 36, [("one" : Str), ("other" : Str), ("row" : Str), ("more" : Str), ("cut" : Str)], [("one" : Str), ("other" : Str)], ⟨2, 5, [], b_both_rows⟩, false⟩
def b_first_key : Ss := .c (.set (.n 2) (.lst (.c (.dcm (.v 7) (.k (.bool true)) (.n 7) (.seq (.ix (.v 1) (.neg (.k (.int 1))))) (.n) [7]) (.n)))) (.c (.for_ (.n 3) (.seq (.slr (.v 1) (.neg (.k (.int 2))) (.neg (.k (.int 1))))) (.c (.set (.n 2) (.bin .Add (.lst (.c (.dcm (.v 7) (.k (.bool true)) (.n 7) (.seq (.v 3)) (.c (.bi .any (.c (.lc (.cmp .LtE (.bi .abs (.c (.bin .Sub (.v 7) (.v 8)) (.n))) (.ix (.v 0) (.k (.int 2)))) (.n 8) (.seq (.ix (.v 2) (.k (.int 0)))) (.n) [8]) (.n))) (.n)) [7]) (.n))) (.v 2))) (.n))) (.c (.set (.n 4) (.tup (.n))) (.c (.for_ (.n 5) (.seq (.v 2)) (.c (.set (.n 6) (.lc (.v 7) (.n 7) (.seq (.srt (.v 5))) (.c (.or (.cmp .Eq (.v 4) (.tup (.n))) (.cmp .LtE (.bi .abs (.c (.bin .Sub (.v 7) (.ix (.v 4) (.neg (.k (.int 1))))) (.n))) (.ix (.v 0) (.k (.int 2))))) (.n)) [7])) (.c (.ite (.cmp .Eq (.v 6) (.lst (.n))) (.c (.ret (.k .none)) (.n)) (.n)) (.c (.set (.n 4) (.bin .Add (.v 4) (.tup (.c (.ix (.v 6) (.k (.int 0))) (.n))))) (.n))))) (.c (.ret (.v 4)) (.n)))))
def d_first_key : Df := ⟨"first_key", topS 37, [("make" : Str), ("rows" : Str), ("ways" : Str), ("row" : Str), ("found" : Str), ("table" : Str), ("some" : Str), ("cut" : Str), ("own" : Str)], [("make" : Str), ("rows" : Str)], ⟨2, 9, [], b_first_key⟩, false⟩
def b_does_fit : Ss := .c (.ret (.lc (.v 3) (.n 3) (.seq (.v 2)) (.c (.cmp .In (.bin .Sub (.v 0) (.v 3)) (.v 1)) (.n)) [3])) (.n)
def d_does_fit : Df := ⟨"does_fit", topS 38, [("cut" : Str), ("some" : Str), ("shifts" : Str), ("far" : Str)], [("cut" : Str), ("some" : Str), ("shifts" : Str)], ⟨3, 4, [], b_does_fit⟩, false⟩
def b_last_from : Ss := .c (.par [4, 5, 6] (.c (.call "sure_rows" (.c (.v 0) (.c (.v 1) (.c (.v 2) (.c (.v 3) (.n)))))) (.c (.v 3) (.c (.k .none) (.n))))) (.c (.wh (.cmp .LtE (.v 5) (.g "YEARS" (.int 30))) (.c (.set (.n 7) (.call "first_key" (.c (.v 0) (.c (.v 4) (.n))))) (.c (.ite (.cmp .Is (.v 7) (.k .none)) (.c (.ret (.tup (.c (.bin .Sub (.v 5) (.v 3)) (.c (.v 6) (.n))))) (.n)) (.n)) (.c (.par [6, 5] (.c (.v 7) (.c (.bin .Add (.v 5) (.k (.int 1))) (.n)))) (.c (.set (.n 4) (.call "both_rows" (.c (.v 4) (.c (.call "sure_rows" (.c (.v 0) (.c (.v 1) (.c (.v 2) (.c (.v 5) (.n)))))) (.n))))) (.n)))))) (.c (.ret (.tup (.c (.bin .Sub (.v 5) (.v 3)) (.c (.v 6) (.n))))) (.n)))
def d_last_from : Df := ⟨"last_from", topS 39, [("make" : Str), ("lock" : Str), ("wear" : Str), ("start" : Str), ("rows" : Str), ("year" : Str), ("found" : Str), ("key" : Str)], [("make" : Str), ("lock" : Str), ("wear" : Str), ("start" : Str)], ⟨4, 8, [], b_last_from⟩, false⟩
def b_steps_on : Ss := .c (.ret (.sset (.lc2 (.bin .Add (.v 3) (.v 4)) (.n 3) (.seq (.v 0)) (.n) (.n 4) (.rg (.c (.v 1) (.c (.bin .Add (.v 2) (.k (.int 1))) (.n)))) (.n) [3, 4] [4]))) (.n)
def d_steps_on : Df := ⟨"steps_on", topS 40, [("shifts" : Str), ("low" : Str), ("high" : Str), ("far" : Str), ("own" : Str)], [("shifts" : Str), ("low" : Str), ("high" : Str)], ⟨3, 5, [], b_steps_on⟩, false⟩
def b_steps_back : Ss := .c (.ret (.sset (.lc2 (.bin .Sub (.v 3) (.v 4)) (.n 3) (.seq (.v 0)) (.n) (.n 4) (.rg (.c (.v 1) (.c (.bin .Add (.v 2) (.k (.int 1))) (.n)))) (.n) [3, 4] [4]))) (.n)
def d_steps_back : Df := ⟨"steps_back", topS 41, [("shifts" : Str), ("low" : Str), ("high" : Str), ("far" : Str), ("own" : Str)], [("shifts" : Str), ("low" : Str), ("high" : Str)], ⟨3, 5, [], b_steps_back⟩, false⟩
def b_place_rows : Ss := .c (.set (.t (.c (.n 4) (.c (.n 5) .n))) (.v 1)) (.c (.set (.n 6) (.lst (.c (.ite (.cmp .NotIn (.k (.int 0)) (.v 2)) (.lst (.c (.k (.int 0)) (.n))) (.call "does_fit" (.c (.ix (.v 2) (.k (.int 0))) (.c (.v 0) (.c (.lst (.c (.k (.int 0)) (.n))) (.n)))))) (.n)))) (.c (.for_ (.n 7) (.rg (.c (.k (.int 1)) (.c (.bin .Add (.v 3) (.k (.int 1))) (.n)))) (.c (.set (.n 8) (.call "steps_on" (.c (.ix (.v 6) (.neg (.k (.int 1)))) (.c (.v 4) (.c (.v 5) (.n)))))) (.c (.app 6 (.ite (.cmp .In (.v 7) (.v 2)) (.call "does_fit" (.c (.ix (.v 2) (.v 7)) (.c (.v 0) (.c (.v 8) (.n))))) (.v 8))) (.n)))) (.c (.for_ (.n 7) (.rg (.c (.bin .Sub (.v 3) (.k (.int 1))) (.c (.neg (.k (.int 1))) (.c (.neg (.k (.int 1))) (.n))))) (.c (.set (.n 9) (.call "steps_back" (.c (.ix (.v 6) (.bin .Add (.v 7) (.k (.int 1)))) (.c (.v 4) (.c (.v 5) (.n)))))) (.c (.sub 6 (.v 7) (.lc (.v 10) (.n 10) (.seq (.ix (.v 6) (.v 7))) (.c (.cmp .In (.v 10) (.v 9)) (.n)) [10])) (.n)))) (.c (.ret (.v 6)) (.n)))))
def d_place_rows : Df := ⟨"place_rows", topS 42, [("some" : Str), ("drift" : Str), ("cuts" : Str), ("last" : Str), ("low" : Str), ("high" : Str), ("rows" : Str), ("year" : Str), ("later" : Str), ("before" : Str), ("far" : Str)], [("some" : Str), ("drift" : Str), ("cuts" : Str), ("last" : Str)], ⟨4, 11, [], b_place_rows⟩, false⟩
def b_shift_rows : Ss := .c (.set (.n 4) (.lst (.n))) (.c (.for_ (.t (.c (.n 5) (.c (.n 6) .n))) (.enum (.v 0)) (.c (.set (.n 7) (.dcm (.v 8) (.ix (.v 9) (.v 5)) (.t (.c (.n 8) (.c (.n 9) .n))) (.seq (.v 2)) (.n) [8, 9])) (.c (.app 4 (.call "place_rows" (.c (.v 6) (.c (.ix (.v 1) (.v 5)) (.c (.v 7) (.c (.v 3) (.n))))))) (.n)))) (.c (.ret (.v 4)) (.n)))
def d_shift_rows : Df := ⟨"shift_rows", topS 43, [("lock" : Str), ("wear" : Str), ("seen" : Str), ("last" : Str), ("found" : Str), ("place" : Str), ("some" : Str), ("cuts" : Str), ("year" : Str), ("key" : Str)], [("lock" : Str), ("wear" : Str), ("seen" : Str), ("last" : Str)], ⟨4, 10, [], b_shift_rows⟩, false⟩
def b_last_year : Ss := .c (.ret (.bi .max (.c (.bin .Add (.lst (.c (.v 1) (.n))) (.lc (.v 2) (.t (.c (.n 2) (.c (.n 3) .n))) (.seq (.v 0)) (.n) [2, 3])) (.n)))) (.n)
def d_last_year : Df := ⟨"last_year", topS 44, [("seen" : Str), ("year" : Str), ("own" : Str), ("key" : Str)], [("seen" : Str), ("year" : Str)], ⟨2, 4, [], b_last_year⟩, false⟩
def b_is_wear : Ss := .c (.ex (.call "need_make" (.c (.v 0) (.n)))) (.c (.ret (.call "fits_wear" (.c (.v 0) (.c (.v 1) (.n))))) (.n))
def d_is_wear : Df := ⟨"is_wear", topS 45, [("make" : Str), ("value" : Str)], [("make" : Str), ("value" : Str)], ⟨2, 2, [], b_is_wear⟩, false⟩
def b_worn_word : Ss := .c (.ex (.call "need_worn" (.c (.v 0) (.c (.v 1) (.c (.v 2) (.n)))))) (.c (.ex (.call "need_key" (.c (.v 0) (.c (.v 3) (.n))))) (.c (.ex (.call "need_year" (.c (.v 4) (.n)))) (.c (.ret (.call "word_by" (.c (.v 3) (.c (.v 1) (.c (.lc (.rg2 false (.bin .Mult (.v 4) (.v 5)) (.bin .Add (.bin .Mult (.v 4) (.v 6)) (.k (.int 1)))) (.t (.c (.n 5) (.c (.n 6) .n))) (.seq (.v 2)) (.n) [5, 6]) (.n)))))) (.n))))
def d_worn_word : Df := ⟨"worn_word", topS 46, [("make" : Str), ("lock" : Str), ("wear" : Str), ("key" : Str), ("year" : Str), ("low" : Str), ("high" : Str)], [("make" : Str), ("lock" : Str), ("wear" : Str), ("key" : Str), ("year" : Str)], ⟨5, 7, [], b_worn_word⟩, false⟩
def b_word_by : Ss := .c (.set (.n 3) (.lc (.call "does_fit" (.c (.v 4) (.c (.v 5) (.c (.v 6) (.n))))) (.t (.c (.n 4) (.c (.n 5) (.c (.n 6) .n)))) (.zip (.c (.v 0) (.c (.v 1) (.c (.v 2) (.n))))) (.n) [4, 5, 6])) (.c (.ite (.cmp .In (.lst (.n)) (.v 3)) (.c (.ret (.k (.str "never"))) (.n)) (.n)) (.c (.ret (.ite (.cmp .Eq (.v 3) (.v 2)) (.k (.str "surely")) (.k (.str "perhaps")))) (.n)))
def d_word_by : Df := ⟨"word_by", topS 47, [("key" : Str), ("lock" : Str), ("rows" : Str), ("good" : Str), ("cut" : Str), ("some" : Str), ("row" : Str)], [("key" : Str), ("lock" : Str), ("rows" : Str)], ⟨3, 7, [], b_word_by⟩, false⟩
def b_sure_years : Ss := .c (.ex (.call "need_worn" (.c (.v 0) (.c (.v 1) (.c (.v 2) (.n)))))) (.c (.ex (.call "need_key" (.c (.v 0) (.c (.v 3) (.n))))) (.c (.set (.n 4) (.k (.int 0))) (.c (.wh (.and (.cmp .LtE (.v 4) (.g "YEARS" (.int 30))) (.bi .all (.c (.lc (.cmp .In (.v 5) (.v 6)) (.t (.c (.n 5) (.c (.n 6) .n))) (.zip (.c (.v 3) (.c (.call "sure_rows" (.c (.v 0) (.c (.v 1) (.c (.v 2) (.c (.v 4) (.n)))))) (.n)))) (.n) [5, 6]) (.n)))) (.c (.set (.n 4) (.bin .Add (.v 4) (.k (.int 1)))) (.n))) (.c (.ret (.ite (.cmp .Gt (.v 4) (.g "YEARS" (.int 30))) (.k .none) (.v 4))) (.n)))))
def d_sure_years : Df := ⟨"sure_years", topS 48, [("make" : Str), ("lock" : Str), ("wear" : Str), ("key" : Str), ("year" : Str), ("cut" : Str), ("row" : Str)], [("make" : Str), ("lock" : Str), ("wear" : Str), ("key" : Str)], ⟨4, 7, [], b_sure_years⟩, false⟩
def b_longest_key : Ss := .c (.ex (.call "need_worn" (.c (.v 0) (.c (.v 1) (.c (.v 2) (.n)))))) (.c (.set (.t (.c (.n 3) (.c (.n 4) .n))) (.call "last_from" (.c (.v 0) (.c (.v 1) (.c (.v 2) (.c (.k (.int 0)) (.n))))))) (.c (.ret (.tup (.c (.ite (.cmp .Gt (.v 3) (.g "YEARS" (.int 30))) (.k .none) (.v 3)) (.c (.v 4) (.n))))) (.n)))
def d_longest_key : Df := ⟨"longest_key", topS 49, [("make" : Str), ("lock" : Str), ("wear" : Str), ("many" : Str), ("key" : Str)], [("make" : Str), ("lock" : Str), ("wear" : Str)], ⟨3, 5, [], b_longest_key⟩, false⟩
def b_key_row : Ss := .c (.ex (.call "need_worn" (.c (.v 0) (.c (.v 1) (.c (.v 2) (.n)))))) (.c (.ex (.call "need_year" (.c (.v 3) (.n)))) (.c (.par [4, 5] (.c (.lst (.n)) (.c (.k (.int 0)) (.n)))) (.c (.wh (.cmp .LtE (.v 5) (.v 3)) (.c (.set (.t (.c (.n 6) (.c (.n 7) .n))) (.call "last_from" (.c (.v 0) (.c (.v 1) (.c (.v 2) (.c (.v 5) (.n))))))) (.c (.ite (.cmp .Eq (.v 6) (.k (.int 0))) (.c (.ret (.k .none)) (.n)) (.n)) (.c (.app 4 (.tup (.c (.v 5) (.c (.v 7) (.n))))) (.c (.set (.n 5) (.bin .Add (.v 5) (.v 6))) (.n)))))) (.c (.ret (.bi .tuple (.c (.v 4) (.n)))) (.n)))))
def d_key_row : Df := ⟨"key_row", topS 50, [("make" : Str), ("lock" : Str), ("wear" : Str), ("year" : Str), ("found" : Str), ("start" : Str), ("many" : Str), ("key" : Str)], [("make" : Str), ("lock" : Str), ("wear" : Str), ("year" : Str)], ⟨4, 8, [], b_key_row⟩, false⟩
def b_is_key_row : Ss := .c (.ex (.call "need_worn" (.c (.v 0) (.c (.v 1) (.c (.v 2) (.n)))))) (.c (.ex (.call "need_year" (.c (.v 3) (.n)))) (.c (.ite (.or (.not (.isi (.v 4) "tuple")) (.or (.not (.call "fits_seen" (.c (.v 0) (.c (.sl (.v 4) .no (.so (.g "SEEN" (.int 20)))) (.n))))) (.or (.cmp .Gt (.bi .len (.c (.v 4) (.n))) (.g "SEEN" (.int 20))) (.cmp .Eq (.v 4) (.tup (.n)))))) (.c (.ret (.k (.bool false))) (.n)) (.n)) (.c (.set (.n 5) (.bin .Add (.lc (.v 6) (.t (.c (.n 6) (.c (.n 7) .n))) (.seq (.v 4)) (.n) [6, 7]) (.lst (.c (.bin .Add (.v 3) (.k (.int 1))) (.n))))) (.c (.ite (.or (.cmp .NotEq (.ix (.v 5) (.k (.int 0))) (.k (.int 0))) (.cmp .Gt (.ix (.v 5) (.neg (.k (.int 2)))) (.v 3))) (.c (.ret (.k (.bool false))) (.n)) (.n)) (.c (.for_ (.t (.c (.t (.c (.n 6) (.c (.n 7) .n))) (.c (.n 8) .n))) (.zip (.c (.v 4) (.c (.sl (.v 5) (.so (.k (.int 1))) .no) (.n)))) (.c (.for_ (.n 9) (.rg (.c (.v 6) (.c (.v 8) (.n)))) (.c (.ite (.not (.bi .all (.c (.lc (.cmp .In (.v 10) (.v 11)) (.t (.c (.n 10) (.c (.n 11) .n))) (.zip (.c (.v 7) (.c (.call "sure_rows" (.c (.v 0) (.c (.v 1) (.c (.v 2) (.c (.v 9) (.n)))))) (.n)))) (.n) [10, 11]) (.n)))) (.c (.ret (.k (.bool false))) (.n)) (.n)) (.n))) (.n))) (.c (.ret (.k (.bool true))) (.n)))))))
def d_is_key_row : Df := ⟨"is_key_row", topS 51, [("make" : Str), ("lock" : Str), ("wear" : Str), ("year" : Str), ("value" : Str), ("starts" : Str), ("start" : Str), ("key" : Str), ("end" : Str), ("own" : Str), ("cut" : Str), ("row" : Str)], [("make" : Str), ("lock" : Str), ("wear" : Str), ("year" : Str), ("value" : Str)], ⟨5, 12, [], b_is_key_row⟩, false⟩
def b_possible_shifts : Ss := .c (.ex (.call "need_worn" (.c (.v 0) (.c (.v 1) (.c (.v 2) (.n)))))) (.c (.ex (.call "need_seen" (.c (.v 0) (.c (.v 3) (.n))))) (.c (.ex (.call "need_year" (.c (.v 4) (.n)))) (.c (.set (.n 5) (.lc (.ix (.v 6) (.v 4)) (.n 6) (.seq (.call "shift_rows" (.c (.v 1) (.c (.v 2) (.c (.v 3) (.c (.call "last_year" (.c (.v 3) (.c (.v 4) (.n)))) (.n))))))) (.n) [6])) (.c (.ret (.ite (.cmp .In (.lst (.n)) (.v 5)) (.k .none) (.bi .tuple (.c (.lc (.bi .tuple (.c (.v 7) (.n))) (.n 7) (.seq (.v 5)) (.n) [7]) (.n))))) (.n)))))
def d_possible_shifts : Df := ⟨"possible_shifts", topS 52, [("make" : Str), ("lock" : Str), ("wear" : Str), ("seen" : Str), ("year" : Str), ("rows" : Str), ("place" : Str), ("row" : Str)], [("make" : Str), ("lock" : Str), ("wear" : Str), ("seen" : Str), ("year" : Str)], ⟨5, 8, [], b_possible_shifts⟩, false⟩
def b_barred_place : Ss := .c (.ex (.call "need_worn" (.c (.v 0) (.c (.v 1) (.c (.v 2) (.n)))))) (.c (.ex (.call "need_seen" (.c (.v 0) (.c (.v 3) (.n))))) (.c (.set (.n 4) (.lc (.ix (.v 5) (.k (.int 0))) (.n 5) (.seq (.call "shift_rows" (.c (.v 1) (.c (.v 2) (.c (.v 3) (.c (.call "last_year" (.c (.v 3) (.c (.k (.int 0)) (.n)))) (.n))))))) (.n) [5])) (.c (.ret (.ite (.cmp .In (.lst (.n)) (.v 4)) (.idx (.v 4) (.lst (.n))) (.k .none))) (.n))))
def d_barred_place : Df := ⟨"barred_place", topS 53, [("make" : Str), ("lock" : Str), ("wear" : Str), ("seen" : Str), ("rows" : Str), ("place" : Str)], [("make" : Str), ("lock" : Str), ("wear" : Str), ("seen" : Str)], ⟨4, 6, [], b_barred_place⟩, false⟩
def b_seen_word : Ss := .c (.ex (.call "need_worn" (.c (.v 0) (.c (.v 1) (.c (.v 2) (.n)))))) (.c (.ex (.call "need_seen" (.c (.v 0) (.c (.v 3) (.n))))) (.c (.ex (.call "need_key" (.c (.v 0) (.c (.v 4) (.n))))) (.c (.ex (.call "need_year" (.c (.v 5) (.n)))) (.c (.set (.n 6) (.lc (.ix (.v 7) (.v 5)) (.n 7) (.seq (.call "shift_rows" (.c (.v 1) (.c (.v 2) (.c (.v 3) (.c (.call "last_year" (.c (.v 3) (.c (.v 5) (.n)))) (.n))))))) (.n) [7])) (.c (.ite (.cmp .In (.lst (.n)) (.v 6)) (.c (.raise "InvalidTries" (.k (.str "no drift agrees with the openings"))) (.n)) (.n)) (.c (.ret (.call "word_by" (.c (.v 4) (.c (.v 1) (.c (.v 6) (.n)))))) (.n)))))))
def d_seen_word : Df := ⟨"seen_word", topS 54, [("make" : Str), ("lock" : Str), ("wear" : Str), ("seen" : Str), ("key" : Str), ("year" : Str), ("rows" : Str), ("place" : Str)], [("make" : Str), ("lock" : Str), ("wear" : Str), ("seen" : Str), ("key" : Str), ("year" : Str)], ⟨6, 8, [], b_seen_word⟩, false⟩
def b_some_drift : Ss := .c (.ex (.call "need_worn" (.c (.v 0) (.c (.v 1) (.c (.v 2) (.n)))))) (.c (.ex (.call "need_seen" (.c (.v 0) (.c (.v 3) (.n))))) (.c (.set (.n 4) (.call "last_year" (.c (.v 3) (.c (.k (.int 0)) (.n))))) (.c (.set (.n 5) (.call "shift_rows" (.c (.v 1) (.c (.v 2) (.c (.v 3) (.c (.v 4) (.n))))))) (.c (.ite (.cmp .In (.lst (.n)) (.lc (.ix (.v 9) (.k (.int 0))) (.n 9) (.seq (.v 5)) (.n) [9])) (.c (.ret (.k .none)) (.n)) (.n)) (.c (.set (.n 6) (.lst (.c (.bi .tuple (.c (.lc (.k (.int 0)) (.n 9) (.seq (.v 5)) (.n) [9]) (.n))) (.n)))) (.c (.for_ (.n 7) (.rg (.c (.k (.int 1)) (.c (.bin .Add (.v 4) (.k (.int 1))) (.n)))) (.c (.set (.n 8) (.lst (.n))) (.c (.for_ (.t (.c (.n 9) (.c (.n 10) .n))) (.enum (.ix (.v 6) (.neg (.k (.int 1))))) (.c (.set (.t (.c (.n 11) (.c (.n 12) .n))) (.ix (.v 2) (.v 9))) (.c (.app 8 (.ix (.lc (.v 13) (.n 13) (.seq (.ix (.ix (.v 5) (.v 9)) (.v 7))) (.c (.chn .LtE .LtE (.v 11) (.bin .Sub (.v 13) (.v 10)) (.v 12)) (.n)) [13]) (.k (.int 0)))) (.n)))) (.c (.app 6 (.bi .tuple (.c (.v 8) (.n)))) (.n))))) (.c (.ret (.bi .tuple (.c (.v 6) (.n)))) (.n))))))))
def d_some_drift : Df := ⟨"some_drift", topS 55, [("make" : Str), ("lock" : Str), ("wear" : Str), ("seen" : Str), ("last" : Str), ("rows" : Str), ("found" : Str), ("year" : Str), ("own" : Str), ("place" : Str), ("far" : Str), ("low" : Str), ("high" : Str), ("one" : Str)], [("make" : Str), ("lock" : Str), ("wear" : Str), ("seen" : Str)], ⟨4, 14, [], b_some_drift⟩, false⟩
def b_is_drift : Ss := .c (.ex (.call "need_worn" (.c (.v 0) (.c (.v 1) (.c (.v 2) (.n)))))) (.c (.ex (.call "need_seen" (.c (.v 0) (.c (.v 3) (.n))))) (.c (.set (.n 5) (.call "last_year" (.c (.v 3) (.c (.k (.int 0)) (.n))))) (.c (.ite (.or (.not (.call "is_tuple_of" (.c (.v 4) (.c (.bin .Add (.v 5) (.k (.int 1))) (.c (.bin .Add (.v 5) (.k (.int 1))) (.n)))))) (.not (.bi .all (.c (.lc (.call "is_tuple_of" (.c (.v 6) (.c (.ix (.v 0) (.k (.int 0))) (.c (.ix (.v 0) (.k (.int 0))) (.n))))) (.n 6) (.seq (.v 4)) (.n) [6]) (.n))))) (.c (.ret (.k (.bool false))) (.n)) (.n)) (.c (.ite (.not (.bi .all (.c (.lc2 (.and (.isi (.v 8) "int") (.not (.isi (.v 8) "bool"))) (.n 6) (.seq (.v 4)) (.n) (.n 8) (.seq (.v 6)) (.n) [6, 8] [8]) (.n)))) (.c (.ret (.k (.bool false))) (.n)) (.n)) (.c (.ite (.bi .any (.c (.lc (.cmp .NotEq (.v 8) (.k (.int 0))) (.n 8) (.seq (.ix (.v 4) (.k (.int 0)))) (.n) [8]) (.n))) (.c (.ret (.k (.bool false))) (.n)) (.n)) (.c (.for_ (.t (.c (.n 6) (.c (.n 7) .n))) (.zip (.c (.v 4) (.c (.sl (.v 4) (.so (.k (.int 1))) .no) (.n)))) (.c (.ite (.not (.bi .all (.c (.lc (.chn .LtE .LtE (.v 10) (.bin .Sub (.v 9) (.v 8)) (.v 11)) (.t (.c (.n 8) (.c (.n 9) (.c (.t (.c (.n 10) (.c (.n 11) .n))) .n)))) (.zip (.c (.v 6) (.c (.v 7) (.c (.v 2) (.n))))) (.n) [8, 9, 10, 11]) (.n)))) (.c (.ret (.k (.bool false))) (.n)) (.n)) (.n))) (.c (.ret (.bi .all (.c (.lc (.bi .all (.c (.lc (.cmp .In (.bin .Sub (.v 14) (.v 8)) (.v 15)) (.t (.c (.n 14) (.c (.n 8) (.c (.n 15) .n)))) (.zip (.c (.v 13) (.c (.ix (.v 4) (.v 12)) (.c (.v 1) (.n))))) (.n) [14, 8, 15]) (.n))) (.t (.c (.n 12) (.c (.n 13) .n))) (.seq (.v 3)) (.n) [12, 13]) (.n)))) (.n))))))))
def d_is_drift : Df := ⟨"is_drift", topS 56, [("make" : Str), ("lock" : Str), ("wear" : Str), ("seen" : Str), ("value" : Str), ("last" : Str), ("one" : Str), ("other" : Str), ("far" : Str), ("two" : Str), ("low" : Str), ("high" : Str), ("year" : Str), ("key" : Str), ("cut" : Str), ("some" : Str)], [("make" : Str), ("lock" : Str), ("wear" : Str), ("seen" : Str), ("value" : Str)], ⟨5, 16, [], b_is_drift⟩, false⟩
def b__law_cup : Ss := .c (.set (.n 1) (.bi .abs (.c (.ix (.bin .Add (.bi .list (.c (.v 0) (.n))) (.lst (.c (.k (.int 0)) (.n)))) (.k (.int 0))) (.n)))) (.c (.ret (.lst (.c (.ite (.cmp .GtE (.v 1) (.bin .Pow (.k (.int 10)) (.k (.int 18)))) (.bin .FloorDiv (.v 1) (.k (.int 179))) (.k (.int 0))) (.c (.bin .Add (.bin .Mod (.bi .int (.c (.bin .Add (.bin .Mult (.v 1) (.k (.int 433))) (.k (.int 4057))) (.n))) (.k (.int 2077502087))) (.k (.int 307))) (.n))))) (.n))
def d__law_cup : Df := ⟨"_law_cup", topS 58, [("script" : Str), ("cell" : Str)], [("script" : Str)], ⟨1, 2, [], b__law_cup⟩, false⟩
def b__law_roll : Ss := .c (.ite (.cmp .Gt (.ix (.v 0) (.k (.int 0))) (.k (.int 0))) (.c (.set (.n 2) (.bin .Mod (.bi .int (.c (.ix (.v 0) (.k (.int 0))) (.n))) (.v 1))) (.c (.sub 0 (.k (.int 0)) (.bin .FloorDiv (.ix (.v 0) (.k (.int 0))) (.v 1))) (.c (.ret (.v 2)) (.n)))) (.n)) (.c (.sub 0 (.k (.int 1)) (.bin .Mod (.bi .int (.c (.bin .Add (.bin .Mult (.ix (.v 0) (.k (.int 1))) (.k (.int 30881))) (.k (.int 7933))) (.n))) (.k (.int 2147482951)))) (.c (.set (.n 3) (.bin .Mod (.bi .int (.c (.bin .Mult (.ix (.v 0) (.k (.int 1))) (.bin .Add (.ix (.v 0) (.k (.int 1))) (.k (.int 331)))) (.n))) (.k (.int 2147483059)))) (.c (.ret (.bin .Mod (.bi .int (.c (.bin .FloorDiv (.v 3) (.k (.int 947))) (.n))) (.v 1))) (.n))))
def d__law_roll : Df := ⟨"_law_roll", topS 59, [("cup" : Str), ("many" : Str), ("found" : Str), ("deep" : Str)], [("cup" : Str), ("many" : Str)], ⟨2, 4, [], b__law_roll⟩, false⟩
def b__law_words : Ss := .c (.set (.n 3) (.lst (.c (.wd "_law_word" wt__law_word [0, 1, 2] (.call "longest_key" (.c (.v 0) (.c (.v 1) (.c (.v 2) (.n)))))) (.n)))) (.c (.set (.n 3) (.bin .Add (.v 3) (.lc (.wd "_law_word" wt__law_word [4, 0, 1, 2] (.cv 4 ["barred_place", "is_drift", "is_key_row", "key_row", "possible_shifts", "some_drift", "sure_years", "worn_word"] (.c (.v 0) (.c (.v 1) (.c (.v 2) (.c (.k .none) (.n))))))) (.n 4) (.seq (.tup (.c (.fnv "sure_years") (.c (.fnv "key_row") (.c (.fnv "barred_place") (.c (.fnv "some_drift") (.n))))))) (.n) [4]))) (.c (.set (.n 3) (.bin .Add (.v 3) (.lc (.wd "_law_word" wt__law_word [4, 0, 1, 2] (.cv 4 ["barred_place", "is_drift", "is_key_row", "key_row", "possible_shifts", "some_drift", "sure_years", "worn_word"] (.c (.v 0) (.c (.v 1) (.c (.v 2) (.c (.k .none) (.c (.k .none) (.n)))))))) (.n 4) (.seq (.tup (.c (.fnv "worn_word") (.c (.fnv "is_key_row") (.c (.fnv "possible_shifts") (.c (.fnv "is_drift") (.n))))))) (.n) [4]))) (.c (.ret (.bin .Add (.v 3) (.lst (.c (.wd "_law_word" wt__law_word [0, 1, 2] (.call "seen_word" (.c (.v 0) (.c (.v 1) (.c (.v 2) (.c (.k .none) (.c (.k .none) (.c (.k .none) (.n))))))))) (.n))))) (.n))))
def d__law_words : Df := ⟨"_law_words", topS 62, [("make" : Str), ("lock" : Str), ("wear" : Str), ("words" : Str), ("call" : Str)], [("make" : Str), ("lock" : Str), ("wear" : Str)], ⟨3, 5, [], b__law_words⟩, true⟩
def b_law : Ss := .c (.set (.n 1) (.call "_law_cup" (.c (.v 0) (.n)))) (.c (.for_ (.n 2) (.seq (.tup (.c (.k .none) (.c (.tup (.n)) (.c (.tup (.c (.k (.int 0)) (.c (.k (.int 3)) (.c (.k (.int 2)) (.n))))) (.c (.tup (.c (.k (.int 9)) (.c (.k (.int 3)) (.c (.k (.int 2)) (.n))))) (.c (.tup (.c (.k (.int 2)) (.c (.k (.int 1)) (.c (.k (.int 2)) (.n))))) (.c (.tup (.c (.k (.int 2)) (.c (.k (.int 11)) (.c (.k (.int 2)) (.n))))) (.c (.tup (.c (.k (.int 2)) (.c (.k (.int 3)) (.c (.k (.int 0)) (.n))))) (.c (.tup (.c (.k (.int 2)) (.c (.k (.int 3)) (.c (.k (.int 10)) (.n))))) (.c (.lst (.c (.k (.int 2)) (.c (.k (.int 3)) (.c (.k (.int 2)) (.n))))) (.c (.tup (.c (.k (.int 2)) (.c (.k (.int 3)) (.n)))) (.c (.tup (.c (.k (.bool true)) (.c (.k (.int 3)) (.c (.k (.int 2)) (.n))))) (.c (.k (.int 5)) (.n))))))))))))))) (.c (.ite (.or (.cmp .NotEq (.call "_law_words" (.c (.v 2) (.c (.k .none) (.c (.k .none) (.n))))) (.bin .Mult (.lst (.c (.k (.str "make")) (.n))) (.k (.int 10)))) (.cmp .NotEq (.wd "_law_word" wt__law_word [2] (.call "is_wear" (.c (.v 2) (.c (.k .none) (.n))))) (.k (.str "make")))) (.c (.ret (.k (.bool false))) (.n)) (.n)) (.n))) (.c (.par [3, 4, 5, 6] (.c (.tup (.c (.k (.int 2)) (.c (.k (.int 4)) (.c (.k (.int 1)) (.n))))) (.c (.tup (.c (.tup (.c (.k (.int 0)) (.c (.k (.int 1)) (.n)))) (.c (.tup (.c (.k (.int 2)) (.n))) (.n)))) (.c (.tup (.c (.tup (.c (.k (.int 0)) (.c (.k (.int 1)) (.n)))) (.c (.tup (.c (.neg (.k (.int 1))) (.c (.k (.int 0)) (.n)))) (.n)))) (.c (.tup (.c (.k (.int 1)) (.c (.k (.int 2)) (.n)))) (.n)))))) (.c (.for_ (.n 2) (.seq (.tup (.c (.k .none) (.c (.tup (.n)) (.c (.sl (.v 4) .no (.so (.k (.int 1)))) (.c (.tup (.c (.tup (.n)) (.c (.tup (.c (.k (.int 2)) (.n))) (.n)))) (.c (.tup (.c (.tup (.c (.k (.int 1)) (.c (.k (.int 0)) (.n)))) (.c (.tup (.c (.k (.int 2)) (.n))) (.n)))) (.c (.tup (.c (.tup (.c (.k (.int 0)) (.c (.k (.int 1)) (.n)))) (.c (.tup (.c (.k (.int 4)) (.n))) (.n)))) (.c (.lst (.c (.tup (.c (.k (.int 0)) (.c (.k (.int 1)) (.n)))) (.c (.tup (.c (.k (.int 2)) (.n))) (.n)))) (.c (.bin .Add (.v 4) (.v 4)) (.c (.k (.int 5)) (.n)))))))))))) (.c (.ite (.cmp .NotEq (.call "_law_words" (.c (.v 3) (.c (.v 2) (.c (.k .none) (.n))))) (.bin .Mult (.lst (.c (.k (.str "lock")) (.n))) (.k (.int 10)))) (.c (.ret (.k (.bool false))) (.n)) (.n)) (.n))) (.c (.set (.n 7) (.lst (.c (.k .none) (.c (.tup (.n)) (.c (.sl (.v 5) .no (.so (.k (.int 1)))) (.c (.bin .Add (.v 5) (.v 5)) (.c (.bi .list (.c (.v 5) (.n))) (.c (.tup (.c (.tup (.c (.k (.int 1)) (.c (.k (.int 0)) (.n)))) (.c (.tup (.c (.k (.int 0)) (.c (.k (.int 0)) (.n)))) (.n)))) (.c (.tup (.c (.tup (.c (.k (.int 0)) (.c (.k (.int 4)) (.n)))) (.c (.tup (.c (.k (.int 0)) (.c (.k (.int 0)) (.n)))) (.n)))) (.c (.tup (.c (.tup (.c (.neg (.k (.int 4))) (.c (.k (.int 0)) (.n)))) (.c (.tup (.c (.k (.int 0)) (.c (.k (.int 0)) (.n)))) (.n)))) (.c (.tup (.c (.tup (.c (.k (.int 0)) (.n))) (.c (.tup (.c (.k (.int 0)) (.c (.k (.int 0)) (.n)))) (.n)))) (.n)))))))))))) (.c (.set (.n 7) (.bin .Add (.v 7) (.lst (.c (.tup (.c (.tup (.c (.k (.int 0)) (.c (.k (.bool true)) (.n)))) (.c (.tup (.c (.k (.int 0)) (.c (.k (.int 0)) (.n)))) (.n)))) (.n))))) (.c (.for_ (.n 2) (.seq (.bin .Add (.v 7) (.lst (.c (.tup (.c (.tup (.c (.k (.int 0)) (.c (.k (.int 1)) (.c (.k (.int 2)) (.n))))) (.c (.tup (.c (.k (.int 0)) (.c (.k (.int 0)) (.n)))) (.n)))) (.c (.tup (.c (.lst (.c (.k (.int 0)) (.c (.k (.int 1)) (.n)))) (.c (.tup (.c (.k (.int 0)) (.c (.k (.int 0)) (.n)))) (.n)))) (.c (.tup (.c (.tup (.c (.k .none) (.c (.k (.int 0)) (.n)))) (.c (.tup (.c (.k (.int 0)) (.c (.k (.int 0)) (.n)))) (.n)))) (.c (.tup (.c (.k (.int 0)) (.c (.k (.int 0)) (.n)))) (.c (.k (.str "wear")) (.n))))))))) (.c (.ite (.or (.cmp .NotEq (.call "_law_words" (.c (.v 3) (.c (.v 4) (.c (.v 2) (.n))))) (.bin .Mult (.lst (.c (.k (.str "number")) (.n))) (.k (.int 10)))) (.cmp .IsNot (.call "is_wear" (.c (.v 3) (.c (.v 2) (.n)))) (.k (.bool false)))) (.c (.ret (.k (.bool false))) (.n)) (.n)) (.n))) (.c (.ite (.cmp .NotEq (.call "_law_words" (.c (.v 3) (.c (.v 4) (.c (.v 5) (.n))))) (.bin .Add (.bin .Add (.bin .Add (.lst (.c (.k (.str "")) (.n))) (.lst (.c (.k (.str "key")) (.c (.k (.str "number")) (.c (.k (.str "tries")) (.c (.k (.str "tries")) (.n))))))) (.lst (.c (.k (.str "key")) (.c (.k (.str "number")) (.c (.k (.str "tries")) (.c (.k (.str "tries")) (.n))))))) (.lst (.c (.k (.str "tries")) (.n))))) (.c (.ret (.k (.bool false))) (.n)) (.n)) (.c (.for_ (.n 2) (.seq (.tup (.c (.k .none) (.c (.tup (.n)) (.c (.tup (.c (.k (.int 1)) (.n))) (.c (.tup (.c (.k (.int 1)) (.c (.k (.int 3)) (.n)))) (.c (.tup (.c (.k (.int 0)) (.c (.k (.int 4)) (.n)))) (.c (.lst (.c (.k (.int 1)) (.c (.k (.int 2)) (.n)))) (.c (.tup (.c (.k (.bool true)) (.c (.k (.int 2)) (.n)))) (.c (.k (.str "12")) (.c (.tup (.c (.k (.int 1)) (.c (.k (.int 2)) (.c (.k (.int 3)) (.n))))) (.n)))))))))))) (.c (.set (.n 8) (.lst (.c (.wd "_law_word" wt__law_word [3, 4, 5, 2] (.call "sure_years" (.c (.v 3) (.c (.v 4) (.c (.v 5) (.c (.v 2) (.n))))))) (.n)))) (.c (.app 8 (.wd "_law_word" wt__law_word [3, 4, 5, 2] (.call "worn_word" (.c (.v 3) (.c (.v 4) (.c (.v 5) (.c (.v 2) (.c (.k .none) (.n))))))))) (.c (.ite (.cmp .NotEq (.bin .Add (.v 8) (.lst (.c (.wd "_law_word" wt__law_word [3, 4, 5, 2] (.call "seen_word" (.c (.v 3) (.c (.v 4) (.c (.v 5) (.c (.tup (.n)) (.c (.v 2) (.c (.k .none) (.n))))))))) (.n)))) (.bin .Mult (.lst (.c (.k (.str "key")) (.n))) (.k (.int 3)))) (.c (.ret (.k (.bool false))) (.n)) (.n)) (.n))))) (.c (.for_ (.n 2) (.seq (.tup (.c (.k .none) (.c (.neg (.k (.int 1))) (.c (.k (.int 31)) (.c (.k (.bool true)) (.c (.k (.str "1")) (.c (.tup (.c (.k (.int 1)) (.n))) (.c (.bin .Pow (.k (.int 10)) (.k (.int 30))) (.n)))))))))) (.c (.set (.n 8) (.lst (.c (.wd "_law_word" wt__law_word [3, 4, 5, 6, 2] (.call "worn_word" (.c (.v 3) (.c (.v 4) (.c (.v 5) (.c (.v 6) (.c (.v 2) (.n)))))))) (.n)))) (.c (.app 8 (.wd "_law_word" wt__law_word [3, 4, 5, 2] (.call "key_row" (.c (.v 3) (.c (.v 4) (.c (.v 5) (.c (.v 2) (.n)))))))) (.c (.app 8 (.wd "_law_word" wt__law_word [3, 4, 5, 2] (.call "is_key_row" (.c (.v 3) (.c (.v 4) (.c (.v 5) (.c (.v 2) (.c (.k .none) (.n))))))))) (.c (.app 8 (.wd "_law_word" wt__law_word [3, 4, 5, 2] (.call "possible_shifts" (.c (.v 3) (.c (.v 4) (.c (.v 5) (.c (.tup (.n)) (.c (.v 2) (.n))))))))) (.c (.ite (.cmp .NotEq (.bin .Add (.v 8) (.lst (.c (.wd "_law_word" wt__law_word [3, 4, 5, 6, 2] (.call "seen_word" (.c (.v 3) (.c (.v 4) (.c (.v 5) (.c (.tup (.n)) (.c (.v 6) (.c (.v 2) (.n))))))))) (.n)))) (.bin .Mult (.lst (.c (.k (.str "number")) (.n))) (.k (.int 5)))) (.c (.ret (.k (.bool false))) (.n)) (.n)) (.n))))))) (.c (.set (.n 9) (.tup (.c (.tup (.c (.k (.int 0)) (.c (.v 6) (.n)))) (.c (.tup (.c (.k (.int 3)) (.c (.tup (.c (.k (.int 2)) (.c (.k (.int 2)) (.n)))) (.n)))) (.n))))) (.c (.set (.n 7) (.lst (.c (.k .none) (.c (.k (.int 5)) (.c (.bi .list (.c (.v 9) (.n))) (.c (.rev (.v 9) (.neg (.k (.int 1)))) (.c (.bin .Add (.v 9) (.sl (.v 9) (.so (.neg (.k (.int 1)))) .no)) (.c (.tup (.c (.tup (.c (.k (.int 31)) (.c (.v 6) (.n)))) (.n))) (.c (.tup (.c (.tup (.c (.neg (.k (.int 1))) (.c (.v 6) (.n)))) (.n))) (.c (.tup (.c (.tup (.c (.k (.bool true)) (.c (.v 6) (.n)))) (.n))) (.c (.tup (.c (.tup (.c (.k (.int 0)) (.c (.tup (.c (.k (.int 1)) (.c (.k (.int 3)) (.n)))) (.n)))) (.n))) (.c (.tup (.c (.tup (.c (.k (.int 0)) (.n))) (.n))) (.c (.tup (.c (.tup (.c (.k (.int 0)) (.c (.v 6) (.c (.k (.int 1)) (.n))))) (.n))) (.n)))))))))))))) (.c (.for_ (.n 2) (.seq (.bin .Add (.v 7) (.lst (.c (.tup (.c (.lst (.c (.k (.int 0)) (.c (.v 6) (.n)))) (.n))) (.c (.tup (.c (.k .none) (.n))) (.c (.tup (.c (.k (.int 0)) (.c (.v 6) (.n)))) (.c (.bi .tuple (.c (.lc (.tup (.c (.v 12) (.c (.v 6) (.n)))) (.n 12) (.rg (.c (.k (.int 21)) (.n))) (.n) [12]) (.n))) (.n)))))))) (.c (.set (.n 8) (.lc (.wd "_law_word" wt__law_word [13, 3, 4, 5, 2] (.cv 13 ["is_drift", "some_drift", "possible_shifts", "barred_place"] (.c (.v 3) (.c (.v 4) (.c (.v 5) (.c (.v 2) (.n))))))) (.n 13) (.seq (.tup (.c (.fnv "barred_place") (.c (.fnv "some_drift") (.n))))) (.n) [13])) (.c (.set (.n 8) (.bin .Add (.v 8) (.lc (.wd "_law_word" wt__law_word [13, 3, 4, 5, 2] (.cv 13 ["is_drift", "some_drift", "possible_shifts"] (.c (.v 3) (.c (.v 4) (.c (.v 5) (.c (.v 2) (.c (.k .none) (.n)))))))) (.n 13) (.seq (.tup (.c (.fnv "possible_shifts") (.c (.fnv "is_drift") (.n))))) (.n) [13]))) (.c (.ite (.cmp .NotEq (.bin .Add (.v 8) (.lst (.c (.wd "_law_word" wt__law_word [3, 4, 5, 2] (.call "seen_word" (.c (.v 3) (.c (.v 4) (.c (.v 5) (.c (.v 2) (.c (.k .none) (.c (.k .none) (.n))))))))) (.n)))) (.bin .Mult (.lst (.c (.k (.str "tries")) (.n))) (.k (.int 5)))) (.c (.ret (.k (.bool false))) (.n)) (.n)) (.n))))) (.c (.set (.n 10) (.tup (.c (.tup (.c (.k (.int 0)) (.c (.tup (.c (.k (.int 3)) (.c (.k (.int 2)) (.n)))) (.n)))) (.n)))) (.c (.set (.n 8) (.lst (.c (.wd "_law_word" wt__law_word [3, 4, 5, 10] (.call "seen_word" (.c (.v 3) (.c (.v 4) (.c (.v 5) (.c (.v 10) (.c (.k .none) (.c (.k .none) (.n))))))))) (.n)))) (.c (.app 8 (.wd "_law_word" wt__law_word [3, 4, 5, 10, 6] (.call "seen_word" (.c (.v 3) (.c (.v 4) (.c (.v 5) (.c (.v 10) (.c (.v 6) (.c (.k .none) (.n)))))))))) (.c (.app 8 (.wd "_law_word" wt__law_word [3, 4, 5, 10, 6, 1] (.call "seen_word" (.c (.v 3) (.c (.v 4) (.c (.v 5) (.c (.v 10) (.c (.v 6) (.c (.call "_law_roll" (.c (.v 1) (.c (.k (.int 31)) (.n)))) (.n)))))))))) (.c (.ite (.or (.cmp .NotEq (.v 8) (.lst (.c (.k (.str "key")) (.c (.k (.str "number")) (.c (.k (.str "tries")) (.n)))))) (.cmp .IsNot (.call "possible_shifts" (.c (.v 3) (.c (.v 4) (.c (.v 5) (.c (.v 10) (.c (.k (.int 30)) (.n))))))) (.k .none))) (.c (.ret (.k (.bool false))) (.n)) (.n)) (.c (.set (.n 11) (.bi .tuple (.c (.lc (.tup (.c (.v 12) (.c (.v 6) (.n)))) (.n 12) (.rg (.c (.k (.int 11)) (.c (.k (.int 31)) (.n)))) (.n) [12]) (.n)))) (.c (.ret (.and (.cmp .Eq (.wd "_law_word" wt__law_word [3, 4, 5, 11] (.call "barred_place" (.c (.v 3) (.c (.v 4) (.c (.v 5) (.c (.v 11) (.n))))))) (.k (.str ""))) (.cmp .Is (.call "is_wear" (.c (.v 3) (.c (.tup (.c (.tup (.c (.neg (.k (.int 3))) (.c (.k (.int 3)) (.n)))) (.c (.tup (.c (.k (.int 3)) (.c (.k (.int 3)) (.n)))) (.n)))) (.n)))) (.k (.bool true))))) (.n))))))))))))))))))))
def d_law : Df := ⟨"law", topS 63, [("script" : Str), ("cup" : Str), ("odd" : Str), ("make" : Str), ("lock" : Str), ("wear" : Str), ("key" : Str), ("bads" : Str), ("words" : Str), ("seen" : Str), ("clash" : Str), ("full" : Str), ("at" : Str), ("call" : Str)], [("script" : Str)], ⟨1, 14, [], b_law⟩, true⟩
def ds : List Df := [d_is_whole, d_fits_whole, d_is_tuple_of, d_is_rising, d_fits_make, d_fits_cuts, d_fits_key, d_fits_set, d_fits_lock, d_need_make, d_need_key, d_need_lock, d_fits_wear, d_fits_seen, d_need_worn, d_need_year, d_need_seen, d_sure_cuts, d_sure_rows, d_both_rows, d_first_key, d_does_fit, d_last_from, d_steps_on, d_steps_back, d_place_rows, d_shift_rows, d_last_year, d_is_wear, d_worn_word, d_word_by, d_sure_years, d_longest_key, d_key_row, d_is_key_row, d_possible_shifts, d_barred_place, d_seen_word, d_some_drift, d_is_drift, d__law_cup, d__law_roll, d__law_words, d_law]
def cs : List (Str × PyData) := [("DRIFT", .int 3), ("HEIGHTS", .int 10), ("PLACES", .int 8), ("SEEN", .int 20), ("STEP", .int 9), ("YEARS", .int 30)]
def es : List String := ["InvalidMake", "InvalidKey", "InvalidLock", "InvalidNumber", "InvalidTries"]
def ws : List (String × WT) := [("_law_word", wt__law_word)]
def names : List String := ["is_whole", "fits_whole", "is_tuple_of", "is_rising", "fits_make", "fits_cuts", "fits_key", "fits_set", "fits_lock", "need_make", "need_key", "need_lock", "fits_wear", "fits_seen", "need_worn", "need_year", "need_seen", "sure_cuts", "sure_rows", "both_rows", "first_key", "does_fit", "last_from", "steps_on", "steps_back", "place_rows", "shift_rows", "last_year", "is_wear", "worn_word", "word_by", "sure_years", "longest_key", "key_row", "is_key_row", "possible_shifts", "barred_place", "seen_word", "some_drift", "is_drift", "_law_cup", "_law_roll", "_law_words", "law"]
theorem ck_is_whole : chkD names cs es ws d_is_whole = true := by decide +kernel
theorem ck_fits_whole : chkD names cs es ws d_fits_whole = true := by decide +kernel
theorem ck_is_tuple_of : chkD names cs es ws d_is_tuple_of = true := by decide +kernel
theorem ck_is_rising : chkD names cs es ws d_is_rising = true := by decide +kernel
theorem ck_fits_make : chkD names cs es ws d_fits_make = true := by decide +kernel
theorem ck_fits_cuts : chkD names cs es ws d_fits_cuts = true := by decide +kernel
theorem ck_fits_key : chkD names cs es ws d_fits_key = true := by decide +kernel
theorem ck_fits_set : chkD names cs es ws d_fits_set = true := by decide +kernel
theorem ck_fits_lock : chkD names cs es ws d_fits_lock = true := by decide +kernel
theorem ck_need_make : chkD names cs es ws d_need_make = true := by decide +kernel
theorem ck_need_key : chkD names cs es ws d_need_key = true := by decide +kernel
theorem ck_need_lock : chkD names cs es ws d_need_lock = true := by decide +kernel
theorem ck_fits_wear : chkD names cs es ws d_fits_wear = true := by decide +kernel
theorem ck_fits_seen : chkD names cs es ws d_fits_seen = true := by decide +kernel
theorem ck_need_worn : chkD names cs es ws d_need_worn = true := by decide +kernel
theorem ck_need_year : chkD names cs es ws d_need_year = true := by decide +kernel
theorem ck_need_seen : chkD names cs es ws d_need_seen = true := by decide +kernel
theorem ck_sure_cuts : chkD names cs es ws d_sure_cuts = true := by decide +kernel
theorem ck_sure_rows : chkD names cs es ws d_sure_rows = true := by decide +kernel
theorem ck_both_rows : chkD names cs es ws d_both_rows = true := by decide +kernel
theorem ck_first_key : chkD names cs es ws d_first_key = true := by decide +kernel
theorem ck_does_fit : chkD names cs es ws d_does_fit = true := by decide +kernel
theorem ck_last_from : chkD names cs es ws d_last_from = true := by decide +kernel
theorem ck_steps_on : chkD names cs es ws d_steps_on = true := by decide +kernel
theorem ck_steps_back : chkD names cs es ws d_steps_back = true := by decide +kernel
theorem ck_place_rows : chkD names cs es ws d_place_rows = true := by decide +kernel
theorem ck_shift_rows : chkD names cs es ws d_shift_rows = true := by decide +kernel
theorem ck_last_year : chkD names cs es ws d_last_year = true := by decide +kernel
theorem ck_is_wear : chkD names cs es ws d_is_wear = true := by decide +kernel
theorem ck_worn_word : chkD names cs es ws d_worn_word = true := by decide +kernel
theorem ck_word_by : chkD names cs es ws d_word_by = true := by decide +kernel
theorem ck_sure_years : chkD names cs es ws d_sure_years = true := by decide +kernel
theorem ck_longest_key : chkD names cs es ws d_longest_key = true := by decide +kernel
theorem ck_key_row : chkD names cs es ws d_key_row = true := by decide +kernel
theorem ck_is_key_row : chkD names cs es ws d_is_key_row = true := by decide +kernel
theorem ck_possible_shifts : chkD names cs es ws d_possible_shifts = true := by decide +kernel
theorem ck_barred_place : chkD names cs es ws d_barred_place = true := by decide +kernel
theorem ck_seen_word : chkD names cs es ws d_seen_word = true := by decide +kernel
theorem ck_some_drift : chkD names cs es ws d_some_drift = true := by decide +kernel
theorem ck_is_drift : chkD names cs es ws d_is_drift = true := by decide +kernel
theorem ck__law_cup : chkD names cs es ws d__law_cup = true := by decide +kernel
theorem ck__law_roll : chkD names cs es ws d__law_roll = true := by decide +kernel
theorem ck__law_words : chkD names cs es ws d__law_words = true := by decide +kernel
theorem ck_law : chkD names cs es ws d_law = true := by decide +kernel
theorem names_eq : namesOf ds = names := rfl
theorem names_nd : (namesOf ds).Nodup := by
  rw [names_eq]
  decide +kernel
theorem cl_is_whole (n : Nat) (ss : List SV) : callN (progOf ds) (n + 1) "is_whole" ss = callFn (callN (progOf ds) n) d_is_whole.fn ss := callN_of (d := d_is_whole) names_nd (by simp [ds]) n ss
theorem cl_fits_whole (n : Nat) (ss : List SV) : callN (progOf ds) (n + 1) "fits_whole" ss = callFn (callN (progOf ds) n) d_fits_whole.fn ss := callN_of (d := d_fits_whole) names_nd (by simp [ds]) n ss
theorem cl_is_tuple_of (n : Nat) (ss : List SV) : callN (progOf ds) (n + 1) "is_tuple_of" ss = callFn (callN (progOf ds) n) d_is_tuple_of.fn ss := callN_of (d := d_is_tuple_of) names_nd (by simp [ds]) n ss
theorem cl_is_rising (n : Nat) (ss : List SV) : callN (progOf ds) (n + 1) "is_rising" ss = callFn (callN (progOf ds) n) d_is_rising.fn ss := callN_of (d := d_is_rising) names_nd (by simp [ds]) n ss
theorem cl_fits_make (n : Nat) (ss : List SV) : callN (progOf ds) (n + 1) "fits_make" ss = callFn (callN (progOf ds) n) d_fits_make.fn ss := callN_of (d := d_fits_make) names_nd (by simp [ds]) n ss
theorem cl_fits_cuts (n : Nat) (ss : List SV) : callN (progOf ds) (n + 1) "fits_cuts" ss = callFn (callN (progOf ds) n) d_fits_cuts.fn ss := callN_of (d := d_fits_cuts) names_nd (by simp [ds]) n ss
theorem cl_fits_key (n : Nat) (ss : List SV) : callN (progOf ds) (n + 1) "fits_key" ss = callFn (callN (progOf ds) n) d_fits_key.fn ss := callN_of (d := d_fits_key) names_nd (by simp [ds]) n ss
theorem cl_fits_set (n : Nat) (ss : List SV) : callN (progOf ds) (n + 1) "fits_set" ss = callFn (callN (progOf ds) n) d_fits_set.fn ss := callN_of (d := d_fits_set) names_nd (by simp [ds]) n ss
theorem cl_fits_lock (n : Nat) (ss : List SV) : callN (progOf ds) (n + 1) "fits_lock" ss = callFn (callN (progOf ds) n) d_fits_lock.fn ss := callN_of (d := d_fits_lock) names_nd (by simp [ds]) n ss
theorem cl_need_make (n : Nat) (ss : List SV) : callN (progOf ds) (n + 1) "need_make" ss = callFn (callN (progOf ds) n) d_need_make.fn ss := callN_of (d := d_need_make) names_nd (by simp [ds]) n ss
theorem cl_need_key (n : Nat) (ss : List SV) : callN (progOf ds) (n + 1) "need_key" ss = callFn (callN (progOf ds) n) d_need_key.fn ss := callN_of (d := d_need_key) names_nd (by simp [ds]) n ss
theorem cl_need_lock (n : Nat) (ss : List SV) : callN (progOf ds) (n + 1) "need_lock" ss = callFn (callN (progOf ds) n) d_need_lock.fn ss := callN_of (d := d_need_lock) names_nd (by simp [ds]) n ss
theorem cl_fits_wear (n : Nat) (ss : List SV) : callN (progOf ds) (n + 1) "fits_wear" ss = callFn (callN (progOf ds) n) d_fits_wear.fn ss := callN_of (d := d_fits_wear) names_nd (by simp [ds]) n ss
theorem cl_fits_seen (n : Nat) (ss : List SV) : callN (progOf ds) (n + 1) "fits_seen" ss = callFn (callN (progOf ds) n) d_fits_seen.fn ss := callN_of (d := d_fits_seen) names_nd (by simp [ds]) n ss
theorem cl_need_worn (n : Nat) (ss : List SV) : callN (progOf ds) (n + 1) "need_worn" ss = callFn (callN (progOf ds) n) d_need_worn.fn ss := callN_of (d := d_need_worn) names_nd (by simp [ds]) n ss
theorem cl_need_year (n : Nat) (ss : List SV) : callN (progOf ds) (n + 1) "need_year" ss = callFn (callN (progOf ds) n) d_need_year.fn ss := callN_of (d := d_need_year) names_nd (by simp [ds]) n ss
theorem cl_need_seen (n : Nat) (ss : List SV) : callN (progOf ds) (n + 1) "need_seen" ss = callFn (callN (progOf ds) n) d_need_seen.fn ss := callN_of (d := d_need_seen) names_nd (by simp [ds]) n ss
theorem cl_sure_cuts (n : Nat) (ss : List SV) : callN (progOf ds) (n + 1) "sure_cuts" ss = callFn (callN (progOf ds) n) d_sure_cuts.fn ss := callN_of (d := d_sure_cuts) names_nd (by simp [ds]) n ss
theorem cl_sure_rows (n : Nat) (ss : List SV) : callN (progOf ds) (n + 1) "sure_rows" ss = callFn (callN (progOf ds) n) d_sure_rows.fn ss := callN_of (d := d_sure_rows) names_nd (by simp [ds]) n ss
theorem cl_both_rows (n : Nat) (ss : List SV) : callN (progOf ds) (n + 1) "both_rows" ss = callFn (callN (progOf ds) n) d_both_rows.fn ss := callN_of (d := d_both_rows) names_nd (by simp [ds]) n ss
theorem cl_first_key (n : Nat) (ss : List SV) : callN (progOf ds) (n + 1) "first_key" ss = callFn (callN (progOf ds) n) d_first_key.fn ss := callN_of (d := d_first_key) names_nd (by simp [ds]) n ss
theorem cl_does_fit (n : Nat) (ss : List SV) : callN (progOf ds) (n + 1) "does_fit" ss = callFn (callN (progOf ds) n) d_does_fit.fn ss := callN_of (d := d_does_fit) names_nd (by simp [ds]) n ss
theorem cl_last_from (n : Nat) (ss : List SV) : callN (progOf ds) (n + 1) "last_from" ss = callFn (callN (progOf ds) n) d_last_from.fn ss := callN_of (d := d_last_from) names_nd (by simp [ds]) n ss
theorem cl_steps_on (n : Nat) (ss : List SV) : callN (progOf ds) (n + 1) "steps_on" ss = callFn (callN (progOf ds) n) d_steps_on.fn ss := callN_of (d := d_steps_on) names_nd (by simp [ds]) n ss
theorem cl_steps_back (n : Nat) (ss : List SV) : callN (progOf ds) (n + 1) "steps_back" ss = callFn (callN (progOf ds) n) d_steps_back.fn ss := callN_of (d := d_steps_back) names_nd (by simp [ds]) n ss
theorem cl_place_rows (n : Nat) (ss : List SV) : callN (progOf ds) (n + 1) "place_rows" ss = callFn (callN (progOf ds) n) d_place_rows.fn ss := callN_of (d := d_place_rows) names_nd (by simp [ds]) n ss
theorem cl_shift_rows (n : Nat) (ss : List SV) : callN (progOf ds) (n + 1) "shift_rows" ss = callFn (callN (progOf ds) n) d_shift_rows.fn ss := callN_of (d := d_shift_rows) names_nd (by simp [ds]) n ss
theorem cl_last_year (n : Nat) (ss : List SV) : callN (progOf ds) (n + 1) "last_year" ss = callFn (callN (progOf ds) n) d_last_year.fn ss := callN_of (d := d_last_year) names_nd (by simp [ds]) n ss
theorem cl_is_wear (n : Nat) (ss : List SV) : callN (progOf ds) (n + 1) "is_wear" ss = callFn (callN (progOf ds) n) d_is_wear.fn ss := callN_of (d := d_is_wear) names_nd (by simp [ds]) n ss
theorem cl_worn_word (n : Nat) (ss : List SV) : callN (progOf ds) (n + 1) "worn_word" ss = callFn (callN (progOf ds) n) d_worn_word.fn ss := callN_of (d := d_worn_word) names_nd (by simp [ds]) n ss
theorem cl_word_by (n : Nat) (ss : List SV) : callN (progOf ds) (n + 1) "word_by" ss = callFn (callN (progOf ds) n) d_word_by.fn ss := callN_of (d := d_word_by) names_nd (by simp [ds]) n ss
theorem cl_sure_years (n : Nat) (ss : List SV) : callN (progOf ds) (n + 1) "sure_years" ss = callFn (callN (progOf ds) n) d_sure_years.fn ss := callN_of (d := d_sure_years) names_nd (by simp [ds]) n ss
theorem cl_longest_key (n : Nat) (ss : List SV) : callN (progOf ds) (n + 1) "longest_key" ss = callFn (callN (progOf ds) n) d_longest_key.fn ss := callN_of (d := d_longest_key) names_nd (by simp [ds]) n ss
theorem cl_key_row (n : Nat) (ss : List SV) : callN (progOf ds) (n + 1) "key_row" ss = callFn (callN (progOf ds) n) d_key_row.fn ss := callN_of (d := d_key_row) names_nd (by simp [ds]) n ss
theorem cl_is_key_row (n : Nat) (ss : List SV) : callN (progOf ds) (n + 1) "is_key_row" ss = callFn (callN (progOf ds) n) d_is_key_row.fn ss := callN_of (d := d_is_key_row) names_nd (by simp [ds]) n ss
theorem cl_possible_shifts (n : Nat) (ss : List SV) : callN (progOf ds) (n + 1) "possible_shifts" ss = callFn (callN (progOf ds) n) d_possible_shifts.fn ss := callN_of (d := d_possible_shifts) names_nd (by simp [ds]) n ss
theorem cl_barred_place (n : Nat) (ss : List SV) : callN (progOf ds) (n + 1) "barred_place" ss = callFn (callN (progOf ds) n) d_barred_place.fn ss := callN_of (d := d_barred_place) names_nd (by simp [ds]) n ss
theorem cl_seen_word (n : Nat) (ss : List SV) : callN (progOf ds) (n + 1) "seen_word" ss = callFn (callN (progOf ds) n) d_seen_word.fn ss := callN_of (d := d_seen_word) names_nd (by simp [ds]) n ss
theorem cl_some_drift (n : Nat) (ss : List SV) : callN (progOf ds) (n + 1) "some_drift" ss = callFn (callN (progOf ds) n) d_some_drift.fn ss := callN_of (d := d_some_drift) names_nd (by simp [ds]) n ss
theorem cl_is_drift (n : Nat) (ss : List SV) : callN (progOf ds) (n + 1) "is_drift" ss = callFn (callN (progOf ds) n) d_is_drift.fn ss := callN_of (d := d_is_drift) names_nd (by simp [ds]) n ss
theorem cl__law_cup (n : Nat) (ss : List SV) : callN (progOf ds) (n + 1) "_law_cup" ss = callFn (callN (progOf ds) n) d__law_cup.fn ss := callN_of (d := d__law_cup) names_nd (by simp [ds]) n ss
theorem cl__law_roll (n : Nat) (ss : List SV) : callN (progOf ds) (n + 1) "_law_roll" ss = callFn (callN (progOf ds) n) d__law_roll.fn ss := callN_of (d := d__law_roll) names_nd (by simp [ds]) n ss
theorem cl__law_words (n : Nat) (ss : List SV) : callN (progOf ds) (n + 1) "_law_words" ss = callFn (callN (progOf ds) n) d__law_words.fn ss := callN_of (d := d__law_words) names_nd (by simp [ds]) n ss
theorem cl_law (n : Nat) (ss : List SV) : callN (progOf ds) (n + 1) "law" ss = callFn (callN (progOf ds) n) d_law.fn ss := callN_of (d := d_law) names_nd (by simp [ds]) n ss
theorem ck : ∀ d ∈ ds, chkD (namesOf ds) cs es ws d = true := by
  rw [names_eq]
  intro d hd
  simp only [ds, List.mem_cons, List.not_mem_nil, or_false] at hd
  rcases hd with rfl | rfl | rfl | rfl | rfl | rfl | rfl | rfl | rfl | rfl | rfl | rfl | rfl | rfl | rfl | rfl | rfl | rfl | rfl | rfl | rfl | rfl | rfl | rfl | rfl | rfl | rfl | rfl | rfl | rfl | rfl | rfl | rfl | rfl | rfl | rfl | rfl | rfl | rfl | rfl | rfl | rfl | rfl | rfl
  · exact ck_is_whole
  · exact ck_fits_whole
  · exact ck_is_tuple_of
  · exact ck_is_rising
  · exact ck_fits_make
  · exact ck_fits_cuts
  · exact ck_fits_key
  · exact ck_fits_set
  · exact ck_fits_lock
  · exact ck_need_make
  · exact ck_need_key
  · exact ck_need_lock
  · exact ck_fits_wear
  · exact ck_fits_seen
  · exact ck_need_worn
  · exact ck_need_year
  · exact ck_need_seen
  · exact ck_sure_cuts
  · exact ck_sure_rows
  · exact ck_both_rows
  · exact ck_first_key
  · exact ck_does_fit
  · exact ck_last_from
  · exact ck_steps_on
  · exact ck_steps_back
  · exact ck_place_rows
  · exact ck_shift_rows
  · exact ck_last_year
  · exact ck_is_wear
  · exact ck_worn_word
  · exact ck_word_by
  · exact ck_sure_years
  · exact ck_longest_key
  · exact ck_key_row
  · exact ck_is_key_row
  · exact ck_possible_shifts
  · exact ck_barred_place
  · exact ck_seen_word
  · exact ck_some_drift
  · exact ck_is_drift
  · exact ck__law_cup
  · exact ck__law_roll
  · exact ck__law_words
  · exact ck_law
end K51

namespace K51
open PySem Q
def nth : Ss → Nat → S
  | .c s _, 0 => s
  | .c _ r, k + 1 => nth r k
  | .n, _ => .pass
def fIt : S → It
  | .for_ _ it _ => it
  | _ => .seq (.k .none)
def stepL (C : Call) (s : S) (x : D) (ρ : Rho) : Res Fl := match s with
  | .for_ tg _ b => optR (setTg tg x ρ) fun ρ => evSs C 1 b ρ
  | _ => .bad

theorem it_1 (a b : Int) (xs : List D) : evI (callN (progOf ds) 19) (fIt (nth b_law 1)) [some (.rl xs), some (.ml [.int a, .int b]), none, none, none, none, none, none, none, none, none, none, none, none] = .ok [.none, .tuple [], .tuple [.int 0, .int 3, .int 2], .tuple [.int 9, .int 3, .int 2], .tuple [.int 2, .int 1, .int 2], .tuple [.int 2, .int 11, .int 2], .tuple [.int 2, .int 3, .int 0], .tuple [.int 2, .int 3, .int 10], .list [.int 2, .int 3, .int 2], .tuple [.int 2, .int 3], .tuple [.bool true, .int 3, .int 2], .int 5] [some (.rl xs), some (.ml [.int a, .int b]), none, none, none, none, none, none, none, none, none, none, none, none] := by kernel_rfl
theorem tn_1_0 (a b : Int) (xs : List D) : stepL (callN (progOf ds) 19) (nth b_law 1) (.none) [some (.rl xs), some (.ml [.int a, .int b]), none, none, none, none, none, none, none, none, none, none, none, none] = .ok .nx [some (.rl xs), some (.ml [.int a, .int b]), some (.d (.none)), none, none, none, none, none, none, none, none, none, none, none] := by kernel_rfl
theorem tn_1_1 (a b : Int) (xs : List D) : stepL (callN (progOf ds) 19) (nth b_law 1) (.tuple []) [some (.rl xs), some (.ml [.int a, .int b]), some (.d (.none)), none, none, none, none, none, none, none, none, none, none, none] = .ok .nx [some (.rl xs), some (.ml [.int a, .int b]), some (.d (.tuple [])), none, none, none, none, none, none, none, none, none, none, none] := by kernel_rfl
theorem tn_1_2 (a b : Int) (xs : List D) : stepL (callN (progOf ds) 19) (nth b_law 1) (.tuple [.int 0, .int 3, .int 2]) [some (.rl xs), some (.ml [.int a, .int b]), some (.d (.tuple [])), none, none, none, none, none, none, none, none, none, none, none] = .ok .nx [some (.rl xs), some (.ml [.int a, .int b]), some (.d (.tuple [.int 0, .int 3, .int 2])), none, none, none, none, none, none, none, none, none, none, none] := by kernel_rfl
theorem tn_1_3 (a b : Int) (xs : List D) : stepL (callN (progOf ds) 19) (nth b_law 1) (.tuple [.int 9, .int 3, .int 2]) [some (.rl xs), some (.ml [.int a, .int b]), some (.d (.tuple [.int 0, .int 3, .int 2])), none, none, none, none, none, none, none, none, none, none, none] = .ok .nx [some (.rl xs), some (.ml [.int a, .int b]), some (.d (.tuple [.int 9, .int 3, .int 2])), none, none, none, none, none, none, none, none, none, none, none] := by kernel_rfl
theorem tn_1_4 (a b : Int) (xs : List D) : stepL (callN (progOf ds) 19) (nth b_law 1) (.tuple [.int 2, .int 1, .int 2]) [some (.rl xs), some (.ml [.int a, .int b]), some (.d (.tuple [.int 9, .int 3, .int 2])), none, none, none, none, none, none, none, none, none, none, none] = .ok .nx [some (.rl xs), some (.ml [.int a, .int b]), some (.d (.tuple [.int 2, .int 1, .int 2])), none, none, none, none, none, none, none, none, none, none, none] := by kernel_rfl
theorem tn_1_5 (a b : Int) (xs : List D) : stepL (callN (progOf ds) 19) (nth b_law 1) (.tuple [.int 2, .int 11, .int 2]) [some (.rl xs), some (.ml [.int a, .int b]), some (.d (.tuple [.int 2, .int 1, .int 2])), none, none, none, none, none, none, none, none, none, none, none] = .ok .nx [some (.rl xs), some (.ml [.int a, .int b]), some (.d (.tuple [.int 2, .int 11, .int 2])), none, none, none, none, none, none, none, none, none, none, none] := by kernel_rfl
theorem tn_1_6 (a b : Int) (xs : List D) : stepL (callN (progOf ds) 19) (nth b_law 1) (.tuple [.int 2, .int 3, .int 0]) [some (.rl xs), some (.ml [.int a, .int b]), some (.d (.tuple [.int 2, .int 11, .int 2])), none, none, none, none, none, none, none, none, none, none, none] = .ok .nx [some (.rl xs), some (.ml [.int a, .int b]), some (.d (.tuple [.int 2, .int 3, .int 0])), none, none, none, none, none, none, none, none, none, none, none] := by kernel_rfl
theorem tn_1_7 (a b : Int) (xs : List D) : stepL (callN (progOf ds) 19) (nth b_law 1) (.tuple [.int 2, .int 3, .int 10]) [some (.rl xs), some (.ml [.int a, .int b]), some (.d (.tuple [.int 2, .int 3, .int 0])), none, none, none, none, none, none, none, none, none, none, none] = .ok .nx [some (.rl xs), some (.ml [.int a, .int b]), some (.d (.tuple [.int 2, .int 3, .int 10])), none, none, none, none, none, none, none, none, none, none, none] := by kernel_rfl
theorem tn_1_8 (a b : Int) (xs : List D) : stepL (callN (progOf ds) 19) (nth b_law 1) (.list [.int 2, .int 3, .int 2]) [some (.rl xs), some (.ml [.int a, .int b]), some (.d (.tuple [.int 2, .int 3, .int 10])), none, none, none, none, none, none, none, none, none, none, none] = .ok .nx [some (.rl xs), some (.ml [.int a, .int b]), some (.d (.list [.int 2, .int 3, .int 2])), none, none, none, none, none, none, none, none, none, none, none] := by kernel_rfl
theorem tn_1_9 (a b : Int) (xs : List D) : stepL (callN (progOf ds) 19) (nth b_law 1) (.tuple [.int 2, .int 3]) [some (.rl xs), some (.ml [.int a, .int b]), some (.d (.list [.int 2, .int 3, .int 2])), none, none, none, none, none, none, none, none, none, none, none] = .ok .nx [some (.rl xs), some (.ml [.int a, .int b]), some (.d (.tuple [.int 2, .int 3])), none, none, none, none, none, none, none, none, none, none, none] := by kernel_rfl
theorem tn_1_10 (a b : Int) (xs : List D) : stepL (callN (progOf ds) 19) (nth b_law 1) (.tuple [.bool true, .int 3, .int 2]) [some (.rl xs), some (.ml [.int a, .int b]), some (.d (.tuple [.int 2, .int 3])), none, none, none, none, none, none, none, none, none, none, none] = .ok .nx [some (.rl xs), some (.ml [.int a, .int b]), some (.d (.tuple [.bool true, .int 3, .int 2])), none, none, none, none, none, none, none, none, none, none, none] := by kernel_rfl
theorem tn_1_11 (a b : Int) (xs : List D) : stepL (callN (progOf ds) 19) (nth b_law 1) (.int 5) [some (.rl xs), some (.ml [.int a, .int b]), some (.d (.tuple [.bool true, .int 3, .int 2])), none, none, none, none, none, none, none, none, none, none, none] = .ok .nx [some (.rl xs), some (.ml [.int a, .int b]), some (.d (.int 5)), none, none, none, none, none, none, none, none, none, none, none] := by kernel_rfl
theorem st_2 (a b : Int) (xs : List D) : evS (callN (progOf ds) 19) 1 (nth b_law 2) [some (.rl xs), some (.ml [.int a, .int b]), some (.d (.int 5)), none, none, none, none, none, none, none, none, none, none, none] = .ok .nx [some (.rl xs), some (.ml [.int a, .int b]), some (.d (.int 5)), some (.d (.tuple [.int 2, .int 4, .int 1])), some (.d (.tuple [.tuple [.int 0, .int 1], .tuple [.int 2]])), some (.d (.tuple [.tuple [.int 0, .int 1], .tuple [.int (-1), .int 0]])), some (.d (.tuple [.int 1, .int 2])), none, none, none, none, none, none, none] := by kernel_rfl
theorem it_3 (a b : Int) (xs : List D) : evI (callN (progOf ds) 19) (fIt (nth b_law 3)) [some (.rl xs), some (.ml [.int a, .int b]), some (.d (.int 5)), some (.d (.tuple [.int 2, .int 4, .int 1])), some (.d (.tuple [.tuple [.int 0, .int 1], .tuple [.int 2]])), some (.d (.tuple [.tuple [.int 0, .int 1], .tuple [.int (-1), .int 0]])), some (.d (.tuple [.int 1, .int 2])), none, none, none, none, none, none, none] = .ok [.none, .tuple [], .tuple [.tuple [.int 0, .int 1]], .tuple [.tuple [], .tuple [.int 2]], .tuple [.tuple [.int 1, .int 0], .tuple [.int 2]], .tuple [.tuple [.int 0, .int 1], .tuple [.int 4]], .list [.tuple [.int 0, .int 1], .tuple [.int 2]], .tuple [.tuple [.int 0, .int 1], .tuple [.int 2], .tuple [.int 0, .int 1], .tuple [.int 2]], .int 5] [some (.rl xs), some (.ml [.int a, .int b]), some (.d (.int 5)), some (.d (.tuple [.int 2, .int 4, .int 1])), some (.d (.tuple [.tuple [.int 0, .int 1], .tuple [.int 2]])), some (.d (.tuple [.tuple [.int 0, .int 1], .tuple [.int (-1), .int 0]])), some (.d (.tuple [.int 1, .int 2])), none, none, none, none, none, none, none] := by kernel_rfl
theorem tn_3_0 (a b : Int) (xs : List D) : stepL (callN (progOf ds) 19) (nth b_law 3) (.none) [some (.rl xs), some (.ml [.int a, .int b]), some (.d (.int 5)), some (.d (.tuple [.int 2, .int 4, .int 1])), some (.d (.tuple [.tuple [.int 0, .int 1], .tuple [.int 2]])), some (.d (.tuple [.tuple [.int 0, .int 1], .tuple [.int (-1), .int 0]])), some (.d (.tuple [.int 1, .int 2])), none, none, none, none, none, none, none] = .ok .nx [some (.rl xs), some (.ml [.int a, .int b]), some (.d (.none)), some (.d (.tuple [.int 2, .int 4, .int 1])), some (.d (.tuple [.tuple [.int 0, .int 1], .tuple [.int 2]])), some (.d (.tuple [.tuple [.int 0, .int 1], .tuple [.int (-1), .int 0]])), some (.d (.tuple [.int 1, .int 2])), none, none, none, none, none, none, none] := by kernel_rfl
theorem tn_3_1 (a b : Int) (xs : List D) : stepL (callN (progOf ds) 19) (nth b_law 3) (.tuple []) [some (.rl xs), some (.ml [.int a, .int b]), some (.d (.none)), some (.d (.tuple [.int 2, .int 4, .int 1])), some (.d (.tuple [.tuple [.int 0, .int 1], .tuple [.int 2]])), some (.d (.tuple [.tuple [.int 0, .int 1], .tuple [.int (-1), .int 0]])), some (.d (.tuple [.int 1, .int 2])), none, none, none, none, none, none, none] = .ok .nx [some (.rl xs), some (.ml [.int a, .int b]), some (.d (.tuple [])), some (.d (.tuple [.int 2, .int 4, .int 1])), some (.d (.tuple [.tuple [.int 0, .int 1], .tuple [.int 2]])), some (.d (.tuple [.tuple [.int 0, .int 1], .tuple [.int (-1), .int 0]])), some (.d (.tuple [.int 1, .int 2])), none, none, none, none, none, none, none] := by kernel_rfl
theorem tn_3_2 (a b : Int) (xs : List D) : stepL (callN (progOf ds) 19) (nth b_law 3) (.tuple [.tuple [.int 0, .int 1]]) [some (.rl xs), some (.ml [.int a, .int b]), some (.d (.tuple [])), some (.d (.tuple [.int 2, .int 4, .int 1])), some (.d (.tuple [.tuple [.int 0, .int 1], .tuple [.int 2]])), some (.d (.tuple [.tuple [.int 0, .int 1], .tuple [.int (-1), .int 0]])), some (.d (.tuple [.int 1, .int 2])), none, none, none, none, none, none, none] = .ok .nx [some (.rl xs), some (.ml [.int a, .int b]), some (.d (.tuple [.tuple [.int 0, .int 1]])), some (.d (.tuple [.int 2, .int 4, .int 1])), some (.d (.tuple [.tuple [.int 0, .int 1], .tuple [.int 2]])), some (.d (.tuple [.tuple [.int 0, .int 1], .tuple [.int (-1), .int 0]])), some (.d (.tuple [.int 1, .int 2])), none, none, none, none, none, none, none] := by kernel_rfl
theorem tn_3_3 (a b : Int) (xs : List D) : stepL (callN (progOf ds) 19) (nth b_law 3) (.tuple [.tuple [], .tuple [.int 2]]) [some (.rl xs), some (.ml [.int a, .int b]), some (.d (.tuple [.tuple [.int 0, .int 1]])), some (.d (.tuple [.int 2, .int 4, .int 1])), some (.d (.tuple [.tuple [.int 0, .int 1], .tuple [.int 2]])), some (.d (.tuple [.tuple [.int 0, .int 1], .tuple [.int (-1), .int 0]])), some (.d (.tuple [.int 1, .int 2])), none, none, none, none, none, none, none] = .ok .nx [some (.rl xs), some (.ml [.int a, .int b]), some (.d (.tuple [.tuple [], .tuple [.int 2]])), some (.d (.tuple [.int 2, .int 4, .int 1])), some (.d (.tuple [.tuple [.int 0, .int 1], .tuple [.int 2]])), some (.d (.tuple [.tuple [.int 0, .int 1], .tuple [.int (-1), .int 0]])), some (.d (.tuple [.int 1, .int 2])), none, none, none, none, none, none, none] := by kernel_rfl
theorem tn_3_4 (a b : Int) (xs : List D) : stepL (callN (progOf ds) 19) (nth b_law 3) (.tuple [.tuple [.int 1, .int 0], .tuple [.int 2]]) [some (.rl xs), some (.ml [.int a, .int b]), some (.d (.tuple [.tuple [], .tuple [.int 2]])), some (.d (.tuple [.int 2, .int 4, .int 1])), some (.d (.tuple [.tuple [.int 0, .int 1], .tuple [.int 2]])), some (.d (.tuple [.tuple [.int 0, .int 1], .tuple [.int (-1), .int 0]])), some (.d (.tuple [.int 1, .int 2])), none, none, none, none, none, none, none] = .ok .nx [some (.rl xs), some (.ml [.int a, .int b]), some (.d (.tuple [.tuple [.int 1, .int 0], .tuple [.int 2]])), some (.d (.tuple [.int 2, .int 4, .int 1])), some (.d (.tuple [.tuple [.int 0, .int 1], .tuple [.int 2]])), some (.d (.tuple [.tuple [.int 0, .int 1], .tuple [.int (-1), .int 0]])), some (.d (.tuple [.int 1, .int 2])), none, none, none, none, none, none, none] := by kernel_rfl
theorem tn_3_5 (a b : Int) (xs : List D) : stepL (callN (progOf ds) 19) (nth b_law 3) (.tuple [.tuple [.int 0, .int 1], .tuple [.int 4]]) [some (.rl xs), some (.ml [.int a, .int b]), some (.d (.tuple [.tuple [.int 1, .int 0], .tuple [.int 2]])), some (.d (.tuple [.int 2, .int 4, .int 1])), some (.d (.tuple [.tuple [.int 0, .int 1], .tuple [.int 2]])), some (.d (.tuple [.tuple [.int 0, .int 1], .tuple [.int (-1), .int 0]])), some (.d (.tuple [.int 1, .int 2])), none, none, none, none, none, none, none] = .ok .nx [some (.rl xs), some (.ml [.int a, .int b]), some (.d (.tuple [.tuple [.int 0, .int 1], .tuple [.int 4]])), some (.d (.tuple [.int 2, .int 4, .int 1])), some (.d (.tuple [.tuple [.int 0, .int 1], .tuple [.int 2]])), some (.d (.tuple [.tuple [.int 0, .int 1], .tuple [.int (-1), .int 0]])), some (.d (.tuple [.int 1, .int 2])), none, none, none, none, none, none, none] := by kernel_rfl
theorem tn_3_6 (a b : Int) (xs : List D) : stepL (callN (progOf ds) 19) (nth b_law 3) (.list [.tuple [.int 0, .int 1], .tuple [.int 2]]) [some (.rl xs), some (.ml [.int a, .int b]), some (.d (.tuple [.tuple [.int 0, .int 1], .tuple [.int 4]])), some (.d (.tuple [.int 2, .int 4, .int 1])), some (.d (.tuple [.tuple [.int 0, .int 1], .tuple [.int 2]])), some (.d (.tuple [.tuple [.int 0, .int 1], .tuple [.int (-1), .int 0]])), some (.d (.tuple [.int 1, .int 2])), none, none, none, none, none, none, none] = .ok .nx [some (.rl xs), some (.ml [.int a, .int b]), some (.d (.list [.tuple [.int 0, .int 1], .tuple [.int 2]])), some (.d (.tuple [.int 2, .int 4, .int 1])), some (.d (.tuple [.tuple [.int 0, .int 1], .tuple [.int 2]])), some (.d (.tuple [.tuple [.int 0, .int 1], .tuple [.int (-1), .int 0]])), some (.d (.tuple [.int 1, .int 2])), none, none, none, none, none, none, none] := by kernel_rfl
theorem tn_3_7 (a b : Int) (xs : List D) : stepL (callN (progOf ds) 19) (nth b_law 3) (.tuple [.tuple [.int 0, .int 1], .tuple [.int 2], .tuple [.int 0, .int 1], .tuple [.int 2]]) [some (.rl xs), some (.ml [.int a, .int b]), some (.d (.list [.tuple [.int 0, .int 1], .tuple [.int 2]])), some (.d (.tuple [.int 2, .int 4, .int 1])), some (.d (.tuple [.tuple [.int 0, .int 1], .tuple [.int 2]])), some (.d (.tuple [.tuple [.int 0, .int 1], .tuple [.int (-1), .int 0]])), some (.d (.tuple [.int 1, .int 2])), none, none, none, none, none, none, none] = .ok .nx [some (.rl xs), some (.ml [.int a, .int b]), some (.d (.tuple [.tuple [.int 0, .int 1], .tuple [.int 2], .tuple [.int 0, .int 1], .tuple [.int 2]])), some (.d (.tuple [.int 2, .int 4, .int 1])), some (.d (.tuple [.tuple [.int 0, .int 1], .tuple [.int 2]])), some (.d (.tuple [.tuple [.int 0, .int 1], .tuple [.int (-1), .int 0]])), some (.d (.tuple [.int 1, .int 2])), none, none, none, none, none, none, none] := by kernel_rfl
theorem tn_3_8 (a b : Int) (xs : List D) : stepL (callN (progOf ds) 19) (nth b_law 3) (.int 5) [some (.rl xs), some (.ml [.int a, .int b]), some (.d (.tuple [.tuple [.int 0, .int 1], .tuple [.int 2], .tuple [.int 0, .int 1], .tuple [.int 2]])), some (.d (.tuple [.int 2, .int 4, .int 1])), some (.d (.tuple [.tuple [.int 0, .int 1], .tuple [.int 2]])), some (.d (.tuple [.tuple [.int 0, .int 1], .tuple [.int (-1), .int 0]])), some (.d (.tuple [.int 1, .int 2])), none, none, none, none, none, none, none] = .ok .nx [some (.rl xs), some (.ml [.int a, .int b]), some (.d (.int 5)), some (.d (.tuple [.int 2, .int 4, .int 1])), some (.d (.tuple [.tuple [.int 0, .int 1], .tuple [.int 2]])), some (.d (.tuple [.tuple [.int 0, .int 1], .tuple [.int (-1), .int 0]])), some (.d (.tuple [.int 1, .int 2])), none, none, none, none, none, none, none] := by kernel_rfl
theorem st_4 (a b : Int) (xs : List D) : evS (callN (progOf ds) 19) 1 (nth b_law 4) [some (.rl xs), some (.ml [.int a, .int b]), some (.d (.int 5)), some (.d (.tuple [.int 2, .int 4, .int 1])), some (.d (.tuple [.tuple [.int 0, .int 1], .tuple [.int 2]])), some (.d (.tuple [.tuple [.int 0, .int 1], .tuple [.int (-1), .int 0]])), some (.d (.tuple [.int 1, .int 2])), none, none, none, none, none, none, none] = .ok .nx [some (.rl xs), some (.ml [.int a, .int b]), some (.d (.int 5)), some (.d (.tuple [.int 2, .int 4, .int 1])), some (.d (.tuple [.tuple [.int 0, .int 1], .tuple [.int 2]])), some (.d (.tuple [.tuple [.int 0, .int 1], .tuple [.int (-1), .int 0]])), some (.d (.tuple [.int 1, .int 2])), some (.ml [.none, .tuple [], .tuple [.tuple [.int 0, .int 1]], .tuple [.tuple [.int 0, .int 1], .tuple [.int (-1), .int 0], .tuple [.int 0, .int 1], .tuple [.int (-1), .int 0]], .list [.tuple [.int 0, .int 1], .tuple [.int (-1), .int 0]], .tuple [.tuple [.int 1, .int 0], .tuple [.int 0, .int 0]], .tuple [.tuple [.int 0, .int 4], .tuple [.int 0, .int 0]], .tuple [.tuple [.int (-4), .int 0], .tuple [.int 0, .int 0]], .tuple [.tuple [.int 0], .tuple [.int 0, .int 0]]]), none, none, none, none, none, none] := by kernel_rfl
theorem st_5 (a b : Int) (xs : List D) : evS (callN (progOf ds) 19) 1 (nth b_law 5) [some (.rl xs), some (.ml [.int a, .int b]), some (.d (.int 5)), some (.d (.tuple [.int 2, .int 4, .int 1])), some (.d (.tuple [.tuple [.int 0, .int 1], .tuple [.int 2]])), some (.d (.tuple [.tuple [.int 0, .int 1], .tuple [.int (-1), .int 0]])), some (.d (.tuple [.int 1, .int 2])), some (.ml [.none, .tuple [], .tuple [.tuple [.int 0, .int 1]], .tuple [.tuple [.int 0, .int 1], .tuple [.int (-1), .int 0], .tuple [.int 0, .int 1], .tuple [.int (-1), .int 0]], .list [.tuple [.int 0, .int 1], .tuple [.int (-1), .int 0]], .tuple [.tuple [.int 1, .int 0], .tuple [.int 0, .int 0]], .tuple [.tuple [.int 0, .int 4], .tuple [.int 0, .int 0]], .tuple [.tuple [.int (-4), .int 0], .tuple [.int 0, .int 0]], .tuple [.tuple [.int 0], .tuple [.int 0, .int 0]]]), none, none, none, none, none, none] = .ok .nx [some (.rl xs), some (.ml [.int a, .int b]), some (.d (.int 5)), some (.d (.tuple [.int 2, .int 4, .int 1])), some (.d (.tuple [.tuple [.int 0, .int 1], .tuple [.int 2]])), some (.d (.tuple [.tuple [.int 0, .int 1], .tuple [.int (-1), .int 0]])), some (.d (.tuple [.int 1, .int 2])), some (.ml [.none, .tuple [], .tuple [.tuple [.int 0, .int 1]], .tuple [.tuple [.int 0, .int 1], .tuple [.int (-1), .int 0], .tuple [.int 0, .int 1], .tuple [.int (-1), .int 0]], .list [.tuple [.int 0, .int 1], .tuple [.int (-1), .int 0]], .tuple [.tuple [.int 1, .int 0], .tuple [.int 0, .int 0]], .tuple [.tuple [.int 0, .int 4], .tuple [.int 0, .int 0]], .tuple [.tuple [.int (-4), .int 0], .tuple [.int 0, .int 0]], .tuple [.tuple [.int 0], .tuple [.int 0, .int 0]], .tuple [.tuple [.int 0, .bool true], .tuple [.int 0, .int 0]]]), none, none, none, none, none, none] := by kernel_rfl
theorem it_6 (a b : Int) (xs : List D) : evI (callN (progOf ds) 19) (fIt (nth b_law 6)) [some (.rl xs), some (.ml [.int a, .int b]), some (.d (.int 5)), some (.d (.tuple [.int 2, .int 4, .int 1])), some (.d (.tuple [.tuple [.int 0, .int 1], .tuple [.int 2]])), some (.d (.tuple [.tuple [.int 0, .int 1], .tuple [.int (-1), .int 0]])), some (.d (.tuple [.int 1, .int 2])), some (.ml [.none, .tuple [], .tuple [.tuple [.int 0, .int 1]], .tuple [.tuple [.int 0, .int 1], .tuple [.int (-1), .int 0], .tuple [.int 0, .int 1], .tuple [.int (-1), .int 0]], .list [.tuple [.int 0, .int 1], .tuple [.int (-1), .int 0]], .tuple [.tuple [.int 1, .int 0], .tuple [.int 0, .int 0]], .tuple [.tuple [.int 0, .int 4], .tuple [.int 0, .int 0]], .tuple [.tuple [.int (-4), .int 0], .tuple [.int 0, .int 0]], .tuple [.tuple [.int 0], .tuple [.int 0, .int 0]], .tuple [.tuple [.int 0, .bool true], .tuple [.int 0, .int 0]]]), none, none, none, none, none, none] = .ok [.none, .tuple [], .tuple [.tuple [.int 0, .int 1]], .tuple [.tuple [.int 0, .int 1], .tuple [.int (-1), .int 0], .tuple [.int 0, .int 1], .tuple [.int (-1), .int 0]], .list [.tuple [.int 0, .int 1], .tuple [.int (-1), .int 0]], .tuple [.tuple [.int 1, .int 0], .tuple [.int 0, .int 0]], .tuple [.tuple [.int 0, .int 4], .tuple [.int 0, .int 0]], .tuple [.tuple [.int (-4), .int 0], .tuple [.int 0, .int 0]], .tuple [.tuple [.int 0], .tuple [.int 0, .int 0]], .tuple [.tuple [.int 0, .bool true], .tuple [.int 0, .int 0]], .tuple [.tuple [.int 0, .int 1, .int 2], .tuple [.int 0, .int 0]], .tuple [.list [.int 0, .int 1], .tuple [.int 0, .int 0]], .tuple [.tuple [.none, .int 0], .tuple [.int 0, .int 0]], .tuple [.int 0, .int 0], .str "wear"] [some (.rl xs), some (.ml [.int a, .int b]), some (.d (.int 5)), some (.d (.tuple [.int 2, .int 4, .int 1])), some (.d (.tuple [.tuple [.int 0, .int 1], .tuple [.int 2]])), some (.d (.tuple [.tuple [.int 0, .int 1], .tuple [.int (-1), .int 0]])), some (.d (.tuple [.int 1, .int 2])), some (.ml [.none, .tuple [], .tuple [.tuple [.int 0, .int 1]], .tuple [.tuple [.int 0, .int 1], .tuple [.int (-1), .int 0], .tuple [.int 0, .int 1], .tuple [.int (-1), .int 0]], .list [.tuple [.int 0, .int 1], .tuple [.int (-1), .int 0]], .tuple [.tuple [.int 1, .int 0], .tuple [.int 0, .int 0]], .tuple [.tuple [.int 0, .int 4], .tuple [.int 0, .int 0]], .tuple [.tuple [.int (-4), .int 0], .tuple [.int 0, .int 0]], .tuple [.tuple [.int 0], .tuple [.int 0, .int 0]], .tuple [.tuple [.int 0, .bool true], .tuple [.int 0, .int 0]]]), none, none, none, none, none, none] := by kernel_rfl
theorem tn_6_0 (a b : Int) (xs : List D) : stepL (callN (progOf ds) 19) (nth b_law 6) (.none) [some (.rl xs), some (.ml [.int a, .int b]), some (.d (.int 5)), some (.d (.tuple [.int 2, .int 4, .int 1])), some (.d (.tuple [.tuple [.int 0, .int 1], .tuple [.int 2]])), some (.d (.tuple [.tuple [.int 0, .int 1], .tuple [.int (-1), .int 0]])), some (.d (.tuple [.int 1, .int 2])), some (.ml [.none, .tuple [], .tuple [.tuple [.int 0, .int 1]], .tuple [.tuple [.int 0, .int 1], .tuple [.int (-1), .int 0], .tuple [.int 0, .int 1], .tuple [.int (-1), .int 0]], .list [.tuple [.int 0, .int 1], .tuple [.int (-1), .int 0]], .tuple [.tuple [.int 1, .int 0], .tuple [.int 0, .int 0]], .tuple [.tuple [.int 0, .int 4], .tuple [.int 0, .int 0]], .tuple [.tuple [.int (-4), .int 0], .tuple [.int 0, .int 0]], .tuple [.tuple [.int 0], .tuple [.int 0, .int 0]], .tuple [.tuple [.int 0, .bool true], .tuple [.int 0, .int 0]]]), none, none, none, none, none, none] = .ok .nx [some (.rl xs), some (.ml [.int a, .int b]), some (.d (.none)), some (.d (.tuple [.int 2, .int 4, .int 1])), some (.d (.tuple [.tuple [.int 0, .int 1], .tuple [.int 2]])), some (.d (.tuple [.tuple [.int 0, .int 1], .tuple [.int (-1), .int 0]])), some (.d (.tuple [.int 1, .int 2])), some (.ml [.none, .tuple [], .tuple [.tuple [.int 0, .int 1]], .tuple [.tuple [.int 0, .int 1], .tuple [.int (-1), .int 0], .tuple [.int 0, .int 1], .tuple [.int (-1), .int 0]], .list [.tuple [.int 0, .int 1], .tuple [.int (-1), .int 0]], .tuple [.tuple [.int 1, .int 0], .tuple [.int 0, .int 0]], .tuple [.tuple [.int 0, .int 4], .tuple [.int 0, .int 0]], .tuple [.tuple [.int (-4), .int 0], .tuple [.int 0, .int 0]], .tuple [.tuple [.int 0], .tuple [.int 0, .int 0]], .tuple [.tuple [.int 0, .bool true], .tuple [.int 0, .int 0]]]), none, none, none, none, none, none] := by kernel_rfl
theorem tn_6_1 (a b : Int) (xs : List D) : stepL (callN (progOf ds) 19) (nth b_law 6) (.tuple []) [some (.rl xs), some (.ml [.int a, .int b]), some (.d (.none)), some (.d (.tuple [.int 2, .int 4, .int 1])), some (.d (.tuple [.tuple [.int 0, .int 1], .tuple [.int 2]])), some (.d (.tuple [.tuple [.int 0, .int 1], .tuple [.int (-1), .int 0]])), some (.d (.tuple [.int 1, .int 2])), some (.ml [.none, .tuple [], .tuple [.tuple [.int 0, .int 1]], .tuple [.tuple [.int 0, .int 1], .tuple [.int (-1), .int 0], .tuple [.int 0, .int 1], .tuple [.int (-1), .int 0]], .list [.tuple [.int 0, .int 1], .tuple [.int (-1), .int 0]], .tuple [.tuple [.int 1, .int 0], .tuple [.int 0, .int 0]], .tuple [.tuple [.int 0, .int 4], .tuple [.int 0, .int 0]], .tuple [.tuple [.int (-4), .int 0], .tuple [.int 0, .int 0]], .tuple [.tuple [.int 0], .tuple [.int 0, .int 0]], .tuple [.tuple [.int 0, .bool true], .tuple [.int 0, .int 0]]]), none, none, none, none, none, none] = .ok .nx [some (.rl xs), some (.ml [.int a, .int b]), some (.d (.tuple [])), some (.d (.tuple [.int 2, .int 4, .int 1])), some (.d (.tuple [.tuple [.int 0, .int 1], .tuple [.int 2]])), some (.d (.tuple [.tuple [.int 0, .int 1], .tuple [.int (-1), .int 0]])), some (.d (.tuple [.int 1, .int 2])), some (.ml [.none, .tuple [], .tuple [.tuple [.int 0, .int 1]], .tuple [.tuple [.int 0, .int 1], .tuple [.int (-1), .int 0], .tuple [.int 0, .int 1], .tuple [.int (-1), .int 0]], .list [.tuple [.int 0, .int 1], .tuple [.int (-1), .int 0]], .tuple [.tuple [.int 1, .int 0], .tuple [.int 0, .int 0]], .tuple [.tuple [.int 0, .int 4], .tuple [.int 0, .int 0]], .tuple [.tuple [.int (-4), .int 0], .tuple [.int 0, .int 0]], .tuple [.tuple [.int 0], .tuple [.int 0, .int 0]], .tuple [.tuple [.int 0, .bool true], .tuple [.int 0, .int 0]]]), none, none, none, none, none, none] := by kernel_rfl
theorem tn_6_2 (a b : Int) (xs : List D) : stepL (callN (progOf ds) 19) (nth b_law 6) (.tuple [.tuple [.int 0, .int 1]]) [some (.rl xs), some (.ml [.int a, .int b]), some (.d (.tuple [])), some (.d (.tuple [.int 2, .int 4, .int 1])), some (.d (.tuple [.tuple [.int 0, .int 1], .tuple [.int 2]])), some (.d (.tuple [.tuple [.int 0, .int 1], .tuple [.int (-1), .int 0]])), some (.d (.tuple [.int 1, .int 2])), some (.ml [.none, .tuple [], .tuple [.tuple [.int 0, .int 1]], .tuple [.tuple [.int 0, .int 1], .tuple [.int (-1), .int 0], .tuple [.int 0, .int 1], .tuple [.int (-1), .int 0]], .list [.tuple [.int 0, .int 1], .tuple [.int (-1), .int 0]], .tuple [.tuple [.int 1, .int 0], .tuple [.int 0, .int 0]], .tuple [.tuple [.int 0, .int 4], .tuple [.int 0, .int 0]], .tuple [.tuple [.int (-4), .int 0], .tuple [.int 0, .int 0]], .tuple [.tuple [.int 0], .tuple [.int 0, .int 0]], .tuple [.tuple [.int 0, .bool true], .tuple [.int 0, .int 0]]]), none, none, none, none, none, none] = .ok .nx [some (.rl xs), some (.ml [.int a, .int b]), some (.d (.tuple [.tuple [.int 0, .int 1]])), some (.d (.tuple [.int 2, .int 4, .int 1])), some (.d (.tuple [.tuple [.int 0, .int 1], .tuple [.int 2]])), some (.d (.tuple [.tuple [.int 0, .int 1], .tuple [.int (-1), .int 0]])), some (.d (.tuple [.int 1, .int 2])), some (.ml [.none, .tuple [], .tuple [.tuple [.int 0, .int 1]], .tuple [.tuple [.int 0, .int 1], .tuple [.int (-1), .int 0], .tuple [.int 0, .int 1], .tuple [.int (-1), .int 0]], .list [.tuple [.int 0, .int 1], .tuple [.int (-1), .int 0]], .tuple [.tuple [.int 1, .int 0], .tuple [.int 0, .int 0]], .tuple [.tuple [.int 0, .int 4], .tuple [.int 0, .int 0]], .tuple [.tuple [.int (-4), .int 0], .tuple [.int 0, .int 0]], .tuple [.tuple [.int 0], .tuple [.int 0, .int 0]], .tuple [.tuple [.int 0, .bool true], .tuple [.int 0, .int 0]]]), none, none, none, none, none, none] := by kernel_rfl
theorem tn_6_3 (a b : Int) (xs : List D) : stepL (callN (progOf ds) 19) (nth b_law 6) (.tuple [.tuple [.int 0, .int 1], .tuple [.int (-1), .int 0], .tuple [.int 0, .int 1], .tuple [.int (-1), .int 0]]) [some (.rl xs), some (.ml [.int a, .int b]), some (.d (.tuple [.tuple [.int 0, .int 1]])), some (.d (.tuple [.int 2, .int 4, .int 1])), some (.d (.tuple [.tuple [.int 0, .int 1], .tuple [.int 2]])), some (.d (.tuple [.tuple [.int 0, .int 1], .tuple [.int (-1), .int 0]])), some (.d (.tuple [.int 1, .int 2])), some (.ml [.none, .tuple [], .tuple [.tuple [.int 0, .int 1]], .tuple [.tuple [.int 0, .int 1], .tuple [.int (-1), .int 0], .tuple [.int 0, .int 1], .tuple [.int (-1), .int 0]], .list [.tuple [.int 0, .int 1], .tuple [.int (-1), .int 0]], .tuple [.tuple [.int 1, .int 0], .tuple [.int 0, .int 0]], .tuple [.tuple [.int 0, .int 4], .tuple [.int 0, .int 0]], .tuple [.tuple [.int (-4), .int 0], .tuple [.int 0, .int 0]], .tuple [.tuple [.int 0], .tuple [.int 0, .int 0]], .tuple [.tuple [.int 0, .bool true], .tuple [.int 0, .int 0]]]), none, none, none, none, none, none] = .ok .nx [some (.rl xs), some (.ml [.int a, .int b]), some (.d (.tuple [.tuple [.int 0, .int 1], .tuple [.int (-1), .int 0], .tuple [.int 0, .int 1], .tuple [.int (-1), .int 0]])), some (.d (.tuple [.int 2, .int 4, .int 1])), some (.d (.tuple [.tuple [.int 0, .int 1], .tuple [.int 2]])), some (.d (.tuple [.tuple [.int 0, .int 1], .tuple [.int (-1), .int 0]])), some (.d (.tuple [.int 1, .int 2])), some (.ml [.none, .tuple [], .tuple [.tuple [.int 0, .int 1]], .tuple [.tuple [.int 0, .int 1], .tuple [.int (-1), .int 0], .tuple [.int 0, .int 1], .tuple [.int (-1), .int 0]], .list [.tuple [.int 0, .int 1], .tuple [.int (-1), .int 0]], .tuple [.tuple [.int 1, .int 0], .tuple [.int 0, .int 0]], .tuple [.tuple [.int 0, .int 4], .tuple [.int 0, .int 0]], .tuple [.tuple [.int (-4), .int 0], .tuple [.int 0, .int 0]], .tuple [.tuple [.int 0], .tuple [.int 0, .int 0]], .tuple [.tuple [.int 0, .bool true], .tuple [.int 0, .int 0]]]), none, none, none, none, none, none] := by kernel_rfl
theorem tn_6_4 (a b : Int) (xs : List D) : stepL (callN (progOf ds) 19) (nth b_law 6) (.list [.tuple [.int 0, .int 1], .tuple [.int (-1), .int 0]]) [some (.rl xs), some (.ml [.int a, .int b]), some (.d (.tuple [.tuple [.int 0, .int 1], .tuple [.int (-1), .int 0], .tuple [.int 0, .int 1], .tuple [.int (-1), .int 0]])), some (.d (.tuple [.int 2, .int 4, .int 1])), some (.d (.tuple [.tuple [.int 0, .int 1], .tuple [.int 2]])), some (.d (.tuple [.tuple [.int 0, .int 1], .tuple [.int (-1), .int 0]])), some (.d (.tuple [.int 1, .int 2])), some (.ml [.none, .tuple [], .tuple [.tuple [.int 0, .int 1]], .tuple [.tuple [.int 0, .int 1], .tuple [.int (-1), .int 0], .tuple [.int 0, .int 1], .tuple [.int (-1), .int 0]], .list [.tuple [.int 0, .int 1], .tuple [.int (-1), .int 0]], .tuple [.tuple [.int 1, .int 0], .tuple [.int 0, .int 0]], .tuple [.tuple [.int 0, .int 4], .tuple [.int 0, .int 0]], .tuple [.tuple [.int (-4), .int 0], .tuple [.int 0, .int 0]], .tuple [.tuple [.int 0], .tuple [.int 0, .int 0]], .tuple [.tuple [.int 0, .bool true], .tuple [.int 0, .int 0]]]), none, none, none, none, none, none] = .ok .nx [some (.rl xs), some (.ml [.int a, .int b]), some (.d (.list [.tuple [.int 0, .int 1], .tuple [.int (-1), .int 0]])), some (.d (.tuple [.int 2, .int 4, .int 1])), some (.d (.tuple [.tuple [.int 0, .int 1], .tuple [.int 2]])), some (.d (.tuple [.tuple [.int 0, .int 1], .tuple [.int (-1), .int 0]])), some (.d (.tuple [.int 1, .int 2])), some (.ml [.none, .tuple [], .tuple [.tuple [.int 0, .int 1]], .tuple [.tuple [.int 0, .int 1], .tuple [.int (-1), .int 0], .tuple [.int 0, .int 1], .tuple [.int (-1), .int 0]], .list [.tuple [.int 0, .int 1], .tuple [.int (-1), .int 0]], .tuple [.tuple [.int 1, .int 0], .tuple [.int 0, .int 0]], .tuple [.tuple [.int 0, .int 4], .tuple [.int 0, .int 0]], .tuple [.tuple [.int (-4), .int 0], .tuple [.int 0, .int 0]], .tuple [.tuple [.int 0], .tuple [.int 0, .int 0]], .tuple [.tuple [.int 0, .bool true], .tuple [.int 0, .int 0]]]), none, none, none, none, none, none] := by kernel_rfl
theorem tn_6_5 (a b : Int) (xs : List D) : stepL (callN (progOf ds) 19) (nth b_law 6) (.tuple [.tuple [.int 1, .int 0], .tuple [.int 0, .int 0]]) [some (.rl xs), some (.ml [.int a, .int b]), some (.d (.list [.tuple [.int 0, .int 1], .tuple [.int (-1), .int 0]])), some (.d (.tuple [.int 2, .int 4, .int 1])), some (.d (.tuple [.tuple [.int 0, .int 1], .tuple [.int 2]])), some (.d (.tuple [.tuple [.int 0, .int 1], .tuple [.int (-1), .int 0]])), some (.d (.tuple [.int 1, .int 2])), some (.ml [.none, .tuple [], .tuple [.tuple [.int 0, .int 1]], .tuple [.tuple [.int 0, .int 1], .tuple [.int (-1), .int 0], .tuple [.int 0, .int 1], .tuple [.int (-1), .int 0]], .list [.tuple [.int 0, .int 1], .tuple [.int (-1), .int 0]], .tuple [.tuple [.int 1, .int 0], .tuple [.int 0, .int 0]], .tuple [.tuple [.int 0, .int 4], .tuple [.int 0, .int 0]], .tuple [.tuple [.int (-4), .int 0], .tuple [.int 0, .int 0]], .tuple [.tuple [.int 0], .tuple [.int 0, .int 0]], .tuple [.tuple [.int 0, .bool true], .tuple [.int 0, .int 0]]]), none, none, none, none, none, none] = .ok .nx [some (.rl xs), some (.ml [.int a, .int b]), some (.d (.tuple [.tuple [.int 1, .int 0], .tuple [.int 0, .int 0]])), some (.d (.tuple [.int 2, .int 4, .int 1])), some (.d (.tuple [.tuple [.int 0, .int 1], .tuple [.int 2]])), some (.d (.tuple [.tuple [.int 0, .int 1], .tuple [.int (-1), .int 0]])), some (.d (.tuple [.int 1, .int 2])), some (.ml [.none, .tuple [], .tuple [.tuple [.int 0, .int 1]], .tuple [.tuple [.int 0, .int 1], .tuple [.int (-1), .int 0], .tuple [.int 0, .int 1], .tuple [.int (-1), .int 0]], .list [.tuple [.int 0, .int 1], .tuple [.int (-1), .int 0]], .tuple [.tuple [.int 1, .int 0], .tuple [.int 0, .int 0]], .tuple [.tuple [.int 0, .int 4], .tuple [.int 0, .int 0]], .tuple [.tuple [.int (-4), .int 0], .tuple [.int 0, .int 0]], .tuple [.tuple [.int 0], .tuple [.int 0, .int 0]], .tuple [.tuple [.int 0, .bool true], .tuple [.int 0, .int 0]]]), none, none, none, none, none, none] := by kernel_rfl
theorem tn_6_6 (a b : Int) (xs : List D) : stepL (callN (progOf ds) 19) (nth b_law 6) (.tuple [.tuple [.int 0, .int 4], .tuple [.int 0, .int 0]]) [some (.rl xs), some (.ml [.int a, .int b]), some (.d (.tuple [.tuple [.int 1, .int 0], .tuple [.int 0, .int 0]])), some (.d (.tuple [.int 2, .int 4, .int 1])), some (.d (.tuple [.tuple [.int 0, .int 1], .tuple [.int 2]])), some (.d (.tuple [.tuple [.int 0, .int 1], .tuple [.int (-1), .int 0]])), some (.d (.tuple [.int 1, .int 2])), some (.ml [.none, .tuple [], .tuple [.tuple [.int 0, .int 1]], .tuple [.tuple [.int 0, .int 1], .tuple [.int (-1), .int 0], .tuple [.int 0, .int 1], .tuple [.int (-1), .int 0]], .list [.tuple [.int 0, .int 1], .tuple [.int (-1), .int 0]], .tuple [.tuple [.int 1, .int 0], .tuple [.int 0, .int 0]], .tuple [.tuple [.int 0, .int 4], .tuple [.int 0, .int 0]], .tuple [.tuple [.int (-4), .int 0], .tuple [.int 0, .int 0]], .tuple [.tuple [.int 0], .tuple [.int 0, .int 0]], .tuple [.tuple [.int 0, .bool true], .tuple [.int 0, .int 0]]]), none, none, none, none, none, none] = .ok .nx [some (.rl xs), some (.ml [.int a, .int b]), some (.d (.tuple [.tuple [.int 0, .int 4], .tuple [.int 0, .int 0]])), some (.d (.tuple [.int 2, .int 4, .int 1])), some (.d (.tuple [.tuple [.int 0, .int 1], .tuple [.int 2]])), some (.d (.tuple [.tuple [.int 0, .int 1], .tuple [.int (-1), .int 0]])), some (.d (.tuple [.int 1, .int 2])), some (.ml [.none, .tuple [], .tuple [.tuple [.int 0, .int 1]], .tuple [.tuple [.int 0, .int 1], .tuple [.int (-1), .int 0], .tuple [.int 0, .int 1], .tuple [.int (-1), .int 0]], .list [.tuple [.int 0, .int 1], .tuple [.int (-1), .int 0]], .tuple [.tuple [.int 1, .int 0], .tuple [.int 0, .int 0]], .tuple [.tuple [.int 0, .int 4], .tuple [.int 0, .int 0]], .tuple [.tuple [.int (-4), .int 0], .tuple [.int 0, .int 0]], .tuple [.tuple [.int 0], .tuple [.int 0, .int 0]], .tuple [.tuple [.int 0, .bool true], .tuple [.int 0, .int 0]]]), none, none, none, none, none, none] := by kernel_rfl
theorem tn_6_7 (a b : Int) (xs : List D) : stepL (callN (progOf ds) 19) (nth b_law 6) (.tuple [.tuple [.int (-4), .int 0], .tuple [.int 0, .int 0]]) [some (.rl xs), some (.ml [.int a, .int b]), some (.d (.tuple [.tuple [.int 0, .int 4], .tuple [.int 0, .int 0]])), some (.d (.tuple [.int 2, .int 4, .int 1])), some (.d (.tuple [.tuple [.int 0, .int 1], .tuple [.int 2]])), some (.d (.tuple [.tuple [.int 0, .int 1], .tuple [.int (-1), .int 0]])), some (.d (.tuple [.int 1, .int 2])), some (.ml [.none, .tuple [], .tuple [.tuple [.int 0, .int 1]], .tuple [.tuple [.int 0, .int 1], .tuple [.int (-1), .int 0], .tuple [.int 0, .int 1], .tuple [.int (-1), .int 0]], .list [.tuple [.int 0, .int 1], .tuple [.int (-1), .int 0]], .tuple [.tuple [.int 1, .int 0], .tuple [.int 0, .int 0]], .tuple [.tuple [.int 0, .int 4], .tuple [.int 0, .int 0]], .tuple [.tuple [.int (-4), .int 0], .tuple [.int 0, .int 0]], .tuple [.tuple [.int 0], .tuple [.int 0, .int 0]], .tuple [.tuple [.int 0, .bool true], .tuple [.int 0, .int 0]]]), none, none, none, none, none, none] = .ok .nx [some (.rl xs), some (.ml [.int a, .int b]), some (.d (.tuple [.tuple [.int (-4), .int 0], .tuple [.int 0, .int 0]])), some (.d (.tuple [.int 2, .int 4, .int 1])), some (.d (.tuple [.tuple [.int 0, .int 1], .tuple [.int 2]])), some (.d (.tuple [.tuple [.int 0, .int 1], .tuple [.int (-1), .int 0]])), some (.d (.tuple [.int 1, .int 2])), some (.ml [.none, .tuple [], .tuple [.tuple [.int 0, .int 1]], .tuple [.tuple [.int 0, .int 1], .tuple [.int (-1), .int 0], .tuple [.int 0, .int 1], .tuple [.int (-1), .int 0]], .list [.tuple [.int 0, .int 1], .tuple [.int (-1), .int 0]], .tuple [.tuple [.int 1, .int 0], .tuple [.int 0, .int 0]], .tuple [.tuple [.int 0, .int 4], .tuple [.int 0, .int 0]], .tuple [.tuple [.int (-4), .int 0], .tuple [.int 0, .int 0]], .tuple [.tuple [.int 0], .tuple [.int 0, .int 0]], .tuple [.tuple [.int 0, .bool true], .tuple [.int 0, .int 0]]]), none, none, none, none, none, none] := by kernel_rfl
theorem tn_6_8 (a b : Int) (xs : List D) : stepL (callN (progOf ds) 19) (nth b_law 6) (.tuple [.tuple [.int 0], .tuple [.int 0, .int 0]]) [some (.rl xs), some (.ml [.int a, .int b]), some (.d (.tuple [.tuple [.int (-4), .int 0], .tuple [.int 0, .int 0]])), some (.d (.tuple [.int 2, .int 4, .int 1])), some (.d (.tuple [.tuple [.int 0, .int 1], .tuple [.int 2]])), some (.d (.tuple [.tuple [.int 0, .int 1], .tuple [.int (-1), .int 0]])), some (.d (.tuple [.int 1, .int 2])), some (.ml [.none, .tuple [], .tuple [.tuple [.int 0, .int 1]], .tuple [.tuple [.int 0, .int 1], .tuple [.int (-1), .int 0], .tuple [.int 0, .int 1], .tuple [.int (-1), .int 0]], .list [.tuple [.int 0, .int 1], .tuple [.int (-1), .int 0]], .tuple [.tuple [.int 1, .int 0], .tuple [.int 0, .int 0]], .tuple [.tuple [.int 0, .int 4], .tuple [.int 0, .int 0]], .tuple [.tuple [.int (-4), .int 0], .tuple [.int 0, .int 0]], .tuple [.tuple [.int 0], .tuple [.int 0, .int 0]], .tuple [.tuple [.int 0, .bool true], .tuple [.int 0, .int 0]]]), none, none, none, none, none, none] = .ok .nx [some (.rl xs), some (.ml [.int a, .int b]), some (.d (.tuple [.tuple [.int 0], .tuple [.int 0, .int 0]])), some (.d (.tuple [.int 2, .int 4, .int 1])), some (.d (.tuple [.tuple [.int 0, .int 1], .tuple [.int 2]])), some (.d (.tuple [.tuple [.int 0, .int 1], .tuple [.int (-1), .int 0]])), some (.d (.tuple [.int 1, .int 2])), some (.ml [.none, .tuple [], .tuple [.tuple [.int 0, .int 1]], .tuple [.tuple [.int 0, .int 1], .tuple [.int (-1), .int 0], .tuple [.int 0, .int 1], .tuple [.int (-1), .int 0]], .list [.tuple [.int 0, .int 1], .tuple [.int (-1), .int 0]], .tuple [.tuple [.int 1, .int 0], .tuple [.int 0, .int 0]], .tuple [.tuple [.int 0, .int 4], .tuple [.int 0, .int 0]], .tuple [.tuple [.int (-4), .int 0], .tuple [.int 0, .int 0]], .tuple [.tuple [.int 0], .tuple [.int 0, .int 0]], .tuple [.tuple [.int 0, .bool true], .tuple [.int 0, .int 0]]]), none, none, none, none, none, none] := by kernel_rfl
theorem tn_6_9 (a b : Int) (xs : List D) : stepL (callN (progOf ds) 19) (nth b_law 6) (.tuple [.tuple [.int 0, .bool true], .tuple [.int 0, .int 0]]) [some (.rl xs), some (.ml [.int a, .int b]), some (.d (.tuple [.tuple [.int 0], .tuple [.int 0, .int 0]])), some (.d (.tuple [.int 2, .int 4, .int 1])), some (.d (.tuple [.tuple [.int 0, .int 1], .tuple [.int 2]])), some (.d (.tuple [.tuple [.int 0, .int 1], .tuple [.int (-1), .int 0]])), some (.d (.tuple [.int 1, .int 2])), some (.ml [.none, .tuple [], .tuple [.tuple [.int 0, .int 1]], .tuple [.tuple [.int 0, .int 1], .tuple [.int (-1), .int 0], .tuple [.int 0, .int 1], .tuple [.int (-1), .int 0]], .list [.tuple [.int 0, .int 1], .tuple [.int (-1), .int 0]], .tuple [.tuple [.int 1, .int 0], .tuple [.int 0, .int 0]], .tuple [.tuple [.int 0, .int 4], .tuple [.int 0, .int 0]], .tuple [.tuple [.int (-4), .int 0], .tuple [.int 0, .int 0]], .tuple [.tuple [.int 0], .tuple [.int 0, .int 0]], .tuple [.tuple [.int 0, .bool true], .tuple [.int 0, .int 0]]]), none, none, none, none, none, none] = .ok .nx [some (.rl xs), some (.ml [.int a, .int b]), some (.d (.tuple [.tuple [.int 0, .bool true], .tuple [.int 0, .int 0]])), some (.d (.tuple [.int 2, .int 4, .int 1])), some (.d (.tuple [.tuple [.int 0, .int 1], .tuple [.int 2]])), some (.d (.tuple [.tuple [.int 0, .int 1], .tuple [.int (-1), .int 0]])), some (.d (.tuple [.int 1, .int 2])), some (.ml [.none, .tuple [], .tuple [.tuple [.int 0, .int 1]], .tuple [.tuple [.int 0, .int 1], .tuple [.int (-1), .int 0], .tuple [.int 0, .int 1], .tuple [.int (-1), .int 0]], .list [.tuple [.int 0, .int 1], .tuple [.int (-1), .int 0]], .tuple [.tuple [.int 1, .int 0], .tuple [.int 0, .int 0]], .tuple [.tuple [.int 0, .int 4], .tuple [.int 0, .int 0]], .tuple [.tuple [.int (-4), .int 0], .tuple [.int 0, .int 0]], .tuple [.tuple [.int 0], .tuple [.int 0, .int 0]], .tuple [.tuple [.int 0, .bool true], .tuple [.int 0, .int 0]]]), none, none, none, none, none, none] := by kernel_rfl
theorem tn_6_10 (a b : Int) (xs : List D) : stepL (callN (progOf ds) 19) (nth b_law 6) (.tuple [.tuple [.int 0, .int 1, .int 2], .tuple [.int 0, .int 0]]) [some (.rl xs), some (.ml [.int a, .int b]), some (.d (.tuple [.tuple [.int 0, .bool true], .tuple [.int 0, .int 0]])), some (.d (.tuple [.int 2, .int 4, .int 1])), some (.d (.tuple [.tuple [.int 0, .int 1], .tuple [.int 2]])), some (.d (.tuple [.tuple [.int 0, .int 1], .tuple [.int (-1), .int 0]])), some (.d (.tuple [.int 1, .int 2])), some (.ml [.none, .tuple [], .tuple [.tuple [.int 0, .int 1]], .tuple [.tuple [.int 0, .int 1], .tuple [.int (-1), .int 0], .tuple [.int 0, .int 1], .tuple [.int (-1), .int 0]], .list [.tuple [.int 0, .int 1], .tuple [.int (-1), .int 0]], .tuple [.tuple [.int 1, .int 0], .tuple [.int 0, .int 0]], .tuple [.tuple [.int 0, .int 4], .tuple [.int 0, .int 0]], .tuple [.tuple [.int (-4), .int 0], .tuple [.int 0, .int 0]], .tuple [.tuple [.int 0], .tuple [.int 0, .int 0]], .tuple [.tuple [.int 0, .bool true], .tuple [.int 0, .int 0]]]), none, none, none, none, none, none] = .ok .nx [some (.rl xs), some (.ml [.int a, .int b]), some (.d (.tuple [.tuple [.int 0, .int 1, .int 2], .tuple [.int 0, .int 0]])), some (.d (.tuple [.int 2, .int 4, .int 1])), some (.d (.tuple [.tuple [.int 0, .int 1], .tuple [.int 2]])), some (.d (.tuple [.tuple [.int 0, .int 1], .tuple [.int (-1), .int 0]])), some (.d (.tuple [.int 1, .int 2])), some (.ml [.none, .tuple [], .tuple [.tuple [.int 0, .int 1]], .tuple [.tuple [.int 0, .int 1], .tuple [.int (-1), .int 0], .tuple [.int 0, .int 1], .tuple [.int (-1), .int 0]], .list [.tuple [.int 0, .int 1], .tuple [.int (-1), .int 0]], .tuple [.tuple [.int 1, .int 0], .tuple [.int 0, .int 0]], .tuple [.tuple [.int 0, .int 4], .tuple [.int 0, .int 0]], .tuple [.tuple [.int (-4), .int 0], .tuple [.int 0, .int 0]], .tuple [.tuple [.int 0], .tuple [.int 0, .int 0]], .tuple [.tuple [.int 0, .bool true], .tuple [.int 0, .int 0]]]), none, none, none, none, none, none] := by kernel_rfl
theorem tn_6_11 (a b : Int) (xs : List D) : stepL (callN (progOf ds) 19) (nth b_law 6) (.tuple [.list [.int 0, .int 1], .tuple [.int 0, .int 0]]) [some (.rl xs), some (.ml [.int a, .int b]), some (.d (.tuple [.tuple [.int 0, .int 1, .int 2], .tuple [.int 0, .int 0]])), some (.d (.tuple [.int 2, .int 4, .int 1])), some (.d (.tuple [.tuple [.int 0, .int 1], .tuple [.int 2]])), some (.d (.tuple [.tuple [.int 0, .int 1], .tuple [.int (-1), .int 0]])), some (.d (.tuple [.int 1, .int 2])), some (.ml [.none, .tuple [], .tuple [.tuple [.int 0, .int 1]], .tuple [.tuple [.int 0, .int 1], .tuple [.int (-1), .int 0], .tuple [.int 0, .int 1], .tuple [.int (-1), .int 0]], .list [.tuple [.int 0, .int 1], .tuple [.int (-1), .int 0]], .tuple [.tuple [.int 1, .int 0], .tuple [.int 0, .int 0]], .tuple [.tuple [.int 0, .int 4], .tuple [.int 0, .int 0]], .tuple [.tuple [.int (-4), .int 0], .tuple [.int 0, .int 0]], .tuple [.tuple [.int 0], .tuple [.int 0, .int 0]], .tuple [.tuple [.int 0, .bool true], .tuple [.int 0, .int 0]]]), none, none, none, none, none, none] = .ok .nx [some (.rl xs), some (.ml [.int a, .int b]), some (.d (.tuple [.list [.int 0, .int 1], .tuple [.int 0, .int 0]])), some (.d (.tuple [.int 2, .int 4, .int 1])), some (.d (.tuple [.tuple [.int 0, .int 1], .tuple [.int 2]])), some (.d (.tuple [.tuple [.int 0, .int 1], .tuple [.int (-1), .int 0]])), some (.d (.tuple [.int 1, .int 2])), some (.ml [.none, .tuple [], .tuple [.tuple [.int 0, .int 1]], .tuple [.tuple [.int 0, .int 1], .tuple [.int (-1), .int 0], .tuple [.int 0, .int 1], .tuple [.int (-1), .int 0]], .list [.tuple [.int 0, .int 1], .tuple [.int (-1), .int 0]], .tuple [.tuple [.int 1, .int 0], .tuple [.int 0, .int 0]], .tuple [.tuple [.int 0, .int 4], .tuple [.int 0, .int 0]], .tuple [.tuple [.int (-4), .int 0], .tuple [.int 0, .int 0]], .tuple [.tuple [.int 0], .tuple [.int 0, .int 0]], .tuple [.tuple [.int 0, .bool true], .tuple [.int 0, .int 0]]]), none, none, none, none, none, none] := by kernel_rfl
theorem tn_6_12 (a b : Int) (xs : List D) : stepL (callN (progOf ds) 19) (nth b_law 6) (.tuple [.tuple [.none, .int 0], .tuple [.int 0, .int 0]]) [some (.rl xs), some (.ml [.int a, .int b]), some (.d (.tuple [.list [.int 0, .int 1], .tuple [.int 0, .int 0]])), some (.d (.tuple [.int 2, .int 4, .int 1])), some (.d (.tuple [.tuple [.int 0, .int 1], .tuple [.int 2]])), some (.d (.tuple [.tuple [.int 0, .int 1], .tuple [.int (-1), .int 0]])), some (.d (.tuple [.int 1, .int 2])), some (.ml [.none, .tuple [], .tuple [.tuple [.int 0, .int 1]], .tuple [.tuple [.int 0, .int 1], .tuple [.int (-1), .int 0], .tuple [.int 0, .int 1], .tuple [.int (-1), .int 0]], .list [.tuple [.int 0, .int 1], .tuple [.int (-1), .int 0]], .tuple [.tuple [.int 1, .int 0], .tuple [.int 0, .int 0]], .tuple [.tuple [.int 0, .int 4], .tuple [.int 0, .int 0]], .tuple [.tuple [.int (-4), .int 0], .tuple [.int 0, .int 0]], .tuple [.tuple [.int 0], .tuple [.int 0, .int 0]], .tuple [.tuple [.int 0, .bool true], .tuple [.int 0, .int 0]]]), none, none, none, none, none, none] = .ok .nx [some (.rl xs), some (.ml [.int a, .int b]), some (.d (.tuple [.tuple [.none, .int 0], .tuple [.int 0, .int 0]])), some (.d (.tuple [.int 2, .int 4, .int 1])), some (.d (.tuple [.tuple [.int 0, .int 1], .tuple [.int 2]])), some (.d (.tuple [.tuple [.int 0, .int 1], .tuple [.int (-1), .int 0]])), some (.d (.tuple [.int 1, .int 2])), some (.ml [.none, .tuple [], .tuple [.tuple [.int 0, .int 1]], .tuple [.tuple [.int 0, .int 1], .tuple [.int (-1), .int 0], .tuple [.int 0, .int 1], .tuple [.int (-1), .int 0]], .list [.tuple [.int 0, .int 1], .tuple [.int (-1), .int 0]], .tuple [.tuple [.int 1, .int 0], .tuple [.int 0, .int 0]], .tuple [.tuple [.int 0, .int 4], .tuple [.int 0, .int 0]], .tuple [.tuple [.int (-4), .int 0], .tuple [.int 0, .int 0]], .tuple [.tuple [.int 0], .tuple [.int 0, .int 0]], .tuple [.tuple [.int 0, .bool true], .tuple [.int 0, .int 0]]]), none, none, none, none, none, none] := by kernel_rfl
theorem tn_6_13 (a b : Int) (xs : List D) : stepL (callN (progOf ds) 19) (nth b_law 6) (.tuple [.int 0, .int 0]) [some (.rl xs), some (.ml [.int a, .int b]), some (.d (.tuple [.tuple [.none, .int 0], .tuple [.int 0, .int 0]])), some (.d (.tuple [.int 2, .int 4, .int 1])), some (.d (.tuple [.tuple [.int 0, .int 1], .tuple [.int 2]])), some (.d (.tuple [.tuple [.int 0, .int 1], .tuple [.int (-1), .int 0]])), some (.d (.tuple [.int 1, .int 2])), some (.ml [.none, .tuple [], .tuple [.tuple [.int 0, .int 1]], .tuple [.tuple [.int 0, .int 1], .tuple [.int (-1), .int 0], .tuple [.int 0, .int 1], .tuple [.int (-1), .int 0]], .list [.tuple [.int 0, .int 1], .tuple [.int (-1), .int 0]], .tuple [.tuple [.int 1, .int 0], .tuple [.int 0, .int 0]], .tuple [.tuple [.int 0, .int 4], .tuple [.int 0, .int 0]], .tuple [.tuple [.int (-4), .int 0], .tuple [.int 0, .int 0]], .tuple [.tuple [.int 0], .tuple [.int 0, .int 0]], .tuple [.tuple [.int 0, .bool true], .tuple [.int 0, .int 0]]]), none, none, none, none, none, none] = .ok .nx [some (.rl xs), some (.ml [.int a, .int b]), some (.d (.tuple [.int 0, .int 0])), some (.d (.tuple [.int 2, .int 4, .int 1])), some (.d (.tuple [.tuple [.int 0, .int 1], .tuple [.int 2]])), some (.d (.tuple [.tuple [.int 0, .int 1], .tuple [.int (-1), .int 0]])), some (.d (.tuple [.int 1, .int 2])), some (.ml [.none, .tuple [], .tuple [.tuple [.int 0, .int 1]], .tuple [.tuple [.int 0, .int 1], .tuple [.int (-1), .int 0], .tuple [.int 0, .int 1], .tuple [.int (-1), .int 0]], .list [.tuple [.int 0, .int 1], .tuple [.int (-1), .int 0]], .tuple [.tuple [.int 1, .int 0], .tuple [.int 0, .int 0]], .tuple [.tuple [.int 0, .int 4], .tuple [.int 0, .int 0]], .tuple [.tuple [.int (-4), .int 0], .tuple [.int 0, .int 0]], .tuple [.tuple [.int 0], .tuple [.int 0, .int 0]], .tuple [.tuple [.int 0, .bool true], .tuple [.int 0, .int 0]]]), none, none, none, none, none, none] := by kernel_rfl
theorem tn_6_14 (a b : Int) (xs : List D) : stepL (callN (progOf ds) 19) (nth b_law 6) (.str "wear") [some (.rl xs), some (.ml [.int a, .int b]), some (.d (.tuple [.int 0, .int 0])), some (.d (.tuple [.int 2, .int 4, .int 1])), some (.d (.tuple [.tuple [.int 0, .int 1], .tuple [.int 2]])), some (.d (.tuple [.tuple [.int 0, .int 1], .tuple [.int (-1), .int 0]])), some (.d (.tuple [.int 1, .int 2])), some (.ml [.none, .tuple [], .tuple [.tuple [.int 0, .int 1]], .tuple [.tuple [.int 0, .int 1], .tuple [.int (-1), .int 0], .tuple [.int 0, .int 1], .tuple [.int (-1), .int 0]], .list [.tuple [.int 0, .int 1], .tuple [.int (-1), .int 0]], .tuple [.tuple [.int 1, .int 0], .tuple [.int 0, .int 0]], .tuple [.tuple [.int 0, .int 4], .tuple [.int 0, .int 0]], .tuple [.tuple [.int (-4), .int 0], .tuple [.int 0, .int 0]], .tuple [.tuple [.int 0], .tuple [.int 0, .int 0]], .tuple [.tuple [.int 0, .bool true], .tuple [.int 0, .int 0]]]), none, none, none, none, none, none] = .ok .nx [some (.rl xs), some (.ml [.int a, .int b]), some (.d (.str "wear")), some (.d (.tuple [.int 2, .int 4, .int 1])), some (.d (.tuple [.tuple [.int 0, .int 1], .tuple [.int 2]])), some (.d (.tuple [.tuple [.int 0, .int 1], .tuple [.int (-1), .int 0]])), some (.d (.tuple [.int 1, .int 2])), some (.ml [.none, .tuple [], .tuple [.tuple [.int 0, .int 1]], .tuple [.tuple [.int 0, .int 1], .tuple [.int (-1), .int 0], .tuple [.int 0, .int 1], .tuple [.int (-1), .int 0]], .list [.tuple [.int 0, .int 1], .tuple [.int (-1), .int 0]], .tuple [.tuple [.int 1, .int 0], .tuple [.int 0, .int 0]], .tuple [.tuple [.int 0, .int 4], .tuple [.int 0, .int 0]], .tuple [.tuple [.int (-4), .int 0], .tuple [.int 0, .int 0]], .tuple [.tuple [.int 0], .tuple [.int 0, .int 0]], .tuple [.tuple [.int 0, .bool true], .tuple [.int 0, .int 0]]]), none, none, none, none, none, none] := by kernel_rfl
theorem st_7 (a b : Int) (xs : List D) : evS (callN (progOf ds) 19) 1 (nth b_law 7) [some (.rl xs), some (.ml [.int a, .int b]), some (.d (.str "wear")), some (.d (.tuple [.int 2, .int 4, .int 1])), some (.d (.tuple [.tuple [.int 0, .int 1], .tuple [.int 2]])), some (.d (.tuple [.tuple [.int 0, .int 1], .tuple [.int (-1), .int 0]])), some (.d (.tuple [.int 1, .int 2])), some (.ml [.none, .tuple [], .tuple [.tuple [.int 0, .int 1]], .tuple [.tuple [.int 0, .int 1], .tuple [.int (-1), .int 0], .tuple [.int 0, .int 1], .tuple [.int (-1), .int 0]], .list [.tuple [.int 0, .int 1], .tuple [.int (-1), .int 0]], .tuple [.tuple [.int 1, .int 0], .tuple [.int 0, .int 0]], .tuple [.tuple [.int 0, .int 4], .tuple [.int 0, .int 0]], .tuple [.tuple [.int (-4), .int 0], .tuple [.int 0, .int 0]], .tuple [.tuple [.int 0], .tuple [.int 0, .int 0]], .tuple [.tuple [.int 0, .bool true], .tuple [.int 0, .int 0]]]), none, none, none, none, none, none] = .ok .nx [some (.rl xs), some (.ml [.int a, .int b]), some (.d (.str "wear")), some (.d (.tuple [.int 2, .int 4, .int 1])), some (.d (.tuple [.tuple [.int 0, .int 1], .tuple [.int 2]])), some (.d (.tuple [.tuple [.int 0, .int 1], .tuple [.int (-1), .int 0]])), some (.d (.tuple [.int 1, .int 2])), some (.ml [.none, .tuple [], .tuple [.tuple [.int 0, .int 1]], .tuple [.tuple [.int 0, .int 1], .tuple [.int (-1), .int 0], .tuple [.int 0, .int 1], .tuple [.int (-1), .int 0]], .list [.tuple [.int 0, .int 1], .tuple [.int (-1), .int 0]], .tuple [.tuple [.int 1, .int 0], .tuple [.int 0, .int 0]], .tuple [.tuple [.int 0, .int 4], .tuple [.int 0, .int 0]], .tuple [.tuple [.int (-4), .int 0], .tuple [.int 0, .int 0]], .tuple [.tuple [.int 0], .tuple [.int 0, .int 0]], .tuple [.tuple [.int 0, .bool true], .tuple [.int 0, .int 0]]]), none, none, none, none, none, none] := by kernel_rfl
theorem it_8 (a b : Int) (xs : List D) : evI (callN (progOf ds) 19) (fIt (nth b_law 8)) [some (.rl xs), some (.ml [.int a, .int b]), some (.d (.str "wear")), some (.d (.tuple [.int 2, .int 4, .int 1])), some (.d (.tuple [.tuple [.int 0, .int 1], .tuple [.int 2]])), some (.d (.tuple [.tuple [.int 0, .int 1], .tuple [.int (-1), .int 0]])), some (.d (.tuple [.int 1, .int 2])), some (.ml [.none, .tuple [], .tuple [.tuple [.int 0, .int 1]], .tuple [.tuple [.int 0, .int 1], .tuple [.int (-1), .int 0], .tuple [.int 0, .int 1], .tuple [.int (-1), .int 0]], .list [.tuple [.int 0, .int 1], .tuple [.int (-1), .int 0]], .tuple [.tuple [.int 1, .int 0], .tuple [.int 0, .int 0]], .tuple [.tuple [.int 0, .int 4], .tuple [.int 0, .int 0]], .tuple [.tuple [.int (-4), .int 0], .tuple [.int 0, .int 0]], .tuple [.tuple [.int 0], .tuple [.int 0, .int 0]], .tuple [.tuple [.int 0, .bool true], .tuple [.int 0, .int 0]]]), none, none, none, none, none, none] = .ok [.none, .tuple [], .tuple [.int 1], .tuple [.int 1, .int 3], .tuple [.int 0, .int 4], .list [.int 1, .int 2], .tuple [.bool true, .int 2], .str "12", .tuple [.int 1, .int 2, .int 3]] [some (.rl xs), some (.ml [.int a, .int b]), some (.d (.str "wear")), some (.d (.tuple [.int 2, .int 4, .int 1])), some (.d (.tuple [.tuple [.int 0, .int 1], .tuple [.int 2]])), some (.d (.tuple [.tuple [.int 0, .int 1], .tuple [.int (-1), .int 0]])), some (.d (.tuple [.int 1, .int 2])), some (.ml [.none, .tuple [], .tuple [.tuple [.int 0, .int 1]], .tuple [.tuple [.int 0, .int 1], .tuple [.int (-1), .int 0], .tuple [.int 0, .int 1], .tuple [.int (-1), .int 0]], .list [.tuple [.int 0, .int 1], .tuple [.int (-1), .int 0]], .tuple [.tuple [.int 1, .int 0], .tuple [.int 0, .int 0]], .tuple [.tuple [.int 0, .int 4], .tuple [.int 0, .int 0]], .tuple [.tuple [.int (-4), .int 0], .tuple [.int 0, .int 0]], .tuple [.tuple [.int 0], .tuple [.int 0, .int 0]], .tuple [.tuple [.int 0, .bool true], .tuple [.int 0, .int 0]]]), none, none, none, none, none, none] := by kernel_rfl
theorem tn_8_0 (a b : Int) (xs : List D) : stepL (callN (progOf ds) 19) (nth b_law 8) (.none) [some (.rl xs), some (.ml [.int a, .int b]), some (.d (.str "wear")), some (.d (.tuple [.int 2, .int 4, .int 1])), some (.d (.tuple [.tuple [.int 0, .int 1], .tuple [.int 2]])), some (.d (.tuple [.tuple [.int 0, .int 1], .tuple [.int (-1), .int 0]])), some (.d (.tuple [.int 1, .int 2])), some (.ml [.none, .tuple [], .tuple [.tuple [.int 0, .int 1]], .tuple [.tuple [.int 0, .int 1], .tuple [.int (-1), .int 0], .tuple [.int 0, .int 1], .tuple [.int (-1), .int 0]], .list [.tuple [.int 0, .int 1], .tuple [.int (-1), .int 0]], .tuple [.tuple [.int 1, .int 0], .tuple [.int 0, .int 0]], .tuple [.tuple [.int 0, .int 4], .tuple [.int 0, .int 0]], .tuple [.tuple [.int (-4), .int 0], .tuple [.int 0, .int 0]], .tuple [.tuple [.int 0], .tuple [.int 0, .int 0]], .tuple [.tuple [.int 0, .bool true], .tuple [.int 0, .int 0]]]), none, none, none, none, none, none] = .ok .nx [some (.rl xs), some (.ml [.int a, .int b]), some (.d (.none)), some (.d (.tuple [.int 2, .int 4, .int 1])), some (.d (.tuple [.tuple [.int 0, .int 1], .tuple [.int 2]])), some (.d (.tuple [.tuple [.int 0, .int 1], .tuple [.int (-1), .int 0]])), some (.d (.tuple [.int 1, .int 2])), some (.ml [.none, .tuple [], .tuple [.tuple [.int 0, .int 1]], .tuple [.tuple [.int 0, .int 1], .tuple [.int (-1), .int 0], .tuple [.int 0, .int 1], .tuple [.int (-1), .int 0]], .list [.tuple [.int 0, .int 1], .tuple [.int (-1), .int 0]], .tuple [.tuple [.int 1, .int 0], .tuple [.int 0, .int 0]], .tuple [.tuple [.int 0, .int 4], .tuple [.int 0, .int 0]], .tuple [.tuple [.int (-4), .int 0], .tuple [.int 0, .int 0]], .tuple [.tuple [.int 0], .tuple [.int 0, .int 0]], .tuple [.tuple [.int 0, .bool true], .tuple [.int 0, .int 0]]]), some (.ml [.str "key", .str "key"]), none, none, none, none, none] := by kernel_rfl
theorem tn_8_1 (a b : Int) (xs : List D) : stepL (callN (progOf ds) 19) (nth b_law 8) (.tuple []) [some (.rl xs), some (.ml [.int a, .int b]), some (.d (.none)), some (.d (.tuple [.int 2, .int 4, .int 1])), some (.d (.tuple [.tuple [.int 0, .int 1], .tuple [.int 2]])), some (.d (.tuple [.tuple [.int 0, .int 1], .tuple [.int (-1), .int 0]])), some (.d (.tuple [.int 1, .int 2])), some (.ml [.none, .tuple [], .tuple [.tuple [.int 0, .int 1]], .tuple [.tuple [.int 0, .int 1], .tuple [.int (-1), .int 0], .tuple [.int 0, .int 1], .tuple [.int (-1), .int 0]], .list [.tuple [.int 0, .int 1], .tuple [.int (-1), .int 0]], .tuple [.tuple [.int 1, .int 0], .tuple [.int 0, .int 0]], .tuple [.tuple [.int 0, .int 4], .tuple [.int 0, .int 0]], .tuple [.tuple [.int (-4), .int 0], .tuple [.int 0, .int 0]], .tuple [.tuple [.int 0], .tuple [.int 0, .int 0]], .tuple [.tuple [.int 0, .bool true], .tuple [.int 0, .int 0]]]), some (.ml [.str "key", .str "key"]), none, none, none, none, none] = .ok .nx [some (.rl xs), some (.ml [.int a, .int b]), some (.d (.tuple [])), some (.d (.tuple [.int 2, .int 4, .int 1])), some (.d (.tuple [.tuple [.int 0, .int 1], .tuple [.int 2]])), some (.d (.tuple [.tuple [.int 0, .int 1], .tuple [.int (-1), .int 0]])), some (.d (.tuple [.int 1, .int 2])), some (.ml [.none, .tuple [], .tuple [.tuple [.int 0, .int 1]], .tuple [.tuple [.int 0, .int 1], .tuple [.int (-1), .int 0], .tuple [.int 0, .int 1], .tuple [.int (-1), .int 0]], .list [.tuple [.int 0, .int 1], .tuple [.int (-1), .int 0]], .tuple [.tuple [.int 1, .int 0], .tuple [.int 0, .int 0]], .tuple [.tuple [.int 0, .int 4], .tuple [.int 0, .int 0]], .tuple [.tuple [.int (-4), .int 0], .tuple [.int 0, .int 0]], .tuple [.tuple [.int 0], .tuple [.int 0, .int 0]], .tuple [.tuple [.int 0, .bool true], .tuple [.int 0, .int 0]]]), some (.ml [.str "key", .str "key"]), none, none, none, none, none] := by kernel_rfl
theorem tn_8_2 (a b : Int) (xs : List D) : stepL (callN (progOf ds) 19) (nth b_law 8) (.tuple [.int 1]) [some (.rl xs), some (.ml [.int a, .int b]), some (.d (.tuple [])), some (.d (.tuple [.int 2, .int 4, .int 1])), some (.d (.tuple [.tuple [.int 0, .int 1], .tuple [.int 2]])), some (.d (.tuple [.tuple [.int 0, .int 1], .tuple [.int (-1), .int 0]])), some (.d (.tuple [.int 1, .int 2])), some (.ml [.none, .tuple [], .tuple [.tuple [.int 0, .int 1]], .tuple [.tuple [.int 0, .int 1], .tuple [.int (-1), .int 0], .tuple [.int 0, .int 1], .tuple [.int (-1), .int 0]], .list [.tuple [.int 0, .int 1], .tuple [.int (-1), .int 0]], .tuple [.tuple [.int 1, .int 0], .tuple [.int 0, .int 0]], .tuple [.tuple [.int 0, .int 4], .tuple [.int 0, .int 0]], .tuple [.tuple [.int (-4), .int 0], .tuple [.int 0, .int 0]], .tuple [.tuple [.int 0], .tuple [.int 0, .int 0]], .tuple [.tuple [.int 0, .bool true], .tuple [.int 0, .int 0]]]), some (.ml [.str "key", .str "key"]), none, none, none, none, none] = .ok .nx [some (.rl xs), some (.ml [.int a, .int b]), some (.d (.tuple [.int 1])), some (.d (.tuple [.int 2, .int 4, .int 1])), some (.d (.tuple [.tuple [.int 0, .int 1], .tuple [.int 2]])), some (.d (.tuple [.tuple [.int 0, .int 1], .tuple [.int (-1), .int 0]])), some (.d (.tuple [.int 1, .int 2])), some (.ml [.none, .tuple [], .tuple [.tuple [.int 0, .int 1]], .tuple [.tuple [.int 0, .int 1], .tuple [.int (-1), .int 0], .tuple [.int 0, .int 1], .tuple [.int (-1), .int 0]], .list [.tuple [.int 0, .int 1], .tuple [.int (-1), .int 0]], .tuple [.tuple [.int 1, .int 0], .tuple [.int 0, .int 0]], .tuple [.tuple [.int 0, .int 4], .tuple [.int 0, .int 0]], .tuple [.tuple [.int (-4), .int 0], .tuple [.int 0, .int 0]], .tuple [.tuple [.int 0], .tuple [.int 0, .int 0]], .tuple [.tuple [.int 0, .bool true], .tuple [.int 0, .int 0]]]), some (.ml [.str "key", .str "key"]), none, none, none, none, none] := by kernel_rfl
theorem tn_8_3 (a b : Int) (xs : List D) : stepL (callN (progOf ds) 19) (nth b_law 8) (.tuple [.int 1, .int 3]) [some (.rl xs), some (.ml [.int a, .int b]), some (.d (.tuple [.int 1])), some (.d (.tuple [.int 2, .int 4, .int 1])), some (.d (.tuple [.tuple [.int 0, .int 1], .tuple [.int 2]])), some (.d (.tuple [.tuple [.int 0, .int 1], .tuple [.int (-1), .int 0]])), some (.d (.tuple [.int 1, .int 2])), some (.ml [.none, .tuple [], .tuple [.tuple [.int 0, .int 1]], .tuple [.tuple [.int 0, .int 1], .tuple [.int (-1), .int 0], .tuple [.int 0, .int 1], .tuple [.int (-1), .int 0]], .list [.tuple [.int 0, .int 1], .tuple [.int (-1), .int 0]], .tuple [.tuple [.int 1, .int 0], .tuple [.int 0, .int 0]], .tuple [.tuple [.int 0, .int 4], .tuple [.int 0, .int 0]], .tuple [.tuple [.int (-4), .int 0], .tuple [.int 0, .int 0]], .tuple [.tuple [.int 0], .tuple [.int 0, .int 0]], .tuple [.tuple [.int 0, .bool true], .tuple [.int 0, .int 0]]]), some (.ml [.str "key", .str "key"]), none, none, none, none, none] = .ok .nx [some (.rl xs), some (.ml [.int a, .int b]), some (.d (.tuple [.int 1, .int 3])), some (.d (.tuple [.int 2, .int 4, .int 1])), some (.d (.tuple [.tuple [.int 0, .int 1], .tuple [.int 2]])), some (.d (.tuple [.tuple [.int 0, .int 1], .tuple [.int (-1), .int 0]])), some (.d (.tuple [.int 1, .int 2])), some (.ml [.none, .tuple [], .tuple [.tuple [.int 0, .int 1]], .tuple [.tuple [.int 0, .int 1], .tuple [.int (-1), .int 0], .tuple [.int 0, .int 1], .tuple [.int (-1), .int 0]], .list [.tuple [.int 0, .int 1], .tuple [.int (-1), .int 0]], .tuple [.tuple [.int 1, .int 0], .tuple [.int 0, .int 0]], .tuple [.tuple [.int 0, .int 4], .tuple [.int 0, .int 0]], .tuple [.tuple [.int (-4), .int 0], .tuple [.int 0, .int 0]], .tuple [.tuple [.int 0], .tuple [.int 0, .int 0]], .tuple [.tuple [.int 0, .bool true], .tuple [.int 0, .int 0]]]), some (.ml [.str "key", .str "key"]), none, none, none, none, none] := by kernel_rfl
theorem tn_8_4 (a b : Int) (xs : List D) : stepL (callN (progOf ds) 19) (nth b_law 8) (.tuple [.int 0, .int 4]) [some (.rl xs), some (.ml [.int a, .int b]), some (.d (.tuple [.int 1, .int 3])), some (.d (.tuple [.int 2, .int 4, .int 1])), some (.d (.tuple [.tuple [.int 0, .int 1], .tuple [.int 2]])), some (.d (.tuple [.tuple [.int 0, .int 1], .tuple [.int (-1), .int 0]])), some (.d (.tuple [.int 1, .int 2])), some (.ml [.none, .tuple [], .tuple [.tuple [.int 0, .int 1]], .tuple [.tuple [.int 0, .int 1], .tuple [.int (-1), .int 0], .tuple [.int 0, .int 1], .tuple [.int (-1), .int 0]], .list [.tuple [.int 0, .int 1], .tuple [.int (-1), .int 0]], .tuple [.tuple [.int 1, .int 0], .tuple [.int 0, .int 0]], .tuple [.tuple [.int 0, .int 4], .tuple [.int 0, .int 0]], .tuple [.tuple [.int (-4), .int 0], .tuple [.int 0, .int 0]], .tuple [.tuple [.int 0], .tuple [.int 0, .int 0]], .tuple [.tuple [.int 0, .bool true], .tuple [.int 0, .int 0]]]), some (.ml [.str "key", .str "key"]), none, none, none, none, none] = .ok .nx [some (.rl xs), some (.ml [.int a, .int b]), some (.d (.tuple [.int 0, .int 4])), some (.d (.tuple [.int 2, .int 4, .int 1])), some (.d (.tuple [.tuple [.int 0, .int 1], .tuple [.int 2]])), some (.d (.tuple [.tuple [.int 0, .int 1], .tuple [.int (-1), .int 0]])), some (.d (.tuple [.int 1, .int 2])), some (.ml [.none, .tuple [], .tuple [.tuple [.int 0, .int 1]], .tuple [.tuple [.int 0, .int 1], .tuple [.int (-1), .int 0], .tuple [.int 0, .int 1], .tuple [.int (-1), .int 0]], .list [.tuple [.int 0, .int 1], .tuple [.int (-1), .int 0]], .tuple [.tuple [.int 1, .int 0], .tuple [.int 0, .int 0]], .tuple [.tuple [.int 0, .int 4], .tuple [.int 0, .int 0]], .tuple [.tuple [.int (-4), .int 0], .tuple [.int 0, .int 0]], .tuple [.tuple [.int 0], .tuple [.int 0, .int 0]], .tuple [.tuple [.int 0, .bool true], .tuple [.int 0, .int 0]]]), some (.ml [.str "key", .str "key"]), none, none, none, none, none] := by kernel_rfl
theorem tn_8_5 (a b : Int) (xs : List D) : stepL (callN (progOf ds) 19) (nth b_law 8) (.list [.int 1, .int 2]) [some (.rl xs), some (.ml [.int a, .int b]), some (.d (.tuple [.int 0, .int 4])), some (.d (.tuple [.int 2, .int 4, .int 1])), some (.d (.tuple [.tuple [.int 0, .int 1], .tuple [.int 2]])), some (.d (.tuple [.tuple [.int 0, .int 1], .tuple [.int (-1), .int 0]])), some (.d (.tuple [.int 1, .int 2])), some (.ml [.none, .tuple [], .tuple [.tuple [.int 0, .int 1]], .tuple [.tuple [.int 0, .int 1], .tuple [.int (-1), .int 0], .tuple [.int 0, .int 1], .tuple [.int (-1), .int 0]], .list [.tuple [.int 0, .int 1], .tuple [.int (-1), .int 0]], .tuple [.tuple [.int 1, .int 0], .tuple [.int 0, .int 0]], .tuple [.tuple [.int 0, .int 4], .tuple [.int 0, .int 0]], .tuple [.tuple [.int (-4), .int 0], .tuple [.int 0, .int 0]], .tuple [.tuple [.int 0], .tuple [.int 0, .int 0]], .tuple [.tuple [.int 0, .bool true], .tuple [.int 0, .int 0]]]), some (.ml [.str "key", .str "key"]), none, none, none, none, none] = .ok .nx [some (.rl xs), some (.ml [.int a, .int b]), some (.d (.list [.int 1, .int 2])), some (.d (.tuple [.int 2, .int 4, .int 1])), some (.d (.tuple [.tuple [.int 0, .int 1], .tuple [.int 2]])), some (.d (.tuple [.tuple [.int 0, .int 1], .tuple [.int (-1), .int 0]])), some (.d (.tuple [.int 1, .int 2])), some (.ml [.none, .tuple [], .tuple [.tuple [.int 0, .int 1]], .tuple [.tuple [.int 0, .int 1], .tuple [.int (-1), .int 0], .tuple [.int 0, .int 1], .tuple [.int (-1), .int 0]], .list [.tuple [.int 0, .int 1], .tuple [.int (-1), .int 0]], .tuple [.tuple [.int 1, .int 0], .tuple [.int 0, .int 0]], .tuple [.tuple [.int 0, .int 4], .tuple [.int 0, .int 0]], .tuple [.tuple [.int (-4), .int 0], .tuple [.int 0, .int 0]], .tuple [.tuple [.int 0], .tuple [.int 0, .int 0]], .tuple [.tuple [.int 0, .bool true], .tuple [.int 0, .int 0]]]), some (.ml [.str "key", .str "key"]), none, none, none, none, none] := by kernel_rfl
theorem tn_8_6 (a b : Int) (xs : List D) : stepL (callN (progOf ds) 19) (nth b_law 8) (.tuple [.bool true, .int 2]) [some (.rl xs), some (.ml [.int a, .int b]), some (.d (.list [.int 1, .int 2])), some (.d (.tuple [.int 2, .int 4, .int 1])), some (.d (.tuple [.tuple [.int 0, .int 1], .tuple [.int 2]])), some (.d (.tuple [.tuple [.int 0, .int 1], .tuple [.int (-1), .int 0]])), some (.d (.tuple [.int 1, .int 2])), some (.ml [.none, .tuple [], .tuple [.tuple [.int 0, .int 1]], .tuple [.tuple [.int 0, .int 1], .tuple [.int (-1), .int 0], .tuple [.int 0, .int 1], .tuple [.int (-1), .int 0]], .list [.tuple [.int 0, .int 1], .tuple [.int (-1), .int 0]], .tuple [.tuple [.int 1, .int 0], .tuple [.int 0, .int 0]], .tuple [.tuple [.int 0, .int 4], .tuple [.int 0, .int 0]], .tuple [.tuple [.int (-4), .int 0], .tuple [.int 0, .int 0]], .tuple [.tuple [.int 0], .tuple [.int 0, .int 0]], .tuple [.tuple [.int 0, .bool true], .tuple [.int 0, .int 0]]]), some (.ml [.str "key", .str "key"]), none, none, none, none, none] = .ok .nx [some (.rl xs), some (.ml [.int a, .int b]), some (.d (.tuple [.bool true, .int 2])), some (.d (.tuple [.int 2, .int 4, .int 1])), some (.d (.tuple [.tuple [.int 0, .int 1], .tuple [.int 2]])), some (.d (.tuple [.tuple [.int 0, .int 1], .tuple [.int (-1), .int 0]])), some (.d (.tuple [.int 1, .int 2])), some (.ml [.none, .tuple [], .tuple [.tuple [.int 0, .int 1]], .tuple [.tuple [.int 0, .int 1], .tuple [.int (-1), .int 0], .tuple [.int 0, .int 1], .tuple [.int (-1), .int 0]], .list [.tuple [.int 0, .int 1], .tuple [.int (-1), .int 0]], .tuple [.tuple [.int 1, .int 0], .tuple [.int 0, .int 0]], .tuple [.tuple [.int 0, .int 4], .tuple [.int 0, .int 0]], .tuple [.tuple [.int (-4), .int 0], .tuple [.int 0, .int 0]], .tuple [.tuple [.int 0], .tuple [.int 0, .int 0]], .tuple [.tuple [.int 0, .bool true], .tuple [.int 0, .int 0]]]), some (.ml [.str "key", .str "key"]), none, none, none, none, none] := by kernel_rfl
theorem tn_8_7 (a b : Int) (xs : List D) : stepL (callN (progOf ds) 19) (nth b_law 8) (.str "12") [some (.rl xs), some (.ml [.int a, .int b]), some (.d (.tuple [.bool true, .int 2])), some (.d (.tuple [.int 2, .int 4, .int 1])), some (.d (.tuple [.tuple [.int 0, .int 1], .tuple [.int 2]])), some (.d (.tuple [.tuple [.int 0, .int 1], .tuple [.int (-1), .int 0]])), some (.d (.tuple [.int 1, .int 2])), some (.ml [.none, .tuple [], .tuple [.tuple [.int 0, .int 1]], .tuple [.tuple [.int 0, .int 1], .tuple [.int (-1), .int 0], .tuple [.int 0, .int 1], .tuple [.int (-1), .int 0]], .list [.tuple [.int 0, .int 1], .tuple [.int (-1), .int 0]], .tuple [.tuple [.int 1, .int 0], .tuple [.int 0, .int 0]], .tuple [.tuple [.int 0, .int 4], .tuple [.int 0, .int 0]], .tuple [.tuple [.int (-4), .int 0], .tuple [.int 0, .int 0]], .tuple [.tuple [.int 0], .tuple [.int 0, .int 0]], .tuple [.tuple [.int 0, .bool true], .tuple [.int 0, .int 0]]]), some (.ml [.str "key", .str "key"]), none, none, none, none, none] = .ok .nx [some (.rl xs), some (.ml [.int a, .int b]), some (.d (.str "12")), some (.d (.tuple [.int 2, .int 4, .int 1])), some (.d (.tuple [.tuple [.int 0, .int 1], .tuple [.int 2]])), some (.d (.tuple [.tuple [.int 0, .int 1], .tuple [.int (-1), .int 0]])), some (.d (.tuple [.int 1, .int 2])), some (.ml [.none, .tuple [], .tuple [.tuple [.int 0, .int 1]], .tuple [.tuple [.int 0, .int 1], .tuple [.int (-1), .int 0], .tuple [.int 0, .int 1], .tuple [.int (-1), .int 0]], .list [.tuple [.int 0, .int 1], .tuple [.int (-1), .int 0]], .tuple [.tuple [.int 1, .int 0], .tuple [.int 0, .int 0]], .tuple [.tuple [.int 0, .int 4], .tuple [.int 0, .int 0]], .tuple [.tuple [.int (-4), .int 0], .tuple [.int 0, .int 0]], .tuple [.tuple [.int 0], .tuple [.int 0, .int 0]], .tuple [.tuple [.int 0, .bool true], .tuple [.int 0, .int 0]]]), some (.ml [.str "key", .str "key"]), none, none, none, none, none] := by kernel_rfl
theorem tn_8_8 (a b : Int) (xs : List D) : stepL (callN (progOf ds) 19) (nth b_law 8) (.tuple [.int 1, .int 2, .int 3]) [some (.rl xs), some (.ml [.int a, .int b]), some (.d (.str "12")), some (.d (.tuple [.int 2, .int 4, .int 1])), some (.d (.tuple [.tuple [.int 0, .int 1], .tuple [.int 2]])), some (.d (.tuple [.tuple [.int 0, .int 1], .tuple [.int (-1), .int 0]])), some (.d (.tuple [.int 1, .int 2])), some (.ml [.none, .tuple [], .tuple [.tuple [.int 0, .int 1]], .tuple [.tuple [.int 0, .int 1], .tuple [.int (-1), .int 0], .tuple [.int 0, .int 1], .tuple [.int (-1), .int 0]], .list [.tuple [.int 0, .int 1], .tuple [.int (-1), .int 0]], .tuple [.tuple [.int 1, .int 0], .tuple [.int 0, .int 0]], .tuple [.tuple [.int 0, .int 4], .tuple [.int 0, .int 0]], .tuple [.tuple [.int (-4), .int 0], .tuple [.int 0, .int 0]], .tuple [.tuple [.int 0], .tuple [.int 0, .int 0]], .tuple [.tuple [.int 0, .bool true], .tuple [.int 0, .int 0]]]), some (.ml [.str "key", .str "key"]), none, none, none, none, none] = .ok .nx [some (.rl xs), some (.ml [.int a, .int b]), some (.d (.tuple [.int 1, .int 2, .int 3])), some (.d (.tuple [.int 2, .int 4, .int 1])), some (.d (.tuple [.tuple [.int 0, .int 1], .tuple [.int 2]])), some (.d (.tuple [.tuple [.int 0, .int 1], .tuple [.int (-1), .int 0]])), some (.d (.tuple [.int 1, .int 2])), some (.ml [.none, .tuple [], .tuple [.tuple [.int 0, .int 1]], .tuple [.tuple [.int 0, .int 1], .tuple [.int (-1), .int 0], .tuple [.int 0, .int 1], .tuple [.int (-1), .int 0]], .list [.tuple [.int 0, .int 1], .tuple [.int (-1), .int 0]], .tuple [.tuple [.int 1, .int 0], .tuple [.int 0, .int 0]], .tuple [.tuple [.int 0, .int 4], .tuple [.int 0, .int 0]], .tuple [.tuple [.int (-4), .int 0], .tuple [.int 0, .int 0]], .tuple [.tuple [.int 0], .tuple [.int 0, .int 0]], .tuple [.tuple [.int 0, .bool true], .tuple [.int 0, .int 0]]]), some (.ml [.str "key", .str "key"]), none, none, none, none, none] := by kernel_rfl
theorem it_9 (a b : Int) (xs : List D) : evI (callN (progOf ds) 19) (fIt (nth b_law 9)) [some (.rl xs), some (.ml [.int a, .int b]), some (.d (.tuple [.int 1, .int 2, .int 3])), some (.d (.tuple [.int 2, .int 4, .int 1])), some (.d (.tuple [.tuple [.int 0, .int 1], .tuple [.int 2]])), some (.d (.tuple [.tuple [.int 0, .int 1], .tuple [.int (-1), .int 0]])), some (.d (.tuple [.int 1, .int 2])), some (.ml [.none, .tuple [], .tuple [.tuple [.int 0, .int 1]], .tuple [.tuple [.int 0, .int 1], .tuple [.int (-1), .int 0], .tuple [.int 0, .int 1], .tuple [.int (-1), .int 0]], .list [.tuple [.int 0, .int 1], .tuple [.int (-1), .int 0]], .tuple [.tuple [.int 1, .int 0], .tuple [.int 0, .int 0]], .tuple [.tuple [.int 0, .int 4], .tuple [.int 0, .int 0]], .tuple [.tuple [.int (-4), .int 0], .tuple [.int 0, .int 0]], .tuple [.tuple [.int 0], .tuple [.int 0, .int 0]], .tuple [.tuple [.int 0, .bool true], .tuple [.int 0, .int 0]]]), some (.ml [.str "key", .str "key"]), none, none, none, none, none] = .ok [.none, .int (-1), .int 31, .bool true, .str "1", .tuple [.int 1], .int 1000000000000000000000000000000] [some (.rl xs), some (.ml [.int a, .int b]), some (.d (.tuple [.int 1, .int 2, .int 3])), some (.d (.tuple [.int 2, .int 4, .int 1])), some (.d (.tuple [.tuple [.int 0, .int 1], .tuple [.int 2]])), some (.d (.tuple [.tuple [.int 0, .int 1], .tuple [.int (-1), .int 0]])), some (.d (.tuple [.int 1, .int 2])), some (.ml [.none, .tuple [], .tuple [.tuple [.int 0, .int 1]], .tuple [.tuple [.int 0, .int 1], .tuple [.int (-1), .int 0], .tuple [.int 0, .int 1], .tuple [.int (-1), .int 0]], .list [.tuple [.int 0, .int 1], .tuple [.int (-1), .int 0]], .tuple [.tuple [.int 1, .int 0], .tuple [.int 0, .int 0]], .tuple [.tuple [.int 0, .int 4], .tuple [.int 0, .int 0]], .tuple [.tuple [.int (-4), .int 0], .tuple [.int 0, .int 0]], .tuple [.tuple [.int 0], .tuple [.int 0, .int 0]], .tuple [.tuple [.int 0, .bool true], .tuple [.int 0, .int 0]]]), some (.ml [.str "key", .str "key"]), none, none, none, none, none] := by kernel_rfl
theorem tn_9_0 (a b : Int) (xs : List D) : stepL (callN (progOf ds) 19) (nth b_law 9) (.none) [some (.rl xs), some (.ml [.int a, .int b]), some (.d (.tuple [.int 1, .int 2, .int 3])), some (.d (.tuple [.int 2, .int 4, .int 1])), some (.d (.tuple [.tuple [.int 0, .int 1], .tuple [.int 2]])), some (.d (.tuple [.tuple [.int 0, .int 1], .tuple [.int (-1), .int 0]])), some (.d (.tuple [.int 1, .int 2])), some (.ml [.none, .tuple [], .tuple [.tuple [.int 0, .int 1]], .tuple [.tuple [.int 0, .int 1], .tuple [.int (-1), .int 0], .tuple [.int 0, .int 1], .tuple [.int (-1), .int 0]], .list [.tuple [.int 0, .int 1], .tuple [.int (-1), .int 0]], .tuple [.tuple [.int 1, .int 0], .tuple [.int 0, .int 0]], .tuple [.tuple [.int 0, .int 4], .tuple [.int 0, .int 0]], .tuple [.tuple [.int (-4), .int 0], .tuple [.int 0, .int 0]], .tuple [.tuple [.int 0], .tuple [.int 0, .int 0]], .tuple [.tuple [.int 0, .bool true], .tuple [.int 0, .int 0]]]), some (.ml [.str "key", .str "key"]), none, none, none, none, none] = .ok .nx [some (.rl xs), some (.ml [.int a, .int b]), some (.d (.none)), some (.d (.tuple [.int 2, .int 4, .int 1])), some (.d (.tuple [.tuple [.int 0, .int 1], .tuple [.int 2]])), some (.d (.tuple [.tuple [.int 0, .int 1], .tuple [.int (-1), .int 0]])), some (.d (.tuple [.int 1, .int 2])), some (.ml [.none, .tuple [], .tuple [.tuple [.int 0, .int 1]], .tuple [.tuple [.int 0, .int 1], .tuple [.int (-1), .int 0], .tuple [.int 0, .int 1], .tuple [.int (-1), .int 0]], .list [.tuple [.int 0, .int 1], .tuple [.int (-1), .int 0]], .tuple [.tuple [.int 1, .int 0], .tuple [.int 0, .int 0]], .tuple [.tuple [.int 0, .int 4], .tuple [.int 0, .int 0]], .tuple [.tuple [.int (-4), .int 0], .tuple [.int 0, .int 0]], .tuple [.tuple [.int 0], .tuple [.int 0, .int 0]], .tuple [.tuple [.int 0, .bool true], .tuple [.int 0, .int 0]]]), some (.ml [.str "number", .str "number", .str "number", .str "number"]), none, none, none, none, none] := by kernel_rfl
theorem tn_9_1 (a b : Int) (xs : List D) : stepL (callN (progOf ds) 19) (nth b_law 9) (.int (-1)) [some (.rl xs), some (.ml [.int a, .int b]), some (.d (.none)), some (.d (.tuple [.int 2, .int 4, .int 1])), some (.d (.tuple [.tuple [.int 0, .int 1], .tuple [.int 2]])), some (.d (.tuple [.tuple [.int 0, .int 1], .tuple [.int (-1), .int 0]])), some (.d (.tuple [.int 1, .int 2])), some (.ml [.none, .tuple [], .tuple [.tuple [.int 0, .int 1]], .tuple [.tuple [.int 0, .int 1], .tuple [.int (-1), .int 0], .tuple [.int 0, .int 1], .tuple [.int (-1), .int 0]], .list [.tuple [.int 0, .int 1], .tuple [.int (-1), .int 0]], .tuple [.tuple [.int 1, .int 0], .tuple [.int 0, .int 0]], .tuple [.tuple [.int 0, .int 4], .tuple [.int 0, .int 0]], .tuple [.tuple [.int (-4), .int 0], .tuple [.int 0, .int 0]], .tuple [.tuple [.int 0], .tuple [.int 0, .int 0]], .tuple [.tuple [.int 0, .bool true], .tuple [.int 0, .int 0]]]), some (.ml [.str "number", .str "number", .str "number", .str "number"]), none, none, none, none, none] = .ok .nx [some (.rl xs), some (.ml [.int a, .int b]), some (.d (.int (-1))), some (.d (.tuple [.int 2, .int 4, .int 1])), some (.d (.tuple [.tuple [.int 0, .int 1], .tuple [.int 2]])), some (.d (.tuple [.tuple [.int 0, .int 1], .tuple [.int (-1), .int 0]])), some (.d (.tuple [.int 1, .int 2])), some (.ml [.none, .tuple [], .tuple [.tuple [.int 0, .int 1]], .tuple [.tuple [.int 0, .int 1], .tuple [.int (-1), .int 0], .tuple [.int 0, .int 1], .tuple [.int (-1), .int 0]], .list [.tuple [.int 0, .int 1], .tuple [.int (-1), .int 0]], .tuple [.tuple [.int 1, .int 0], .tuple [.int 0, .int 0]], .tuple [.tuple [.int 0, .int 4], .tuple [.int 0, .int 0]], .tuple [.tuple [.int (-4), .int 0], .tuple [.int 0, .int 0]], .tuple [.tuple [.int 0], .tuple [.int 0, .int 0]], .tuple [.tuple [.int 0, .bool true], .tuple [.int 0, .int 0]]]), some (.ml [.str "number", .str "number", .str "number", .str "number"]), none, none, none, none, none] := by kernel_rfl
theorem tn_9_2 (a b : Int) (xs : List D) : stepL (callN (progOf ds) 19) (nth b_law 9) (.int 31) [some (.rl xs), some (.ml [.int a, .int b]), some (.d (.int (-1))), some (.d (.tuple [.int 2, .int 4, .int 1])), some (.d (.tuple [.tuple [.int 0, .int 1], .tuple [.int 2]])), some (.d (.tuple [.tuple [.int 0, .int 1], .tuple [.int (-1), .int 0]])), some (.d (.tuple [.int 1, .int 2])), some (.ml [.none, .tuple [], .tuple [.tuple [.int 0, .int 1]], .tuple [.tuple [.int 0, .int 1], .tuple [.int (-1), .int 0], .tuple [.int 0, .int 1], .tuple [.int (-1), .int 0]], .list [.tuple [.int 0, .int 1], .tuple [.int (-1), .int 0]], .tuple [.tuple [.int 1, .int 0], .tuple [.int 0, .int 0]], .tuple [.tuple [.int 0, .int 4], .tuple [.int 0, .int 0]], .tuple [.tuple [.int (-4), .int 0], .tuple [.int 0, .int 0]], .tuple [.tuple [.int 0], .tuple [.int 0, .int 0]], .tuple [.tuple [.int 0, .bool true], .tuple [.int 0, .int 0]]]), some (.ml [.str "number", .str "number", .str "number", .str "number"]), none, none, none, none, none] = .ok .nx [some (.rl xs), some (.ml [.int a, .int b]), some (.d (.int 31)), some (.d (.tuple [.int 2, .int 4, .int 1])), some (.d (.tuple [.tuple [.int 0, .int 1], .tuple [.int 2]])), some (.d (.tuple [.tuple [.int 0, .int 1], .tuple [.int (-1), .int 0]])), some (.d (.tuple [.int 1, .int 2])), some (.ml [.none, .tuple [], .tuple [.tuple [.int 0, .int 1]], .tuple [.tuple [.int 0, .int 1], .tuple [.int (-1), .int 0], .tuple [.int 0, .int 1], .tuple [.int (-1), .int 0]], .list [.tuple [.int 0, .int 1], .tuple [.int (-1), .int 0]], .tuple [.tuple [.int 1, .int 0], .tuple [.int 0, .int 0]], .tuple [.tuple [.int 0, .int 4], .tuple [.int 0, .int 0]], .tuple [.tuple [.int (-4), .int 0], .tuple [.int 0, .int 0]], .tuple [.tuple [.int 0], .tuple [.int 0, .int 0]], .tuple [.tuple [.int 0, .bool true], .tuple [.int 0, .int 0]]]), some (.ml [.str "number", .str "number", .str "number", .str "number"]), none, none, none, none, none] := by kernel_rfl
theorem tn_9_3 (a b : Int) (xs : List D) : stepL (callN (progOf ds) 19) (nth b_law 9) (.bool true) [some (.rl xs), some (.ml [.int a, .int b]), some (.d (.int 31)), some (.d (.tuple [.int 2, .int 4, .int 1])), some (.d (.tuple [.tuple [.int 0, .int 1], .tuple [.int 2]])), some (.d (.tuple [.tuple [.int 0, .int 1], .tuple [.int (-1), .int 0]])), some (.d (.tuple [.int 1, .int 2])), some (.ml [.none, .tuple [], .tuple [.tuple [.int 0, .int 1]], .tuple [.tuple [.int 0, .int 1], .tuple [.int (-1), .int 0], .tuple [.int 0, .int 1], .tuple [.int (-1), .int 0]], .list [.tuple [.int 0, .int 1], .tuple [.int (-1), .int 0]], .tuple [.tuple [.int 1, .int 0], .tuple [.int 0, .int 0]], .tuple [.tuple [.int 0, .int 4], .tuple [.int 0, .int 0]], .tuple [.tuple [.int (-4), .int 0], .tuple [.int 0, .int 0]], .tuple [.tuple [.int 0], .tuple [.int 0, .int 0]], .tuple [.tuple [.int 0, .bool true], .tuple [.int 0, .int 0]]]), some (.ml [.str "number", .str "number", .str "number", .str "number"]), none, none, none, none, none] = .ok .nx [some (.rl xs), some (.ml [.int a, .int b]), some (.d (.bool true)), some (.d (.tuple [.int 2, .int 4, .int 1])), some (.d (.tuple [.tuple [.int 0, .int 1], .tuple [.int 2]])), some (.d (.tuple [.tuple [.int 0, .int 1], .tuple [.int (-1), .int 0]])), some (.d (.tuple [.int 1, .int 2])), some (.ml [.none, .tuple [], .tuple [.tuple [.int 0, .int 1]], .tuple [.tuple [.int 0, .int 1], .tuple [.int (-1), .int 0], .tuple [.int 0, .int 1], .tuple [.int (-1), .int 0]], .list [.tuple [.int 0, .int 1], .tuple [.int (-1), .int 0]], .tuple [.tuple [.int 1, .int 0], .tuple [.int 0, .int 0]], .tuple [.tuple [.int 0, .int 4], .tuple [.int 0, .int 0]], .tuple [.tuple [.int (-4), .int 0], .tuple [.int 0, .int 0]], .tuple [.tuple [.int 0], .tuple [.int 0, .int 0]], .tuple [.tuple [.int 0, .bool true], .tuple [.int 0, .int 0]]]), some (.ml [.str "number", .str "number", .str "number", .str "number"]), none, none, none, none, none] := by kernel_rfl
theorem tn_9_4 (a b : Int) (xs : List D) : stepL (callN (progOf ds) 19) (nth b_law 9) (.str "1") [some (.rl xs), some (.ml [.int a, .int b]), some (.d (.bool true)), some (.d (.tuple [.int 2, .int 4, .int 1])), some (.d (.tuple [.tuple [.int 0, .int 1], .tuple [.int 2]])), some (.d (.tuple [.tuple [.int 0, .int 1], .tuple [.int (-1), .int 0]])), some (.d (.tuple [.int 1, .int 2])), some (.ml [.none, .tuple [], .tuple [.tuple [.int 0, .int 1]], .tuple [.tuple [.int 0, .int 1], .tuple [.int (-1), .int 0], .tuple [.int 0, .int 1], .tuple [.int (-1), .int 0]], .list [.tuple [.int 0, .int 1], .tuple [.int (-1), .int 0]], .tuple [.tuple [.int 1, .int 0], .tuple [.int 0, .int 0]], .tuple [.tuple [.int 0, .int 4], .tuple [.int 0, .int 0]], .tuple [.tuple [.int (-4), .int 0], .tuple [.int 0, .int 0]], .tuple [.tuple [.int 0], .tuple [.int 0, .int 0]], .tuple [.tuple [.int 0, .bool true], .tuple [.int 0, .int 0]]]), some (.ml [.str "number", .str "number", .str "number", .str "number"]), none, none, none, none, none] = .ok .nx [some (.rl xs), some (.ml [.int a, .int b]), some (.d (.str "1")), some (.d (.tuple [.int 2, .int 4, .int 1])), some (.d (.tuple [.tuple [.int 0, .int 1], .tuple [.int 2]])), some (.d (.tuple [.tuple [.int 0, .int 1], .tuple [.int (-1), .int 0]])), some (.d (.tuple [.int 1, .int 2])), some (.ml [.none, .tuple [], .tuple [.tuple [.int 0, .int 1]], .tuple [.tuple [.int 0, .int 1], .tuple [.int (-1), .int 0], .tuple [.int 0, .int 1], .tuple [.int (-1), .int 0]], .list [.tuple [.int 0, .int 1], .tuple [.int (-1), .int 0]], .tuple [.tuple [.int 1, .int 0], .tuple [.int 0, .int 0]], .tuple [.tuple [.int 0, .int 4], .tuple [.int 0, .int 0]], .tuple [.tuple [.int (-4), .int 0], .tuple [.int 0, .int 0]], .tuple [.tuple [.int 0], .tuple [.int 0, .int 0]], .tuple [.tuple [.int 0, .bool true], .tuple [.int 0, .int 0]]]), some (.ml [.str "number", .str "number", .str "number", .str "number"]), none, none, none, none, none] := by kernel_rfl
theorem tn_9_5 (a b : Int) (xs : List D) : stepL (callN (progOf ds) 19) (nth b_law 9) (.tuple [.int 1]) [some (.rl xs), some (.ml [.int a, .int b]), some (.d (.str "1")), some (.d (.tuple [.int 2, .int 4, .int 1])), some (.d (.tuple [.tuple [.int 0, .int 1], .tuple [.int 2]])), some (.d (.tuple [.tuple [.int 0, .int 1], .tuple [.int (-1), .int 0]])), some (.d (.tuple [.int 1, .int 2])), some (.ml [.none, .tuple [], .tuple [.tuple [.int 0, .int 1]], .tuple [.tuple [.int 0, .int 1], .tuple [.int (-1), .int 0], .tuple [.int 0, .int 1], .tuple [.int (-1), .int 0]], .list [.tuple [.int 0, .int 1], .tuple [.int (-1), .int 0]], .tuple [.tuple [.int 1, .int 0], .tuple [.int 0, .int 0]], .tuple [.tuple [.int 0, .int 4], .tuple [.int 0, .int 0]], .tuple [.tuple [.int (-4), .int 0], .tuple [.int 0, .int 0]], .tuple [.tuple [.int 0], .tuple [.int 0, .int 0]], .tuple [.tuple [.int 0, .bool true], .tuple [.int 0, .int 0]]]), some (.ml [.str "number", .str "number", .str "number", .str "number"]), none, none, none, none, none] = .ok .nx [some (.rl xs), some (.ml [.int a, .int b]), some (.d (.tuple [.int 1])), some (.d (.tuple [.int 2, .int 4, .int 1])), some (.d (.tuple [.tuple [.int 0, .int 1], .tuple [.int 2]])), some (.d (.tuple [.tuple [.int 0, .int 1], .tuple [.int (-1), .int 0]])), some (.d (.tuple [.int 1, .int 2])), some (.ml [.none, .tuple [], .tuple [.tuple [.int 0, .int 1]], .tuple [.tuple [.int 0, .int 1], .tuple [.int (-1), .int 0], .tuple [.int 0, .int 1], .tuple [.int (-1), .int 0]], .list [.tuple [.int 0, .int 1], .tuple [.int (-1), .int 0]], .tuple [.tuple [.int 1, .int 0], .tuple [.int 0, .int 0]], .tuple [.tuple [.int 0, .int 4], .tuple [.int 0, .int 0]], .tuple [.tuple [.int (-4), .int 0], .tuple [.int 0, .int 0]], .tuple [.tuple [.int 0], .tuple [.int 0, .int 0]], .tuple [.tuple [.int 0, .bool true], .tuple [.int 0, .int 0]]]), some (.ml [.str "number", .str "number", .str "number", .str "number"]), none, none, none, none, none] := by kernel_rfl
theorem tn_9_6 (a b : Int) (xs : List D) : stepL (callN (progOf ds) 19) (nth b_law 9) (.int 1000000000000000000000000000000) [some (.rl xs), some (.ml [.int a, .int b]), some (.d (.tuple [.int 1])), some (.d (.tuple [.int 2, .int 4, .int 1])), some (.d (.tuple [.tuple [.int 0, .int 1], .tuple [.int 2]])), some (.d (.tuple [.tuple [.int 0, .int 1], .tuple [.int (-1), .int 0]])), some (.d (.tuple [.int 1, .int 2])), some (.ml [.none, .tuple [], .tuple [.tuple [.int 0, .int 1]], .tuple [.tuple [.int 0, .int 1], .tuple [.int (-1), .int 0], .tuple [.int 0, .int 1], .tuple [.int (-1), .int 0]], .list [.tuple [.int 0, .int 1], .tuple [.int (-1), .int 0]], .tuple [.tuple [.int 1, .int 0], .tuple [.int 0, .int 0]], .tuple [.tuple [.int 0, .int 4], .tuple [.int 0, .int 0]], .tuple [.tuple [.int (-4), .int 0], .tuple [.int 0, .int 0]], .tuple [.tuple [.int 0], .tuple [.int 0, .int 0]], .tuple [.tuple [.int 0, .bool true], .tuple [.int 0, .int 0]]]), some (.ml [.str "number", .str "number", .str "number", .str "number"]), none, none, none, none, none] = .ok .nx [some (.rl xs), some (.ml [.int a, .int b]), some (.d (.int 1000000000000000000000000000000)), some (.d (.tuple [.int 2, .int 4, .int 1])), some (.d (.tuple [.tuple [.int 0, .int 1], .tuple [.int 2]])), some (.d (.tuple [.tuple [.int 0, .int 1], .tuple [.int (-1), .int 0]])), some (.d (.tuple [.int 1, .int 2])), some (.ml [.none, .tuple [], .tuple [.tuple [.int 0, .int 1]], .tuple [.tuple [.int 0, .int 1], .tuple [.int (-1), .int 0], .tuple [.int 0, .int 1], .tuple [.int (-1), .int 0]], .list [.tuple [.int 0, .int 1], .tuple [.int (-1), .int 0]], .tuple [.tuple [.int 1, .int 0], .tuple [.int 0, .int 0]], .tuple [.tuple [.int 0, .int 4], .tuple [.int 0, .int 0]], .tuple [.tuple [.int (-4), .int 0], .tuple [.int 0, .int 0]], .tuple [.tuple [.int 0], .tuple [.int 0, .int 0]], .tuple [.tuple [.int 0, .bool true], .tuple [.int 0, .int 0]]]), some (.ml [.str "number", .str "number", .str "number", .str "number"]), none, none, none, none, none] := by kernel_rfl
theorem st_10 (a b : Int) (xs : List D) : evS (callN (progOf ds) 19) 1 (nth b_law 10) [some (.rl xs), some (.ml [.int a, .int b]), some (.d (.int 1000000000000000000000000000000)), some (.d (.tuple [.int 2, .int 4, .int 1])), some (.d (.tuple [.tuple [.int 0, .int 1], .tuple [.int 2]])), some (.d (.tuple [.tuple [.int 0, .int 1], .tuple [.int (-1), .int 0]])), some (.d (.tuple [.int 1, .int 2])), some (.ml [.none, .tuple [], .tuple [.tuple [.int 0, .int 1]], .tuple [.tuple [.int 0, .int 1], .tuple [.int (-1), .int 0], .tuple [.int 0, .int 1], .tuple [.int (-1), .int 0]], .list [.tuple [.int 0, .int 1], .tuple [.int (-1), .int 0]], .tuple [.tuple [.int 1, .int 0], .tuple [.int 0, .int 0]], .tuple [.tuple [.int 0, .int 4], .tuple [.int 0, .int 0]], .tuple [.tuple [.int (-4), .int 0], .tuple [.int 0, .int 0]], .tuple [.tuple [.int 0], .tuple [.int 0, .int 0]], .tuple [.tuple [.int 0, .bool true], .tuple [.int 0, .int 0]]]), some (.ml [.str "number", .str "number", .str "number", .str "number"]), none, none, none, none, none] = .ok .nx [some (.rl xs), some (.ml [.int a, .int b]), some (.d (.int 1000000000000000000000000000000)), some (.d (.tuple [.int 2, .int 4, .int 1])), some (.d (.tuple [.tuple [.int 0, .int 1], .tuple [.int 2]])), some (.d (.tuple [.tuple [.int 0, .int 1], .tuple [.int (-1), .int 0]])), some (.d (.tuple [.int 1, .int 2])), some (.ml [.none, .tuple [], .tuple [.tuple [.int 0, .int 1]], .tuple [.tuple [.int 0, .int 1], .tuple [.int (-1), .int 0], .tuple [.int 0, .int 1], .tuple [.int (-1), .int 0]], .list [.tuple [.int 0, .int 1], .tuple [.int (-1), .int 0]], .tuple [.tuple [.int 1, .int 0], .tuple [.int 0, .int 0]], .tuple [.tuple [.int 0, .int 4], .tuple [.int 0, .int 0]], .tuple [.tuple [.int (-4), .int 0], .tuple [.int 0, .int 0]], .tuple [.tuple [.int 0], .tuple [.int 0, .int 0]], .tuple [.tuple [.int 0, .bool true], .tuple [.int 0, .int 0]]]), some (.ml [.str "number", .str "number", .str "number", .str "number"]), some (.d (.tuple [.tuple [.int 0, .tuple [.int 1, .int 2]], .tuple [.int 3, .tuple [.int 2, .int 2]]])), none, none, none, none] := by kernel_rfl
theorem st_11 (a b : Int) (xs : List D) : evS (callN (progOf ds) 19) 1 (nth b_law 11) [some (.rl xs), some (.ml [.int a, .int b]), some (.d (.int 1000000000000000000000000000000)), some (.d (.tuple [.int 2, .int 4, .int 1])), some (.d (.tuple [.tuple [.int 0, .int 1], .tuple [.int 2]])), some (.d (.tuple [.tuple [.int 0, .int 1], .tuple [.int (-1), .int 0]])), some (.d (.tuple [.int 1, .int 2])), some (.ml [.none, .tuple [], .tuple [.tuple [.int 0, .int 1]], .tuple [.tuple [.int 0, .int 1], .tuple [.int (-1), .int 0], .tuple [.int 0, .int 1], .tuple [.int (-1), .int 0]], .list [.tuple [.int 0, .int 1], .tuple [.int (-1), .int 0]], .tuple [.tuple [.int 1, .int 0], .tuple [.int 0, .int 0]], .tuple [.tuple [.int 0, .int 4], .tuple [.int 0, .int 0]], .tuple [.tuple [.int (-4), .int 0], .tuple [.int 0, .int 0]], .tuple [.tuple [.int 0], .tuple [.int 0, .int 0]], .tuple [.tuple [.int 0, .bool true], .tuple [.int 0, .int 0]]]), some (.ml [.str "number", .str "number", .str "number", .str "number"]), some (.d (.tuple [.tuple [.int 0, .tuple [.int 1, .int 2]], .tuple [.int 3, .tuple [.int 2, .int 2]]])), none, none, none, none] = .ok .nx [some (.rl xs), some (.ml [.int a, .int b]), some (.d (.int 1000000000000000000000000000000)), some (.d (.tuple [.int 2, .int 4, .int 1])), some (.d (.tuple [.tuple [.int 0, .int 1], .tuple [.int 2]])), some (.d (.tuple [.tuple [.int 0, .int 1], .tuple [.int (-1), .int 0]])), some (.d (.tuple [.int 1, .int 2])), some (.ml [.none, .int 5, .list [.tuple [.int 0, .tuple [.int 1, .int 2]], .tuple [.int 3, .tuple [.int 2, .int 2]]], .tuple [.tuple [.int 3, .tuple [.int 2, .int 2]], .tuple [.int 0, .tuple [.int 1, .int 2]]], .tuple [.tuple [.int 0, .tuple [.int 1, .int 2]], .tuple [.int 3, .tuple [.int 2, .int 2]], .tuple [.int 3, .tuple [.int 2, .int 2]]], .tuple [.tuple [.int 31, .tuple [.int 1, .int 2]]], .tuple [.tuple [.int (-1), .tuple [.int 1, .int 2]]], .tuple [.tuple [.bool true, .tuple [.int 1, .int 2]]], .tuple [.tuple [.int 0, .tuple [.int 1, .int 3]]], .tuple [.tuple [.int 0]], .tuple [.tuple [.int 0, .tuple [.int 1, .int 2], .int 1]]]), some (.ml [.str "number", .str "number", .str "number", .str "number"]), some (.d (.tuple [.tuple [.int 0, .tuple [.int 1, .int 2]], .tuple [.int 3, .tuple [.int 2, .int 2]]])), none, none, none, none] := by kernel_rfl
theorem it_12 (a b : Int) (xs : List D) : evI (callN (progOf ds) 19) (fIt (nth b_law 12)) [some (.rl xs), some (.ml [.int a, .int b]), some (.d (.int 1000000000000000000000000000000)), some (.d (.tuple [.int 2, .int 4, .int 1])), some (.d (.tuple [.tuple [.int 0, .int 1], .tuple [.int 2]])), some (.d (.tuple [.tuple [.int 0, .int 1], .tuple [.int (-1), .int 0]])), some (.d (.tuple [.int 1, .int 2])), some (.ml [.none, .int 5, .list [.tuple [.int 0, .tuple [.int 1, .int 2]], .tuple [.int 3, .tuple [.int 2, .int 2]]], .tuple [.tuple [.int 3, .tuple [.int 2, .int 2]], .tuple [.int 0, .tuple [.int 1, .int 2]]], .tuple [.tuple [.int 0, .tuple [.int 1, .int 2]], .tuple [.int 3, .tuple [.int 2, .int 2]], .tuple [.int 3, .tuple [.int 2, .int 2]]], .tuple [.tuple [.int 31, .tuple [.int 1, .int 2]]], .tuple [.tuple [.int (-1), .tuple [.int 1, .int 2]]], .tuple [.tuple [.bool true, .tuple [.int 1, .int 2]]], .tuple [.tuple [.int 0, .tuple [.int 1, .int 3]]], .tuple [.tuple [.int 0]], .tuple [.tuple [.int 0, .tuple [.int 1, .int 2], .int 1]]]), some (.ml [.str "number", .str "number", .str "number", .str "number"]), some (.d (.tuple [.tuple [.int 0, .tuple [.int 1, .int 2]], .tuple [.int 3, .tuple [.int 2, .int 2]]])), none, none, none, none] = .ok [.none, .int 5, .list [.tuple [.int 0, .tuple [.int 1, .int 2]], .tuple [.int 3, .tuple [.int 2, .int 2]]], .tuple [.tuple [.int 3, .tuple [.int 2, .int 2]], .tuple [.int 0, .tuple [.int 1, .int 2]]], .tuple [.tuple [.int 0, .tuple [.int 1, .int 2]], .tuple [.int 3, .tuple [.int 2, .int 2]], .tuple [.int 3, .tuple [.int 2, .int 2]]], .tuple [.tuple [.int 31, .tuple [.int 1, .int 2]]], .tuple [.tuple [.int (-1), .tuple [.int 1, .int 2]]], .tuple [.tuple [.bool true, .tuple [.int 1, .int 2]]], .tuple [.tuple [.int 0, .tuple [.int 1, .int 3]]], .tuple [.tuple [.int 0]], .tuple [.tuple [.int 0, .tuple [.int 1, .int 2], .int 1]], .tuple [.list [.int 0, .tuple [.int 1, .int 2]]], .tuple [.none], .tuple [.int 0, .tuple [.int 1, .int 2]], .tuple [.tuple [.int 0, .tuple [.int 1, .int 2]], .tuple [.int 1, .tuple [.int 1, .int 2]], .tuple [.int 2, .tuple [.int 1, .int 2]], .tuple [.int 3, .tuple [.int 1, .int 2]], .tuple [.int 4, .tuple [.int 1, .int 2]], .tuple [.int 5, .tuple [.int 1, .int 2]], .tuple [.int 6, .tuple [.int 1, .int 2]], .tuple [.int 7, .tuple [.int 1, .int 2]], .tuple [.int 8, .tuple [.int 1, .int 2]], .tuple [.int 9, .tuple [.int 1, .int 2]], .tuple [.int 10, .tuple [.int 1, .int 2]], .tuple [.int 11, .tuple [.int 1, .int 2]], .tuple [.int 12, .tuple [.int 1, .int 2]], .tuple [.int 13, .tuple [.int 1, .int 2]], .tuple [.int 14, .tuple [.int 1, .int 2]], .tuple [.int 15, .tuple [.int 1, .int 2]], .tuple [.int 16, .tuple [.int 1, .int 2]], .tuple [.int 17, .tuple [.int 1, .int 2]], .tuple [.int 18, .tuple [.int 1, .int 2]], .tuple [.int 19, .tuple [.int 1, .int 2]], .tuple [.int 20, .tuple [.int 1, .int 2]]]] [some (.rl xs), some (.ml [.int a, .int b]), some (.d (.int 1000000000000000000000000000000)), some (.d (.tuple [.int 2, .int 4, .int 1])), some (.d (.tuple [.tuple [.int 0, .int 1], .tuple [.int 2]])), some (.d (.tuple [.tuple [.int 0, .int 1], .tuple [.int (-1), .int 0]])), some (.d (.tuple [.int 1, .int 2])), some (.ml [.none, .int 5, .list [.tuple [.int 0, .tuple [.int 1, .int 2]], .tuple [.int 3, .tuple [.int 2, .int 2]]], .tuple [.tuple [.int 3, .tuple [.int 2, .int 2]], .tuple [.int 0, .tuple [.int 1, .int 2]]], .tuple [.tuple [.int 0, .tuple [.int 1, .int 2]], .tuple [.int 3, .tuple [.int 2, .int 2]], .tuple [.int 3, .tuple [.int 2, .int 2]]], .tuple [.tuple [.int 31, .tuple [.int 1, .int 2]]], .tuple [.tuple [.int (-1), .tuple [.int 1, .int 2]]], .tuple [.tuple [.bool true, .tuple [.int 1, .int 2]]], .tuple [.tuple [.int 0, .tuple [.int 1, .int 3]]], .tuple [.tuple [.int 0]], .tuple [.tuple [.int 0, .tuple [.int 1, .int 2], .int 1]]]), some (.ml [.str "number", .str "number", .str "number", .str "number"]), some (.d (.tuple [.tuple [.int 0, .tuple [.int 1, .int 2]], .tuple [.int 3, .tuple [.int 2, .int 2]]])), none, none, none, none] := by kernel_rfl
theorem tn_12_0 (a b : Int) (xs : List D) : stepL (callN (progOf ds) 19) (nth b_law 12) (.none) [some (.rl xs), some (.ml [.int a, .int b]), some (.d (.int 1000000000000000000000000000000)), some (.d (.tuple [.int 2, .int 4, .int 1])), some (.d (.tuple [.tuple [.int 0, .int 1], .tuple [.int 2]])), some (.d (.tuple [.tuple [.int 0, .int 1], .tuple [.int (-1), .int 0]])), some (.d (.tuple [.int 1, .int 2])), some (.ml [.none, .int 5, .list [.tuple [.int 0, .tuple [.int 1, .int 2]], .tuple [.int 3, .tuple [.int 2, .int 2]]], .tuple [.tuple [.int 3, .tuple [.int 2, .int 2]], .tuple [.int 0, .tuple [.int 1, .int 2]]], .tuple [.tuple [.int 0, .tuple [.int 1, .int 2]], .tuple [.int 3, .tuple [.int 2, .int 2]], .tuple [.int 3, .tuple [.int 2, .int 2]]], .tuple [.tuple [.int 31, .tuple [.int 1, .int 2]]], .tuple [.tuple [.int (-1), .tuple [.int 1, .int 2]]], .tuple [.tuple [.bool true, .tuple [.int 1, .int 2]]], .tuple [.tuple [.int 0, .tuple [.int 1, .int 3]]], .tuple [.tuple [.int 0]], .tuple [.tuple [.int 0, .tuple [.int 1, .int 2], .int 1]]]), some (.ml [.str "number", .str "number", .str "number", .str "number"]), some (.d (.tuple [.tuple [.int 0, .tuple [.int 1, .int 2]], .tuple [.int 3, .tuple [.int 2, .int 2]]])), none, none, none, none] = .ok .nx [some (.rl xs), some (.ml [.int a, .int b]), some (.d (.none)), some (.d (.tuple [.int 2, .int 4, .int 1])), some (.d (.tuple [.tuple [.int 0, .int 1], .tuple [.int 2]])), some (.d (.tuple [.tuple [.int 0, .int 1], .tuple [.int (-1), .int 0]])), some (.d (.tuple [.int 1, .int 2])), some (.ml [.none, .int 5, .list [.tuple [.int 0, .tuple [.int 1, .int 2]], .tuple [.int 3, .tuple [.int 2, .int 2]]], .tuple [.tuple [.int 3, .tuple [.int 2, .int 2]], .tuple [.int 0, .tuple [.int 1, .int 2]]], .tuple [.tuple [.int 0, .tuple [.int 1, .int 2]], .tuple [.int 3, .tuple [.int 2, .int 2]], .tuple [.int 3, .tuple [.int 2, .int 2]]], .tuple [.tuple [.int 31, .tuple [.int 1, .int 2]]], .tuple [.tuple [.int (-1), .tuple [.int 1, .int 2]]], .tuple [.tuple [.bool true, .tuple [.int 1, .int 2]]], .tuple [.tuple [.int 0, .tuple [.int 1, .int 3]]], .tuple [.tuple [.int 0]], .tuple [.tuple [.int 0, .tuple [.int 1, .int 2], .int 1]]]), some (.ml [.str "tries", .str "tries", .str "tries", .str "tries"]), some (.d (.tuple [.tuple [.int 0, .tuple [.int 1, .int 2]], .tuple [.int 3, .tuple [.int 2, .int 2]]])), none, none, none, none] := by kernel_rfl
theorem tn_12_1 (a b : Int) (xs : List D) : stepL (callN (progOf ds) 19) (nth b_law 12) (.int 5) [some (.rl xs), some (.ml [.int a, .int b]), some (.d (.none)), some (.d (.tuple [.int 2, .int 4, .int 1])), some (.d (.tuple [.tuple [.int 0, .int 1], .tuple [.int 2]])), some (.d (.tuple [.tuple [.int 0, .int 1], .tuple [.int (-1), .int 0]])), some (.d (.tuple [.int 1, .int 2])), some (.ml [.none, .int 5, .list [.tuple [.int 0, .tuple [.int 1, .int 2]], .tuple [.int 3, .tuple [.int 2, .int 2]]], .tuple [.tuple [.int 3, .tuple [.int 2, .int 2]], .tuple [.int 0, .tuple [.int 1, .int 2]]], .tuple [.tuple [.int 0, .tuple [.int 1, .int 2]], .tuple [.int 3, .tuple [.int 2, .int 2]], .tuple [.int 3, .tuple [.int 2, .int 2]]], .tuple [.tuple [.int 31, .tuple [.int 1, .int 2]]], .tuple [.tuple [.int (-1), .tuple [.int 1, .int 2]]], .tuple [.tuple [.bool true, .tuple [.int 1, .int 2]]], .tuple [.tuple [.int 0, .tuple [.int 1, .int 3]]], .tuple [.tuple [.int 0]], .tuple [.tuple [.int 0, .tuple [.int 1, .int 2], .int 1]]]), some (.ml [.str "tries", .str "tries", .str "tries", .str "tries"]), some (.d (.tuple [.tuple [.int 0, .tuple [.int 1, .int 2]], .tuple [.int 3, .tuple [.int 2, .int 2]]])), none, none, none, none] = .ok .nx [some (.rl xs), some (.ml [.int a, .int b]), some (.d (.int 5)), some (.d (.tuple [.int 2, .int 4, .int 1])), some (.d (.tuple [.tuple [.int 0, .int 1], .tuple [.int 2]])), some (.d (.tuple [.tuple [.int 0, .int 1], .tuple [.int (-1), .int 0]])), some (.d (.tuple [.int 1, .int 2])), some (.ml [.none, .int 5, .list [.tuple [.int 0, .tuple [.int 1, .int 2]], .tuple [.int 3, .tuple [.int 2, .int 2]]], .tuple [.tuple [.int 3, .tuple [.int 2, .int 2]], .tuple [.int 0, .tuple [.int 1, .int 2]]], .tuple [.tuple [.int 0, .tuple [.int 1, .int 2]], .tuple [.int 3, .tuple [.int 2, .int 2]], .tuple [.int 3, .tuple [.int 2, .int 2]]], .tuple [.tuple [.int 31, .tuple [.int 1, .int 2]]], .tuple [.tuple [.int (-1), .tuple [.int 1, .int 2]]], .tuple [.tuple [.bool true, .tuple [.int 1, .int 2]]], .tuple [.tuple [.int 0, .tuple [.int 1, .int 3]]], .tuple [.tuple [.int 0]], .tuple [.tuple [.int 0, .tuple [.int 1, .int 2], .int 1]]]), some (.ml [.str "tries", .str "tries", .str "tries", .str "tries"]), some (.d (.tuple [.tuple [.int 0, .tuple [.int 1, .int 2]], .tuple [.int 3, .tuple [.int 2, .int 2]]])), none, none, none, none] := by kernel_rfl
theorem tn_12_2 (a b : Int) (xs : List D) : stepL (callN (progOf ds) 19) (nth b_law 12) (.list [.tuple [.int 0, .tuple [.int 1, .int 2]], .tuple [.int 3, .tuple [.int 2, .int 2]]]) [some (.rl xs), some (.ml [.int a, .int b]), some (.d (.int 5)), some (.d (.tuple [.int 2, .int 4, .int 1])), some (.d (.tuple [.tuple [.int 0, .int 1], .tuple [.int 2]])), some (.d (.tuple [.tuple [.int 0, .int 1], .tuple [.int (-1), .int 0]])), some (.d (.tuple [.int 1, .int 2])), some (.ml [.none, .int 5, .list [.tuple [.int 0, .tuple [.int 1, .int 2]], .tuple [.int 3, .tuple [.int 2, .int 2]]], .tuple [.tuple [.int 3, .tuple [.int 2, .int 2]], .tuple [.int 0, .tuple [.int 1, .int 2]]], .tuple [.tuple [.int 0, .tuple [.int 1, .int 2]], .tuple [.int 3, .tuple [.int 2, .int 2]], .tuple [.int 3, .tuple [.int 2, .int 2]]], .tuple [.tuple [.int 31, .tuple [.int 1, .int 2]]], .tuple [.tuple [.int (-1), .tuple [.int 1, .int 2]]], .tuple [.tuple [.bool true, .tuple [.int 1, .int 2]]], .tuple [.tuple [.int 0, .tuple [.int 1, .int 3]]], .tuple [.tuple [.int 0]], .tuple [.tuple [.int 0, .tuple [.int 1, .int 2], .int 1]]]), some (.ml [.str "tries", .str "tries", .str "tries", .str "tries"]), some (.d (.tuple [.tuple [.int 0, .tuple [.int 1, .int 2]], .tuple [.int 3, .tuple [.int 2, .int 2]]])), none, none, none, none] = .ok .nx [some (.rl xs), some (.ml [.int a, .int b]), some (.d (.list [.tuple [.int 0, .tuple [.int 1, .int 2]], .tuple [.int 3, .tuple [.int 2, .int 2]]])), some (.d (.tuple [.int 2, .int 4, .int 1])), some (.d (.tuple [.tuple [.int 0, .int 1], .tuple [.int 2]])), some (.d (.tuple [.tuple [.int 0, .int 1], .tuple [.int (-1), .int 0]])), some (.d (.tuple [.int 1, .int 2])), some (.ml [.none, .int 5, .list [.tuple [.int 0, .tuple [.int 1, .int 2]], .tuple [.int 3, .tuple [.int 2, .int 2]]], .tuple [.tuple [.int 3, .tuple [.int 2, .int 2]], .tuple [.int 0, .tuple [.int 1, .int 2]]], .tuple [.tuple [.int 0, .tuple [.int 1, .int 2]], .tuple [.int 3, .tuple [.int 2, .int 2]], .tuple [.int 3, .tuple [.int 2, .int 2]]], .tuple [.tuple [.int 31, .tuple [.int 1, .int 2]]], .tuple [.tuple [.int (-1), .tuple [.int 1, .int 2]]], .tuple [.tuple [.bool true, .tuple [.int 1, .int 2]]], .tuple [.tuple [.int 0, .tuple [.int 1, .int 3]]], .tuple [.tuple [.int 0]], .tuple [.tuple [.int 0, .tuple [.int 1, .int 2], .int 1]]]), some (.ml [.str "tries", .str "tries", .str "tries", .str "tries"]), some (.d (.tuple [.tuple [.int 0, .tuple [.int 1, .int 2]], .tuple [.int 3, .tuple [.int 2, .int 2]]])), none, none, none, none] := by kernel_rfl
theorem tn_12_3 (a b : Int) (xs : List D) : stepL (callN (progOf ds) 19) (nth b_law 12) (.tuple [.tuple [.int 3, .tuple [.int 2, .int 2]], .tuple [.int 0, .tuple [.int 1, .int 2]]]) [some (.rl xs), some (.ml [.int a, .int b]), some (.d (.list [.tuple [.int 0, .tuple [.int 1, .int 2]], .tuple [.int 3, .tuple [.int 2, .int 2]]])), some (.d (.tuple [.int 2, .int 4, .int 1])), some (.d (.tuple [.tuple [.int 0, .int 1], .tuple [.int 2]])), some (.d (.tuple [.tuple [.int 0, .int 1], .tuple [.int (-1), .int 0]])), some (.d (.tuple [.int 1, .int 2])), some (.ml [.none, .int 5, .list [.tuple [.int 0, .tuple [.int 1, .int 2]], .tuple [.int 3, .tuple [.int 2, .int 2]]], .tuple [.tuple [.int 3, .tuple [.int 2, .int 2]], .tuple [.int 0, .tuple [.int 1, .int 2]]], .tuple [.tuple [.int 0, .tuple [.int 1, .int 2]], .tuple [.int 3, .tuple [.int 2, .int 2]], .tuple [.int 3, .tuple [.int 2, .int 2]]], .tuple [.tuple [.int 31, .tuple [.int 1, .int 2]]], .tuple [.tuple [.int (-1), .tuple [.int 1, .int 2]]], .tuple [.tuple [.bool true, .tuple [.int 1, .int 2]]], .tuple [.tuple [.int 0, .tuple [.int 1, .int 3]]], .tuple [.tuple [.int 0]], .tuple [.tuple [.int 0, .tuple [.int 1, .int 2], .int 1]]]), some (.ml [.str "tries", .str "tries", .str "tries", .str "tries"]), some (.d (.tuple [.tuple [.int 0, .tuple [.int 1, .int 2]], .tuple [.int 3, .tuple [.int 2, .int 2]]])), none, none, none, none] = .ok .nx [some (.rl xs), some (.ml [.int a, .int b]), some (.d (.tuple [.tuple [.int 3, .tuple [.int 2, .int 2]], .tuple [.int 0, .tuple [.int 1, .int 2]]])), some (.d (.tuple [.int 2, .int 4, .int 1])), some (.d (.tuple [.tuple [.int 0, .int 1], .tuple [.int 2]])), some (.d (.tuple [.tuple [.int 0, .int 1], .tuple [.int (-1), .int 0]])), some (.d (.tuple [.int 1, .int 2])), some (.ml [.none, .int 5, .list [.tuple [.int 0, .tuple [.int 1, .int 2]], .tuple [.int 3, .tuple [.int 2, .int 2]]], .tuple [.tuple [.int 3, .tuple [.int 2, .int 2]], .tuple [.int 0, .tuple [.int 1, .int 2]]], .tuple [.tuple [.int 0, .tuple [.int 1, .int 2]], .tuple [.int 3, .tuple [.int 2, .int 2]], .tuple [.int 3, .tuple [.int 2, .int 2]]], .tuple [.tuple [.int 31, .tuple [.int 1, .int 2]]], .tuple [.tuple [.int (-1), .tuple [.int 1, .int 2]]], .tuple [.tuple [.bool true, .tuple [.int 1, .int 2]]], .tuple [.tuple [.int 0, .tuple [.int 1, .int 3]]], .tuple [.tuple [.int 0]], .tuple [.tuple [.int 0, .tuple [.int 1, .int 2], .int 1]]]), some (.ml [.str "tries", .str "tries", .str "tries", .str "tries"]), some (.d (.tuple [.tuple [.int 0, .tuple [.int 1, .int 2]], .tuple [.int 3, .tuple [.int 2, .int 2]]])), none, none, none, none] := by kernel_rfl
theorem tn_12_4 (a b : Int) (xs : List D) : stepL (callN (progOf ds) 19) (nth b_law 12) (.tuple [.tuple [.int 0, .tuple [.int 1, .int 2]], .tuple [.int 3, .tuple [.int 2, .int 2]], .tuple [.int 3, .tuple [.int 2, .int 2]]]) [some (.rl xs), some (.ml [.int a, .int b]), some (.d (.tuple [.tuple [.int 3, .tuple [.int 2, .int 2]], .tuple [.int 0, .tuple [.int 1, .int 2]]])), some (.d (.tuple [.int 2, .int 4, .int 1])), some (.d (.tuple [.tuple [.int 0, .int 1], .tuple [.int 2]])), some (.d (.tuple [.tuple [.int 0, .int 1], .tuple [.int (-1), .int 0]])), some (.d (.tuple [.int 1, .int 2])), some (.ml [.none, .int 5, .list [.tuple [.int 0, .tuple [.int 1, .int 2]], .tuple [.int 3, .tuple [.int 2, .int 2]]], .tuple [.tuple [.int 3, .tuple [.int 2, .int 2]], .tuple [.int 0, .tuple [.int 1, .int 2]]], .tuple [.tuple [.int 0, .tuple [.int 1, .int 2]], .tuple [.int 3, .tuple [.int 2, .int 2]], .tuple [.int 3, .tuple [.int 2, .int 2]]], .tuple [.tuple [.int 31, .tuple [.int 1, .int 2]]], .tuple [.tuple [.int (-1), .tuple [.int 1, .int 2]]], .tuple [.tuple [.bool true, .tuple [.int 1, .int 2]]], .tuple [.tuple [.int 0, .tuple [.int 1, .int 3]]], .tuple [.tuple [.int 0]], .tuple [.tuple [.int 0, .tuple [.int 1, .int 2], .int 1]]]), some (.ml [.str "tries", .str "tries", .str "tries", .str "tries"]), some (.d (.tuple [.tuple [.int 0, .tuple [.int 1, .int 2]], .tuple [.int 3, .tuple [.int 2, .int 2]]])), none, none, none, none] = .ok .nx [some (.rl xs), some (.ml [.int a, .int b]), some (.d (.tuple [.tuple [.int 0, .tuple [.int 1, .int 2]], .tuple [.int 3, .tuple [.int 2, .int 2]], .tuple [.int 3, .tuple [.int 2, .int 2]]])), some (.d (.tuple [.int 2, .int 4, .int 1])), some (.d (.tuple [.tuple [.int 0, .int 1], .tuple [.int 2]])), some (.d (.tuple [.tuple [.int 0, .int 1], .tuple [.int (-1), .int 0]])), some (.d (.tuple [.int 1, .int 2])), some (.ml [.none, .int 5, .list [.tuple [.int 0, .tuple [.int 1, .int 2]], .tuple [.int 3, .tuple [.int 2, .int 2]]], .tuple [.tuple [.int 3, .tuple [.int 2, .int 2]], .tuple [.int 0, .tuple [.int 1, .int 2]]], .tuple [.tuple [.int 0, .tuple [.int 1, .int 2]], .tuple [.int 3, .tuple [.int 2, .int 2]], .tuple [.int 3, .tuple [.int 2, .int 2]]], .tuple [.tuple [.int 31, .tuple [.int 1, .int 2]]], .tuple [.tuple [.int (-1), .tuple [.int 1, .int 2]]], .tuple [.tuple [.bool true, .tuple [.int 1, .int 2]]], .tuple [.tuple [.int 0, .tuple [.int 1, .int 3]]], .tuple [.tuple [.int 0]], .tuple [.tuple [.int 0, .tuple [.int 1, .int 2], .int 1]]]), some (.ml [.str "tries", .str "tries", .str "tries", .str "tries"]), some (.d (.tuple [.tuple [.int 0, .tuple [.int 1, .int 2]], .tuple [.int 3, .tuple [.int 2, .int 2]]])), none, none, none, none] := by kernel_rfl
theorem tn_12_5 (a b : Int) (xs : List D) : stepL (callN (progOf ds) 19) (nth b_law 12) (.tuple [.tuple [.int 31, .tuple [.int 1, .int 2]]]) [some (.rl xs), some (.ml [.int a, .int b]), some (.d (.tuple [.tuple [.int 0, .tuple [.int 1, .int 2]], .tuple [.int 3, .tuple [.int 2, .int 2]], .tuple [.int 3, .tuple [.int 2, .int 2]]])), some (.d (.tuple [.int 2, .int 4, .int 1])), some (.d (.tuple [.tuple [.int 0, .int 1], .tuple [.int 2]])), some (.d (.tuple [.tuple [.int 0, .int 1], .tuple [.int (-1), .int 0]])), some (.d (.tuple [.int 1, .int 2])), some (.ml [.none, .int 5, .list [.tuple [.int 0, .tuple [.int 1, .int 2]], .tuple [.int 3, .tuple [.int 2, .int 2]]], .tuple [.tuple [.int 3, .tuple [.int 2, .int 2]], .tuple [.int 0, .tuple [.int 1, .int 2]]], .tuple [.tuple [.int 0, .tuple [.int 1, .int 2]], .tuple [.int 3, .tuple [.int 2, .int 2]], .tuple [.int 3, .tuple [.int 2, .int 2]]], .tuple [.tuple [.int 31, .tuple [.int 1, .int 2]]], .tuple [.tuple [.int (-1), .tuple [.int 1, .int 2]]], .tuple [.tuple [.bool true, .tuple [.int 1, .int 2]]], .tuple [.tuple [.int 0, .tuple [.int 1, .int 3]]], .tuple [.tuple [.int 0]], .tuple [.tuple [.int 0, .tuple [.int 1, .int 2], .int 1]]]), some (.ml [.str "tries", .str "tries", .str "tries", .str "tries"]), some (.d (.tuple [.tuple [.int 0, .tuple [.int 1, .int 2]], .tuple [.int 3, .tuple [.int 2, .int 2]]])), none, none, none, none] = .ok .nx [some (.rl xs), some (.ml [.int a, .int b]), some (.d (.tuple [.tuple [.int 31, .tuple [.int 1, .int 2]]])), some (.d (.tuple [.int 2, .int 4, .int 1])), some (.d (.tuple [.tuple [.int 0, .int 1], .tuple [.int 2]])), some (.d (.tuple [.tuple [.int 0, .int 1], .tuple [.int (-1), .int 0]])), some (.d (.tuple [.int 1, .int 2])), some (.ml [.none, .int 5, .list [.tuple [.int 0, .tuple [.int 1, .int 2]], .tuple [.int 3, .tuple [.int 2, .int 2]]], .tuple [.tuple [.int 3, .tuple [.int 2, .int 2]], .tuple [.int 0, .tuple [.int 1, .int 2]]], .tuple [.tuple [.int 0, .tuple [.int 1, .int 2]], .tuple [.int 3, .tuple [.int 2, .int 2]], .tuple [.int 3, .tuple [.int 2, .int 2]]], .tuple [.tuple [.int 31, .tuple [.int 1, .int 2]]], .tuple [.tuple [.int (-1), .tuple [.int 1, .int 2]]], .tuple [.tuple [.bool true, .tuple [.int 1, .int 2]]], .tuple [.tuple [.int 0, .tuple [.int 1, .int 3]]], .tuple [.tuple [.int 0]], .tuple [.tuple [.int 0, .tuple [.int 1, .int 2], .int 1]]]), some (.ml [.str "tries", .str "tries", .str "tries", .str "tries"]), some (.d (.tuple [.tuple [.int 0, .tuple [.int 1, .int 2]], .tuple [.int 3, .tuple [.int 2, .int 2]]])), none, none, none, none] := by kernel_rfl
theorem tn_12_6 (a b : Int) (xs : List D) : stepL (callN (progOf ds) 19) (nth b_law 12) (.tuple [.tuple [.int (-1), .tuple [.int 1, .int 2]]]) [some (.rl xs), some (.ml [.int a, .int b]), some (.d (.tuple [.tuple [.int 31, .tuple [.int 1, .int 2]]])), some (.d (.tuple [.int 2, .int 4, .int 1])), some (.d (.tuple [.tuple [.int 0, .int 1], .tuple [.int 2]])), some (.d (.tuple [.tuple [.int 0, .int 1], .tuple [.int (-1), .int 0]])), some (.d (.tuple [.int 1, .int 2])), some (.ml [.none, .int 5, .list [.tuple [.int 0, .tuple [.int 1, .int 2]], .tuple [.int 3, .tuple [.int 2, .int 2]]], .tuple [.tuple [.int 3, .tuple [.int 2, .int 2]], .tuple [.int 0, .tuple [.int 1, .int 2]]], .tuple [.tuple [.int 0, .tuple [.int 1, .int 2]], .tuple [.int 3, .tuple [.int 2, .int 2]], .tuple [.int 3, .tuple [.int 2, .int 2]]], .tuple [.tuple [.int 31, .tuple [.int 1, .int 2]]], .tuple [.tuple [.int (-1), .tuple [.int 1, .int 2]]], .tuple [.tuple [.bool true, .tuple [.int 1, .int 2]]], .tuple [.tuple [.int 0, .tuple [.int 1, .int 3]]], .tuple [.tuple [.int 0]], .tuple [.tuple [.int 0, .tuple [.int 1, .int 2], .int 1]]]), some (.ml [.str "tries", .str "tries", .str "tries", .str "tries"]), some (.d (.tuple [.tuple [.int 0, .tuple [.int 1, .int 2]], .tuple [.int 3, .tuple [.int 2, .int 2]]])), none, none, none, none] = .ok .nx [some (.rl xs), some (.ml [.int a, .int b]), some (.d (.tuple [.tuple [.int (-1), .tuple [.int 1, .int 2]]])), some (.d (.tuple [.int 2, .int 4, .int 1])), some (.d (.tuple [.tuple [.int 0, .int 1], .tuple [.int 2]])), some (.d (.tuple [.tuple [.int 0, .int 1], .tuple [.int (-1), .int 0]])), some (.d (.tuple [.int 1, .int 2])), some (.ml [.none, .int 5, .list [.tuple [.int 0, .tuple [.int 1, .int 2]], .tuple [.int 3, .tuple [.int 2, .int 2]]], .tuple [.tuple [.int 3, .tuple [.int 2, .int 2]], .tuple [.int 0, .tuple [.int 1, .int 2]]], .tuple [.tuple [.int 0, .tuple [.int 1, .int 2]], .tuple [.int 3, .tuple [.int 2, .int 2]], .tuple [.int 3, .tuple [.int 2, .int 2]]], .tuple [.tuple [.int 31, .tuple [.int 1, .int 2]]], .tuple [.tuple [.int (-1), .tuple [.int 1, .int 2]]], .tuple [.tuple [.bool true, .tuple [.int 1, .int 2]]], .tuple [.tuple [.int 0, .tuple [.int 1, .int 3]]], .tuple [.tuple [.int 0]], .tuple [.tuple [.int 0, .tuple [.int 1, .int 2], .int 1]]]), some (.ml [.str "tries", .str "tries", .str "tries", .str "tries"]), some (.d (.tuple [.tuple [.int 0, .tuple [.int 1, .int 2]], .tuple [.int 3, .tuple [.int 2, .int 2]]])), none, none, none, none] := by kernel_rfl
theorem tn_12_7 (a b : Int) (xs : List D) : stepL (callN (progOf ds) 19) (nth b_law 12) (.tuple [.tuple [.bool true, .tuple [.int 1, .int 2]]]) [some (.rl xs), some (.ml [.int a, .int b]), some (.d (.tuple [.tuple [.int (-1), .tuple [.int 1, .int 2]]])), some (.d (.tuple [.int 2, .int 4, .int 1])), some (.d (.tuple [.tuple [.int 0, .int 1], .tuple [.int 2]])), some (.d (.tuple [.tuple [.int 0, .int 1], .tuple [.int (-1), .int 0]])), some (.d (.tuple [.int 1, .int 2])), some (.ml [.none, .int 5, .list [.tuple [.int 0, .tuple [.int 1, .int 2]], .tuple [.int 3, .tuple [.int 2, .int 2]]], .tuple [.tuple [.int 3, .tuple [.int 2, .int 2]], .tuple [.int 0, .tuple [.int 1, .int 2]]], .tuple [.tuple [.int 0, .tuple [.int 1, .int 2]], .tuple [.int 3, .tuple [.int 2, .int 2]], .tuple [.int 3, .tuple [.int 2, .int 2]]], .tuple [.tuple [.int 31, .tuple [.int 1, .int 2]]], .tuple [.tuple [.int (-1), .tuple [.int 1, .int 2]]], .tuple [.tuple [.bool true, .tuple [.int 1, .int 2]]], .tuple [.tuple [.int 0, .tuple [.int 1, .int 3]]], .tuple [.tuple [.int 0]], .tuple [.tuple [.int 0, .tuple [.int 1, .int 2], .int 1]]]), some (.ml [.str "tries", .str "tries", .str "tries", .str "tries"]), some (.d (.tuple [.tuple [.int 0, .tuple [.int 1, .int 2]], .tuple [.int 3, .tuple [.int 2, .int 2]]])), none, none, none, none] = .ok .nx [some (.rl xs), some (.ml [.int a, .int b]), some (.d (.tuple [.tuple [.bool true, .tuple [.int 1, .int 2]]])), some (.d (.tuple [.int 2, .int 4, .int 1])), some (.d (.tuple [.tuple [.int 0, .int 1], .tuple [.int 2]])), some (.d (.tuple [.tuple [.int 0, .int 1], .tuple [.int (-1), .int 0]])), some (.d (.tuple [.int 1, .int 2])), some (.ml [.none, .int 5, .list [.tuple [.int 0, .tuple [.int 1, .int 2]], .tuple [.int 3, .tuple [.int 2, .int 2]]], .tuple [.tuple [.int 3, .tuple [.int 2, .int 2]], .tuple [.int 0, .tuple [.int 1, .int 2]]], .tuple [.tuple [.int 0, .tuple [.int 1, .int 2]], .tuple [.int 3, .tuple [.int 2, .int 2]], .tuple [.int 3, .tuple [.int 2, .int 2]]], .tuple [.tuple [.int 31, .tuple [.int 1, .int 2]]], .tuple [.tuple [.int (-1), .tuple [.int 1, .int 2]]], .tuple [.tuple [.bool true, .tuple [.int 1, .int 2]]], .tuple [.tuple [.int 0, .tuple [.int 1, .int 3]]], .tuple [.tuple [.int 0]], .tuple [.tuple [.int 0, .tuple [.int 1, .int 2], .int 1]]]), some (.ml [.str "tries", .str "tries", .str "tries", .str "tries"]), some (.d (.tuple [.tuple [.int 0, .tuple [.int 1, .int 2]], .tuple [.int 3, .tuple [.int 2, .int 2]]])), none, none, none, none] := by kernel_rfl
theorem tn_12_8 (a b : Int) (xs : List D) : stepL (callN (progOf ds) 19) (nth b_law 12) (.tuple [.tuple [.int 0, .tuple [.int 1, .int 3]]]) [some (.rl xs), some (.ml [.int a, .int b]), some (.d (.tuple [.tuple [.bool true, .tuple [.int 1, .int 2]]])), some (.d (.tuple [.int 2, .int 4, .int 1])), some (.d (.tuple [.tuple [.int 0, .int 1], .tuple [.int 2]])), some (.d (.tuple [.tuple [.int 0, .int 1], .tuple [.int (-1), .int 0]])), some (.d (.tuple [.int 1, .int 2])), some (.ml [.none, .int 5, .list [.tuple [.int 0, .tuple [.int 1, .int 2]], .tuple [.int 3, .tuple [.int 2, .int 2]]], .tuple [.tuple [.int 3, .tuple [.int 2, .int 2]], .tuple [.int 0, .tuple [.int 1, .int 2]]], .tuple [.tuple [.int 0, .tuple [.int 1, .int 2]], .tuple [.int 3, .tuple [.int 2, .int 2]], .tuple [.int 3, .tuple [.int 2, .int 2]]], .tuple [.tuple [.int 31, .tuple [.int 1, .int 2]]], .tuple [.tuple [.int (-1), .tuple [.int 1, .int 2]]], .tuple [.tuple [.bool true, .tuple [.int 1, .int 2]]], .tuple [.tuple [.int 0, .tuple [.int 1, .int 3]]], .tuple [.tuple [.int 0]], .tuple [.tuple [.int 0, .tuple [.int 1, .int 2], .int 1]]]), some (.ml [.str "tries", .str "tries", .str "tries", .str "tries"]), some (.d (.tuple [.tuple [.int 0, .tuple [.int 1, .int 2]], .tuple [.int 3, .tuple [.int 2, .int 2]]])), none, none, none, none] = .ok .nx [some (.rl xs), some (.ml [.int a, .int b]), some (.d (.tuple [.tuple [.int 0, .tuple [.int 1, .int 3]]])), some (.d (.tuple [.int 2, .int 4, .int 1])), some (.d (.tuple [.tuple [.int 0, .int 1], .tuple [.int 2]])), some (.d (.tuple [.tuple [.int 0, .int 1], .tuple [.int (-1), .int 0]])), some (.d (.tuple [.int 1, .int 2])), some (.ml [.none, .int 5, .list [.tuple [.int 0, .tuple [.int 1, .int 2]], .tuple [.int 3, .tuple [.int 2, .int 2]]], .tuple [.tuple [.int 3, .tuple [.int 2, .int 2]], .tuple [.int 0, .tuple [.int 1, .int 2]]], .tuple [.tuple [.int 0, .tuple [.int 1, .int 2]], .tuple [.int 3, .tuple [.int 2, .int 2]], .tuple [.int 3, .tuple [.int 2, .int 2]]], .tuple [.tuple [.int 31, .tuple [.int 1, .int 2]]], .tuple [.tuple [.int (-1), .tuple [.int 1, .int 2]]], .tuple [.tuple [.bool true, .tuple [.int 1, .int 2]]], .tuple [.tuple [.int 0, .tuple [.int 1, .int 3]]], .tuple [.tuple [.int 0]], .tuple [.tuple [.int 0, .tuple [.int 1, .int 2], .int 1]]]), some (.ml [.str "tries", .str "tries", .str "tries", .str "tries"]), some (.d (.tuple [.tuple [.int 0, .tuple [.int 1, .int 2]], .tuple [.int 3, .tuple [.int 2, .int 2]]])), none, none, none, none] := by kernel_rfl
theorem tn_12_9 (a b : Int) (xs : List D) : stepL (callN (progOf ds) 19) (nth b_law 12) (.tuple [.tuple [.int 0]]) [some (.rl xs), some (.ml [.int a, .int b]), some (.d (.tuple [.tuple [.int 0, .tuple [.int 1, .int 3]]])), some (.d (.tuple [.int 2, .int 4, .int 1])), some (.d (.tuple [.tuple [.int 0, .int 1], .tuple [.int 2]])), some (.d (.tuple [.tuple [.int 0, .int 1], .tuple [.int (-1), .int 0]])), some (.d (.tuple [.int 1, .int 2])), some (.ml [.none, .int 5, .list [.tuple [.int 0, .tuple [.int 1, .int 2]], .tuple [.int 3, .tuple [.int 2, .int 2]]], .tuple [.tuple [.int 3, .tuple [.int 2, .int 2]], .tuple [.int 0, .tuple [.int 1, .int 2]]], .tuple [.tuple [.int 0, .tuple [.int 1, .int 2]], .tuple [.int 3, .tuple [.int 2, .int 2]], .tuple [.int 3, .tuple [.int 2, .int 2]]], .tuple [.tuple [.int 31, .tuple [.int 1, .int 2]]], .tuple [.tuple [.int (-1), .tuple [.int 1, .int 2]]], .tuple [.tuple [.bool true, .tuple [.int 1, .int 2]]], .tuple [.tuple [.int 0, .tuple [.int 1, .int 3]]], .tuple [.tuple [.int 0]], .tuple [.tuple [.int 0, .tuple [.int 1, .int 2], .int 1]]]), some (.ml [.str "tries", .str "tries", .str "tries", .str "tries"]), some (.d (.tuple [.tuple [.int 0, .tuple [.int 1, .int 2]], .tuple [.int 3, .tuple [.int 2, .int 2]]])), none, none, none, none] = .ok .nx [some (.rl xs), some (.ml [.int a, .int b]), some (.d (.tuple [.tuple [.int 0]])), some (.d (.tuple [.int 2, .int 4, .int 1])), some (.d (.tuple [.tuple [.int 0, .int 1], .tuple [.int 2]])), some (.d (.tuple [.tuple [.int 0, .int 1], .tuple [.int (-1), .int 0]])), some (.d (.tuple [.int 1, .int 2])), some (.ml [.none, .int 5, .list [.tuple [.int 0, .tuple [.int 1, .int 2]], .tuple [.int 3, .tuple [.int 2, .int 2]]], .tuple [.tuple [.int 3, .tuple [.int 2, .int 2]], .tuple [.int 0, .tuple [.int 1, .int 2]]], .tuple [.tuple [.int 0, .tuple [.int 1, .int 2]], .tuple [.int 3, .tuple [.int 2, .int 2]], .tuple [.int 3, .tuple [.int 2, .int 2]]], .tuple [.tuple [.int 31, .tuple [.int 1, .int 2]]], .tuple [.tuple [.int (-1), .tuple [.int 1, .int 2]]], .tuple [.tuple [.bool true, .tuple [.int 1, .int 2]]], .tuple [.tuple [.int 0, .tuple [.int 1, .int 3]]], .tuple [.tuple [.int 0]], .tuple [.tuple [.int 0, .tuple [.int 1, .int 2], .int 1]]]), some (.ml [.str "tries", .str "tries", .str "tries", .str "tries"]), some (.d (.tuple [.tuple [.int 0, .tuple [.int 1, .int 2]], .tuple [.int 3, .tuple [.int 2, .int 2]]])), none, none, none, none] := by kernel_rfl
theorem tn_12_10 (a b : Int) (xs : List D) : stepL (callN (progOf ds) 19) (nth b_law 12) (.tuple [.tuple [.int 0, .tuple [.int 1, .int 2], .int 1]]) [some (.rl xs), some (.ml [.int a, .int b]), some (.d (.tuple [.tuple [.int 0]])), some (.d (.tuple [.int 2, .int 4, .int 1])), some (.d (.tuple [.tuple [.int 0, .int 1], .tuple [.int 2]])), some (.d (.tuple [.tuple [.int 0, .int 1], .tuple [.int (-1), .int 0]])), some (.d (.tuple [.int 1, .int 2])), some (.ml [.none, .int 5, .list [.tuple [.int 0, .tuple [.int 1, .int 2]], .tuple [.int 3, .tuple [.int 2, .int 2]]], .tuple [.tuple [.int 3, .tuple [.int 2, .int 2]], .tuple [.int 0, .tuple [.int 1, .int 2]]], .tuple [.tuple [.int 0, .tuple [.int 1, .int 2]], .tuple [.int 3, .tuple [.int 2, .int 2]], .tuple [.int 3, .tuple [.int 2, .int 2]]], .tuple [.tuple [.int 31, .tuple [.int 1, .int 2]]], .tuple [.tuple [.int (-1), .tuple [.int 1, .int 2]]], .tuple [.tuple [.bool true, .tuple [.int 1, .int 2]]], .tuple [.tuple [.int 0, .tuple [.int 1, .int 3]]], .tuple [.tuple [.int 0]], .tuple [.tuple [.int 0, .tuple [.int 1, .int 2], .int 1]]]), some (.ml [.str "tries", .str "tries", .str "tries", .str "tries"]), some (.d (.tuple [.tuple [.int 0, .tuple [.int 1, .int 2]], .tuple [.int 3, .tuple [.int 2, .int 2]]])), none, none, none, none] = .ok .nx [some (.rl xs), some (.ml [.int a, .int b]), some (.d (.tuple [.tuple [.int 0, .tuple [.int 1, .int 2], .int 1]])), some (.d (.tuple [.int 2, .int 4, .int 1])), some (.d (.tuple [.tuple [.int 0, .int 1], .tuple [.int 2]])), some (.d (.tuple [.tuple [.int 0, .int 1], .tuple [.int (-1), .int 0]])), some (.d (.tuple [.int 1, .int 2])), some (.ml [.none, .int 5, .list [.tuple [.int 0, .tuple [.int 1, .int 2]], .tuple [.int 3, .tuple [.int 2, .int 2]]], .tuple [.tuple [.int 3, .tuple [.int 2, .int 2]], .tuple [.int 0, .tuple [.int 1, .int 2]]], .tuple [.tuple [.int 0, .tuple [.int 1, .int 2]], .tuple [.int 3, .tuple [.int 2, .int 2]], .tuple [.int 3, .tuple [.int 2, .int 2]]], .tuple [.tuple [.int 31, .tuple [.int 1, .int 2]]], .tuple [.tuple [.int (-1), .tuple [.int 1, .int 2]]], .tuple [.tuple [.bool true, .tuple [.int 1, .int 2]]], .tuple [.tuple [.int 0, .tuple [.int 1, .int 3]]], .tuple [.tuple [.int 0]], .tuple [.tuple [.int 0, .tuple [.int 1, .int 2], .int 1]]]), some (.ml [.str "tries", .str "tries", .str "tries", .str "tries"]), some (.d (.tuple [.tuple [.int 0, .tuple [.int 1, .int 2]], .tuple [.int 3, .tuple [.int 2, .int 2]]])), none, none, none, none] := by kernel_rfl
theorem tn_12_11 (a b : Int) (xs : List D) : stepL (callN (progOf ds) 19) (nth b_law 12) (.tuple [.list [.int 0, .tuple [.int 1, .int 2]]]) [some (.rl xs), some (.ml [.int a, .int b]), some (.d (.tuple [.tuple [.int 0, .tuple [.int 1, .int 2], .int 1]])), some (.d (.tuple [.int 2, .int 4, .int 1])), some (.d (.tuple [.tuple [.int 0, .int 1], .tuple [.int 2]])), some (.d (.tuple [.tuple [.int 0, .int 1], .tuple [.int (-1), .int 0]])), some (.d (.tuple [.int 1, .int 2])), some (.ml [.none, .int 5, .list [.tuple [.int 0, .tuple [.int 1, .int 2]], .tuple [.int 3, .tuple [.int 2, .int 2]]], .tuple [.tuple [.int 3, .tuple [.int 2, .int 2]], .tuple [.int 0, .tuple [.int 1, .int 2]]], .tuple [.tuple [.int 0, .tuple [.int 1, .int 2]], .tuple [.int 3, .tuple [.int 2, .int 2]], .tuple [.int 3, .tuple [.int 2, .int 2]]], .tuple [.tuple [.int 31, .tuple [.int 1, .int 2]]], .tuple [.tuple [.int (-1), .tuple [.int 1, .int 2]]], .tuple [.tuple [.bool true, .tuple [.int 1, .int 2]]], .tuple [.tuple [.int 0, .tuple [.int 1, .int 3]]], .tuple [.tuple [.int 0]], .tuple [.tuple [.int 0, .tuple [.int 1, .int 2], .int 1]]]), some (.ml [.str "tries", .str "tries", .str "tries", .str "tries"]), some (.d (.tuple [.tuple [.int 0, .tuple [.int 1, .int 2]], .tuple [.int 3, .tuple [.int 2, .int 2]]])), none, none, none, none] = .ok .nx [some (.rl xs), some (.ml [.int a, .int b]), some (.d (.tuple [.list [.int 0, .tuple [.int 1, .int 2]]])), some (.d (.tuple [.int 2, .int 4, .int 1])), some (.d (.tuple [.tuple [.int 0, .int 1], .tuple [.int 2]])), some (.d (.tuple [.tuple [.int 0, .int 1], .tuple [.int (-1), .int 0]])), some (.d (.tuple [.int 1, .int 2])), some (.ml [.none, .int 5, .list [.tuple [.int 0, .tuple [.int 1, .int 2]], .tuple [.int 3, .tuple [.int 2, .int 2]]], .tuple [.tuple [.int 3, .tuple [.int 2, .int 2]], .tuple [.int 0, .tuple [.int 1, .int 2]]], .tuple [.tuple [.int 0, .tuple [.int 1, .int 2]], .tuple [.int 3, .tuple [.int 2, .int 2]], .tuple [.int 3, .tuple [.int 2, .int 2]]], .tuple [.tuple [.int 31, .tuple [.int 1, .int 2]]], .tuple [.tuple [.int (-1), .tuple [.int 1, .int 2]]], .tuple [.tuple [.bool true, .tuple [.int 1, .int 2]]], .tuple [.tuple [.int 0, .tuple [.int 1, .int 3]]], .tuple [.tuple [.int 0]], .tuple [.tuple [.int 0, .tuple [.int 1, .int 2], .int 1]]]), some (.ml [.str "tries", .str "tries", .str "tries", .str "tries"]), some (.d (.tuple [.tuple [.int 0, .tuple [.int 1, .int 2]], .tuple [.int 3, .tuple [.int 2, .int 2]]])), none, none, none, none] := by kernel_rfl
theorem tn_12_12 (a b : Int) (xs : List D) : stepL (callN (progOf ds) 19) (nth b_law 12) (.tuple [.none]) [some (.rl xs), some (.ml [.int a, .int b]), some (.d (.tuple [.list [.int 0, .tuple [.int 1, .int 2]]])), some (.d (.tuple [.int 2, .int 4, .int 1])), some (.d (.tuple [.tuple [.int 0, .int 1], .tuple [.int 2]])), some (.d (.tuple [.tuple [.int 0, .int 1], .tuple [.int (-1), .int 0]])), some (.d (.tuple [.int 1, .int 2])), some (.ml [.none, .int 5, .list [.tuple [.int 0, .tuple [.int 1, .int 2]], .tuple [.int 3, .tuple [.int 2, .int 2]]], .tuple [.tuple [.int 3, .tuple [.int 2, .int 2]], .tuple [.int 0, .tuple [.int 1, .int 2]]], .tuple [.tuple [.int 0, .tuple [.int 1, .int 2]], .tuple [.int 3, .tuple [.int 2, .int 2]], .tuple [.int 3, .tuple [.int 2, .int 2]]], .tuple [.tuple [.int 31, .tuple [.int 1, .int 2]]], .tuple [.tuple [.int (-1), .tuple [.int 1, .int 2]]], .tuple [.tuple [.bool true, .tuple [.int 1, .int 2]]], .tuple [.tuple [.int 0, .tuple [.int 1, .int 3]]], .tuple [.tuple [.int 0]], .tuple [.tuple [.int 0, .tuple [.int 1, .int 2], .int 1]]]), some (.ml [.str "tries", .str "tries", .str "tries", .str "tries"]), some (.d (.tuple [.tuple [.int 0, .tuple [.int 1, .int 2]], .tuple [.int 3, .tuple [.int 2, .int 2]]])), none, none, none, none] = .ok .nx [some (.rl xs), some (.ml [.int a, .int b]), some (.d (.tuple [.none])), some (.d (.tuple [.int 2, .int 4, .int 1])), some (.d (.tuple [.tuple [.int 0, .int 1], .tuple [.int 2]])), some (.d (.tuple [.tuple [.int 0, .int 1], .tuple [.int (-1), .int 0]])), some (.d (.tuple [.int 1, .int 2])), some (.ml [.none, .int 5, .list [.tuple [.int 0, .tuple [.int 1, .int 2]], .tuple [.int 3, .tuple [.int 2, .int 2]]], .tuple [.tuple [.int 3, .tuple [.int 2, .int 2]], .tuple [.int 0, .tuple [.int 1, .int 2]]], .tuple [.tuple [.int 0, .tuple [.int 1, .int 2]], .tuple [.int 3, .tuple [.int 2, .int 2]], .tuple [.int 3, .tuple [.int 2, .int 2]]], .tuple [.tuple [.int 31, .tuple [.int 1, .int 2]]], .tuple [.tuple [.int (-1), .tuple [.int 1, .int 2]]], .tuple [.tuple [.bool true, .tuple [.int 1, .int 2]]], .tuple [.tuple [.int 0, .tuple [.int 1, .int 3]]], .tuple [.tuple [.int 0]], .tuple [.tuple [.int 0, .tuple [.int 1, .int 2], .int 1]]]), some (.ml [.str "tries", .str "tries", .str "tries", .str "tries"]), some (.d (.tuple [.tuple [.int 0, .tuple [.int 1, .int 2]], .tuple [.int 3, .tuple [.int 2, .int 2]]])), none, none, none, none] := by kernel_rfl
theorem tn_12_13 (a b : Int) (xs : List D) : stepL (callN (progOf ds) 19) (nth b_law 12) (.tuple [.int 0, .tuple [.int 1, .int 2]]) [some (.rl xs), some (.ml [.int a, .int b]), some (.d (.tuple [.none])), some (.d (.tuple [.int 2, .int 4, .int 1])), some (.d (.tuple [.tuple [.int 0, .int 1], .tuple [.int 2]])), some (.d (.tuple [.tuple [.int 0, .int 1], .tuple [.int (-1), .int 0]])), some (.d (.tuple [.int 1, .int 2])), some (.ml [.none, .int 5, .list [.tuple [.int 0, .tuple [.int 1, .int 2]], .tuple [.int 3, .tuple [.int 2, .int 2]]], .tuple [.tuple [.int 3, .tuple [.int 2, .int 2]], .tuple [.int 0, .tuple [.int 1, .int 2]]], .tuple [.tuple [.int 0, .tuple [.int 1, .int 2]], .tuple [.int 3, .tuple [.int 2, .int 2]], .tuple [.int 3, .tuple [.int 2, .int 2]]], .tuple [.tuple [.int 31, .tuple [.int 1, .int 2]]], .tuple [.tuple [.int (-1), .tuple [.int 1, .int 2]]], .tuple [.tuple [.bool true, .tuple [.int 1, .int 2]]], .tuple [.tuple [.int 0, .tuple [.int 1, .int 3]]], .tuple [.tuple [.int 0]], .tuple [.tuple [.int 0, .tuple [.int 1, .int 2], .int 1]]]), some (.ml [.str "tries", .str "tries", .str "tries", .str "tries"]), some (.d (.tuple [.tuple [.int 0, .tuple [.int 1, .int 2]], .tuple [.int 3, .tuple [.int 2, .int 2]]])), none, none, none, none] = .ok .nx [some (.rl xs), some (.ml [.int a, .int b]), some (.d (.tuple [.int 0, .tuple [.int 1, .int 2]])), some (.d (.tuple [.int 2, .int 4, .int 1])), some (.d (.tuple [.tuple [.int 0, .int 1], .tuple [.int 2]])), some (.d (.tuple [.tuple [.int 0, .int 1], .tuple [.int (-1), .int 0]])), some (.d (.tuple [.int 1, .int 2])), some (.ml [.none, .int 5, .list [.tuple [.int 0, .tuple [.int 1, .int 2]], .tuple [.int 3, .tuple [.int 2, .int 2]]], .tuple [.tuple [.int 3, .tuple [.int 2, .int 2]], .tuple [.int 0, .tuple [.int 1, .int 2]]], .tuple [.tuple [.int 0, .tuple [.int 1, .int 2]], .tuple [.int 3, .tuple [.int 2, .int 2]], .tuple [.int 3, .tuple [.int 2, .int 2]]], .tuple [.tuple [.int 31, .tuple [.int 1, .int 2]]], .tuple [.tuple [.int (-1), .tuple [.int 1, .int 2]]], .tuple [.tuple [.bool true, .tuple [.int 1, .int 2]]], .tuple [.tuple [.int 0, .tuple [.int 1, .int 3]]], .tuple [.tuple [.int 0]], .tuple [.tuple [.int 0, .tuple [.int 1, .int 2], .int 1]]]), some (.ml [.str "tries", .str "tries", .str "tries", .str "tries"]), some (.d (.tuple [.tuple [.int 0, .tuple [.int 1, .int 2]], .tuple [.int 3, .tuple [.int 2, .int 2]]])), none, none, none, none] := by kernel_rfl
theorem tn_12_14 (a b : Int) (xs : List D) : stepL (callN (progOf ds) 19) (nth b_law 12) (.tuple [.tuple [.int 0, .tuple [.int 1, .int 2]], .tuple [.int 1, .tuple [.int 1, .int 2]], .tuple [.int 2, .tuple [.int 1, .int 2]], .tuple [.int 3, .tuple [.int 1, .int 2]], .tuple [.int 4, .tuple [.int 1, .int 2]], .tuple [.int 5, .tuple [.int 1, .int 2]], .tuple [.int 6, .tuple [.int 1, .int 2]], .tuple [.int 7, .tuple [.int 1, .int 2]], .tuple [.int 8, .tuple [.int 1, .int 2]], .tuple [.int 9, .tuple [.int 1, .int 2]], .tuple [.int 10, .tuple [.int 1, .int 2]], .tuple [.int 11, .tuple [.int 1, .int 2]], .tuple [.int 12, .tuple [.int 1, .int 2]], .tuple [.int 13, .tuple [.int 1, .int 2]], .tuple [.int 14, .tuple [.int 1, .int 2]], .tuple [.int 15, .tuple [.int 1, .int 2]], .tuple [.int 16, .tuple [.int 1, .int 2]], .tuple [.int 17, .tuple [.int 1, .int 2]], .tuple [.int 18, .tuple [.int 1, .int 2]], .tuple [.int 19, .tuple [.int 1, .int 2]], .tuple [.int 20, .tuple [.int 1, .int 2]]]) [some (.rl xs), some (.ml [.int a, .int b]), some (.d (.tuple [.int 0, .tuple [.int 1, .int 2]])), some (.d (.tuple [.int 2, .int 4, .int 1])), some (.d (.tuple [.tuple [.int 0, .int 1], .tuple [.int 2]])), some (.d (.tuple [.tuple [.int 0, .int 1], .tuple [.int (-1), .int 0]])), some (.d (.tuple [.int 1, .int 2])), some (.ml [.none, .int 5, .list [.tuple [.int 0, .tuple [.int 1, .int 2]], .tuple [.int 3, .tuple [.int 2, .int 2]]], .tuple [.tuple [.int 3, .tuple [.int 2, .int 2]], .tuple [.int 0, .tuple [.int 1, .int 2]]], .tuple [.tuple [.int 0, .tuple [.int 1, .int 2]], .tuple [.int 3, .tuple [.int 2, .int 2]], .tuple [.int 3, .tuple [.int 2, .int 2]]], .tuple [.tuple [.int 31, .tuple [.int 1, .int 2]]], .tuple [.tuple [.int (-1), .tuple [.int 1, .int 2]]], .tuple [.tuple [.bool true, .tuple [.int 1, .int 2]]], .tuple [.tuple [.int 0, .tuple [.int 1, .int 3]]], .tuple [.tuple [.int 0]], .tuple [.tuple [.int 0, .tuple [.int 1, .int 2], .int 1]]]), some (.ml [.str "tries", .str "tries", .str "tries", .str "tries"]), some (.d (.tuple [.tuple [.int 0, .tuple [.int 1, .int 2]], .tuple [.int 3, .tuple [.int 2, .int 2]]])), none, none, none, none] = .ok .nx [some (.rl xs), some (.ml [.int a, .int b]), some (.d (.tuple [.tuple [.int 0, .tuple [.int 1, .int 2]], .tuple [.int 1, .tuple [.int 1, .int 2]], .tuple [.int 2, .tuple [.int 1, .int 2]], .tuple [.int 3, .tuple [.int 1, .int 2]], .tuple [.int 4, .tuple [.int 1, .int 2]], .tuple [.int 5, .tuple [.int 1, .int 2]], .tuple [.int 6, .tuple [.int 1, .int 2]], .tuple [.int 7, .tuple [.int 1, .int 2]], .tuple [.int 8, .tuple [.int 1, .int 2]], .tuple [.int 9, .tuple [.int 1, .int 2]], .tuple [.int 10, .tuple [.int 1, .int 2]], .tuple [.int 11, .tuple [.int 1, .int 2]], .tuple [.int 12, .tuple [.int 1, .int 2]], .tuple [.int 13, .tuple [.int 1, .int 2]], .tuple [.int 14, .tuple [.int 1, .int 2]], .tuple [.int 15, .tuple [.int 1, .int 2]], .tuple [.int 16, .tuple [.int 1, .int 2]], .tuple [.int 17, .tuple [.int 1, .int 2]], .tuple [.int 18, .tuple [.int 1, .int 2]], .tuple [.int 19, .tuple [.int 1, .int 2]], .tuple [.int 20, .tuple [.int 1, .int 2]]])), some (.d (.tuple [.int 2, .int 4, .int 1])), some (.d (.tuple [.tuple [.int 0, .int 1], .tuple [.int 2]])), some (.d (.tuple [.tuple [.int 0, .int 1], .tuple [.int (-1), .int 0]])), some (.d (.tuple [.int 1, .int 2])), some (.ml [.none, .int 5, .list [.tuple [.int 0, .tuple [.int 1, .int 2]], .tuple [.int 3, .tuple [.int 2, .int 2]]], .tuple [.tuple [.int 3, .tuple [.int 2, .int 2]], .tuple [.int 0, .tuple [.int 1, .int 2]]], .tuple [.tuple [.int 0, .tuple [.int 1, .int 2]], .tuple [.int 3, .tuple [.int 2, .int 2]], .tuple [.int 3, .tuple [.int 2, .int 2]]], .tuple [.tuple [.int 31, .tuple [.int 1, .int 2]]], .tuple [.tuple [.int (-1), .tuple [.int 1, .int 2]]], .tuple [.tuple [.bool true, .tuple [.int 1, .int 2]]], .tuple [.tuple [.int 0, .tuple [.int 1, .int 3]]], .tuple [.tuple [.int 0]], .tuple [.tuple [.int 0, .tuple [.int 1, .int 2], .int 1]]]), some (.ml [.str "tries", .str "tries", .str "tries", .str "tries"]), some (.d (.tuple [.tuple [.int 0, .tuple [.int 1, .int 2]], .tuple [.int 3, .tuple [.int 2, .int 2]]])), none, none, none, none] := by kernel_rfl
theorem st_13 (a b : Int) (xs : List D) : evS (callN (progOf ds) 19) 1 (nth b_law 13) [some (.rl xs), some (.ml [.int a, .int b]), some (.d (.tuple [.tuple [.int 0, .tuple [.int 1, .int 2]], .tuple [.int 1, .tuple [.int 1, .int 2]], .tuple [.int 2, .tuple [.int 1, .int 2]], .tuple [.int 3, .tuple [.int 1, .int 2]], .tuple [.int 4, .tuple [.int 1, .int 2]], .tuple [.int 5, .tuple [.int 1, .int 2]], .tuple [.int 6, .tuple [.int 1, .int 2]], .tuple [.int 7, .tuple [.int 1, .int 2]], .tuple [.int 8, .tuple [.int 1, .int 2]], .tuple [.int 9, .tuple [.int 1, .int 2]], .tuple [.int 10, .tuple [.int 1, .int 2]], .tuple [.int 11, .tuple [.int 1, .int 2]], .tuple [.int 12, .tuple [.int 1, .int 2]], .tuple [.int 13, .tuple [.int 1, .int 2]], .tuple [.int 14, .tuple [.int 1, .int 2]], .tuple [.int 15, .tuple [.int 1, .int 2]], .tuple [.int 16, .tuple [.int 1, .int 2]], .tuple [.int 17, .tuple [.int 1, .int 2]], .tuple [.int 18, .tuple [.int 1, .int 2]], .tuple [.int 19, .tuple [.int 1, .int 2]], .tuple [.int 20, .tuple [.int 1, .int 2]]])), some (.d (.tuple [.int 2, .int 4, .int 1])), some (.d (.tuple [.tuple [.int 0, .int 1], .tuple [.int 2]])), some (.d (.tuple [.tuple [.int 0, .int 1], .tuple [.int (-1), .int 0]])), some (.d (.tuple [.int 1, .int 2])), some (.ml [.none, .int 5, .list [.tuple [.int 0, .tuple [.int 1, .int 2]], .tuple [.int 3, .tuple [.int 2, .int 2]]], .tuple [.tuple [.int 3, .tuple [.int 2, .int 2]], .tuple [.int 0, .tuple [.int 1, .int 2]]], .tuple [.tuple [.int 0, .tuple [.int 1, .int 2]], .tuple [.int 3, .tuple [.int 2, .int 2]], .tuple [.int 3, .tuple [.int 2, .int 2]]], .tuple [.tuple [.int 31, .tuple [.int 1, .int 2]]], .tuple [.tuple [.int (-1), .tuple [.int 1, .int 2]]], .tuple [.tuple [.bool true, .tuple [.int 1, .int 2]]], .tuple [.tuple [.int 0, .tuple [.int 1, .int 3]]], .tuple [.tuple [.int 0]], .tuple [.tuple [.int 0, .tuple [.int 1, .int 2], .int 1]]]), some (.ml [.str "tries", .str "tries", .str "tries", .str "tries"]), some (.d (.tuple [.tuple [.int 0, .tuple [.int 1, .int 2]], .tuple [.int 3, .tuple [.int 2, .int 2]]])), none, none, none, none] = .ok .nx [some (.rl xs), some (.ml [.int a, .int b]), some (.d (.tuple [.tuple [.int 0, .tuple [.int 1, .int 2]], .tuple [.int 1, .tuple [.int 1, .int 2]], .tuple [.int 2, .tuple [.int 1, .int 2]], .tuple [.int 3, .tuple [.int 1, .int 2]], .tuple [.int 4, .tuple [.int 1, .int 2]], .tuple [.int 5, .tuple [.int 1, .int 2]], .tuple [.int 6, .tuple [.int 1, .int 2]], .tuple [.int 7, .tuple [.int 1, .int 2]], .tuple [.int 8, .tuple [.int 1, .int 2]], .tuple [.int 9, .tuple [.int 1, .int 2]], .tuple [.int 10, .tuple [.int 1, .int 2]], .tuple [.int 11, .tuple [.int 1, .int 2]], .tuple [.int 12, .tuple [.int 1, .int 2]], .tuple [.int 13, .tuple [.int 1, .int 2]], .tuple [.int 14, .tuple [.int 1, .int 2]], .tuple [.int 15, .tuple [.int 1, .int 2]], .tuple [.int 16, .tuple [.int 1, .int 2]], .tuple [.int 17, .tuple [.int 1, .int 2]], .tuple [.int 18, .tuple [.int 1, .int 2]], .tuple [.int 19, .tuple [.int 1, .int 2]], .tuple [.int 20, .tuple [.int 1, .int 2]]])), some (.d (.tuple [.int 2, .int 4, .int 1])), some (.d (.tuple [.tuple [.int 0, .int 1], .tuple [.int 2]])), some (.d (.tuple [.tuple [.int 0, .int 1], .tuple [.int (-1), .int 0]])), some (.d (.tuple [.int 1, .int 2])), some (.ml [.none, .int 5, .list [.tuple [.int 0, .tuple [.int 1, .int 2]], .tuple [.int 3, .tuple [.int 2, .int 2]]], .tuple [.tuple [.int 3, .tuple [.int 2, .int 2]], .tuple [.int 0, .tuple [.int 1, .int 2]]], .tuple [.tuple [.int 0, .tuple [.int 1, .int 2]], .tuple [.int 3, .tuple [.int 2, .int 2]], .tuple [.int 3, .tuple [.int 2, .int 2]]], .tuple [.tuple [.int 31, .tuple [.int 1, .int 2]]], .tuple [.tuple [.int (-1), .tuple [.int 1, .int 2]]], .tuple [.tuple [.bool true, .tuple [.int 1, .int 2]]], .tuple [.tuple [.int 0, .tuple [.int 1, .int 3]]], .tuple [.tuple [.int 0]], .tuple [.tuple [.int 0, .tuple [.int 1, .int 2], .int 1]]]), some (.ml [.str "tries", .str "tries", .str "tries", .str "tries"]), some (.d (.tuple [.tuple [.int 0, .tuple [.int 1, .int 2]], .tuple [.int 3, .tuple [.int 2, .int 2]]])), some (.d (.tuple [.tuple [.int 0, .tuple [.int 3, .int 2]]])), none, none, none] := by kernel_rfl
theorem st_14 (a b : Int) (xs : List D) : evS (callN (progOf ds) 19) 1 (nth b_law 14) [some (.rl xs), some (.ml [.int a, .int b]), some (.d (.tuple [.tuple [.int 0, .tuple [.int 1, .int 2]], .tuple [.int 1, .tuple [.int 1, .int 2]], .tuple [.int 2, .tuple [.int 1, .int 2]], .tuple [.int 3, .tuple [.int 1, .int 2]], .tuple [.int 4, .tuple [.int 1, .int 2]], .tuple [.int 5, .tuple [.int 1, .int 2]], .tuple [.int 6, .tuple [.int 1, .int 2]], .tuple [.int 7, .tuple [.int 1, .int 2]], .tuple [.int 8, .tuple [.int 1, .int 2]], .tuple [.int 9, .tuple [.int 1, .int 2]], .tuple [.int 10, .tuple [.int 1, .int 2]], .tuple [.int 11, .tuple [.int 1, .int 2]], .tuple [.int 12, .tuple [.int 1, .int 2]], .tuple [.int 13, .tuple [.int 1, .int 2]], .tuple [.int 14, .tuple [.int 1, .int 2]], .tuple [.int 15, .tuple [.int 1, .int 2]], .tuple [.int 16, .tuple [.int 1, .int 2]], .tuple [.int 17, .tuple [.int 1, .int 2]], .tuple [.int 18, .tuple [.int 1, .int 2]], .tuple [.int 19, .tuple [.int 1, .int 2]], .tuple [.int 20, .tuple [.int 1, .int 2]]])), some (.d (.tuple [.int 2, .int 4, .int 1])), some (.d (.tuple [.tuple [.int 0, .int 1], .tuple [.int 2]])), some (.d (.tuple [.tuple [.int 0, .int 1], .tuple [.int (-1), .int 0]])), some (.d (.tuple [.int 1, .int 2])), some (.ml [.none, .int 5, .list [.tuple [.int 0, .tuple [.int 1, .int 2]], .tuple [.int 3, .tuple [.int 2, .int 2]]], .tuple [.tuple [.int 3, .tuple [.int 2, .int 2]], .tuple [.int 0, .tuple [.int 1, .int 2]]], .tuple [.tuple [.int 0, .tuple [.int 1, .int 2]], .tuple [.int 3, .tuple [.int 2, .int 2]], .tuple [.int 3, .tuple [.int 2, .int 2]]], .tuple [.tuple [.int 31, .tuple [.int 1, .int 2]]], .tuple [.tuple [.int (-1), .tuple [.int 1, .int 2]]], .tuple [.tuple [.bool true, .tuple [.int 1, .int 2]]], .tuple [.tuple [.int 0, .tuple [.int 1, .int 3]]], .tuple [.tuple [.int 0]], .tuple [.tuple [.int 0, .tuple [.int 1, .int 2], .int 1]]]), some (.ml [.str "tries", .str "tries", .str "tries", .str "tries"]), some (.d (.tuple [.tuple [.int 0, .tuple [.int 1, .int 2]], .tuple [.int 3, .tuple [.int 2, .int 2]]])), some (.d (.tuple [.tuple [.int 0, .tuple [.int 3, .int 2]]])), none, none, none] = .ok .nx [some (.rl xs), some (.ml [.int a, .int b]), some (.d (.tuple [.tuple [.int 0, .tuple [.int 1, .int 2]], .tuple [.int 1, .tuple [.int 1, .int 2]], .tuple [.int 2, .tuple [.int 1, .int 2]], .tuple [.int 3, .tuple [.int 1, .int 2]], .tuple [.int 4, .tuple [.int 1, .int 2]], .tuple [.int 5, .tuple [.int 1, .int 2]], .tuple [.int 6, .tuple [.int 1, .int 2]], .tuple [.int 7, .tuple [.int 1, .int 2]], .tuple [.int 8, .tuple [.int 1, .int 2]], .tuple [.int 9, .tuple [.int 1, .int 2]], .tuple [.int 10, .tuple [.int 1, .int 2]], .tuple [.int 11, .tuple [.int 1, .int 2]], .tuple [.int 12, .tuple [.int 1, .int 2]], .tuple [.int 13, .tuple [.int 1, .int 2]], .tuple [.int 14, .tuple [.int 1, .int 2]], .tuple [.int 15, .tuple [.int 1, .int 2]], .tuple [.int 16, .tuple [.int 1, .int 2]], .tuple [.int 17, .tuple [.int 1, .int 2]], .tuple [.int 18, .tuple [.int 1, .int 2]], .tuple [.int 19, .tuple [.int 1, .int 2]], .tuple [.int 20, .tuple [.int 1, .int 2]]])), some (.d (.tuple [.int 2, .int 4, .int 1])), some (.d (.tuple [.tuple [.int 0, .int 1], .tuple [.int 2]])), some (.d (.tuple [.tuple [.int 0, .int 1], .tuple [.int (-1), .int 0]])), some (.d (.tuple [.int 1, .int 2])), some (.ml [.none, .int 5, .list [.tuple [.int 0, .tuple [.int 1, .int 2]], .tuple [.int 3, .tuple [.int 2, .int 2]]], .tuple [.tuple [.int 3, .tuple [.int 2, .int 2]], .tuple [.int 0, .tuple [.int 1, .int 2]]], .tuple [.tuple [.int 0, .tuple [.int 1, .int 2]], .tuple [.int 3, .tuple [.int 2, .int 2]], .tuple [.int 3, .tuple [.int 2, .int 2]]], .tuple [.tuple [.int 31, .tuple [.int 1, .int 2]]], .tuple [.tuple [.int (-1), .tuple [.int 1, .int 2]]], .tuple [.tuple [.bool true, .tuple [.int 1, .int 2]]], .tuple [.tuple [.int 0, .tuple [.int 1, .int 3]]], .tuple [.tuple [.int 0]], .tuple [.tuple [.int 0, .tuple [.int 1, .int 2], .int 1]]]), some (.ml [.str "key"]), some (.d (.tuple [.tuple [.int 0, .tuple [.int 1, .int 2]], .tuple [.int 3, .tuple [.int 2, .int 2]]])), some (.d (.tuple [.tuple [.int 0, .tuple [.int 3, .int 2]]])), none, none, none] := by kernel_rfl
theorem st_15 (a b : Int) (xs : List D) : evS (callN (progOf ds) 19) 1 (nth b_law 15) [some (.rl xs), some (.ml [.int a, .int b]), some (.d (.tuple [.tuple [.int 0, .tuple [.int 1, .int 2]], .tuple [.int 1, .tuple [.int 1, .int 2]], .tuple [.int 2, .tuple [.int 1, .int 2]], .tuple [.int 3, .tuple [.int 1, .int 2]], .tuple [.int 4, .tuple [.int 1, .int 2]], .tuple [.int 5, .tuple [.int 1, .int 2]], .tuple [.int 6, .tuple [.int 1, .int 2]], .tuple [.int 7, .tuple [.int 1, .int 2]], .tuple [.int 8, .tuple [.int 1, .int 2]], .tuple [.int 9, .tuple [.int 1, .int 2]], .tuple [.int 10, .tuple [.int 1, .int 2]], .tuple [.int 11, .tuple [.int 1, .int 2]], .tuple [.int 12, .tuple [.int 1, .int 2]], .tuple [.int 13, .tuple [.int 1, .int 2]], .tuple [.int 14, .tuple [.int 1, .int 2]], .tuple [.int 15, .tuple [.int 1, .int 2]], .tuple [.int 16, .tuple [.int 1, .int 2]], .tuple [.int 17, .tuple [.int 1, .int 2]], .tuple [.int 18, .tuple [.int 1, .int 2]], .tuple [.int 19, .tuple [.int 1, .int 2]], .tuple [.int 20, .tuple [.int 1, .int 2]]])), some (.d (.tuple [.int 2, .int 4, .int 1])), some (.d (.tuple [.tuple [.int 0, .int 1], .tuple [.int 2]])), some (.d (.tuple [.tuple [.int 0, .int 1], .tuple [.int (-1), .int 0]])), some (.d (.tuple [.int 1, .int 2])), some (.ml [.none, .int 5, .list [.tuple [.int 0, .tuple [.int 1, .int 2]], .tuple [.int 3, .tuple [.int 2, .int 2]]], .tuple [.tuple [.int 3, .tuple [.int 2, .int 2]], .tuple [.int 0, .tuple [.int 1, .int 2]]], .tuple [.tuple [.int 0, .tuple [.int 1, .int 2]], .tuple [.int 3, .tuple [.int 2, .int 2]], .tuple [.int 3, .tuple [.int 2, .int 2]]], .tuple [.tuple [.int 31, .tuple [.int 1, .int 2]]], .tuple [.tuple [.int (-1), .tuple [.int 1, .int 2]]], .tuple [.tuple [.bool true, .tuple [.int 1, .int 2]]], .tuple [.tuple [.int 0, .tuple [.int 1, .int 3]]], .tuple [.tuple [.int 0]], .tuple [.tuple [.int 0, .tuple [.int 1, .int 2], .int 1]]]), some (.ml [.str "key"]), some (.d (.tuple [.tuple [.int 0, .tuple [.int 1, .int 2]], .tuple [.int 3, .tuple [.int 2, .int 2]]])), some (.d (.tuple [.tuple [.int 0, .tuple [.int 3, .int 2]]])), none, none, none] = .ok .nx [some (.rl xs), some (.ml [.int a, .int b]), some (.d (.tuple [.tuple [.int 0, .tuple [.int 1, .int 2]], .tuple [.int 1, .tuple [.int 1, .int 2]], .tuple [.int 2, .tuple [.int 1, .int 2]], .tuple [.int 3, .tuple [.int 1, .int 2]], .tuple [.int 4, .tuple [.int 1, .int 2]], .tuple [.int 5, .tuple [.int 1, .int 2]], .tuple [.int 6, .tuple [.int 1, .int 2]], .tuple [.int 7, .tuple [.int 1, .int 2]], .tuple [.int 8, .tuple [.int 1, .int 2]], .tuple [.int 9, .tuple [.int 1, .int 2]], .tuple [.int 10, .tuple [.int 1, .int 2]], .tuple [.int 11, .tuple [.int 1, .int 2]], .tuple [.int 12, .tuple [.int 1, .int 2]], .tuple [.int 13, .tuple [.int 1, .int 2]], .tuple [.int 14, .tuple [.int 1, .int 2]], .tuple [.int 15, .tuple [.int 1, .int 2]], .tuple [.int 16, .tuple [.int 1, .int 2]], .tuple [.int 17, .tuple [.int 1, .int 2]], .tuple [.int 18, .tuple [.int 1, .int 2]], .tuple [.int 19, .tuple [.int 1, .int 2]], .tuple [.int 20, .tuple [.int 1, .int 2]]])), some (.d (.tuple [.int 2, .int 4, .int 1])), some (.d (.tuple [.tuple [.int 0, .int 1], .tuple [.int 2]])), some (.d (.tuple [.tuple [.int 0, .int 1], .tuple [.int (-1), .int 0]])), some (.d (.tuple [.int 1, .int 2])), some (.ml [.none, .int 5, .list [.tuple [.int 0, .tuple [.int 1, .int 2]], .tuple [.int 3, .tuple [.int 2, .int 2]]], .tuple [.tuple [.int 3, .tuple [.int 2, .int 2]], .tuple [.int 0, .tuple [.int 1, .int 2]]], .tuple [.tuple [.int 0, .tuple [.int 1, .int 2]], .tuple [.int 3, .tuple [.int 2, .int 2]], .tuple [.int 3, .tuple [.int 2, .int 2]]], .tuple [.tuple [.int 31, .tuple [.int 1, .int 2]]], .tuple [.tuple [.int (-1), .tuple [.int 1, .int 2]]], .tuple [.tuple [.bool true, .tuple [.int 1, .int 2]]], .tuple [.tuple [.int 0, .tuple [.int 1, .int 3]]], .tuple [.tuple [.int 0]], .tuple [.tuple [.int 0, .tuple [.int 1, .int 2], .int 1]]]), some (.ml [.str "key", .str "number"]), some (.d (.tuple [.tuple [.int 0, .tuple [.int 1, .int 2]], .tuple [.int 3, .tuple [.int 2, .int 2]]])), some (.d (.tuple [.tuple [.int 0, .tuple [.int 3, .int 2]]])), none, none, none] := by kernel_rfl
theorem st_17 (a b : Int) (xs : List D) : evS (callN (progOf ds) 19) 1 (nth b_law 17) [some (.rl xs), none, some (.d (.tuple [.tuple [.int 0, .tuple [.int 1, .int 2]], .tuple [.int 1, .tuple [.int 1, .int 2]], .tuple [.int 2, .tuple [.int 1, .int 2]], .tuple [.int 3, .tuple [.int 1, .int 2]], .tuple [.int 4, .tuple [.int 1, .int 2]], .tuple [.int 5, .tuple [.int 1, .int 2]], .tuple [.int 6, .tuple [.int 1, .int 2]], .tuple [.int 7, .tuple [.int 1, .int 2]], .tuple [.int 8, .tuple [.int 1, .int 2]], .tuple [.int 9, .tuple [.int 1, .int 2]], .tuple [.int 10, .tuple [.int 1, .int 2]], .tuple [.int 11, .tuple [.int 1, .int 2]], .tuple [.int 12, .tuple [.int 1, .int 2]], .tuple [.int 13, .tuple [.int 1, .int 2]], .tuple [.int 14, .tuple [.int 1, .int 2]], .tuple [.int 15, .tuple [.int 1, .int 2]], .tuple [.int 16, .tuple [.int 1, .int 2]], .tuple [.int 17, .tuple [.int 1, .int 2]], .tuple [.int 18, .tuple [.int 1, .int 2]], .tuple [.int 19, .tuple [.int 1, .int 2]], .tuple [.int 20, .tuple [.int 1, .int 2]]])), some (.d (.tuple [.int 2, .int 4, .int 1])), some (.d (.tuple [.tuple [.int 0, .int 1], .tuple [.int 2]])), some (.d (.tuple [.tuple [.int 0, .int 1], .tuple [.int (-1), .int 0]])), some (.d (.tuple [.int 1, .int 2])), some (.ml [.none, .int 5, .list [.tuple [.int 0, .tuple [.int 1, .int 2]], .tuple [.int 3, .tuple [.int 2, .int 2]]], .tuple [.tuple [.int 3, .tuple [.int 2, .int 2]], .tuple [.int 0, .tuple [.int 1, .int 2]]], .tuple [.tuple [.int 0, .tuple [.int 1, .int 2]], .tuple [.int 3, .tuple [.int 2, .int 2]], .tuple [.int 3, .tuple [.int 2, .int 2]]], .tuple [.tuple [.int 31, .tuple [.int 1, .int 2]]], .tuple [.tuple [.int (-1), .tuple [.int 1, .int 2]]], .tuple [.tuple [.bool true, .tuple [.int 1, .int 2]]], .tuple [.tuple [.int 0, .tuple [.int 1, .int 3]]], .tuple [.tuple [.int 0]], .tuple [.tuple [.int 0, .tuple [.int 1, .int 2], .int 1]]]), some (.ml [.str "key", .str "number", .str "tries"]), some (.d (.tuple [.tuple [.int 0, .tuple [.int 1, .int 2]], .tuple [.int 3, .tuple [.int 2, .int 2]]])), some (.d (.tuple [.tuple [.int 0, .tuple [.int 3, .int 2]]])), none, none, none] = .ok .nx [some (.rl xs), none, some (.d (.tuple [.tuple [.int 0, .tuple [.int 1, .int 2]], .tuple [.int 1, .tuple [.int 1, .int 2]], .tuple [.int 2, .tuple [.int 1, .int 2]], .tuple [.int 3, .tuple [.int 1, .int 2]], .tuple [.int 4, .tuple [.int 1, .int 2]], .tuple [.int 5, .tuple [.int 1, .int 2]], .tuple [.int 6, .tuple [.int 1, .int 2]], .tuple [.int 7, .tuple [.int 1, .int 2]], .tuple [.int 8, .tuple [.int 1, .int 2]], .tuple [.int 9, .tuple [.int 1, .int 2]], .tuple [.int 10, .tuple [.int 1, .int 2]], .tuple [.int 11, .tuple [.int 1, .int 2]], .tuple [.int 12, .tuple [.int 1, .int 2]], .tuple [.int 13, .tuple [.int 1, .int 2]], .tuple [.int 14, .tuple [.int 1, .int 2]], .tuple [.int 15, .tuple [.int 1, .int 2]], .tuple [.int 16, .tuple [.int 1, .int 2]], .tuple [.int 17, .tuple [.int 1, .int 2]], .tuple [.int 18, .tuple [.int 1, .int 2]], .tuple [.int 19, .tuple [.int 1, .int 2]], .tuple [.int 20, .tuple [.int 1, .int 2]]])), some (.d (.tuple [.int 2, .int 4, .int 1])), some (.d (.tuple [.tuple [.int 0, .int 1], .tuple [.int 2]])), some (.d (.tuple [.tuple [.int 0, .int 1], .tuple [.int (-1), .int 0]])), some (.d (.tuple [.int 1, .int 2])), some (.ml [.none, .int 5, .list [.tuple [.int 0, .tuple [.int 1, .int 2]], .tuple [.int 3, .tuple [.int 2, .int 2]]], .tuple [.tuple [.int 3, .tuple [.int 2, .int 2]], .tuple [.int 0, .tuple [.int 1, .int 2]]], .tuple [.tuple [.int 0, .tuple [.int 1, .int 2]], .tuple [.int 3, .tuple [.int 2, .int 2]], .tuple [.int 3, .tuple [.int 2, .int 2]]], .tuple [.tuple [.int 31, .tuple [.int 1, .int 2]]], .tuple [.tuple [.int (-1), .tuple [.int 1, .int 2]]], .tuple [.tuple [.bool true, .tuple [.int 1, .int 2]]], .tuple [.tuple [.int 0, .tuple [.int 1, .int 3]]], .tuple [.tuple [.int 0]], .tuple [.tuple [.int 0, .tuple [.int 1, .int 2], .int 1]]]), some (.ml [.str "key", .str "number", .str "tries"]), some (.d (.tuple [.tuple [.int 0, .tuple [.int 1, .int 2]], .tuple [.int 3, .tuple [.int 2, .int 2]]])), some (.d (.tuple [.tuple [.int 0, .tuple [.int 3, .int 2]]])), none, none, none] := by kernel_rfl
theorem st_18 (a b : Int) (xs : List D) : evS (callN (progOf ds) 19) 1 (nth b_law 18) [some (.rl xs), none, some (.d (.tuple [.tuple [.int 0, .tuple [.int 1, .int 2]], .tuple [.int 1, .tuple [.int 1, .int 2]], .tuple [.int 2, .tuple [.int 1, .int 2]], .tuple [.int 3, .tuple [.int 1, .int 2]], .tuple [.int 4, .tuple [.int 1, .int 2]], .tuple [.int 5, .tuple [.int 1, .int 2]], .tuple [.int 6, .tuple [.int 1, .int 2]], .tuple [.int 7, .tuple [.int 1, .int 2]], .tuple [.int 8, .tuple [.int 1, .int 2]], .tuple [.int 9, .tuple [.int 1, .int 2]], .tuple [.int 10, .tuple [.int 1, .int 2]], .tuple [.int 11, .tuple [.int 1, .int 2]], .tuple [.int 12, .tuple [.int 1, .int 2]], .tuple [.int 13, .tuple [.int 1, .int 2]], .tuple [.int 14, .tuple [.int 1, .int 2]], .tuple [.int 15, .tuple [.int 1, .int 2]], .tuple [.int 16, .tuple [.int 1, .int 2]], .tuple [.int 17, .tuple [.int 1, .int 2]], .tuple [.int 18, .tuple [.int 1, .int 2]], .tuple [.int 19, .tuple [.int 1, .int 2]], .tuple [.int 20, .tuple [.int 1, .int 2]]])), some (.d (.tuple [.int 2, .int 4, .int 1])), some (.d (.tuple [.tuple [.int 0, .int 1], .tuple [.int 2]])), some (.d (.tuple [.tuple [.int 0, .int 1], .tuple [.int (-1), .int 0]])), some (.d (.tuple [.int 1, .int 2])), some (.ml [.none, .int 5, .list [.tuple [.int 0, .tuple [.int 1, .int 2]], .tuple [.int 3, .tuple [.int 2, .int 2]]], .tuple [.tuple [.int 3, .tuple [.int 2, .int 2]], .tuple [.int 0, .tuple [.int 1, .int 2]]], .tuple [.tuple [.int 0, .tuple [.int 1, .int 2]], .tuple [.int 3, .tuple [.int 2, .int 2]], .tuple [.int 3, .tuple [.int 2, .int 2]]], .tuple [.tuple [.int 31, .tuple [.int 1, .int 2]]], .tuple [.tuple [.int (-1), .tuple [.int 1, .int 2]]], .tuple [.tuple [.bool true, .tuple [.int 1, .int 2]]], .tuple [.tuple [.int 0, .tuple [.int 1, .int 3]]], .tuple [.tuple [.int 0]], .tuple [.tuple [.int 0, .tuple [.int 1, .int 2], .int 1]]]), some (.ml [.str "key", .str "number", .str "tries"]), some (.d (.tuple [.tuple [.int 0, .tuple [.int 1, .int 2]], .tuple [.int 3, .tuple [.int 2, .int 2]]])), some (.d (.tuple [.tuple [.int 0, .tuple [.int 3, .int 2]]])), none, none, none] = .ok .nx [some (.rl xs), none, some (.d (.tuple [.tuple [.int 0, .tuple [.int 1, .int 2]], .tuple [.int 1, .tuple [.int 1, .int 2]], .tuple [.int 2, .tuple [.int 1, .int 2]], .tuple [.int 3, .tuple [.int 1, .int 2]], .tuple [.int 4, .tuple [.int 1, .int 2]], .tuple [.int 5, .tuple [.int 1, .int 2]], .tuple [.int 6, .tuple [.int 1, .int 2]], .tuple [.int 7, .tuple [.int 1, .int 2]], .tuple [.int 8, .tuple [.int 1, .int 2]], .tuple [.int 9, .tuple [.int 1, .int 2]], .tuple [.int 10, .tuple [.int 1, .int 2]], .tuple [.int 11, .tuple [.int 1, .int 2]], .tuple [.int 12, .tuple [.int 1, .int 2]], .tuple [.int 13, .tuple [.int 1, .int 2]], .tuple [.int 14, .tuple [.int 1, .int 2]], .tuple [.int 15, .tuple [.int 1, .int 2]], .tuple [.int 16, .tuple [.int 1, .int 2]], .tuple [.int 17, .tuple [.int 1, .int 2]], .tuple [.int 18, .tuple [.int 1, .int 2]], .tuple [.int 19, .tuple [.int 1, .int 2]], .tuple [.int 20, .tuple [.int 1, .int 2]]])), some (.d (.tuple [.int 2, .int 4, .int 1])), some (.d (.tuple [.tuple [.int 0, .int 1], .tuple [.int 2]])), some (.d (.tuple [.tuple [.int 0, .int 1], .tuple [.int (-1), .int 0]])), some (.d (.tuple [.int 1, .int 2])), some (.ml [.none, .int 5, .list [.tuple [.int 0, .tuple [.int 1, .int 2]], .tuple [.int 3, .tuple [.int 2, .int 2]]], .tuple [.tuple [.int 3, .tuple [.int 2, .int 2]], .tuple [.int 0, .tuple [.int 1, .int 2]]], .tuple [.tuple [.int 0, .tuple [.int 1, .int 2]], .tuple [.int 3, .tuple [.int 2, .int 2]], .tuple [.int 3, .tuple [.int 2, .int 2]]], .tuple [.tuple [.int 31, .tuple [.int 1, .int 2]]], .tuple [.tuple [.int (-1), .tuple [.int 1, .int 2]]], .tuple [.tuple [.bool true, .tuple [.int 1, .int 2]]], .tuple [.tuple [.int 0, .tuple [.int 1, .int 3]]], .tuple [.tuple [.int 0]], .tuple [.tuple [.int 0, .tuple [.int 1, .int 2], .int 1]]]), some (.ml [.str "key", .str "number", .str "tries"]), some (.d (.tuple [.tuple [.int 0, .tuple [.int 1, .int 2]], .tuple [.int 3, .tuple [.int 2, .int 2]]])), some (.d (.tuple [.tuple [.int 0, .tuple [.int 3, .int 2]]])), some (.d (.tuple [.tuple [.int 11, .tuple [.int 1, .int 2]], .tuple [.int 12, .tuple [.int 1, .int 2]], .tuple [.int 13, .tuple [.int 1, .int 2]], .tuple [.int 14, .tuple [.int 1, .int 2]], .tuple [.int 15, .tuple [.int 1, .int 2]], .tuple [.int 16, .tuple [.int 1, .int 2]], .tuple [.int 17, .tuple [.int 1, .int 2]], .tuple [.int 18, .tuple [.int 1, .int 2]], .tuple [.int 19, .tuple [.int 1, .int 2]], .tuple [.int 20, .tuple [.int 1, .int 2]], .tuple [.int 21, .tuple [.int 1, .int 2]], .tuple [.int 22, .tuple [.int 1, .int 2]], .tuple [.int 23, .tuple [.int 1, .int 2]], .tuple [.int 24, .tuple [.int 1, .int 2]], .tuple [.int 25, .tuple [.int 1, .int 2]], .tuple [.int 26, .tuple [.int 1, .int 2]], .tuple [.int 27, .tuple [.int 1, .int 2]], .tuple [.int 28, .tuple [.int 1, .int 2]], .tuple [.int 29, .tuple [.int 1, .int 2]], .tuple [.int 30, .tuple [.int 1, .int 2]]])), none, none] := by kernel_rfl
theorem st_19 (a b : Int) (xs : List D) : evS (callN (progOf ds) 19) 1 (nth b_law 19) [some (.rl xs), none, some (.d (.tuple [.tuple [.int 0, .tuple [.int 1, .int 2]], .tuple [.int 1, .tuple [.int 1, .int 2]], .tuple [.int 2, .tuple [.int 1, .int 2]], .tuple [.int 3, .tuple [.int 1, .int 2]], .tuple [.int 4, .tuple [.int 1, .int 2]], .tuple [.int 5, .tuple [.int 1, .int 2]], .tuple [.int 6, .tuple [.int 1, .int 2]], .tuple [.int 7, .tuple [.int 1, .int 2]], .tuple [.int 8, .tuple [.int 1, .int 2]], .tuple [.int 9, .tuple [.int 1, .int 2]], .tuple [.int 10, .tuple [.int 1, .int 2]], .tuple [.int 11, .tuple [.int 1, .int 2]], .tuple [.int 12, .tuple [.int 1, .int 2]], .tuple [.int 13, .tuple [.int 1, .int 2]], .tuple [.int 14, .tuple [.int 1, .int 2]], .tuple [.int 15, .tuple [.int 1, .int 2]], .tuple [.int 16, .tuple [.int 1, .int 2]], .tuple [.int 17, .tuple [.int 1, .int 2]], .tuple [.int 18, .tuple [.int 1, .int 2]], .tuple [.int 19, .tuple [.int 1, .int 2]], .tuple [.int 20, .tuple [.int 1, .int 2]]])), some (.d (.tuple [.int 2, .int 4, .int 1])), some (.d (.tuple [.tuple [.int 0, .int 1], .tuple [.int 2]])), some (.d (.tuple [.tuple [.int 0, .int 1], .tuple [.int (-1), .int 0]])), some (.d (.tuple [.int 1, .int 2])), some (.ml [.none, .int 5, .list [.tuple [.int 0, .tuple [.int 1, .int 2]], .tuple [.int 3, .tuple [.int 2, .int 2]]], .tuple [.tuple [.int 3, .tuple [.int 2, .int 2]], .tuple [.int 0, .tuple [.int 1, .int 2]]], .tuple [.tuple [.int 0, .tuple [.int 1, .int 2]], .tuple [.int 3, .tuple [.int 2, .int 2]], .tuple [.int 3, .tuple [.int 2, .int 2]]], .tuple [.tuple [.int 31, .tuple [.int 1, .int 2]]], .tuple [.tuple [.int (-1), .tuple [.int 1, .int 2]]], .tuple [.tuple [.bool true, .tuple [.int 1, .int 2]]], .tuple [.tuple [.int 0, .tuple [.int 1, .int 3]]], .tuple [.tuple [.int 0]], .tuple [.tuple [.int 0, .tuple [.int 1, .int 2], .int 1]]]), some (.ml [.str "key", .str "number", .str "tries"]), some (.d (.tuple [.tuple [.int 0, .tuple [.int 1, .int 2]], .tuple [.int 3, .tuple [.int 2, .int 2]]])), some (.d (.tuple [.tuple [.int 0, .tuple [.int 3, .int 2]]])), some (.d (.tuple [.tuple [.int 11, .tuple [.int 1, .int 2]], .tuple [.int 12, .tuple [.int 1, .int 2]], .tuple [.int 13, .tuple [.int 1, .int 2]], .tuple [.int 14, .tuple [.int 1, .int 2]], .tuple [.int 15, .tuple [.int 1, .int 2]], .tuple [.int 16, .tuple [.int 1, .int 2]], .tuple [.int 17, .tuple [.int 1, .int 2]], .tuple [.int 18, .tuple [.int 1, .int 2]], .tuple [.int 19, .tuple [.int 1, .int 2]], .tuple [.int 20, .tuple [.int 1, .int 2]], .tuple [.int 21, .tuple [.int 1, .int 2]], .tuple [.int 22, .tuple [.int 1, .int 2]], .tuple [.int 23, .tuple [.int 1, .int 2]], .tuple [.int 24, .tuple [.int 1, .int 2]], .tuple [.int 25, .tuple [.int 1, .int 2]], .tuple [.int 26, .tuple [.int 1, .int 2]], .tuple [.int 27, .tuple [.int 1, .int 2]], .tuple [.int 28, .tuple [.int 1, .int 2]], .tuple [.int 29, .tuple [.int 1, .int 2]], .tuple [.int 30, .tuple [.int 1, .int 2]]])), none, none] = .ok (.ret (.d (.bool true))) [some (.rl xs), none, some (.d (.tuple [.tuple [.int 0, .tuple [.int 1, .int 2]], .tuple [.int 1, .tuple [.int 1, .int 2]], .tuple [.int 2, .tuple [.int 1, .int 2]], .tuple [.int 3, .tuple [.int 1, .int 2]], .tuple [.int 4, .tuple [.int 1, .int 2]], .tuple [.int 5, .tuple [.int 1, .int 2]], .tuple [.int 6, .tuple [.int 1, .int 2]], .tuple [.int 7, .tuple [.int 1, .int 2]], .tuple [.int 8, .tuple [.int 1, .int 2]], .tuple [.int 9, .tuple [.int 1, .int 2]], .tuple [.int 10, .tuple [.int 1, .int 2]], .tuple [.int 11, .tuple [.int 1, .int 2]], .tuple [.int 12, .tuple [.int 1, .int 2]], .tuple [.int 13, .tuple [.int 1, .int 2]], .tuple [.int 14, .tuple [.int 1, .int 2]], .tuple [.int 15, .tuple [.int 1, .int 2]], .tuple [.int 16, .tuple [.int 1, .int 2]], .tuple [.int 17, .tuple [.int 1, .int 2]], .tuple [.int 18, .tuple [.int 1, .int 2]], .tuple [.int 19, .tuple [.int 1, .int 2]], .tuple [.int 20, .tuple [.int 1, .int 2]]])), some (.d (.tuple [.int 2, .int 4, .int 1])), some (.d (.tuple [.tuple [.int 0, .int 1], .tuple [.int 2]])), some (.d (.tuple [.tuple [.int 0, .int 1], .tuple [.int (-1), .int 0]])), some (.d (.tuple [.int 1, .int 2])), some (.ml [.none, .int 5, .list [.tuple [.int 0, .tuple [.int 1, .int 2]], .tuple [.int 3, .tuple [.int 2, .int 2]]], .tuple [.tuple [.int 3, .tuple [.int 2, .int 2]], .tuple [.int 0, .tuple [.int 1, .int 2]]], .tuple [.tuple [.int 0, .tuple [.int 1, .int 2]], .tuple [.int 3, .tuple [.int 2, .int 2]], .tuple [.int 3, .tuple [.int 2, .int 2]]], .tuple [.tuple [.int 31, .tuple [.int 1, .int 2]]], .tuple [.tuple [.int (-1), .tuple [.int 1, .int 2]]], .tuple [.tuple [.bool true, .tuple [.int 1, .int 2]]], .tuple [.tuple [.int 0, .tuple [.int 1, .int 3]]], .tuple [.tuple [.int 0]], .tuple [.tuple [.int 0, .tuple [.int 1, .int 2], .int 1]]]), some (.ml [.str "key", .str "number", .str "tries"]), some (.d (.tuple [.tuple [.int 0, .tuple [.int 1, .int 2]], .tuple [.int 3, .tuple [.int 2, .int 2]]])), some (.d (.tuple [.tuple [.int 0, .tuple [.int 3, .int 2]]])), some (.d (.tuple [.tuple [.int 11, .tuple [.int 1, .int 2]], .tuple [.int 12, .tuple [.int 1, .int 2]], .tuple [.int 13, .tuple [.int 1, .int 2]], .tuple [.int 14, .tuple [.int 1, .int 2]], .tuple [.int 15, .tuple [.int 1, .int 2]], .tuple [.int 16, .tuple [.int 1, .int 2]], .tuple [.int 17, .tuple [.int 1, .int 2]], .tuple [.int 18, .tuple [.int 1, .int 2]], .tuple [.int 19, .tuple [.int 1, .int 2]], .tuple [.int 20, .tuple [.int 1, .int 2]], .tuple [.int 21, .tuple [.int 1, .int 2]], .tuple [.int 22, .tuple [.int 1, .int 2]], .tuple [.int 23, .tuple [.int 1, .int 2]], .tuple [.int 24, .tuple [.int 1, .int 2]], .tuple [.int 25, .tuple [.int 1, .int 2]], .tuple [.int 26, .tuple [.int 1, .int 2]], .tuple [.int 27, .tuple [.int 1, .int 2]], .tuple [.int 28, .tuple [.int 1, .int 2]], .tuple [.int 29, .tuple [.int 1, .int 2]], .tuple [.int 30, .tuple [.int 1, .int 2]]])), none, none] := by kernel_rfl
end K51

namespace K51
open PySem PySem.Spec PyProof.Rows L2 Q

def S__law_cup (C : Call) : Prop := ∀ ns : List Int, ns.length ≤ 1000 → ∃ a b : Int, C "_law_cup" [.rl (ns.map .int)] = .ret (cupV a b) [.rl (ns.map .int)] ∧ 0 ≤ a ∧ 0 ≤ b
theorem B__law_cup {C : Call}  : ∀ ns : List Int, ns.length ≤ 1000 → ∃ a b : Int, callFn C d__law_cup.fn [.rl (ns.map .int)] = .ret (cupV a b) [.rl (ns.map .int)] ∧ 0 ≤ a ∧ 0 ≤ b := by
  intro ns hn
  obtain ⟨r, outs, e, a, b, h1, h2, rfl, rfl⟩ := callFn_wpE (C := C) (f := d__law_cup.fn) (ss := [.rl (ns.map .int)]) (Q := fun r outs => ∃ a b, 0 ≤ a ∧ 0 ≤ b ∧ r = cupV a b ∧ outs = [SV.rl (ns.map .int)]) rfl (by
    obtain ⟨c, hc⟩ : ∃ c : Int, atD (ns.map PyData.int ++ [.int 0]) 0 = some (.int c) := by
      cases ns with
      | nil => exact ⟨0, rfl⟩
      | cons n r => exact ⟨n, rfl⟩
    have hcat : (ns.map PyData.int).length + [PyData.int 0].length ≤ 16777216 := by simp; omega
    have ha := abs_nn c
    simp (disch := first | decide | assumption | omega) only [bind_ok, bind_exc, bind_bad, bind_ite, optR_some, optR_none, optR_ite, lift_some, tst_f, tst_t, tst_s, tst_ite, tst_bind, tst_optR, boolOf_ok, boolOf_ite, boolOf_bind, boolOf_optR, gt_0, gt_n0, gt_s, peek_v, peek_s, take_d, take_ml, take_s, takes_n, takes_c, peeks_n, peeks_v, peeks_s, ev_k, ev_v, ev_g, ev_tup, ev_lst, ev_bin, ev_neg, ev_not_t, ev_not_f, ev_and_t, ev_and_f, ev_or_t, ev_or_f, ev_ite, ev_cmp, ev_chn, ev_ix, ev_sl, ev_call, ev_bi, ev_isi, ev_dic, ev_srt, evs_n, evs_c, evC_n, evC_c, evO_n, evO_s, evI_seq, evI_rg, evI_zip, evI_enum, part_i, evS_set, evS_par, evS_sub, evS_aug, evS_ex, evS_app, evS_ite, evS_ret, evS_retN, evS_brk, evS_cnt, evS_pass, evSs_n, evSs_c, flow_nx, flow_brk, flow_cnt, flow_ret, set_n, set_t, setO_v, setO_s, ret_v, ret_s, moves_n, moves_v, moves_s, setAll_n, setAll_c, fin_ret, fin_nx, fin_ite, slots_n, slots_v, slots_s, afterC_ret, call_eq, backs_n, backs_v, backs_s, par_0, par_s, outs_n, outs_c, frzL_n, frzL_c, frz_eq, own_d, own_ml, own_rl, dat_d, dat_ml, frzS_d, frzS_ml, lt_ii, le_ii, gt_ii, ge_ii, eq_ii, ne_ii, add_ii, sub_ii, tru_b, tru_i, tru_n, tru_l, tru_t, abs_a, len_t, len_l, len_m, tup_m, tup_t, tup_l, list_m, list_r, int_i, max_ii, min_ii, ix_t, ix_l, ix_m, sl_t, sl_l, sl_m, at_0, at_1, at_2, items_t, items_l, seq_t, seq_l, ix_dT, ix_dI, seq_dT, seq_dI, items_dT, items_dI, len_dI, len_dT, sl_dT, sl_dI, own_md, dat_md, frzS_md, ev_dn, ev_rg1, ev_rg2, ix_mdI, ix_ddI, ix_mdS, ix_ddS, ml_0, ml_s, setT_n, setT_t, setTs_n, setTs_c, wipe_n, wipe_c, back_n, back_c, gtO_0, gtO_s, Option.map_some, Option.map_none, Option.bind_some, Option.isSome_some, Option.getD_some, List.set_cons_zero, List.set_cons_succ, List.nodup_nil, List.nodup_cons, List.not_mem_nil, List.mem_cons, not_false_eq_true, not_true_eq_false, and_self, and_true, true_and, or_false, false_or, Bool.and_self, Bool.and_true, Bool.true_and, Bool.false_and, Bool.and_false, Bool.not_true, Bool.not_false, if_true, if_false, Bool.false_eq_true, List.any_cons, List.any_nil, Bool.or_false, Bool.or_self, Bool.or_true, Bool.true_or, Bool.false_or, List.map_cons, List.map_nil, List.replicate, List.cons_append, List.nil_append, List.length_cons, List.length_nil, Nat.reduceSub, Nat.reduceAdd, Nat.reduceLT, Nat.reduceEqDiff, decide_eq_true_eq, d__law_cup, b__law_cup, cat_m, hc, abs_a, pow_r, fdiv_r, mod_r, mul_r, good_bindR, good_okR, good_ite]
    split
    · exact ⟨_, _, rfl, _, _, by omega, by omega, rfl, rfl⟩
    · exact ⟨_, _, rfl, _, _, by omega, by omega, rfl, rfl⟩)
  exact ⟨a, b, e, h1, h2⟩
theorem H__law_cup : ∀ n, 1 ≤ n → S__law_cup (callN (progOf ds) n) := by
  intro n hn
  obtain ⟨m, rfl⟩ : ∃ m, n = m + 1 := ⟨n - 1, by omega⟩
  have h := B__law_cup (C := callN (progOf ds) m) 
  simpa only [S__law_cup, cl__law_cup] using h
def S__law_roll (C : Call) : Prop := ∀ a b m : Int, 0 ≤ a → 0 ≤ b → 0 < m → m < 1073741824 → ∃ r a' b' : Int, C "_law_roll" [cupV a b, .d (.int m)] = .ret (.d (.int r)) [cupV a' b', .d (.int m)] ∧ 0 ≤ r ∧ r < m ∧ 0 ≤ a' ∧ 0 ≤ b'
theorem B__law_roll {C : Call}  : ∀ a b m : Int, 0 ≤ a → 0 ≤ b → 0 < m → m < 1073741824 → ∃ r a' b' : Int, callFn C d__law_roll.fn [cupV a b, .d (.int m)] = .ret (.d (.int r)) [cupV a' b', .d (.int m)] ∧ 0 ≤ r ∧ r < m ∧ 0 ≤ a' ∧ 0 ≤ b' := by
  intro a b m ha hb hm hM
  have hm2 : 0 < m ∧ m < 1073741824 := ⟨hm, hM⟩
  obtain ⟨r, outs, e, r, a', b', h1, h2, h3, h4, rfl, rfl⟩ := callFn_wpE (C := C) (f := d__law_roll.fn) (ss := [cupV a b, .d (.int m)]) (Q := fun r outs => ∃ r' a' b', 0 ≤ r' ∧ r' < m ∧ 0 ≤ a' ∧ 0 ≤ b' ∧ r = .d (.int r') ∧ outs = [cupV a' b', SV.d (.int m)]) rfl (by
    simp (disch := first | decide | assumption | omega) only [bind_ok, bind_exc, bind_bad, bind_ite, optR_some, optR_none, optR_ite, lift_some, tst_f, tst_t, tst_s, tst_ite, tst_bind, tst_optR, boolOf_ok, boolOf_ite, boolOf_bind, boolOf_optR, gt_0, gt_n0, gt_s, peek_v, peek_s, take_d, take_ml, take_s, takes_n, takes_c, peeks_n, peeks_v, peeks_s, ev_k, ev_v, ev_g, ev_tup, ev_lst, ev_bin, ev_neg, ev_not_t, ev_not_f, ev_and_t, ev_and_f, ev_or_t, ev_or_f, ev_ite, ev_cmp, ev_chn, ev_ix, ev_sl, ev_call, ev_bi, ev_isi, ev_dic, ev_srt, evs_n, evs_c, evC_n, evC_c, evO_n, evO_s, evI_seq, evI_rg, evI_zip, evI_enum, part_i, evS_set, evS_par, evS_sub, evS_aug, evS_ex, evS_app, evS_ite, evS_ret, evS_retN, evS_brk, evS_cnt, evS_pass, evSs_n, evSs_c, flow_nx, flow_brk, flow_cnt, flow_ret, set_n, set_t, setO_v, setO_s, ret_v, ret_s, moves_n, moves_v, moves_s, setAll_n, setAll_c, fin_ret, fin_nx, fin_ite, slots_n, slots_v, slots_s, afterC_ret, call_eq, backs_n, backs_v, backs_s, par_0, par_s, outs_n, outs_c, frzL_n, frzL_c, frz_eq, own_d, own_ml, own_rl, dat_d, dat_ml, frzS_d, frzS_ml, lt_ii, le_ii, gt_ii, ge_ii, eq_ii, ne_ii, add_ii, sub_ii, tru_b, tru_i, tru_n, tru_l, tru_t, abs_a, len_t, len_l, len_m, tup_m, tup_t, tup_l, list_m, list_r, int_i, max_ii, min_ii, ix_t, ix_l, ix_m, sl_t, sl_l, sl_m, at_0, at_1, at_2, items_t, items_l, seq_t, seq_l, ix_dT, ix_dI, seq_dT, seq_dI, items_dT, items_dI, len_dI, len_dT, sl_dT, sl_dI, own_md, dat_md, frzS_md, ev_dn, ev_rg1, ev_rg2, ix_mdI, ix_ddI, ix_mdS, ix_ddS, ml_0, ml_s, setT_n, setT_t, setTs_n, setTs_c, wipe_n, wipe_c, back_n, back_c, gtO_0, gtO_s, Option.map_some, Option.map_none, Option.bind_some, Option.isSome_some, Option.getD_some, List.set_cons_zero, List.set_cons_succ, List.nodup_nil, List.nodup_cons, List.not_mem_nil, List.mem_cons, not_false_eq_true, not_true_eq_false, and_self, and_true, true_and, or_false, false_or, Bool.and_self, Bool.and_true, Bool.true_and, Bool.false_and, Bool.and_false, Bool.not_true, Bool.not_false, if_true, if_false, Bool.false_eq_true, List.any_cons, List.any_nil, Bool.or_false, Bool.or_self, Bool.or_true, Bool.true_or, Bool.false_or, List.map_cons, List.map_nil, List.replicate, List.cons_append, List.nil_append, List.length_cons, List.length_nil, Nat.reduceSub, Nat.reduceAdd, Nat.reduceLT, Nat.reduceEqDiff, decide_eq_true_eq, d__law_roll, b__law_roll, int_i, fdiv_r, mod_r, mul_r, mul_l, sub_m, put_0, put_1, good_bindR, good_okR, good_ite, good_badR]
    split
    · exact ⟨_, _, rfl, _, _, _, Int.emod_nonneg _ (by omega), Int.emod_lt_of_pos _ hm, Int.ediv_nonneg ha (by omega), hb, rfl, rfl⟩
    · exact ⟨_, _, rfl, _, _, _, Int.emod_nonneg _ (by omega), Int.emod_lt_of_pos _ hm, ha, Int.emod_nonneg _ (by omega), rfl, rfl⟩)
  exact ⟨r, a', b', e, h1, h2, h3, h4⟩
theorem H__law_roll : ∀ n, 1 ≤ n → S__law_roll (callN (progOf ds) n) := by
  intro n hn
  obtain ⟨m, rfl⟩ : ∃ m, n = m + 1 := ⟨n - 1, by omega⟩
  have h := B__law_roll (C := callN (progOf ds) m) 
  simpa only [S__law_roll, cl__law_roll] using h

def tl : Ss → Nat → Ss
  | b, 0 => b
  | .c _ r, k + 1 => tl r k
  | .n, _ => .n
def len : Ss → Nat
  | .c _ r => len r + 1
  | .n => 0
theorem tl_c : ∀ {b : Ss} {k : Nat}, k < len b → tl b k = .c (nth b k) (tl b (k + 1))
  | .n, k, h => absurd h (Nat.not_lt_zero k)
  | .c s .n, 0, _ => rfl
  | .c s (.c _ _), 0, _ => rfl
  | .c s r, k + 1, h => tl_c (b := r) (k := k) (by simp only [len] at h; omega)
theorem stp {C : Call} {np k : Nat} {ρ ρ' : Rho} (h : k < len b_law) (e : evS C np (nth b_law k) ρ = .ok .nx ρ') : evSs C np (tl b_law k) ρ = evSs C np (tl b_law (k + 1)) ρ' := by
  rw [tl_c h]
  show ((evS C np (nth b_law k) ρ).bind _) = _
  rw [e]; rfl
theorem stp_ret {C : Call} {np k : Nat} {ρ ρ' : Rho} {r : SV} (h : k < len b_law) (e : evS C np (nth b_law k) ρ = .ok (.ret r) ρ') : evSs C np (tl b_law k) ρ = .ok (.ret r) ρ' := by
  rw [tl_c h]
  show ((evS C np (nth b_law k) ρ).bind _) = _
  rw [e]; rfl
theorem go_nx {step : D → Rho → Res Fl} {x : D} {xs : List D} {ρ ρ' : Rho} (e : step x ρ = .ok .nx ρ') : forGo step (x :: xs) ρ = forGo step xs ρ' := by
  show (step x ρ).bind _ = _
  rw [e]; rfl
def isFor : S → Bool
  | .for_ _ _ _ => true
  | _ => false
theorem for_ok {C : Call} {s : S} {ρ ρ0 ρ' : Rho} {ys : List D} {fl : Fl} (h : isFor s = true) (e : evI C (fIt s) ρ = .ok ys ρ0) (g : forGo (stepL C s) ys ρ0 = .ok fl ρ') : evS C 1 s ρ = .ok fl ρ' := by
  cases s with
  | for_ tg it b =>
    show (evI C it ρ).bind _ = _
    rw [show evI C it ρ = .ok ys ρ0 from e]
    exact g
  | _ => cases h
theorem pre_ok (a b : Int) (xs : List D) : evSs (callN (progOf ds) 19) 1 (tl b_law 1) [some (.rl xs), some (.ml [.int a, .int b]), none, none, none, none, none, none, none, none, none, none, none, none] = evSs (callN (progOf ds) 19) 1 (tl b_law 16) [some (.rl xs), some (.ml [.int a, .int b]), some (.d (.tuple [.tuple [.int 0, .tuple [.int 1, .int 2]], .tuple [.int 1, .tuple [.int 1, .int 2]], .tuple [.int 2, .tuple [.int 1, .int 2]], .tuple [.int 3, .tuple [.int 1, .int 2]], .tuple [.int 4, .tuple [.int 1, .int 2]], .tuple [.int 5, .tuple [.int 1, .int 2]], .tuple [.int 6, .tuple [.int 1, .int 2]], .tuple [.int 7, .tuple [.int 1, .int 2]], .tuple [.int 8, .tuple [.int 1, .int 2]], .tuple [.int 9, .tuple [.int 1, .int 2]], .tuple [.int 10, .tuple [.int 1, .int 2]], .tuple [.int 11, .tuple [.int 1, .int 2]], .tuple [.int 12, .tuple [.int 1, .int 2]], .tuple [.int 13, .tuple [.int 1, .int 2]], .tuple [.int 14, .tuple [.int 1, .int 2]], .tuple [.int 15, .tuple [.int 1, .int 2]], .tuple [.int 16, .tuple [.int 1, .int 2]], .tuple [.int 17, .tuple [.int 1, .int 2]], .tuple [.int 18, .tuple [.int 1, .int 2]], .tuple [.int 19, .tuple [.int 1, .int 2]], .tuple [.int 20, .tuple [.int 1, .int 2]]])), some (.d (.tuple [.int 2, .int 4, .int 1])), some (.d (.tuple [.tuple [.int 0, .int 1], .tuple [.int 2]])), some (.d (.tuple [.tuple [.int 0, .int 1], .tuple [.int (-1), .int 0]])), some (.d (.tuple [.int 1, .int 2])), some (.ml [.none, .int 5, .list [.tuple [.int 0, .tuple [.int 1, .int 2]], .tuple [.int 3, .tuple [.int 2, .int 2]]], .tuple [.tuple [.int 3, .tuple [.int 2, .int 2]], .tuple [.int 0, .tuple [.int 1, .int 2]]], .tuple [.tuple [.int 0, .tuple [.int 1, .int 2]], .tuple [.int 3, .tuple [.int 2, .int 2]], .tuple [.int 3, .tuple [.int 2, .int 2]]], .tuple [.tuple [.int 31, .tuple [.int 1, .int 2]]], .tuple [.tuple [.int (-1), .tuple [.int 1, .int 2]]], .tuple [.tuple [.bool true, .tuple [.int 1, .int 2]]], .tuple [.tuple [.int 0, .tuple [.int 1, .int 3]]], .tuple [.tuple [.int 0]], .tuple [.tuple [.int 0, .tuple [.int 1, .int 2], .int 1]]]), some (.ml [.str "key", .str "number"]), some (.d (.tuple [.tuple [.int 0, .tuple [.int 1, .int 2]], .tuple [.int 3, .tuple [.int 2, .int 2]]])), some (.d (.tuple [.tuple [.int 0, .tuple [.int 3, .int 2]]])), none, none, none] := by
  rw [stp (k := 1) (by decide) (for_ok rfl (it_1 a b xs) ((go_nx (tn_1_0 a b xs)).trans ((go_nx (tn_1_1 a b xs)).trans ((go_nx (tn_1_2 a b xs)).trans ((go_nx (tn_1_3 a b xs)).trans ((go_nx (tn_1_4 a b xs)).trans ((go_nx (tn_1_5 a b xs)).trans ((go_nx (tn_1_6 a b xs)).trans ((go_nx (tn_1_7 a b xs)).trans ((go_nx (tn_1_8 a b xs)).trans ((go_nx (tn_1_9 a b xs)).trans ((go_nx (tn_1_10 a b xs)).trans ((go_nx (tn_1_11 a b xs)).trans (rfl))))))))))))))]
  rw [stp (k := 2) (by decide) (st_2 a b xs)]
  rw [stp (k := 3) (by decide) (for_ok rfl (it_3 a b xs) ((go_nx (tn_3_0 a b xs)).trans ((go_nx (tn_3_1 a b xs)).trans ((go_nx (tn_3_2 a b xs)).trans ((go_nx (tn_3_3 a b xs)).trans ((go_nx (tn_3_4 a b xs)).trans ((go_nx (tn_3_5 a b xs)).trans ((go_nx (tn_3_6 a b xs)).trans ((go_nx (tn_3_7 a b xs)).trans ((go_nx (tn_3_8 a b xs)).trans (rfl)))))))))))]
  rw [stp (k := 4) (by decide) (st_4 a b xs)]
  rw [stp (k := 5) (by decide) (st_5 a b xs)]
  rw [stp (k := 6) (by decide) (for_ok rfl (it_6 a b xs) ((go_nx (tn_6_0 a b xs)).trans ((go_nx (tn_6_1 a b xs)).trans ((go_nx (tn_6_2 a b xs)).trans ((go_nx (tn_6_3 a b xs)).trans ((go_nx (tn_6_4 a b xs)).trans ((go_nx (tn_6_5 a b xs)).trans ((go_nx (tn_6_6 a b xs)).trans ((go_nx (tn_6_7 a b xs)).trans ((go_nx (tn_6_8 a b xs)).trans ((go_nx (tn_6_9 a b xs)).trans ((go_nx (tn_6_10 a b xs)).trans ((go_nx (tn_6_11 a b xs)).trans ((go_nx (tn_6_12 a b xs)).trans ((go_nx (tn_6_13 a b xs)).trans ((go_nx (tn_6_14 a b xs)).trans (rfl)))))))))))))))))]
  rw [stp (k := 7) (by decide) (st_7 a b xs)]
  rw [stp (k := 8) (by decide) (for_ok rfl (it_8 a b xs) ((go_nx (tn_8_0 a b xs)).trans ((go_nx (tn_8_1 a b xs)).trans ((go_nx (tn_8_2 a b xs)).trans ((go_nx (tn_8_3 a b xs)).trans ((go_nx (tn_8_4 a b xs)).trans ((go_nx (tn_8_5 a b xs)).trans ((go_nx (tn_8_6 a b xs)).trans ((go_nx (tn_8_7 a b xs)).trans ((go_nx (tn_8_8 a b xs)).trans (rfl)))))))))))]
  rw [stp (k := 9) (by decide) (for_ok rfl (it_9 a b xs) ((go_nx (tn_9_0 a b xs)).trans ((go_nx (tn_9_1 a b xs)).trans ((go_nx (tn_9_2 a b xs)).trans ((go_nx (tn_9_3 a b xs)).trans ((go_nx (tn_9_4 a b xs)).trans ((go_nx (tn_9_5 a b xs)).trans ((go_nx (tn_9_6 a b xs)).trans (rfl)))))))))]
  rw [stp (k := 10) (by decide) (st_10 a b xs)]
  rw [stp (k := 11) (by decide) (st_11 a b xs)]
  rw [stp (k := 12) (by decide) (for_ok rfl (it_12 a b xs) ((go_nx (tn_12_0 a b xs)).trans ((go_nx (tn_12_1 a b xs)).trans ((go_nx (tn_12_2 a b xs)).trans ((go_nx (tn_12_3 a b xs)).trans ((go_nx (tn_12_4 a b xs)).trans ((go_nx (tn_12_5 a b xs)).trans ((go_nx (tn_12_6 a b xs)).trans ((go_nx (tn_12_7 a b xs)).trans ((go_nx (tn_12_8 a b xs)).trans ((go_nx (tn_12_9 a b xs)).trans ((go_nx (tn_12_10 a b xs)).trans ((go_nx (tn_12_11 a b xs)).trans ((go_nx (tn_12_12 a b xs)).trans ((go_nx (tn_12_13 a b xs)).trans ((go_nx (tn_12_14 a b xs)).trans (rfl)))))))))))))))))]
  rw [stp (k := 13) (by decide) (st_13 a b xs)]
  rw [stp (k := 14) (by decide) (st_14 a b xs)]
  rw [stp (k := 15) (by decide) (st_15 a b xs)]
theorem post_ok (a b : Int) (xs : List D) : evSs (callN (progOf ds) 19) 1 (tl b_law 17) [some (.rl xs), none, some (.d (.tuple [.tuple [.int 0, .tuple [.int 1, .int 2]], .tuple [.int 1, .tuple [.int 1, .int 2]], .tuple [.int 2, .tuple [.int 1, .int 2]], .tuple [.int 3, .tuple [.int 1, .int 2]], .tuple [.int 4, .tuple [.int 1, .int 2]], .tuple [.int 5, .tuple [.int 1, .int 2]], .tuple [.int 6, .tuple [.int 1, .int 2]], .tuple [.int 7, .tuple [.int 1, .int 2]], .tuple [.int 8, .tuple [.int 1, .int 2]], .tuple [.int 9, .tuple [.int 1, .int 2]], .tuple [.int 10, .tuple [.int 1, .int 2]], .tuple [.int 11, .tuple [.int 1, .int 2]], .tuple [.int 12, .tuple [.int 1, .int 2]], .tuple [.int 13, .tuple [.int 1, .int 2]], .tuple [.int 14, .tuple [.int 1, .int 2]], .tuple [.int 15, .tuple [.int 1, .int 2]], .tuple [.int 16, .tuple [.int 1, .int 2]], .tuple [.int 17, .tuple [.int 1, .int 2]], .tuple [.int 18, .tuple [.int 1, .int 2]], .tuple [.int 19, .tuple [.int 1, .int 2]], .tuple [.int 20, .tuple [.int 1, .int 2]]])), some (.d (.tuple [.int 2, .int 4, .int 1])), some (.d (.tuple [.tuple [.int 0, .int 1], .tuple [.int 2]])), some (.d (.tuple [.tuple [.int 0, .int 1], .tuple [.int (-1), .int 0]])), some (.d (.tuple [.int 1, .int 2])), some (.ml [.none, .int 5, .list [.tuple [.int 0, .tuple [.int 1, .int 2]], .tuple [.int 3, .tuple [.int 2, .int 2]]], .tuple [.tuple [.int 3, .tuple [.int 2, .int 2]], .tuple [.int 0, .tuple [.int 1, .int 2]]], .tuple [.tuple [.int 0, .tuple [.int 1, .int 2]], .tuple [.int 3, .tuple [.int 2, .int 2]], .tuple [.int 3, .tuple [.int 2, .int 2]]], .tuple [.tuple [.int 31, .tuple [.int 1, .int 2]]], .tuple [.tuple [.int (-1), .tuple [.int 1, .int 2]]], .tuple [.tuple [.bool true, .tuple [.int 1, .int 2]]], .tuple [.tuple [.int 0, .tuple [.int 1, .int 3]]], .tuple [.tuple [.int 0]], .tuple [.tuple [.int 0, .tuple [.int 1, .int 2], .int 1]]]), some (.ml [.str "key", .str "number", .str "tries"]), some (.d (.tuple [.tuple [.int 0, .tuple [.int 1, .int 2]], .tuple [.int 3, .tuple [.int 2, .int 2]]])), some (.d (.tuple [.tuple [.int 0, .tuple [.int 3, .int 2]]])), none, none, none] = .ok (.ret (.d (.bool true))) [some (.rl xs), none, some (.d (.tuple [.tuple [.int 0, .tuple [.int 1, .int 2]], .tuple [.int 1, .tuple [.int 1, .int 2]], .tuple [.int 2, .tuple [.int 1, .int 2]], .tuple [.int 3, .tuple [.int 1, .int 2]], .tuple [.int 4, .tuple [.int 1, .int 2]], .tuple [.int 5, .tuple [.int 1, .int 2]], .tuple [.int 6, .tuple [.int 1, .int 2]], .tuple [.int 7, .tuple [.int 1, .int 2]], .tuple [.int 8, .tuple [.int 1, .int 2]], .tuple [.int 9, .tuple [.int 1, .int 2]], .tuple [.int 10, .tuple [.int 1, .int 2]], .tuple [.int 11, .tuple [.int 1, .int 2]], .tuple [.int 12, .tuple [.int 1, .int 2]], .tuple [.int 13, .tuple [.int 1, .int 2]], .tuple [.int 14, .tuple [.int 1, .int 2]], .tuple [.int 15, .tuple [.int 1, .int 2]], .tuple [.int 16, .tuple [.int 1, .int 2]], .tuple [.int 17, .tuple [.int 1, .int 2]], .tuple [.int 18, .tuple [.int 1, .int 2]], .tuple [.int 19, .tuple [.int 1, .int 2]], .tuple [.int 20, .tuple [.int 1, .int 2]]])), some (.d (.tuple [.int 2, .int 4, .int 1])), some (.d (.tuple [.tuple [.int 0, .int 1], .tuple [.int 2]])), some (.d (.tuple [.tuple [.int 0, .int 1], .tuple [.int (-1), .int 0]])), some (.d (.tuple [.int 1, .int 2])), some (.ml [.none, .int 5, .list [.tuple [.int 0, .tuple [.int 1, .int 2]], .tuple [.int 3, .tuple [.int 2, .int 2]]], .tuple [.tuple [.int 3, .tuple [.int 2, .int 2]], .tuple [.int 0, .tuple [.int 1, .int 2]]], .tuple [.tuple [.int 0, .tuple [.int 1, .int 2]], .tuple [.int 3, .tuple [.int 2, .int 2]], .tuple [.int 3, .tuple [.int 2, .int 2]]], .tuple [.tuple [.int 31, .tuple [.int 1, .int 2]]], .tuple [.tuple [.int (-1), .tuple [.int 1, .int 2]]], .tuple [.tuple [.bool true, .tuple [.int 1, .int 2]]], .tuple [.tuple [.int 0, .tuple [.int 1, .int 3]]], .tuple [.tuple [.int 0]], .tuple [.tuple [.int 0, .tuple [.int 1, .int 2], .int 1]]]), some (.ml [.str "key", .str "number", .str "tries"]), some (.d (.tuple [.tuple [.int 0, .tuple [.int 1, .int 2]], .tuple [.int 3, .tuple [.int 2, .int 2]]])), some (.d (.tuple [.tuple [.int 0, .tuple [.int 3, .int 2]]])), some (.d (.tuple [.tuple [.int 11, .tuple [.int 1, .int 2]], .tuple [.int 12, .tuple [.int 1, .int 2]], .tuple [.int 13, .tuple [.int 1, .int 2]], .tuple [.int 14, .tuple [.int 1, .int 2]], .tuple [.int 15, .tuple [.int 1, .int 2]], .tuple [.int 16, .tuple [.int 1, .int 2]], .tuple [.int 17, .tuple [.int 1, .int 2]], .tuple [.int 18, .tuple [.int 1, .int 2]], .tuple [.int 19, .tuple [.int 1, .int 2]], .tuple [.int 20, .tuple [.int 1, .int 2]], .tuple [.int 21, .tuple [.int 1, .int 2]], .tuple [.int 22, .tuple [.int 1, .int 2]], .tuple [.int 23, .tuple [.int 1, .int 2]], .tuple [.int 24, .tuple [.int 1, .int 2]], .tuple [.int 25, .tuple [.int 1, .int 2]], .tuple [.int 26, .tuple [.int 1, .int 2]], .tuple [.int 27, .tuple [.int 1, .int 2]], .tuple [.int 28, .tuple [.int 1, .int 2]], .tuple [.int 29, .tuple [.int 1, .int 2]], .tuple [.int 30, .tuple [.int 1, .int 2]]])), none, none] := by
  rw [stp (k := 17) (by decide) (st_17 a b xs)]
  rw [stp (k := 18) (by decide) (st_18 a b xs)]
  exact stp_ret (k := 19) (by decide) (st_19 a b xs)
def midS (a b : Int) (xs : List D) : Rho := [some (.rl xs), some (.ml [.int a, .int b]), some (.d (.tuple [.tuple [.int 0, .tuple [.int 1, .int 2]], .tuple [.int 1, .tuple [.int 1, .int 2]], .tuple [.int 2, .tuple [.int 1, .int 2]], .tuple [.int 3, .tuple [.int 1, .int 2]], .tuple [.int 4, .tuple [.int 1, .int 2]], .tuple [.int 5, .tuple [.int 1, .int 2]], .tuple [.int 6, .tuple [.int 1, .int 2]], .tuple [.int 7, .tuple [.int 1, .int 2]], .tuple [.int 8, .tuple [.int 1, .int 2]], .tuple [.int 9, .tuple [.int 1, .int 2]], .tuple [.int 10, .tuple [.int 1, .int 2]], .tuple [.int 11, .tuple [.int 1, .int 2]], .tuple [.int 12, .tuple [.int 1, .int 2]], .tuple [.int 13, .tuple [.int 1, .int 2]], .tuple [.int 14, .tuple [.int 1, .int 2]], .tuple [.int 15, .tuple [.int 1, .int 2]], .tuple [.int 16, .tuple [.int 1, .int 2]], .tuple [.int 17, .tuple [.int 1, .int 2]], .tuple [.int 18, .tuple [.int 1, .int 2]], .tuple [.int 19, .tuple [.int 1, .int 2]], .tuple [.int 20, .tuple [.int 1, .int 2]]])), some (.d (.tuple [.int 2, .int 4, .int 1])), some (.d (.tuple [.tuple [.int 0, .int 1], .tuple [.int 2]])), some (.d (.tuple [.tuple [.int 0, .int 1], .tuple [.int (-1), .int 0]])), some (.d (.tuple [.int 1, .int 2])), some (.ml [.none, .int 5, .list [.tuple [.int 0, .tuple [.int 1, .int 2]], .tuple [.int 3, .tuple [.int 2, .int 2]]], .tuple [.tuple [.int 3, .tuple [.int 2, .int 2]], .tuple [.int 0, .tuple [.int 1, .int 2]]], .tuple [.tuple [.int 0, .tuple [.int 1, .int 2]], .tuple [.int 3, .tuple [.int 2, .int 2]], .tuple [.int 3, .tuple [.int 2, .int 2]]], .tuple [.tuple [.int 31, .tuple [.int 1, .int 2]]], .tuple [.tuple [.int (-1), .tuple [.int 1, .int 2]]], .tuple [.tuple [.bool true, .tuple [.int 1, .int 2]]], .tuple [.tuple [.int 0, .tuple [.int 1, .int 3]]], .tuple [.tuple [.int 0]], .tuple [.tuple [.int 0, .tuple [.int 1, .int 2], .int 1]]]), some (.ml [.str "key", .str "number"]), some (.d (.tuple [.tuple [.int 0, .tuple [.int 1, .int 2]], .tuple [.int 3, .tuple [.int 2, .int 2]]])), some (.d (.tuple [.tuple [.int 0, .tuple [.int 3, .int 2]]])), none, none, none]
def midS1 (a b : Int) (xs : List D) : Rho := [some (.rl xs), none, some (.d (.tuple [.tuple [.int 0, .tuple [.int 1, .int 2]], .tuple [.int 1, .tuple [.int 1, .int 2]], .tuple [.int 2, .tuple [.int 1, .int 2]], .tuple [.int 3, .tuple [.int 1, .int 2]], .tuple [.int 4, .tuple [.int 1, .int 2]], .tuple [.int 5, .tuple [.int 1, .int 2]], .tuple [.int 6, .tuple [.int 1, .int 2]], .tuple [.int 7, .tuple [.int 1, .int 2]], .tuple [.int 8, .tuple [.int 1, .int 2]], .tuple [.int 9, .tuple [.int 1, .int 2]], .tuple [.int 10, .tuple [.int 1, .int 2]], .tuple [.int 11, .tuple [.int 1, .int 2]], .tuple [.int 12, .tuple [.int 1, .int 2]], .tuple [.int 13, .tuple [.int 1, .int 2]], .tuple [.int 14, .tuple [.int 1, .int 2]], .tuple [.int 15, .tuple [.int 1, .int 2]], .tuple [.int 16, .tuple [.int 1, .int 2]], .tuple [.int 17, .tuple [.int 1, .int 2]], .tuple [.int 18, .tuple [.int 1, .int 2]], .tuple [.int 19, .tuple [.int 1, .int 2]], .tuple [.int 20, .tuple [.int 1, .int 2]]])), some (.d (.tuple [.int 2, .int 4, .int 1])), some (.d (.tuple [.tuple [.int 0, .int 1], .tuple [.int 2]])), some (.d (.tuple [.tuple [.int 0, .int 1], .tuple [.int (-1), .int 0]])), some (.d (.tuple [.int 1, .int 2])), some (.ml [.none, .int 5, .list [.tuple [.int 0, .tuple [.int 1, .int 2]], .tuple [.int 3, .tuple [.int 2, .int 2]]], .tuple [.tuple [.int 3, .tuple [.int 2, .int 2]], .tuple [.int 0, .tuple [.int 1, .int 2]]], .tuple [.tuple [.int 0, .tuple [.int 1, .int 2]], .tuple [.int 3, .tuple [.int 2, .int 2]], .tuple [.int 3, .tuple [.int 2, .int 2]]], .tuple [.tuple [.int 31, .tuple [.int 1, .int 2]]], .tuple [.tuple [.int (-1), .tuple [.int 1, .int 2]]], .tuple [.tuple [.bool true, .tuple [.int 1, .int 2]]], .tuple [.tuple [.int 0, .tuple [.int 1, .int 3]]], .tuple [.tuple [.int 0]], .tuple [.tuple [.int 0, .tuple [.int 1, .int 2], .int 1]]]), some (.ml [.str "key", .str "number", .str "tries"]), some (.d (.tuple [.tuple [.int 0, .tuple [.int 1, .int 2]], .tuple [.int 3, .tuple [.int 2, .int 2]]])), some (.d (.tuple [.tuple [.int 0, .tuple [.int 3, .int 2]]])), none, none, none]
def endS (a b : Int) (xs : List D) : Rho := [some (.rl xs), none, some (.d (.tuple [.tuple [.int 0, .tuple [.int 1, .int 2]], .tuple [.int 1, .tuple [.int 1, .int 2]], .tuple [.int 2, .tuple [.int 1, .int 2]], .tuple [.int 3, .tuple [.int 1, .int 2]], .tuple [.int 4, .tuple [.int 1, .int 2]], .tuple [.int 5, .tuple [.int 1, .int 2]], .tuple [.int 6, .tuple [.int 1, .int 2]], .tuple [.int 7, .tuple [.int 1, .int 2]], .tuple [.int 8, .tuple [.int 1, .int 2]], .tuple [.int 9, .tuple [.int 1, .int 2]], .tuple [.int 10, .tuple [.int 1, .int 2]], .tuple [.int 11, .tuple [.int 1, .int 2]], .tuple [.int 12, .tuple [.int 1, .int 2]], .tuple [.int 13, .tuple [.int 1, .int 2]], .tuple [.int 14, .tuple [.int 1, .int 2]], .tuple [.int 15, .tuple [.int 1, .int 2]], .tuple [.int 16, .tuple [.int 1, .int 2]], .tuple [.int 17, .tuple [.int 1, .int 2]], .tuple [.int 18, .tuple [.int 1, .int 2]], .tuple [.int 19, .tuple [.int 1, .int 2]], .tuple [.int 20, .tuple [.int 1, .int 2]]])), some (.d (.tuple [.int 2, .int 4, .int 1])), some (.d (.tuple [.tuple [.int 0, .int 1], .tuple [.int 2]])), some (.d (.tuple [.tuple [.int 0, .int 1], .tuple [.int (-1), .int 0]])), some (.d (.tuple [.int 1, .int 2])), some (.ml [.none, .int 5, .list [.tuple [.int 0, .tuple [.int 1, .int 2]], .tuple [.int 3, .tuple [.int 2, .int 2]]], .tuple [.tuple [.int 3, .tuple [.int 2, .int 2]], .tuple [.int 0, .tuple [.int 1, .int 2]]], .tuple [.tuple [.int 0, .tuple [.int 1, .int 2]], .tuple [.int 3, .tuple [.int 2, .int 2]], .tuple [.int 3, .tuple [.int 2, .int 2]]], .tuple [.tuple [.int 31, .tuple [.int 1, .int 2]]], .tuple [.tuple [.int (-1), .tuple [.int 1, .int 2]]], .tuple [.tuple [.bool true, .tuple [.int 1, .int 2]]], .tuple [.tuple [.int 0, .tuple [.int 1, .int 3]]], .tuple [.tuple [.int 0]], .tuple [.tuple [.int 0, .tuple [.int 1, .int 2], .int 1]]]), some (.ml [.str "key", .str "number", .str "tries"]), some (.d (.tuple [.tuple [.int 0, .tuple [.int 1, .int 2]], .tuple [.int 3, .tuple [.int 2, .int 2]]])), some (.d (.tuple [.tuple [.int 0, .tuple [.int 3, .int 2]]])), some (.d (.tuple [.tuple [.int 11, .tuple [.int 1, .int 2]], .tuple [.int 12, .tuple [.int 1, .int 2]], .tuple [.int 13, .tuple [.int 1, .int 2]], .tuple [.int 14, .tuple [.int 1, .int 2]], .tuple [.int 15, .tuple [.int 1, .int 2]], .tuple [.int 16, .tuple [.int 1, .int 2]], .tuple [.int 17, .tuple [.int 1, .int 2]], .tuple [.int 18, .tuple [.int 1, .int 2]], .tuple [.int 19, .tuple [.int 1, .int 2]], .tuple [.int 20, .tuple [.int 1, .int 2]], .tuple [.int 21, .tuple [.int 1, .int 2]], .tuple [.int 22, .tuple [.int 1, .int 2]], .tuple [.int 23, .tuple [.int 1, .int 2]], .tuple [.int 24, .tuple [.int 1, .int 2]], .tuple [.int 25, .tuple [.int 1, .int 2]], .tuple [.int 26, .tuple [.int 1, .int 2]], .tuple [.int 27, .tuple [.int 1, .int 2]], .tuple [.int 28, .tuple [.int 1, .int 2]], .tuple [.int 29, .tuple [.int 1, .int 2]], .tuple [.int 30, .tuple [.int 1, .int 2]]])), none, none]
def after (C : Call) (ρ : Rho) (r : Res (List Opd)) : Res Fl := optR (mlAt ρ 8) fun _ => (tst false (wdSem wt__law_word (tst false (r.bind fun os ρ => callSem C "seen_word" os ρ)) ρ [3, 4, 5, 10, 6, 1])).bind fun o ρ => (take o ρ).bind fun x ρ => optR (gt ρ 8) fun s => optR (appSem s x) fun s' => .ok .nx (ρ.set 8 (some s'))
theorem mid_a (C : Call) (ρ : Rho) : evS C 1 (nth b_law 16) ρ = after C ρ (evs C (.c (.v 3) (.c (.v 4) (.c (.v 5) (.c (.v 10) (.c (.v 6) (.c (.call "_law_roll" (.c (.v 1) (.c (.k (.int 31)) (.n)))) (.n))))))) (keepR ρ [3, 4, 5, 10, 6, 1])) := by kernel_rfl
theorem mid_k (a b : Int) (xs : List D) : keepR (midS a b xs) [3, 4, 5, 10, 6, 1] = [some (.rl xs), some (.ml [.int a, .int b]), some (.d (.tuple [.tuple [.int 0, .tuple [.int 1, .int 2]], .tuple [.int 1, .tuple [.int 1, .int 2]], .tuple [.int 2, .tuple [.int 1, .int 2]], .tuple [.int 3, .tuple [.int 1, .int 2]], .tuple [.int 4, .tuple [.int 1, .int 2]], .tuple [.int 5, .tuple [.int 1, .int 2]], .tuple [.int 6, .tuple [.int 1, .int 2]], .tuple [.int 7, .tuple [.int 1, .int 2]], .tuple [.int 8, .tuple [.int 1, .int 2]], .tuple [.int 9, .tuple [.int 1, .int 2]], .tuple [.int 10, .tuple [.int 1, .int 2]], .tuple [.int 11, .tuple [.int 1, .int 2]], .tuple [.int 12, .tuple [.int 1, .int 2]], .tuple [.int 13, .tuple [.int 1, .int 2]], .tuple [.int 14, .tuple [.int 1, .int 2]], .tuple [.int 15, .tuple [.int 1, .int 2]], .tuple [.int 16, .tuple [.int 1, .int 2]], .tuple [.int 17, .tuple [.int 1, .int 2]], .tuple [.int 18, .tuple [.int 1, .int 2]], .tuple [.int 19, .tuple [.int 1, .int 2]], .tuple [.int 20, .tuple [.int 1, .int 2]]])), some (.d (.tuple [.int 2, .int 4, .int 1])), some (.d (.tuple [.tuple [.int 0, .int 1], .tuple [.int 2]])), some (.d (.tuple [.tuple [.int 0, .int 1], .tuple [.int (-1), .int 0]])), some (.d (.tuple [.int 1, .int 2])), none, none, some (.d (.tuple [.tuple [.int 0, .tuple [.int 1, .int 2]], .tuple [.int 3, .tuple [.int 2, .int 2]]])), some (.d (.tuple [.tuple [.int 0, .tuple [.int 3, .int 2]]])), none, none, none] := by kernel_rfl
abbrev osL (v : Int) : List Opd := [.v (.d (.tuple [.int 2, .int 4, .int 1])), .v (.d (.tuple [.tuple [.int 0, .int 1], .tuple [.int 2]])), .v (.d (.tuple [.tuple [.int 0, .int 1], .tuple [.int (-1), .int 0]])), .v (.d (.tuple [.tuple [.int 0, .tuple [.int 3, .int 2]]])), .v (.d (.tuple [.int 1, .int 2])), .v (.d (.int v))]
abbrev klL (a' b' : Int) (xs : List D) : Rho := [some (.rl xs), some (.ml [.int a', .int b']), some (.d (.tuple [.tuple [.int 0, .tuple [.int 1, .int 2]], .tuple [.int 1, .tuple [.int 1, .int 2]], .tuple [.int 2, .tuple [.int 1, .int 2]], .tuple [.int 3, .tuple [.int 1, .int 2]], .tuple [.int 4, .tuple [.int 1, .int 2]], .tuple [.int 5, .tuple [.int 1, .int 2]], .tuple [.int 6, .tuple [.int 1, .int 2]], .tuple [.int 7, .tuple [.int 1, .int 2]], .tuple [.int 8, .tuple [.int 1, .int 2]], .tuple [.int 9, .tuple [.int 1, .int 2]], .tuple [.int 10, .tuple [.int 1, .int 2]], .tuple [.int 11, .tuple [.int 1, .int 2]], .tuple [.int 12, .tuple [.int 1, .int 2]], .tuple [.int 13, .tuple [.int 1, .int 2]], .tuple [.int 14, .tuple [.int 1, .int 2]], .tuple [.int 15, .tuple [.int 1, .int 2]], .tuple [.int 16, .tuple [.int 1, .int 2]], .tuple [.int 17, .tuple [.int 1, .int 2]], .tuple [.int 18, .tuple [.int 1, .int 2]], .tuple [.int 19, .tuple [.int 1, .int 2]], .tuple [.int 20, .tuple [.int 1, .int 2]]])), some (.d (.tuple [.int 2, .int 4, .int 1])), some (.d (.tuple [.tuple [.int 0, .int 1], .tuple [.int 2]])), some (.d (.tuple [.tuple [.int 0, .int 1], .tuple [.int (-1), .int 0]])), some (.d (.tuple [.int 1, .int 2])), none, none, some (.d (.tuple [.tuple [.int 0, .tuple [.int 1, .int 2]], .tuple [.int 3, .tuple [.int 2, .int 2]]])), some (.d (.tuple [.tuple [.int 0, .tuple [.int 3, .int 2]]])), none, none, none]
theorem mz_0 (a b a' b' : Int) (xs : List D) : after (callN (progOf ds) 19) (midS a b xs) (.ok (osL 0) (klL a' b' xs)) = .ok .nx (midS1 a b xs) := by kernel_rfl
theorem mz_1 (a b a' b' : Int) (xs : List D) : after (callN (progOf ds) 19) (midS a b xs) (.ok (osL 1) (klL a' b' xs)) = .ok .nx (midS1 a b xs) := by kernel_rfl
theorem mz_2 (a b a' b' : Int) (xs : List D) : after (callN (progOf ds) 19) (midS a b xs) (.ok (osL 2) (klL a' b' xs)) = .ok .nx (midS1 a b xs) := by kernel_rfl
theorem mz_3 (a b a' b' : Int) (xs : List D) : after (callN (progOf ds) 19) (midS a b xs) (.ok (osL 3) (klL a' b' xs)) = .ok .nx (midS1 a b xs) := by kernel_rfl
theorem mz_4 (a b a' b' : Int) (xs : List D) : after (callN (progOf ds) 19) (midS a b xs) (.ok (osL 4) (klL a' b' xs)) = .ok .nx (midS1 a b xs) := by kernel_rfl
theorem mz_5 (a b a' b' : Int) (xs : List D) : after (callN (progOf ds) 19) (midS a b xs) (.ok (osL 5) (klL a' b' xs)) = .ok .nx (midS1 a b xs) := by kernel_rfl
theorem mz_6 (a b a' b' : Int) (xs : List D) : after (callN (progOf ds) 19) (midS a b xs) (.ok (osL 6) (klL a' b' xs)) = .ok .nx (midS1 a b xs) := by kernel_rfl
theorem mz_7 (a b a' b' : Int) (xs : List D) : after (callN (progOf ds) 19) (midS a b xs) (.ok (osL 7) (klL a' b' xs)) = .ok .nx (midS1 a b xs) := by kernel_rfl
theorem mz_8 (a b a' b' : Int) (xs : List D) : after (callN (progOf ds) 19) (midS a b xs) (.ok (osL 8) (klL a' b' xs)) = .ok .nx (midS1 a b xs) := by kernel_rfl
theorem mz_9 (a b a' b' : Int) (xs : List D) : after (callN (progOf ds) 19) (midS a b xs) (.ok (osL 9) (klL a' b' xs)) = .ok .nx (midS1 a b xs) := by kernel_rfl
theorem mz_10 (a b a' b' : Int) (xs : List D) : after (callN (progOf ds) 19) (midS a b xs) (.ok (osL 10) (klL a' b' xs)) = .ok .nx (midS1 a b xs) := by kernel_rfl
theorem mz_11 (a b a' b' : Int) (xs : List D) : after (callN (progOf ds) 19) (midS a b xs) (.ok (osL 11) (klL a' b' xs)) = .ok .nx (midS1 a b xs) := by kernel_rfl
theorem mz_12 (a b a' b' : Int) (xs : List D) : after (callN (progOf ds) 19) (midS a b xs) (.ok (osL 12) (klL a' b' xs)) = .ok .nx (midS1 a b xs) := by kernel_rfl
theorem mz_13 (a b a' b' : Int) (xs : List D) : after (callN (progOf ds) 19) (midS a b xs) (.ok (osL 13) (klL a' b' xs)) = .ok .nx (midS1 a b xs) := by kernel_rfl
theorem mz_14 (a b a' b' : Int) (xs : List D) : after (callN (progOf ds) 19) (midS a b xs) (.ok (osL 14) (klL a' b' xs)) = .ok .nx (midS1 a b xs) := by kernel_rfl
theorem mz_15 (a b a' b' : Int) (xs : List D) : after (callN (progOf ds) 19) (midS a b xs) (.ok (osL 15) (klL a' b' xs)) = .ok .nx (midS1 a b xs) := by kernel_rfl
theorem mz_16 (a b a' b' : Int) (xs : List D) : after (callN (progOf ds) 19) (midS a b xs) (.ok (osL 16) (klL a' b' xs)) = .ok .nx (midS1 a b xs) := by kernel_rfl
theorem mz_17 (a b a' b' : Int) (xs : List D) : after (callN (progOf ds) 19) (midS a b xs) (.ok (osL 17) (klL a' b' xs)) = .ok .nx (midS1 a b xs) := by kernel_rfl
theorem mz_18 (a b a' b' : Int) (xs : List D) : after (callN (progOf ds) 19) (midS a b xs) (.ok (osL 18) (klL a' b' xs)) = .ok .nx (midS1 a b xs) := by kernel_rfl
theorem mz_19 (a b a' b' : Int) (xs : List D) : after (callN (progOf ds) 19) (midS a b xs) (.ok (osL 19) (klL a' b' xs)) = .ok .nx (midS1 a b xs) := by kernel_rfl
theorem mz_20 (a b a' b' : Int) (xs : List D) : after (callN (progOf ds) 19) (midS a b xs) (.ok (osL 20) (klL a' b' xs)) = .ok .nx (midS1 a b xs) := by kernel_rfl
theorem mz_21 (a b a' b' : Int) (xs : List D) : after (callN (progOf ds) 19) (midS a b xs) (.ok (osL 21) (klL a' b' xs)) = .ok .nx (midS1 a b xs) := by kernel_rfl
theorem mz_22 (a b a' b' : Int) (xs : List D) : after (callN (progOf ds) 19) (midS a b xs) (.ok (osL 22) (klL a' b' xs)) = .ok .nx (midS1 a b xs) := by kernel_rfl
theorem mz_23 (a b a' b' : Int) (xs : List D) : after (callN (progOf ds) 19) (midS a b xs) (.ok (osL 23) (klL a' b' xs)) = .ok .nx (midS1 a b xs) := by kernel_rfl
theorem mz_24 (a b a' b' : Int) (xs : List D) : after (callN (progOf ds) 19) (midS a b xs) (.ok (osL 24) (klL a' b' xs)) = .ok .nx (midS1 a b xs) := by kernel_rfl
theorem mz_25 (a b a' b' : Int) (xs : List D) : after (callN (progOf ds) 19) (midS a b xs) (.ok (osL 25) (klL a' b' xs)) = .ok .nx (midS1 a b xs) := by kernel_rfl
theorem mz_26 (a b a' b' : Int) (xs : List D) : after (callN (progOf ds) 19) (midS a b xs) (.ok (osL 26) (klL a' b' xs)) = .ok .nx (midS1 a b xs) := by kernel_rfl
theorem mz_27 (a b a' b' : Int) (xs : List D) : after (callN (progOf ds) 19) (midS a b xs) (.ok (osL 27) (klL a' b' xs)) = .ok .nx (midS1 a b xs) := by kernel_rfl
theorem mz_28 (a b a' b' : Int) (xs : List D) : after (callN (progOf ds) 19) (midS a b xs) (.ok (osL 28) (klL a' b' xs)) = .ok .nx (midS1 a b xs) := by kernel_rfl
theorem mz_29 (a b a' b' : Int) (xs : List D) : after (callN (progOf ds) 19) (midS a b xs) (.ok (osL 29) (klL a' b' xs)) = .ok .nx (midS1 a b xs) := by kernel_rfl
theorem mz_30 (a b a' b' : Int) (xs : List D) : after (callN (progOf ds) 19) (midS a b xs) (.ok (osL 30) (klL a' b' xs)) = .ok .nx (midS1 a b xs) := by kernel_rfl
theorem mid_z (a b a' b' v : Int) (xs : List D) (v0 : 0 ≤ v) (v1 : v < 31) : after (callN (progOf ds) 19) (midS a b xs) (.ok (osL v) (klL a' b' xs)) = .ok .nx (midS1 a b xs) := by
  rcases (by omega : v = 0 ∨ v = 1 ∨ v = 2 ∨ v = 3 ∨ v = 4 ∨ v = 5 ∨ v = 6 ∨ v = 7 ∨ v = 8 ∨ v = 9 ∨ v = 10 ∨ v = 11 ∨ v = 12 ∨ v = 13 ∨ v = 14 ∨ v = 15 ∨ v = 16 ∨ v = 17 ∨ v = 18 ∨ v = 19 ∨ v = 20 ∨ v = 21 ∨ v = 22 ∨ v = 23 ∨ v = 24 ∨ v = 25 ∨ v = 26 ∨ v = 27 ∨ v = 28 ∨ v = 29 ∨ v = 30) with rfl | rfl | rfl | rfl | rfl | rfl | rfl | rfl | rfl | rfl | rfl | rfl | rfl | rfl | rfl | rfl | rfl | rfl | rfl | rfl | rfl | rfl | rfl | rfl | rfl | rfl | rfl | rfl | rfl | rfl | rfl
  · exact mz_0 a b a' b' xs
  · exact mz_1 a b a' b' xs
  · exact mz_2 a b a' b' xs
  · exact mz_3 a b a' b' xs
  · exact mz_4 a b a' b' xs
  · exact mz_5 a b a' b' xs
  · exact mz_6 a b a' b' xs
  · exact mz_7 a b a' b' xs
  · exact mz_8 a b a' b' xs
  · exact mz_9 a b a' b' xs
  · exact mz_10 a b a' b' xs
  · exact mz_11 a b a' b' xs
  · exact mz_12 a b a' b' xs
  · exact mz_13 a b a' b' xs
  · exact mz_14 a b a' b' xs
  · exact mz_15 a b a' b' xs
  · exact mz_16 a b a' b' xs
  · exact mz_17 a b a' b' xs
  · exact mz_18 a b a' b' xs
  · exact mz_19 a b a' b' xs
  · exact mz_20 a b a' b' xs
  · exact mz_21 a b a' b' xs
  · exact mz_22 a b a' b' xs
  · exact mz_23 a b a' b' xs
  · exact mz_24 a b a' b' xs
  · exact mz_25 a b a' b' xs
  · exact mz_26 a b a' b' xs
  · exact mz_27 a b a' b' xs
  · exact mz_28 a b a' b' xs
  · exact mz_29 a b a' b' xs
  · exact mz_30 a b a' b' xs
theorem mid_e {C : Call} (a b a' b' v : Int) (xs : List D) (h : C "_law_roll" [.ml [.int a, .int b], .d (.int 31)] = .ret (.d (.int v)) [.ml [.int a', .int b'], .d (.int 31)]) : evs C (.c (.v 3) (.c (.v 4) (.c (.v 5) (.c (.v 10) (.c (.v 6) (.c (.call "_law_roll" (.c (.v 1) (.c (.k (.int 31)) (.n)))) (.n))))))) [some (.rl xs), some (.ml [.int a, .int b]), some (.d (.tuple [.tuple [.int 0, .tuple [.int 1, .int 2]], .tuple [.int 1, .tuple [.int 1, .int 2]], .tuple [.int 2, .tuple [.int 1, .int 2]], .tuple [.int 3, .tuple [.int 1, .int 2]], .tuple [.int 4, .tuple [.int 1, .int 2]], .tuple [.int 5, .tuple [.int 1, .int 2]], .tuple [.int 6, .tuple [.int 1, .int 2]], .tuple [.int 7, .tuple [.int 1, .int 2]], .tuple [.int 8, .tuple [.int 1, .int 2]], .tuple [.int 9, .tuple [.int 1, .int 2]], .tuple [.int 10, .tuple [.int 1, .int 2]], .tuple [.int 11, .tuple [.int 1, .int 2]], .tuple [.int 12, .tuple [.int 1, .int 2]], .tuple [.int 13, .tuple [.int 1, .int 2]], .tuple [.int 14, .tuple [.int 1, .int 2]], .tuple [.int 15, .tuple [.int 1, .int 2]], .tuple [.int 16, .tuple [.int 1, .int 2]], .tuple [.int 17, .tuple [.int 1, .int 2]], .tuple [.int 18, .tuple [.int 1, .int 2]], .tuple [.int 19, .tuple [.int 1, .int 2]], .tuple [.int 20, .tuple [.int 1, .int 2]]])), some (.d (.tuple [.int 2, .int 4, .int 1])), some (.d (.tuple [.tuple [.int 0, .int 1], .tuple [.int 2]])), some (.d (.tuple [.tuple [.int 0, .int 1], .tuple [.int (-1), .int 0]])), some (.d (.tuple [.int 1, .int 2])), none, none, some (.d (.tuple [.tuple [.int 0, .tuple [.int 1, .int 2]], .tuple [.int 3, .tuple [.int 2, .int 2]]])), some (.d (.tuple [.tuple [.int 0, .tuple [.int 3, .int 2]]])), none, none, none] = .ok [.v (.d (.tuple [.int 2, .int 4, .int 1])), .v (.d (.tuple [.tuple [.int 0, .int 1], .tuple [.int 2]])), .v (.d (.tuple [.tuple [.int 0, .int 1], .tuple [.int (-1), .int 0]])), .v (.d (.tuple [.tuple [.int 0, .tuple [.int 3, .int 2]]])), .v (.d (.tuple [.int 1, .int 2])), .v (.d (.int v))] [some (.rl xs), some (.ml [.int a', .int b']), some (.d (.tuple [.tuple [.int 0, .tuple [.int 1, .int 2]], .tuple [.int 1, .tuple [.int 1, .int 2]], .tuple [.int 2, .tuple [.int 1, .int 2]], .tuple [.int 3, .tuple [.int 1, .int 2]], .tuple [.int 4, .tuple [.int 1, .int 2]], .tuple [.int 5, .tuple [.int 1, .int 2]], .tuple [.int 6, .tuple [.int 1, .int 2]], .tuple [.int 7, .tuple [.int 1, .int 2]], .tuple [.int 8, .tuple [.int 1, .int 2]], .tuple [.int 9, .tuple [.int 1, .int 2]], .tuple [.int 10, .tuple [.int 1, .int 2]], .tuple [.int 11, .tuple [.int 1, .int 2]], .tuple [.int 12, .tuple [.int 1, .int 2]], .tuple [.int 13, .tuple [.int 1, .int 2]], .tuple [.int 14, .tuple [.int 1, .int 2]], .tuple [.int 15, .tuple [.int 1, .int 2]], .tuple [.int 16, .tuple [.int 1, .int 2]], .tuple [.int 17, .tuple [.int 1, .int 2]], .tuple [.int 18, .tuple [.int 1, .int 2]], .tuple [.int 19, .tuple [.int 1, .int 2]], .tuple [.int 20, .tuple [.int 1, .int 2]]])), some (.d (.tuple [.int 2, .int 4, .int 1])), some (.d (.tuple [.tuple [.int 0, .int 1], .tuple [.int 2]])), some (.d (.tuple [.tuple [.int 0, .int 1], .tuple [.int (-1), .int 0]])), some (.d (.tuple [.int 1, .int 2])), none, none, some (.d (.tuple [.tuple [.int 0, .tuple [.int 1, .int 2]], .tuple [.int 3, .tuple [.int 2, .int 2]]])), some (.d (.tuple [.tuple [.int 0, .tuple [.int 3, .int 2]]])), none, none, none] := by
  simp only [bind_ok, bind_exc, bind_bad, bind_ite, optR_some, optR_none, optR_ite, lift_some, tst_f, tst_t, tst_s, tst_ite, tst_bind, tst_optR, boolOf_ok, boolOf_ite, boolOf_bind, boolOf_optR, gt_0, gt_n0, gt_s, peek_v, peek_s, take_d, take_ml, take_s, takes_n, takes_c, peeks_n, peeks_v, peeks_s, ev_k, ev_v, ev_g, ev_tup, ev_lst, ev_bin, ev_neg, ev_not_t, ev_not_f, ev_and_t, ev_and_f, ev_or_t, ev_or_f, ev_ite, ev_cmp, ev_chn, ev_ix, ev_sl, ev_call, ev_bi, ev_isi, ev_dic, ev_srt, evs_n, evs_c, evC_n, evC_c, evO_n, evO_s, evI_seq, evI_rg, evI_zip, evI_enum, part_i, evS_set, evS_par, evS_sub, evS_aug, evS_ex, evS_app, evS_ite, evS_ret, evS_retN, evS_brk, evS_cnt, evS_pass, evSs_n, evSs_c, flow_nx, flow_brk, flow_cnt, flow_ret, set_n, set_t, setO_v, setO_s, ret_v, ret_s, moves_n, moves_v, moves_s, setAll_n, setAll_c, fin_ret, fin_nx, fin_ite, slots_n, slots_v, slots_s, afterC_ret, call_eq, backs_n, backs_v, backs_s, par_0, par_s, outs_n, outs_c, frzL_n, frzL_c, frz_eq, own_d, own_ml, own_rl, dat_d, dat_ml, frzS_d, frzS_ml, lt_ii, le_ii, gt_ii, ge_ii, eq_ii, ne_ii, add_ii, sub_ii, tru_b, tru_i, tru_n, tru_l, tru_t, abs_a, len_t, len_l, len_m, tup_m, tup_t, tup_l, list_m, list_r, int_i, max_ii, min_ii, ix_t, ix_l, ix_m, sl_t, sl_l, sl_m, at_0, at_1, at_2, items_t, items_l, seq_t, seq_l, ix_dT, ix_dI, seq_dT, seq_dI, items_dT, items_dI, len_dI, len_dT, sl_dT, sl_dI, own_md, dat_md, frzS_md, ev_dn, ev_rg1, ev_rg2, ix_mdI, ix_ddI, ix_mdS, ix_ddS, ml_0, ml_s, setT_n, setT_t, setTs_n, setTs_c, wipe_n, wipe_c, back_n, back_c, gtO_0, gtO_s, Option.map_some, Option.map_none, Option.bind_some, Option.isSome_some, Option.getD_some, List.set_cons_zero, List.set_cons_succ, List.nodup_nil, List.nodup_cons, List.not_mem_nil, List.mem_cons, not_false_eq_true, not_true_eq_false, and_self, and_true, true_and, or_false, false_or, Bool.and_self, Bool.and_true, Bool.true_and, Bool.false_and, Bool.and_false, Bool.not_true, Bool.not_false, if_true, if_false, Bool.false_eq_true, List.any_cons, List.any_nil, Bool.or_false, Bool.or_self, Bool.or_true, Bool.true_or, Bool.false_or, List.map_cons, List.map_nil, List.replicate, List.cons_append, List.nil_append, List.length_cons, List.length_nil, Nat.reduceSub, Nat.reduceAdd, Nat.reduceLT, Nat.reduceEqDiff, decide_eq_true_eq, h]
theorem mid_ok (a b a' b' v : Int) (xs : List D) (h : callN (progOf ds) 19 "_law_roll" [.ml [.int a, .int b], .d (.int 31)] = .ret (.d (.int v)) [.ml [.int a', .int b'], .d (.int 31)]) (v0 : 0 ≤ v) (v1 : v < 31) : evS (callN (progOf ds) 19) 1 (nth b_law 16) (midS a b xs) = .ok .nx (midS1 a b xs) := by
  rw [mid_a, mid_k, mid_e a b a' b' v xs h, mid_z a b a' b' v xs v0 v1]
theorem cup_e {C : Call} (a b : Int) (xs : List D) (h : C "_law_cup" [.rl xs] = .ret (cupV a b) [.rl xs]) : evS C 1 (nth b_law 0) [some (.rl xs), none, none, none, none, none, none, none, none, none, none, none, none, none] = .ok .nx [some (.rl xs), some (.ml [.int a, .int b]), none, none, none, none, none, none, none, none, none, none, none, none] := by
  show evS C 1 (.set (.n 1) (.call "_law_cup" (.c (.v 0) (.n)))) _ = _
  simp only [bind_ok, bind_exc, bind_bad, bind_ite, optR_some, optR_none, optR_ite, lift_some, tst_f, tst_t, tst_s, tst_ite, tst_bind, tst_optR, boolOf_ok, boolOf_ite, boolOf_bind, boolOf_optR, gt_0, gt_n0, gt_s, peek_v, peek_s, take_d, take_ml, take_s, takes_n, takes_c, peeks_n, peeks_v, peeks_s, ev_k, ev_v, ev_g, ev_tup, ev_lst, ev_bin, ev_neg, ev_not_t, ev_not_f, ev_and_t, ev_and_f, ev_or_t, ev_or_f, ev_ite, ev_cmp, ev_chn, ev_ix, ev_sl, ev_call, ev_bi, ev_isi, ev_dic, ev_srt, evs_n, evs_c, evC_n, evC_c, evO_n, evO_s, evI_seq, evI_rg, evI_zip, evI_enum, part_i, evS_set, evS_par, evS_sub, evS_aug, evS_ex, evS_app, evS_ite, evS_ret, evS_retN, evS_brk, evS_cnt, evS_pass, evSs_n, evSs_c, flow_nx, flow_brk, flow_cnt, flow_ret, set_n, set_t, setO_v, setO_s, ret_v, ret_s, moves_n, moves_v, moves_s, setAll_n, setAll_c, fin_ret, fin_nx, fin_ite, slots_n, slots_v, slots_s, afterC_ret, call_eq, backs_n, backs_v, backs_s, par_0, par_s, outs_n, outs_c, frzL_n, frzL_c, frz_eq, own_d, own_ml, own_rl, dat_d, dat_ml, frzS_d, frzS_ml, lt_ii, le_ii, gt_ii, ge_ii, eq_ii, ne_ii, add_ii, sub_ii, tru_b, tru_i, tru_n, tru_l, tru_t, abs_a, len_t, len_l, len_m, tup_m, tup_t, tup_l, list_m, list_r, int_i, max_ii, min_ii, ix_t, ix_l, ix_m, sl_t, sl_l, sl_m, at_0, at_1, at_2, items_t, items_l, seq_t, seq_l, ix_dT, ix_dI, seq_dT, seq_dI, items_dT, items_dI, len_dI, len_dT, sl_dT, sl_dI, own_md, dat_md, frzS_md, ev_dn, ev_rg1, ev_rg2, ix_mdI, ix_ddI, ix_mdS, ix_ddS, ml_0, ml_s, setT_n, setT_t, setTs_n, setTs_c, wipe_n, wipe_c, back_n, back_c, gtO_0, gtO_s, Option.map_some, Option.map_none, Option.bind_some, Option.isSome_some, Option.getD_some, List.set_cons_zero, List.set_cons_succ, List.nodup_nil, List.nodup_cons, List.not_mem_nil, List.mem_cons, not_false_eq_true, not_true_eq_false, and_self, and_true, true_and, or_false, false_or, Bool.and_self, Bool.and_true, Bool.true_and, Bool.false_and, Bool.and_false, Bool.not_true, Bool.not_false, if_true, if_false, Bool.false_eq_true, List.any_cons, List.any_nil, Bool.or_false, Bool.or_self, Bool.or_true, Bool.true_or, Bool.false_or, List.map_cons, List.map_nil, List.replicate, List.cons_append, List.nil_append, List.length_cons, List.length_nil, Nat.reduceSub, Nat.reduceAdd, Nat.reduceLT, Nat.reduceEqDiff, decide_eq_true_eq, h]
theorem body_ok (a b a' b' v : Int) (xs : List D) (h0 : callN (progOf ds) 19 "_law_cup" [.rl xs] = .ret (cupV a b) [.rl xs]) (h : callN (progOf ds) 19 "_law_roll" [.ml [.int a, .int b], .d (.int 31)] = .ret (.d (.int v)) [.ml [.int a', .int b'], .d (.int 31)]) (v0 : 0 ≤ v) (v1 : v < 31) : evSs (callN (progOf ds) 19) 1 b_law [some (.rl xs), none, none, none, none, none, none, none, none, none, none, none, none, none] = .ok (.ret (.d (.bool true))) (endS a b xs) := by
  have e := stp (k := 0) (by decide) (cup_e a b xs h0)
  refine Eq.trans e ((pre_ok a b xs).trans ?_)
  exact (stp (k := 16) (by decide) (mid_ok a b a' b' v xs h v0 v1)).trans (post_ok a b xs)
theorem plain (ns : List Int) (hn : ns.length ≤ 63) : ∃ outs, callN (progOf ds) 20 "law" [.rl (ns.map PyData.int)] = .ret (.d (.bool true)) outs := by
  obtain ⟨a, b, h0, ha, hb⟩ := H__law_cup 19 (by omega) ns (by omega)
  obtain ⟨v, a', b', h, v0, v1, _⟩ := H__law_roll 19 (by omega) a b 31 ha hb (by omega) (by omega)
  rw [cl_law 19]
  have e := body_ok a b a' b' v (ns.map .int) h0 h v0 v1
  rw [callFn_fin rfl]
  refine ⟨outsOf d_law.fn.asg (endS a b (ns.map .int)) 0 [.rl (ns.map .int)], ?_⟩
  have e' : evSs (callN (progOf ds) 19) (if [SV.rl (ns.map PyData.int)].any SV.own then d_law.fn.ns else d_law.fn.np) d_law.fn.body (frzL d_law.fn.asg ([SV.rl (ns.map PyData.int)].map some ++ List.replicate (d_law.fn.ns - d_law.fn.np) none)) = .ok (.ret (.d (.bool true))) (endS a b (ns.map .int)) := e
  rw [e']
  rfl
end K51

namespace K51
open PySem PySem.Spec PyProof.Rows L2 Q LamX
theorem all_mk {w : World} {K : PySem.W.Frag} {h : Heap} {mg : Str → Option Value} {fa f0 f1 f2 f3 f4 f5 f6 f7 f8 f9 f10 f11 f12 f13 f14 f15 f16 f17 f18 f19 f20 f21 f22 f23 f24 f25 f26 f27 f28 f29 f30 f31 f32 f33 f34 f35 f36 f37 f38 f39 f40 f41 f42 f43 f44 : Addr} (X : K.In h) (G : h.Ns mainGlobals mg) (hfa : mg "law" = some (.ref fa)) (nd : (K.map (·.1)).Nodup)
    {od0 an0 : Option Addr} {sl0 : Array (Option Value)} {oc0 kV0 dc0 pm0 ct0 : Value} {cd0 : Value}
    (a0 : PySem.W.nsIn K mainGlobals "is_whole" = some (some (.ref f0)))
    (l0 : K.lookup f0 = some ⟨oc0, od0, .func (PySem.W.fnOf "is_whole" "is_whole" (defArgs (topS 13)) (defBody (topS 13)) (defScope (topS 13)) .none kV0 dc0 pm0 an0 cd0 ct0), sl0⟩)
    (c0 : PySem.W.codeIn K cd0 "is_whole" = true)
    {od1 an1 : Option Addr} {sl1 : Array (Option Value)} {oc1 kV1 dc1 pm1 ct1 : Value} {cd1 : Value}
    (a1 : PySem.W.nsIn K mainGlobals "fits_whole" = some (some (.ref f1)))
    (l1 : K.lookup f1 = some ⟨oc1, od1, .func (PySem.W.fnOf "fits_whole" "fits_whole" (defArgs (topS 14)) (defBody (topS 14)) (defScope (topS 14)) .none kV1 dc1 pm1 an1 cd1 ct1), sl1⟩)
    (c1 : PySem.W.codeIn K cd1 "fits_whole" = true)
    {od2 an2 : Option Addr} {sl2 : Array (Option Value)} {oc2 kV2 dc2 pm2 ct2 : Value} {cd2 : Value}
    (a2 : PySem.W.nsIn K mainGlobals "is_tuple_of" = some (some (.ref f2)))
    (l2 : K.lookup f2 = some ⟨oc2, od2, .func (PySem.W.fnOf "is_tuple_of" "is_tuple_of" (defArgs (topS 15)) (defBody (topS 15)) (defScope (topS 15)) .none kV2 dc2 pm2 an2 cd2 ct2), sl2⟩)
    (c2 : PySem.W.codeIn K cd2 "is_tuple_of" = true)
    {od3 an3 : Option Addr} {sl3 : Array (Option Value)} {oc3 kV3 dc3 pm3 ct3 : Value} {cd3 : Value}
    (a3 : PySem.W.nsIn K mainGlobals "is_rising" = some (some (.ref f3)))
    (l3 : K.lookup f3 = some ⟨oc3, od3, .func (PySem.W.fnOf "is_rising" "is_rising" (defArgs (topS 16)) (defBody (topS 16)) (defScope (topS 16)) .none kV3 dc3 pm3 an3 cd3 ct3), sl3⟩)
    (c3 : PySem.W.codeIn K cd3 "is_rising" = true)
    {od4 an4 : Option Addr} {sl4 : Array (Option Value)} {oc4 kV4 dc4 pm4 ct4 : Value} {cd4 : Value}
    (a4 : PySem.W.nsIn K mainGlobals "fits_make" = some (some (.ref f4)))
    (l4 : K.lookup f4 = some ⟨oc4, od4, .func (PySem.W.fnOf "fits_make" "fits_make" (defArgs (topS 17)) (defBody (topS 17)) (defScope (topS 17)) .none kV4 dc4 pm4 an4 cd4 ct4), sl4⟩)
    (c4 : PySem.W.codeIn K cd4 "fits_make" = true)
    {od5 an5 : Option Addr} {sl5 : Array (Option Value)} {oc5 kV5 dc5 pm5 ct5 : Value} {cd5 : Value}
    (a5 : PySem.W.nsIn K mainGlobals "fits_cuts" = some (some (.ref f5)))
    (l5 : K.lookup f5 = some ⟨oc5, od5, .func (PySem.W.fnOf "fits_cuts" "fits_cuts" (defArgs (topS 18)) (defBody (topS 18)) (defScope (topS 18)) .none kV5 dc5 pm5 an5 cd5 ct5), sl5⟩)
    (c5 : PySem.W.codeIn K cd5 "fits_cuts" = true)
    {od6 an6 : Option Addr} {sl6 : Array (Option Value)} {oc6 kV6 dc6 pm6 ct6 : Value} {cd6 : Value}
    (a6 : PySem.W.nsIn K mainGlobals "fits_key" = some (some (.ref f6)))
    (l6 : K.lookup f6 = some ⟨oc6, od6, .func (PySem.W.fnOf "fits_key" "fits_key" (defArgs (topS 19)) (defBody (topS 19)) (defScope (topS 19)) .none kV6 dc6 pm6 an6 cd6 ct6), sl6⟩)
    (c6 : PySem.W.codeIn K cd6 "fits_key" = true)
    {od7 an7 : Option Addr} {sl7 : Array (Option Value)} {oc7 kV7 dc7 pm7 ct7 : Value} {cd7 : Value}
    (a7 : PySem.W.nsIn K mainGlobals "fits_set" = some (some (.ref f7)))
    (l7 : K.lookup f7 = some ⟨oc7, od7, .func (PySem.W.fnOf "fits_set" "fits_set" (defArgs (topS 20)) (defBody (topS 20)) (defScope (topS 20)) .none kV7 dc7 pm7 an7 cd7 ct7), sl7⟩)
    (c7 : PySem.W.codeIn K cd7 "fits_set" = true)
    {od8 an8 : Option Addr} {sl8 : Array (Option Value)} {oc8 kV8 dc8 pm8 ct8 : Value} {cd8 : Value}
    (a8 : PySem.W.nsIn K mainGlobals "fits_lock" = some (some (.ref f8)))
    (l8 : K.lookup f8 = some ⟨oc8, od8, .func (PySem.W.fnOf "fits_lock" "fits_lock" (defArgs (topS 21)) (defBody (topS 21)) (defScope (topS 21)) .none kV8 dc8 pm8 an8 cd8 ct8), sl8⟩)
    (c8 : PySem.W.codeIn K cd8 "fits_lock" = true)
    {od9 an9 : Option Addr} {sl9 : Array (Option Value)} {oc9 kV9 dc9 pm9 ct9 : Value} {cd9 : Value}
    (a9 : PySem.W.nsIn K mainGlobals "need_make" = some (some (.ref f9)))
    (l9 : K.lookup f9 = some ⟨oc9, od9, .func (PySem.W.fnOf "need_make" "need_make" (defArgs (topS 22)) (defBody (topS 22)) (defScope (topS 22)) .none kV9 dc9 pm9 an9 cd9 ct9), sl9⟩)
    (c9 : PySem.W.codeIn K cd9 "need_make" = true)
    {od10 an10 : Option Addr} {sl10 : Array (Option Value)} {oc10 kV10 dc10 pm10 ct10 : Value} {cd10 : Value}
    (a10 : PySem.W.nsIn K mainGlobals "need_key" = some (some (.ref f10)))
    (l10 : K.lookup f10 = some ⟨oc10, od10, .func (PySem.W.fnOf "need_key" "need_key" (defArgs (topS 23)) (defBody (topS 23)) (defScope (topS 23)) .none kV10 dc10 pm10 an10 cd10 ct10), sl10⟩)
    (c10 : PySem.W.codeIn K cd10 "need_key" = true)
    {od11 an11 : Option Addr} {sl11 : Array (Option Value)} {oc11 kV11 dc11 pm11 ct11 : Value} {cd11 : Value}
    (a11 : PySem.W.nsIn K mainGlobals "need_lock" = some (some (.ref f11)))
    (l11 : K.lookup f11 = some ⟨oc11, od11, .func (PySem.W.fnOf "need_lock" "need_lock" (defArgs (topS 24)) (defBody (topS 24)) (defScope (topS 24)) .none kV11 dc11 pm11 an11 cd11 ct11), sl11⟩)
    (c11 : PySem.W.codeIn K cd11 "need_lock" = true)
    {od12 an12 : Option Addr} {sl12 : Array (Option Value)} {oc12 kV12 dc12 pm12 ct12 : Value} {cd12 : Value}
    (a12 : PySem.W.nsIn K mainGlobals "fits_wear" = some (some (.ref f12)))
    (l12 : K.lookup f12 = some ⟨oc12, od12, .func (PySem.W.fnOf "fits_wear" "fits_wear" (defArgs (topS 29)) (defBody (topS 29)) (defScope (topS 29)) .none kV12 dc12 pm12 an12 cd12 ct12), sl12⟩)
    (c12 : PySem.W.codeIn K cd12 "fits_wear" = true)
    {od13 an13 : Option Addr} {sl13 : Array (Option Value)} {oc13 kV13 dc13 pm13 ct13 : Value} {cd13 : Value}
    (a13 : PySem.W.nsIn K mainGlobals "fits_seen" = some (some (.ref f13)))
    (l13 : K.lookup f13 = some ⟨oc13, od13, .func (PySem.W.fnOf "fits_seen" "fits_seen" (defArgs (topS 30)) (defBody (topS 30)) (defScope (topS 30)) .none kV13 dc13 pm13 an13 cd13 ct13), sl13⟩)
    (c13 : PySem.W.codeIn K cd13 "fits_seen" = true)
    {od14 an14 : Option Addr} {sl14 : Array (Option Value)} {oc14 kV14 dc14 pm14 ct14 : Value} {cd14 : Value}
    (a14 : PySem.W.nsIn K mainGlobals "need_worn" = some (some (.ref f14)))
    (l14 : K.lookup f14 = some ⟨oc14, od14, .func (PySem.W.fnOf "need_worn" "need_worn" (defArgs (topS 31)) (defBody (topS 31)) (defScope (topS 31)) .none kV14 dc14 pm14 an14 cd14 ct14), sl14⟩)
    (c14 : PySem.W.codeIn K cd14 "need_worn" = true)
    {od15 an15 : Option Addr} {sl15 : Array (Option Value)} {oc15 kV15 dc15 pm15 ct15 : Value} {cd15 : Value}
    (a15 : PySem.W.nsIn K mainGlobals "need_year" = some (some (.ref f15)))
    (l15 : K.lookup f15 = some ⟨oc15, od15, .func (PySem.W.fnOf "need_year" "need_year" (defArgs (topS 32)) (defBody (topS 32)) (defScope (topS 32)) .none kV15 dc15 pm15 an15 cd15 ct15), sl15⟩)
    (c15 : PySem.W.codeIn K cd15 "need_year" = true)
    {od16 an16 : Option Addr} {sl16 : Array (Option Value)} {oc16 kV16 dc16 pm16 ct16 : Value} {cd16 : Value}
    (a16 : PySem.W.nsIn K mainGlobals "need_seen" = some (some (.ref f16)))
    (l16 : K.lookup f16 = some ⟨oc16, od16, .func (PySem.W.fnOf "need_seen" "need_seen" (defArgs (topS 33)) (defBody (topS 33)) (defScope (topS 33)) .none kV16 dc16 pm16 an16 cd16 ct16), sl16⟩)
    (c16 : PySem.W.codeIn K cd16 "need_seen" = true)
    {od17 an17 : Option Addr} {sl17 : Array (Option Value)} {oc17 kV17 dc17 pm17 ct17 : Value} {cd17 : Value}
    (a17 : PySem.W.nsIn K mainGlobals "sure_cuts" = some (some (.ref f17)))
    (l17 : K.lookup f17 = some ⟨oc17, od17, .func (PySem.W.fnOf "sure_cuts" "sure_cuts" (defArgs (topS 34)) (defBody (topS 34)) (defScope (topS 34)) .none kV17 dc17 pm17 an17 cd17 ct17), sl17⟩)
    (c17 : PySem.W.codeIn K cd17 "sure_cuts" = true)
    {od18 an18 : Option Addr} {sl18 : Array (Option Value)} {oc18 kV18 dc18 pm18 ct18 : Value} {cd18 : Value}
    (a18 : PySem.W.nsIn K mainGlobals "sure_rows" = some (some (.ref f18)))
    (l18 : K.lookup f18 = some ⟨oc18, od18, .func (PySem.W.fnOf "sure_rows" "sure_rows" (defArgs (topS 35)) (defBody (topS 35)) (defScope (topS 35)) .none kV18 dc18 pm18 an18 cd18 ct18), sl18⟩)
    (c18 : PySem.W.codeIn K cd18 "sure_rows" = true)
    {od19 an19 : Option Addr} {sl19 : Array (Option Value)} {oc19 kV19 dc19 pm19 ct19 : Value} {cd19 : Value}
    (a19 : PySem.W.nsIn K mainGlobals "both_rows" = some (some (.ref f19)))
    (l19 : K.lookup f19 = some ⟨oc19, od19, .func (PySem.W.fnOf "both_rows" "both_rows" (defArgs (topS 36)) (defBody (topS 36)) (defScope (topS 36)) .none kV19 dc19 pm19 an19 cd19 ct19), sl19⟩)
    (c19 : PySem.W.codeIn K cd19 "both_rows" = true)
    {od20 an20 : Option Addr} {sl20 : Array (Option Value)} {oc20 kV20 dc20 pm20 ct20 : Value} {cd20 : Value}
    (a20 : PySem.W.nsIn K mainGlobals "first_key" = some (some (.ref f20)))
    (l20 : K.lookup f20 = some ⟨oc20, od20, .func (PySem.W.fnOf "first_key" "first_key" (defArgs (topS 37)) (defBody (topS 37)) (defScope (topS 37)) .none kV20 dc20 pm20 an20 cd20 ct20), sl20⟩)
    (c20 : PySem.W.codeIn K cd20 "first_key" = true)
    {od21 an21 : Option Addr} {sl21 : Array (Option Value)} {oc21 kV21 dc21 pm21 ct21 : Value} {cd21 : Value}
    (a21 : PySem.W.nsIn K mainGlobals "does_fit" = some (some (.ref f21)))
    (l21 : K.lookup f21 = some ⟨oc21, od21, .func (PySem.W.fnOf "does_fit" "does_fit" (defArgs (topS 38)) (defBody (topS 38)) (defScope (topS 38)) .none kV21 dc21 pm21 an21 cd21 ct21), sl21⟩)
    (c21 : PySem.W.codeIn K cd21 "does_fit" = true)
    {od22 an22 : Option Addr} {sl22 : Array (Option Value)} {oc22 kV22 dc22 pm22 ct22 : Value} {cd22 : Value}
    (a22 : PySem.W.nsIn K mainGlobals "last_from" = some (some (.ref f22)))
    (l22 : K.lookup f22 = some ⟨oc22, od22, .func (PySem.W.fnOf "last_from" "last_from" (defArgs (topS 39)) (defBody (topS 39)) (defScope (topS 39)) .none kV22 dc22 pm22 an22 cd22 ct22), sl22⟩)
    (c22 : PySem.W.codeIn K cd22 "last_from" = true)
    {od23 an23 : Option Addr} {sl23 : Array (Option Value)} {oc23 kV23 dc23 pm23 ct23 : Value} {cd23 : Value}
    (a23 : PySem.W.nsIn K mainGlobals "steps_on" = some (some (.ref f23)))
    (l23 : K.lookup f23 = some ⟨oc23, od23, .func (PySem.W.fnOf "steps_on" "steps_on" (defArgs (topS 40)) (defBody (topS 40)) (defScope (topS 40)) .none kV23 dc23 pm23 an23 cd23 ct23), sl23⟩)
    (c23 : PySem.W.codeIn K cd23 "steps_on" = true)
    {od24 an24 : Option Addr} {sl24 : Array (Option Value)} {oc24 kV24 dc24 pm24 ct24 : Value} {cd24 : Value}
    (a24 : PySem.W.nsIn K mainGlobals "steps_back" = some (some (.ref f24)))
    (l24 : K.lookup f24 = some ⟨oc24, od24, .func (PySem.W.fnOf "steps_back" "steps_back" (defArgs (topS 41)) (defBody (topS 41)) (defScope (topS 41)) .none kV24 dc24 pm24 an24 cd24 ct24), sl24⟩)
    (c24 : PySem.W.codeIn K cd24 "steps_back" = true)
    {od25 an25 : Option Addr} {sl25 : Array (Option Value)} {oc25 kV25 dc25 pm25 ct25 : Value} {cd25 : Value}
    (a25 : PySem.W.nsIn K mainGlobals "place_rows" = some (some (.ref f25)))
    (l25 : K.lookup f25 = some ⟨oc25, od25, .func (PySem.W.fnOf "place_rows" "place_rows" (defArgs (topS 42)) (defBody (topS 42)) (defScope (topS 42)) .none kV25 dc25 pm25 an25 cd25 ct25), sl25⟩)
    (c25 : PySem.W.codeIn K cd25 "place_rows" = true)
    {od26 an26 : Option Addr} {sl26 : Array (Option Value)} {oc26 kV26 dc26 pm26 ct26 : Value} {cd26 : Value}
    (a26 : PySem.W.nsIn K mainGlobals "shift_rows" = some (some (.ref f26)))
    (l26 : K.lookup f26 = some ⟨oc26, od26, .func (PySem.W.fnOf "shift_rows" "shift_rows" (defArgs (topS 43)) (defBody (topS 43)) (defScope (topS 43)) .none kV26 dc26 pm26 an26 cd26 ct26), sl26⟩)
    (c26 : PySem.W.codeIn K cd26 "shift_rows" = true)
    {od27 an27 : Option Addr} {sl27 : Array (Option Value)} {oc27 kV27 dc27 pm27 ct27 : Value} {cd27 : Value}
    (a27 : PySem.W.nsIn K mainGlobals "last_year" = some (some (.ref f27)))
    (l27 : K.lookup f27 = some ⟨oc27, od27, .func (PySem.W.fnOf "last_year" "last_year" (defArgs (topS 44)) (defBody (topS 44)) (defScope (topS 44)) .none kV27 dc27 pm27 an27 cd27 ct27), sl27⟩)
    (c27 : PySem.W.codeIn K cd27 "last_year" = true)
    {od28 an28 : Option Addr} {sl28 : Array (Option Value)} {oc28 kV28 dc28 pm28 ct28 : Value} {cd28 : Value}
    (a28 : PySem.W.nsIn K mainGlobals "is_wear" = some (some (.ref f28)))
    (l28 : K.lookup f28 = some ⟨oc28, od28, .func (PySem.W.fnOf "is_wear" "is_wear" (defArgs (topS 45)) (defBody (topS 45)) (defScope (topS 45)) .none kV28 dc28 pm28 an28 cd28 ct28), sl28⟩)
    (c28 : PySem.W.codeIn K cd28 "is_wear" = true)
    {od29 an29 : Option Addr} {sl29 : Array (Option Value)} {oc29 kV29 dc29 pm29 ct29 : Value} {cd29 : Value}
    (a29 : PySem.W.nsIn K mainGlobals "worn_word" = some (some (.ref f29)))
    (l29 : K.lookup f29 = some ⟨oc29, od29, .func (PySem.W.fnOf "worn_word" "worn_word" (defArgs (topS 46)) (defBody (topS 46)) (defScope (topS 46)) .none kV29 dc29 pm29 an29 cd29 ct29), sl29⟩)
    (c29 : PySem.W.codeIn K cd29 "worn_word" = true)
    {od30 an30 : Option Addr} {sl30 : Array (Option Value)} {oc30 kV30 dc30 pm30 ct30 : Value} {cd30 : Value}
    (a30 : PySem.W.nsIn K mainGlobals "word_by" = some (some (.ref f30)))
    (l30 : K.lookup f30 = some ⟨oc30, od30, .func (PySem.W.fnOf "word_by" "word_by" (defArgs (topS 47)) (defBody (topS 47)) (defScope (topS 47)) .none kV30 dc30 pm30 an30 cd30 ct30), sl30⟩)
    (c30 : PySem.W.codeIn K cd30 "word_by" = true)
    {od31 an31 : Option Addr} {sl31 : Array (Option Value)} {oc31 kV31 dc31 pm31 ct31 : Value} {cd31 : Value}
    (a31 : PySem.W.nsIn K mainGlobals "sure_years" = some (some (.ref f31)))
    (l31 : K.lookup f31 = some ⟨oc31, od31, .func (PySem.W.fnOf "sure_years" "sure_years" (defArgs (topS 48)) (defBody (topS 48)) (defScope (topS 48)) .none kV31 dc31 pm31 an31 cd31 ct31), sl31⟩)
    (c31 : PySem.W.codeIn K cd31 "sure_years" = true)
    {od32 an32 : Option Addr} {sl32 : Array (Option Value)} {oc32 kV32 dc32 pm32 ct32 : Value} {cd32 : Value}
    (a32 : PySem.W.nsIn K mainGlobals "longest_key" = some (some (.ref f32)))
    (l32 : K.lookup f32 = some ⟨oc32, od32, .func (PySem.W.fnOf "longest_key" "longest_key" (defArgs (topS 49)) (defBody (topS 49)) (defScope (topS 49)) .none kV32 dc32 pm32 an32 cd32 ct32), sl32⟩)
    (c32 : PySem.W.codeIn K cd32 "longest_key" = true)
    {od33 an33 : Option Addr} {sl33 : Array (Option Value)} {oc33 kV33 dc33 pm33 ct33 : Value} {cd33 : Value}
    (a33 : PySem.W.nsIn K mainGlobals "key_row" = some (some (.ref f33)))
    (l33 : K.lookup f33 = some ⟨oc33, od33, .func (PySem.W.fnOf "key_row" "key_row" (defArgs (topS 50)) (defBody (topS 50)) (defScope (topS 50)) .none kV33 dc33 pm33 an33 cd33 ct33), sl33⟩)
    (c33 : PySem.W.codeIn K cd33 "key_row" = true)
    {od34 an34 : Option Addr} {sl34 : Array (Option Value)} {oc34 kV34 dc34 pm34 ct34 : Value} {cd34 : Value}
    (a34 : PySem.W.nsIn K mainGlobals "is_key_row" = some (some (.ref f34)))
    (l34 : K.lookup f34 = some ⟨oc34, od34, .func (PySem.W.fnOf "is_key_row" "is_key_row" (defArgs (topS 51)) (defBody (topS 51)) (defScope (topS 51)) .none kV34 dc34 pm34 an34 cd34 ct34), sl34⟩)
    (c34 : PySem.W.codeIn K cd34 "is_key_row" = true)
    {od35 an35 : Option Addr} {sl35 : Array (Option Value)} {oc35 kV35 dc35 pm35 ct35 : Value} {cd35 : Value}
    (a35 : PySem.W.nsIn K mainGlobals "possible_shifts" = some (some (.ref f35)))
    (l35 : K.lookup f35 = some ⟨oc35, od35, .func (PySem.W.fnOf "possible_shifts" "possible_shifts" (defArgs (topS 52)) (defBody (topS 52)) (defScope (topS 52)) .none kV35 dc35 pm35 an35 cd35 ct35), sl35⟩)
    (c35 : PySem.W.codeIn K cd35 "possible_shifts" = true)
    {od36 an36 : Option Addr} {sl36 : Array (Option Value)} {oc36 kV36 dc36 pm36 ct36 : Value} {cd36 : Value}
    (a36 : PySem.W.nsIn K mainGlobals "barred_place" = some (some (.ref f36)))
    (l36 : K.lookup f36 = some ⟨oc36, od36, .func (PySem.W.fnOf "barred_place" "barred_place" (defArgs (topS 53)) (defBody (topS 53)) (defScope (topS 53)) .none kV36 dc36 pm36 an36 cd36 ct36), sl36⟩)
    (c36 : PySem.W.codeIn K cd36 "barred_place" = true)
    {od37 an37 : Option Addr} {sl37 : Array (Option Value)} {oc37 kV37 dc37 pm37 ct37 : Value} {cd37 : Value}
    (a37 : PySem.W.nsIn K mainGlobals "seen_word" = some (some (.ref f37)))
    (l37 : K.lookup f37 = some ⟨oc37, od37, .func (PySem.W.fnOf "seen_word" "seen_word" (defArgs (topS 54)) (defBody (topS 54)) (defScope (topS 54)) .none kV37 dc37 pm37 an37 cd37 ct37), sl37⟩)
    (c37 : PySem.W.codeIn K cd37 "seen_word" = true)
    {od38 an38 : Option Addr} {sl38 : Array (Option Value)} {oc38 kV38 dc38 pm38 ct38 : Value} {cd38 : Value}
    (a38 : PySem.W.nsIn K mainGlobals "some_drift" = some (some (.ref f38)))
    (l38 : K.lookup f38 = some ⟨oc38, od38, .func (PySem.W.fnOf "some_drift" "some_drift" (defArgs (topS 55)) (defBody (topS 55)) (defScope (topS 55)) .none kV38 dc38 pm38 an38 cd38 ct38), sl38⟩)
    (c38 : PySem.W.codeIn K cd38 "some_drift" = true)
    {od39 an39 : Option Addr} {sl39 : Array (Option Value)} {oc39 kV39 dc39 pm39 ct39 : Value} {cd39 : Value}
    (a39 : PySem.W.nsIn K mainGlobals "is_drift" = some (some (.ref f39)))
    (l39 : K.lookup f39 = some ⟨oc39, od39, .func (PySem.W.fnOf "is_drift" "is_drift" (defArgs (topS 56)) (defBody (topS 56)) (defScope (topS 56)) .none kV39 dc39 pm39 an39 cd39 ct39), sl39⟩)
    (c39 : PySem.W.codeIn K cd39 "is_drift" = true)
    {od40 an40 : Option Addr} {sl40 : Array (Option Value)} {oc40 kV40 dc40 pm40 ct40 : Value} {cd40 : Value}
    (a40 : PySem.W.nsIn K mainGlobals "_law_cup" = some (some (.ref f40)))
    (l40 : K.lookup f40 = some ⟨oc40, od40, .func (PySem.W.fnOf "_law_cup" "_law_cup" (defArgs (topS 58)) (defBody (topS 58)) (defScope (topS 58)) .none kV40 dc40 pm40 an40 cd40 ct40), sl40⟩)
    (c40 : PySem.W.codeIn K cd40 "_law_cup" = true)
    {od41 an41 : Option Addr} {sl41 : Array (Option Value)} {oc41 kV41 dc41 pm41 ct41 : Value} {cd41 : Value}
    (a41 : PySem.W.nsIn K mainGlobals "_law_roll" = some (some (.ref f41)))
    (l41 : K.lookup f41 = some ⟨oc41, od41, .func (PySem.W.fnOf "_law_roll" "_law_roll" (defArgs (topS 59)) (defBody (topS 59)) (defScope (topS 59)) .none kV41 dc41 pm41 an41 cd41 ct41), sl41⟩)
    (c41 : PySem.W.codeIn K cd41 "_law_roll" = true)
    {od42 an42 : Option Addr} {sl42 : Array (Option Value)} {oc42 kV42 dc42 pm42 ct42 : Value} {cc42 P42 : Addr} {cod42 : Option Addr} {cvs42 : Array Value} {csl42 : Array (Option Value)}
    (a42 : PySem.W.nsIn K mainGlobals "_law_words" = some (some (.ref f42)))
    (l42 : K.lookup f42 = some ⟨oc42, od42, .func (PySem.W.fnOf "_law_words" "_law_words" (defArgs (topS 62)) (defBody (topS 62)) (defScope (topS 62)) .none kV42 dc42 pm42 an42 (.ref cc42) ct42), sl42⟩)
    (c42 : PySem.W.codeIn K (.ref cc42) "_law_words" = true)
    (cv42 : K.lookup cc42 = some ⟨.type "code", cod42, .fields cvs42, csl42⟩)
    (cp42 : (cvs42[11]? : Option Value) = some (.ref P42))
    (cb42 : cdB cvs42 cc42 P42 = true)
    (ct_42 : h.get? P42 = some { cls := .none, data := .fields #[] })
    {od43 an43 : Option Addr} {sl43 : Array (Option Value)} {oc43 kV43 dc43 pm43 ct43 : Value} {cc43 P43 : Addr} {cod43 : Option Addr} {cvs43 : Array Value} {csl43 : Array (Option Value)}
    (a43 : PySem.W.nsIn K mainGlobals "law" = some (some (.ref f43)))
    (l43 : K.lookup f43 = some ⟨oc43, od43, .func (PySem.W.fnOf "law" "law" (defArgs (topS 63)) (defBody (topS 63)) (defScope (topS 63)) .none kV43 dc43 pm43 an43 (.ref cc43) ct43), sl43⟩)
    (c43 : PySem.W.codeIn K (.ref cc43) "law" = true)
    (cv43 : K.lookup cc43 = some ⟨.type "code", cod43, .fields cvs43, csl43⟩)
    (cp43 : (cvs43[11]? : Option Value) = some (.ref P43))
    (cb43 : cdB cvs43 cc43 P43 = true)
    (ct_43 : h.get? P43 = some { cls := .none, data := .fields #[] })
    {od44 an44 : Option Addr} {sl44 : Array (Option Value)} {oc44 kV44 dc44 pm44 ct44 : Value} {cd44 : Value}
    (a44 : PySem.W.nsIn K mainGlobals "_law_word" = some (some (.ref f44)))
    (l44 : K.lookup f44 = some ⟨oc44, od44, .func (PySem.W.fnOf "_law_word" "_law_word" (defArgs (topS 61)) (defBody (topS 61)) (defScope (topS 61)) .none kV44 dc44 pm44 an44 cd44 ct44), sl44⟩)
    (c44 : PySem.W.codeIn K cd44 "_law_word" = true)
    (pnd : [P42, P43].Nodup)
    (z0 : PySem.W.nsIn K mainGlobals "len" = some none)
    (z1 : PySem.W.nsIn K mainGlobals "abs" = some none)
    (z2 : PySem.W.nsIn K mainGlobals "int" = some none)
    (z3 : PySem.W.nsIn K mainGlobals "str" = some none)
    (z4 : PySem.W.nsIn K mainGlobals "bool" = some none)
    (z5 : PySem.W.nsIn K mainGlobals "tuple" = some none)
    (z6 : PySem.W.nsIn K mainGlobals "list" = some none)
    (z7 : PySem.W.nsIn K mainGlobals "sorted" = some none)
    (z8 : PySem.W.nsIn K mainGlobals "sum" = some none)
    (z9 : PySem.W.nsIn K mainGlobals "all" = some none)
    (z10 : PySem.W.nsIn K mainGlobals "any" = some none)
    (z11 : PySem.W.nsIn K mainGlobals "max" = some none)
    (z12 : PySem.W.nsIn K mainGlobals "min" = some none)
    (z13 : PySem.W.nsIn K mainGlobals "dict" = some none)
    (z14 : PySem.W.nsIn K mainGlobals "isinstance" = some none)
    (z15 : PySem.W.nsIn K mainGlobals "range" = some none)
    (z16 : PySem.W.nsIn K mainGlobals "zip" = some none)
    (z17 : PySem.W.nsIn K mainGlobals "enumerate" = some none)
    (z18 : PySem.W.nsIn K mainGlobals "set" = some none)
    (zv : PySem.W.nsIn K mainGlobals "ValueError" = some none)
    {t0 : Tok}
    (qg0 : PySem.W.nsIn K mainGlobals "DRIFT" = some (some (.int 3 t0)))
    {t1 : Tok}
    (qg1 : PySem.W.nsIn K mainGlobals "HEIGHTS" = some (some (.int 10 t1)))
    {t2 : Tok}
    (qg2 : PySem.W.nsIn K mainGlobals "PLACES" = some (some (.int 8 t2)))
    {t3 : Tok}
    (qg3 : PySem.W.nsIn K mainGlobals "SEEN" = some (some (.int 20 t3)))
    {t4 : Tok}
    (qg4 : PySem.W.nsIn K mainGlobals "STEP" = some (some (.int 9 t4)))
    {t5 : Tok}
    (qg5 : PySem.W.nsIn K mainGlobals "YEARS" = some (some (.int 30 t5)))
    {xc0 : Addr}
    (xg0 : PySem.W.nsIn K mainGlobals "InvalidMake" = some (some (.ref xc0)))
    (y1_0 : PySem.W.findIn K (.ref xc0) "__getattribute__" = some (some (.builtin "BaseException.__getattribute__")))
    (y2_0 : PySem.W.findIn K (.ref xc0) "__getattr__" = some none)
    (y3_0 : PySem.W.findIn K (.ref xc0) "__class__" = some (some (.builtin "object.__class__")))
    (y4_0 : PySem.W.hasDictIn K xc0 = true)
    (y5_0 : PySem.W.typeIn K (.ref xc0) = some (.type "type"))
    (y6_0 : PySem.W.subIn K (.ref xc0) (.type "BaseException") = some true)
    (y7_0 : PySem.W.subIn K (.ref xc0) (.type "ValueError") = some true)
    (y8_0 : PySem.W.mroIn K xc0 (.type "object") = some true)
    (y9_0 : PySem.W.subIn K (.ref xc0) (.ref xc0) = some true)
    (xx0 : PySem.W.excIn K xc0 [.type "ValueError", .type "Exception", .type "BaseException", .type "object"] "ValueError.__new__" = true)
    (xk0 : PySem.W.keepIn K (.ref xc0) = true)
    {xc1 : Addr}
    (xg1 : PySem.W.nsIn K mainGlobals "InvalidKey" = some (some (.ref xc1)))
    (y1_1 : PySem.W.findIn K (.ref xc1) "__getattribute__" = some (some (.builtin "BaseException.__getattribute__")))
    (y2_1 : PySem.W.findIn K (.ref xc1) "__getattr__" = some none)
    (y3_1 : PySem.W.findIn K (.ref xc1) "__class__" = some (some (.builtin "object.__class__")))
    (y4_1 : PySem.W.hasDictIn K xc1 = true)
    (y5_1 : PySem.W.typeIn K (.ref xc1) = some (.type "type"))
    (y6_1 : PySem.W.subIn K (.ref xc1) (.type "BaseException") = some true)
    (y7_1 : PySem.W.subIn K (.ref xc1) (.type "ValueError") = some true)
    (y8_1 : PySem.W.mroIn K xc1 (.type "object") = some true)
    (y9_1 : PySem.W.subIn K (.ref xc1) (.ref xc1) = some true)
    (xx1 : PySem.W.excIn K xc1 [.type "ValueError", .type "Exception", .type "BaseException", .type "object"] "ValueError.__new__" = true)
    (xk1 : PySem.W.keepIn K (.ref xc1) = true)
    {xc2 : Addr}
    (xg2 : PySem.W.nsIn K mainGlobals "InvalidLock" = some (some (.ref xc2)))
    (y1_2 : PySem.W.findIn K (.ref xc2) "__getattribute__" = some (some (.builtin "BaseException.__getattribute__")))
    (y2_2 : PySem.W.findIn K (.ref xc2) "__getattr__" = some none)
    (y3_2 : PySem.W.findIn K (.ref xc2) "__class__" = some (some (.builtin "object.__class__")))
    (y4_2 : PySem.W.hasDictIn K xc2 = true)
    (y5_2 : PySem.W.typeIn K (.ref xc2) = some (.type "type"))
    (y6_2 : PySem.W.subIn K (.ref xc2) (.type "BaseException") = some true)
    (y7_2 : PySem.W.subIn K (.ref xc2) (.type "ValueError") = some true)
    (y8_2 : PySem.W.mroIn K xc2 (.type "object") = some true)
    (y9_2 : PySem.W.subIn K (.ref xc2) (.ref xc2) = some true)
    (xx2 : PySem.W.excIn K xc2 [.type "ValueError", .type "Exception", .type "BaseException", .type "object"] "ValueError.__new__" = true)
    (xk2 : PySem.W.keepIn K (.ref xc2) = true)
    {xc3 : Addr}
    (xg3 : PySem.W.nsIn K mainGlobals "InvalidNumber" = some (some (.ref xc3)))
    (y1_3 : PySem.W.findIn K (.ref xc3) "__getattribute__" = some (some (.builtin "BaseException.__getattribute__")))
    (y2_3 : PySem.W.findIn K (.ref xc3) "__getattr__" = some none)
    (y3_3 : PySem.W.findIn K (.ref xc3) "__class__" = some (some (.builtin "object.__class__")))
    (y4_3 : PySem.W.hasDictIn K xc3 = true)
    (y5_3 : PySem.W.typeIn K (.ref xc3) = some (.type "type"))
    (y6_3 : PySem.W.subIn K (.ref xc3) (.type "BaseException") = some true)
    (y7_3 : PySem.W.subIn K (.ref xc3) (.type "ValueError") = some true)
    (y8_3 : PySem.W.mroIn K xc3 (.type "object") = some true)
    (y9_3 : PySem.W.subIn K (.ref xc3) (.ref xc3) = some true)
    (xx3 : PySem.W.excIn K xc3 [.type "ValueError", .type "Exception", .type "BaseException", .type "object"] "ValueError.__new__" = true)
    (xk3 : PySem.W.keepIn K (.ref xc3) = true)
    {xc4 : Addr}
    (xg4 : PySem.W.nsIn K mainGlobals "InvalidTries" = some (some (.ref xc4)))
    (y1_4 : PySem.W.findIn K (.ref xc4) "__getattribute__" = some (some (.builtin "BaseException.__getattribute__")))
    (y2_4 : PySem.W.findIn K (.ref xc4) "__getattr__" = some none)
    (y3_4 : PySem.W.findIn K (.ref xc4) "__class__" = some (some (.builtin "object.__class__")))
    (y4_4 : PySem.W.hasDictIn K xc4 = true)
    (y5_4 : PySem.W.typeIn K (.ref xc4) = some (.type "type"))
    (y6_4 : PySem.W.subIn K (.ref xc4) (.type "BaseException") = some true)
    (y7_4 : PySem.W.subIn K (.ref xc4) (.type "ValueError") = some true)
    (y8_4 : PySem.W.mroIn K xc4 (.type "object") = some true)
    (y9_4 : PySem.W.subIn K (.ref xc4) (.ref xc4) = some true)
    (xx4 : PySem.W.excIn K xc4 [.type "ValueError", .type "Exception", .type "BaseException", .type "object"] "ValueError.__new__" = true)
    (xk4 : PySem.W.keepIn K (.ref xc4) = true)
    {xc5 : Addr}
    (xg5 : PySem.W.nsIn K mainGlobals "InvalidRooms" = some (some (.ref xc5)))
    (y1_5 : PySem.W.findIn K (.ref xc5) "__getattribute__" = some (some (.builtin "BaseException.__getattribute__")))
    (y2_5 : PySem.W.findIn K (.ref xc5) "__getattr__" = some none)
    (y3_5 : PySem.W.findIn K (.ref xc5) "__class__" = some (some (.builtin "object.__class__")))
    (y4_5 : PySem.W.hasDictIn K xc5 = true)
    (y5_5 : PySem.W.typeIn K (.ref xc5) = some (.type "type"))
    (y6_5 : PySem.W.subIn K (.ref xc5) (.type "BaseException") = some true)
    (y7_5 : PySem.W.subIn K (.ref xc5) (.type "ValueError") = some true)
    (y8_5 : PySem.W.mroIn K xc5 (.type "object") = some true)
    (y9_5 : PySem.W.subIn K (.ref xc5) (.ref xc5) = some true)
    {xc6 : Addr}
    (xg6 : PySem.W.nsIn K mainGlobals "InvalidName" = some (some (.ref xc6)))
    (y1_6 : PySem.W.findIn K (.ref xc6) "__getattribute__" = some (some (.builtin "BaseException.__getattribute__")))
    (y2_6 : PySem.W.findIn K (.ref xc6) "__getattr__" = some none)
    (y3_6 : PySem.W.findIn K (.ref xc6) "__class__" = some (some (.builtin "object.__class__")))
    (y4_6 : PySem.W.hasDictIn K xc6 = true)
    (y5_6 : PySem.W.typeIn K (.ref xc6) = some (.type "type"))
    (y6_6 : PySem.W.subIn K (.ref xc6) (.type "BaseException") = some true)
    (y7_6 : PySem.W.subIn K (.ref xc6) (.type "ValueError") = some true)
    (y8_6 : PySem.W.mroIn K xc6 (.type "object") = some true)
    (y9_6 : PySem.W.subIn K (.ref xc6) (.ref xc6) = some true)
    {xc7 : Addr}
    (xg7 : PySem.W.nsIn K mainGlobals "PinsError" = some (some (.ref xc7)))
    (y1_7 : PySem.W.findIn K (.ref xc7) "__getattribute__" = some (some (.builtin "BaseException.__getattribute__")))
    (y2_7 : PySem.W.findIn K (.ref xc7) "__getattr__" = some none)
    (y3_7 : PySem.W.findIn K (.ref xc7) "__class__" = some (some (.builtin "object.__class__")))
    (y4_7 : PySem.W.hasDictIn K xc7 = true)
    (y5_7 : PySem.W.typeIn K (.ref xc7) = some (.type "type"))
    (y6_7 : PySem.W.subIn K (.ref xc7) (.type "BaseException") = some true)
    (y7_7 : PySem.W.subIn K (.ref xc7) (.type "ValueError") = some true)
    (y8_7 : PySem.W.mroIn K xc7 (.type "object") = some true)
    (y9_7 : PySem.W.subIn K (.ref xc7) (.ref xc7) = some true)
    (s0_4 : PySem.W.subIn K (.ref xc0) (.ref xc4) = some false)
    (s0_2 : PySem.W.subIn K (.ref xc0) (.ref xc2) = some false)
    (s0_1 : PySem.W.subIn K (.ref xc0) (.ref xc1) = some false)
    (s0_0 : PySem.W.subIn K (.ref xc0) (.ref xc0) = some true)
    (s0_5 : PySem.W.subIn K (.ref xc0) (.ref xc5) = some false)
    (s0_6 : PySem.W.subIn K (.ref xc0) (.ref xc6) = some false)
    (s0_3 : PySem.W.subIn K (.ref xc0) (.ref xc3) = some false)
    (s0_7 : PySem.W.subIn K (.ref xc0) (.ref xc7) = some true)
    (s1_4 : PySem.W.subIn K (.ref xc1) (.ref xc4) = some false)
    (s1_2 : PySem.W.subIn K (.ref xc1) (.ref xc2) = some false)
    (s1_1 : PySem.W.subIn K (.ref xc1) (.ref xc1) = some true)
    (s1_0 : PySem.W.subIn K (.ref xc1) (.ref xc0) = some false)
    (s1_5 : PySem.W.subIn K (.ref xc1) (.ref xc5) = some false)
    (s1_6 : PySem.W.subIn K (.ref xc1) (.ref xc6) = some false)
    (s1_3 : PySem.W.subIn K (.ref xc1) (.ref xc3) = some false)
    (s1_7 : PySem.W.subIn K (.ref xc1) (.ref xc7) = some true)
    (s2_4 : PySem.W.subIn K (.ref xc2) (.ref xc4) = some false)
    (s2_2 : PySem.W.subIn K (.ref xc2) (.ref xc2) = some true)
    (s2_1 : PySem.W.subIn K (.ref xc2) (.ref xc1) = some false)
    (s2_0 : PySem.W.subIn K (.ref xc2) (.ref xc0) = some false)
    (s2_5 : PySem.W.subIn K (.ref xc2) (.ref xc5) = some false)
    (s2_6 : PySem.W.subIn K (.ref xc2) (.ref xc6) = some false)
    (s2_3 : PySem.W.subIn K (.ref xc2) (.ref xc3) = some false)
    (s2_7 : PySem.W.subIn K (.ref xc2) (.ref xc7) = some true)
    (s3_4 : PySem.W.subIn K (.ref xc3) (.ref xc4) = some false)
    (s3_2 : PySem.W.subIn K (.ref xc3) (.ref xc2) = some false)
    (s3_1 : PySem.W.subIn K (.ref xc3) (.ref xc1) = some false)
    (s3_0 : PySem.W.subIn K (.ref xc3) (.ref xc0) = some false)
    (s3_5 : PySem.W.subIn K (.ref xc3) (.ref xc5) = some false)
    (s3_6 : PySem.W.subIn K (.ref xc3) (.ref xc6) = some false)
    (s3_3 : PySem.W.subIn K (.ref xc3) (.ref xc3) = some true)
    (s3_7 : PySem.W.subIn K (.ref xc3) (.ref xc7) = some true)
    (s4_4 : PySem.W.subIn K (.ref xc4) (.ref xc4) = some true)
    (s4_2 : PySem.W.subIn K (.ref xc4) (.ref xc2) = some false)
    (s4_1 : PySem.W.subIn K (.ref xc4) (.ref xc1) = some false)
    (s4_0 : PySem.W.subIn K (.ref xc4) (.ref xc0) = some false)
    (s4_5 : PySem.W.subIn K (.ref xc4) (.ref xc5) = some false)
    (s4_6 : PySem.W.subIn K (.ref xc4) (.ref xc6) = some false)
    (s4_3 : PySem.W.subIn K (.ref xc4) (.ref xc3) = some false)
    (s4_7 : PySem.W.subIn K (.ref xc4) (.ref xc7) = some true) :
    ∃ K' : PySem.W.Frag, K'.In h ∧ LawAtQ PySem.Challenge.rw_strongroom_k51_errors_of_drifts w K' (2 * 20 + 1) mg fa h := by
  have e := hfa.symm.trans (PySem.W.mg_of X G a43)
  cases e
  obtain ⟨tt42, tn42⟩ := flt_tab X nd ct_42
  obtain ⟨tt43, tn43⟩ := flt_tab X nd ct_43
  letI : LamT := ⟨[(P42, ("_law_words" : Str) ++ ".<locals>." ++ "<lambda>"), (P43, ("law" : Str) ++ ".<locals>." ++ "<lambda>")]⟩
  have F0 : Fun (flt K) d_is_whole.x d_is_whole.x d_is_whole.st f0 _ := fun_mk (st := topS 13) (flt_look l0 (em_func _ _ _ _)) (flt_code c0) (flt_keep l0)
  have B0 : Binds (flt K) _ d_is_whole.ps [] := F0.binds (ps := [("value" : Str)]) fun _ _ _ _ _ _ us hl => match us, hl with | [_], _ => rfl
  have F1 : Fun (flt K) d_fits_whole.x d_fits_whole.x d_fits_whole.st f1 _ := fun_mk (st := topS 14) (flt_look l1 (em_func _ _ _ _)) (flt_code c1) (flt_keep l1)
  have B1 : Binds (flt K) _ d_fits_whole.ps [] := F1.binds (ps := [("value" : Str), ("low" : Str), ("high" : Str)]) fun _ _ _ _ _ _ us hl => match us, hl with | [_, _, _], _ => rfl
  have F2 : Fun (flt K) d_is_tuple_of.x d_is_tuple_of.x d_is_tuple_of.st f2 _ := fun_mk (st := topS 15) (flt_look l2 (em_func _ _ _ _)) (flt_code c2) (flt_keep l2)
  have B2 : Binds (flt K) _ d_is_tuple_of.ps [] := F2.binds (ps := [("value" : Str), ("least" : Str), ("most" : Str)]) fun _ _ _ _ _ _ us hl => match us, hl with | [_, _, _], _ => rfl
  have F3 : Fun (flt K) d_is_rising.x d_is_rising.x d_is_rising.st f3 _ := fun_mk (st := topS 16) (flt_look l3 (em_func _ _ _ _)) (flt_code c3) (flt_keep l3)
  have B3 : Binds (flt K) _ d_is_rising.ps [] := F3.binds (ps := [("values" : Str)]) fun _ _ _ _ _ _ us hl => match us, hl with | [_], _ => rfl
  have F4 : Fun (flt K) d_fits_make.x d_fits_make.x d_fits_make.st f4 _ := fun_mk (st := topS 17) (flt_look l4 (em_func _ _ _ _)) (flt_code c4) (flt_keep l4)
  have B4 : Binds (flt K) _ d_fits_make.ps [] := F4.binds (ps := [("value" : Str)]) fun _ _ _ _ _ _ us hl => match us, hl with | [_], _ => rfl
  have F5 : Fun (flt K) d_fits_cuts.x d_fits_cuts.x d_fits_cuts.st f5 _ := fun_mk (st := topS 18) (flt_look l5 (em_func _ _ _ _)) (flt_code c5) (flt_keep l5)
  have B5 : Binds (flt K) _ d_fits_cuts.ps [] := F5.binds (ps := [("make" : Str), ("value" : Str)]) fun _ _ _ _ _ _ us hl => match us, hl with | [_, _], _ => rfl
  have F6 : Fun (flt K) d_fits_key.x d_fits_key.x d_fits_key.st f6 _ := fun_mk (st := topS 19) (flt_look l6 (em_func _ _ _ _)) (flt_code c6) (flt_keep l6)
  have B6 : Binds (flt K) _ d_fits_key.ps [] := F6.binds (ps := [("make" : Str), ("value" : Str)]) fun _ _ _ _ _ _ us hl => match us, hl with | [_, _], _ => rfl
  have F7 : Fun (flt K) d_fits_set.x d_fits_set.x d_fits_set.st f7 _ := fun_mk (st := topS 20) (flt_look l7 (em_func _ _ _ _)) (flt_code c7) (flt_keep l7)
  have B7 : Binds (flt K) _ d_fits_set.ps [] := F7.binds (ps := [("make" : Str), ("value" : Str)]) fun _ _ _ _ _ _ us hl => match us, hl with | [_, _], _ => rfl
  have F8 : Fun (flt K) d_fits_lock.x d_fits_lock.x d_fits_lock.st f8 _ := fun_mk (st := topS 21) (flt_look l8 (em_func _ _ _ _)) (flt_code c8) (flt_keep l8)
  have B8 : Binds (flt K) _ d_fits_lock.ps [] := F8.binds (ps := [("make" : Str), ("value" : Str)]) fun _ _ _ _ _ _ us hl => match us, hl with | [_, _], _ => rfl
  have F9 : Fun (flt K) d_need_make.x d_need_make.x d_need_make.st f9 _ := fun_mk (st := topS 22) (flt_look l9 (em_func _ _ _ _)) (flt_code c9) (flt_keep l9)
  have B9 : Binds (flt K) _ d_need_make.ps [] := F9.binds (ps := [("value" : Str)]) fun _ _ _ _ _ _ us hl => match us, hl with | [_], _ => rfl
  have F10 : Fun (flt K) d_need_key.x d_need_key.x d_need_key.st f10 _ := fun_mk (st := topS 23) (flt_look l10 (em_func _ _ _ _)) (flt_code c10) (flt_keep l10)
  have B10 : Binds (flt K) _ d_need_key.ps [] := F10.binds (ps := [("make" : Str), ("value" : Str)]) fun _ _ _ _ _ _ us hl => match us, hl with | [_, _], _ => rfl
  have F11 : Fun (flt K) d_need_lock.x d_need_lock.x d_need_lock.st f11 _ := fun_mk (st := topS 24) (flt_look l11 (em_func _ _ _ _)) (flt_code c11) (flt_keep l11)
  have B11 : Binds (flt K) _ d_need_lock.ps [] := F11.binds (ps := [("make" : Str), ("value" : Str)]) fun _ _ _ _ _ _ us hl => match us, hl with | [_, _], _ => rfl
  have F12 : Fun (flt K) d_fits_wear.x d_fits_wear.x d_fits_wear.st f12 _ := fun_mk (st := topS 29) (flt_look l12 (em_func _ _ _ _)) (flt_code c12) (flt_keep l12)
  have B12 : Binds (flt K) _ d_fits_wear.ps [] := F12.binds (ps := [("make" : Str), ("value" : Str)]) fun _ _ _ _ _ _ us hl => match us, hl with | [_, _], _ => rfl
  have F13 : Fun (flt K) d_fits_seen.x d_fits_seen.x d_fits_seen.st f13 _ := fun_mk (st := topS 30) (flt_look l13 (em_func _ _ _ _)) (flt_code c13) (flt_keep l13)
  have B13 : Binds (flt K) _ d_fits_seen.ps [] := F13.binds (ps := [("make" : Str), ("value" : Str)]) fun _ _ _ _ _ _ us hl => match us, hl with | [_, _], _ => rfl
  have F14 : Fun (flt K) d_need_worn.x d_need_worn.x d_need_worn.st f14 _ := fun_mk (st := topS 31) (flt_look l14 (em_func _ _ _ _)) (flt_code c14) (flt_keep l14)
  have B14 : Binds (flt K) _ d_need_worn.ps [] := F14.binds (ps := [("make" : Str), ("lock" : Str), ("wear" : Str)]) fun _ _ _ _ _ _ us hl => match us, hl with | [_, _, _], _ => rfl
  have F15 : Fun (flt K) d_need_year.x d_need_year.x d_need_year.st f15 _ := fun_mk (st := topS 32) (flt_look l15 (em_func _ _ _ _)) (flt_code c15) (flt_keep l15)
  have B15 : Binds (flt K) _ d_need_year.ps [] := F15.binds (ps := [("value" : Str)]) fun _ _ _ _ _ _ us hl => match us, hl with | [_], _ => rfl
  have F16 : Fun (flt K) d_need_seen.x d_need_seen.x d_need_seen.st f16 _ := fun_mk (st := topS 33) (flt_look l16 (em_func _ _ _ _)) (flt_code c16) (flt_keep l16)
  have B16 : Binds (flt K) _ d_need_seen.ps [] := F16.binds (ps := [("make" : Str), ("value" : Str)]) fun _ _ _ _ _ _ us hl => match us, hl with | [_, _], _ => rfl
  have F17 : Fun (flt K) d_sure_cuts.x d_sure_cuts.x d_sure_cuts.st f17 _ := fun_mk (st := topS 34) (flt_look l17 (em_func _ _ _ _)) (flt_code c17) (flt_keep l17)
  have B17 : Binds (flt K) _ d_sure_cuts.ps [] := F17.binds (ps := [("make" : Str), ("some" : Str), ("low" : Str), ("high" : Str)]) fun _ _ _ _ _ _ us hl => match us, hl with | [_, _, _, _], _ => rfl
  have F18 : Fun (flt K) d_sure_rows.x d_sure_rows.x d_sure_rows.st f18 _ := fun_mk (st := topS 35) (flt_look l18 (em_func _ _ _ _)) (flt_code c18) (flt_keep l18)
  have B18 : Binds (flt K) _ d_sure_rows.ps [] := F18.binds (ps := [("make" : Str), ("lock" : Str), ("wear" : Str), ("year" : Str)]) fun _ _ _ _ _ _ us hl => match us, hl with | [_, _, _, _], _ => rfl
  have F19 : Fun (flt K) d_both_rows.x d_both_rows.x d_both_rows.st f19 _ := fun_mk (st := topS 36) (flt_look l19 (em_func _ _ _ _)) (flt_code c19) (flt_keep l19)
  have B19 : Binds (flt K) _ d_both_rows.ps [] := F19.binds (ps := [("one" : Str), ("other" : Str)]) fun _ _ _ _ _ _ us hl => match us, hl with | [_, _], _ => rfl
  have F20 : Fun (flt K) d_first_key.x d_first_key.x d_first_key.st f20 _ := fun_mk (st := topS 37) (flt_look l20 (em_func _ _ _ _)) (flt_code c20) (flt_keep l20)
  have B20 : Binds (flt K) _ d_first_key.ps [] := F20.binds (ps := [("make" : Str), ("rows" : Str)]) fun _ _ _ _ _ _ us hl => match us, hl with | [_, _], _ => rfl
  have F21 : Fun (flt K) d_does_fit.x d_does_fit.x d_does_fit.st f21 _ := fun_mk (st := topS 38) (flt_look l21 (em_func _ _ _ _)) (flt_code c21) (flt_keep l21)
  have B21 : Binds (flt K) _ d_does_fit.ps [] := F21.binds (ps := [("cut" : Str), ("some" : Str), ("shifts" : Str)]) fun _ _ _ _ _ _ us hl => match us, hl with | [_, _, _], _ => rfl
  have F22 : Fun (flt K) d_last_from.x d_last_from.x d_last_from.st f22 _ := fun_mk (st := topS 39) (flt_look l22 (em_func _ _ _ _)) (flt_code c22) (flt_keep l22)
  have B22 : Binds (flt K) _ d_last_from.ps [] := F22.binds (ps := [("make" : Str), ("lock" : Str), ("wear" : Str), ("start" : Str)]) fun _ _ _ _ _ _ us hl => match us, hl with | [_, _, _, _], _ => rfl
  have F23 : Fun (flt K) d_steps_on.x d_steps_on.x d_steps_on.st f23 _ := fun_mk (st := topS 40) (flt_look l23 (em_func _ _ _ _)) (flt_code c23) (flt_keep l23)
  have B23 : Binds (flt K) _ d_steps_on.ps [] := F23.binds (ps := [("shifts" : Str), ("low" : Str), ("high" : Str)]) fun _ _ _ _ _ _ us hl => match us, hl with | [_, _, _], _ => rfl
  have F24 : Fun (flt K) d_steps_back.x d_steps_back.x d_steps_back.st f24 _ := fun_mk (st := topS 41) (flt_look l24 (em_func _ _ _ _)) (flt_code c24) (flt_keep l24)
  have B24 : Binds (flt K) _ d_steps_back.ps [] := F24.binds (ps := [("shifts" : Str), ("low" : Str), ("high" : Str)]) fun _ _ _ _ _ _ us hl => match us, hl with | [_, _, _], _ => rfl
  have F25 : Fun (flt K) d_place_rows.x d_place_rows.x d_place_rows.st f25 _ := fun_mk (st := topS 42) (flt_look l25 (em_func _ _ _ _)) (flt_code c25) (flt_keep l25)
  have B25 : Binds (flt K) _ d_place_rows.ps [] := F25.binds (ps := [("some" : Str), ("drift" : Str), ("cuts" : Str), ("last" : Str)]) fun _ _ _ _ _ _ us hl => match us, hl with | [_, _, _, _], _ => rfl
  have F26 : Fun (flt K) d_shift_rows.x d_shift_rows.x d_shift_rows.st f26 _ := fun_mk (st := topS 43) (flt_look l26 (em_func _ _ _ _)) (flt_code c26) (flt_keep l26)
  have B26 : Binds (flt K) _ d_shift_rows.ps [] := F26.binds (ps := [("lock" : Str), ("wear" : Str), ("seen" : Str), ("last" : Str)]) fun _ _ _ _ _ _ us hl => match us, hl with | [_, _, _, _], _ => rfl
  have F27 : Fun (flt K) d_last_year.x d_last_year.x d_last_year.st f27 _ := fun_mk (st := topS 44) (flt_look l27 (em_func _ _ _ _)) (flt_code c27) (flt_keep l27)
  have B27 : Binds (flt K) _ d_last_year.ps [] := F27.binds (ps := [("seen" : Str), ("year" : Str)]) fun _ _ _ _ _ _ us hl => match us, hl with | [_, _], _ => rfl
  have F28 : Fun (flt K) d_is_wear.x d_is_wear.x d_is_wear.st f28 _ := fun_mk (st := topS 45) (flt_look l28 (em_func _ _ _ _)) (flt_code c28) (flt_keep l28)
  have B28 : Binds (flt K) _ d_is_wear.ps [] := F28.binds (ps := [("make" : Str), ("value" : Str)]) fun _ _ _ _ _ _ us hl => match us, hl with | [_, _], _ => rfl
  have F29 : Fun (flt K) d_worn_word.x d_worn_word.x d_worn_word.st f29 _ := fun_mk (st := topS 46) (flt_look l29 (em_func _ _ _ _)) (flt_code c29) (flt_keep l29)
  have B29 : Binds (flt K) _ d_worn_word.ps [] := F29.binds (ps := [("make" : Str), ("lock" : Str), ("wear" : Str), ("key" : Str), ("year" : Str)]) fun _ _ _ _ _ _ us hl => match us, hl with | [_, _, _, _, _], _ => rfl
  have F30 : Fun (flt K) d_word_by.x d_word_by.x d_word_by.st f30 _ := fun_mk (st := topS 47) (flt_look l30 (em_func _ _ _ _)) (flt_code c30) (flt_keep l30)
  have B30 : Binds (flt K) _ d_word_by.ps [] := F30.binds (ps := [("key" : Str), ("lock" : Str), ("rows" : Str)]) fun _ _ _ _ _ _ us hl => match us, hl with | [_, _, _], _ => rfl
  have F31 : Fun (flt K) d_sure_years.x d_sure_years.x d_sure_years.st f31 _ := fun_mk (st := topS 48) (flt_look l31 (em_func _ _ _ _)) (flt_code c31) (flt_keep l31)
  have B31 : Binds (flt K) _ d_sure_years.ps [] := F31.binds (ps := [("make" : Str), ("lock" : Str), ("wear" : Str), ("key" : Str)]) fun _ _ _ _ _ _ us hl => match us, hl with | [_, _, _, _], _ => rfl
  have F32 : Fun (flt K) d_longest_key.x d_longest_key.x d_longest_key.st f32 _ := fun_mk (st := topS 49) (flt_look l32 (em_func _ _ _ _)) (flt_code c32) (flt_keep l32)
  have B32 : Binds (flt K) _ d_longest_key.ps [] := F32.binds (ps := [("make" : Str), ("lock" : Str), ("wear" : Str)]) fun _ _ _ _ _ _ us hl => match us, hl with | [_, _, _], _ => rfl
  have F33 : Fun (flt K) d_key_row.x d_key_row.x d_key_row.st f33 _ := fun_mk (st := topS 50) (flt_look l33 (em_func _ _ _ _)) (flt_code c33) (flt_keep l33)
  have B33 : Binds (flt K) _ d_key_row.ps [] := F33.binds (ps := [("make" : Str), ("lock" : Str), ("wear" : Str), ("year" : Str)]) fun _ _ _ _ _ _ us hl => match us, hl with | [_, _, _, _], _ => rfl
  have F34 : Fun (flt K) d_is_key_row.x d_is_key_row.x d_is_key_row.st f34 _ := fun_mk (st := topS 51) (flt_look l34 (em_func _ _ _ _)) (flt_code c34) (flt_keep l34)
  have B34 : Binds (flt K) _ d_is_key_row.ps [] := F34.binds (ps := [("make" : Str), ("lock" : Str), ("wear" : Str), ("year" : Str), ("value" : Str)]) fun _ _ _ _ _ _ us hl => match us, hl with | [_, _, _, _, _], _ => rfl
  have F35 : Fun (flt K) d_possible_shifts.x d_possible_shifts.x d_possible_shifts.st f35 _ := fun_mk (st := topS 52) (flt_look l35 (em_func _ _ _ _)) (flt_code c35) (flt_keep l35)
  have B35 : Binds (flt K) _ d_possible_shifts.ps [] := F35.binds (ps := [("make" : Str), ("lock" : Str), ("wear" : Str), ("seen" : Str), ("year" : Str)]) fun _ _ _ _ _ _ us hl => match us, hl with | [_, _, _, _, _], _ => rfl
  have F36 : Fun (flt K) d_barred_place.x d_barred_place.x d_barred_place.st f36 _ := fun_mk (st := topS 53) (flt_look l36 (em_func _ _ _ _)) (flt_code c36) (flt_keep l36)
  have B36 : Binds (flt K) _ d_barred_place.ps [] := F36.binds (ps := [("make" : Str), ("lock" : Str), ("wear" : Str), ("seen" : Str)]) fun _ _ _ _ _ _ us hl => match us, hl with | [_, _, _, _], _ => rfl
  have F37 : Fun (flt K) d_seen_word.x d_seen_word.x d_seen_word.st f37 _ := fun_mk (st := topS 54) (flt_look l37 (em_func _ _ _ _)) (flt_code c37) (flt_keep l37)
  have B37 : Binds (flt K) _ d_seen_word.ps [] := F37.binds (ps := [("make" : Str), ("lock" : Str), ("wear" : Str), ("seen" : Str), ("key" : Str), ("year" : Str)]) fun _ _ _ _ _ _ us hl => match us, hl with | [_, _, _, _, _, _], _ => rfl
  have F38 : Fun (flt K) d_some_drift.x d_some_drift.x d_some_drift.st f38 _ := fun_mk (st := topS 55) (flt_look l38 (em_func _ _ _ _)) (flt_code c38) (flt_keep l38)
  have B38 : Binds (flt K) _ d_some_drift.ps [] := F38.binds (ps := [("make" : Str), ("lock" : Str), ("wear" : Str), ("seen" : Str)]) fun _ _ _ _ _ _ us hl => match us, hl with | [_, _, _, _], _ => rfl
  have F39 : Fun (flt K) d_is_drift.x d_is_drift.x d_is_drift.st f39 _ := fun_mk (st := topS 56) (flt_look l39 (em_func _ _ _ _)) (flt_code c39) (flt_keep l39)
  have B39 : Binds (flt K) _ d_is_drift.ps [] := F39.binds (ps := [("make" : Str), ("lock" : Str), ("wear" : Str), ("seen" : Str), ("value" : Str)]) fun _ _ _ _ _ _ us hl => match us, hl with | [_, _, _, _, _], _ => rfl
  have F40 : Fun (flt K) d__law_cup.x d__law_cup.x d__law_cup.st f40 _ := fun_mk (st := topS 58) (flt_look l40 (em_func _ _ _ _)) (flt_code c40) (flt_keep l40)
  have B40 : Binds (flt K) _ d__law_cup.ps [] := F40.binds (ps := [("script" : Str)]) fun _ _ _ _ _ _ us hl => match us, hl with | [_], _ => rfl
  have F41 : Fun (flt K) d__law_roll.x d__law_roll.x d__law_roll.st f41 _ := fun_mk (st := topS 59) (flt_look l41 (em_func _ _ _ _)) (flt_code c41) (flt_keep l41)
  have B41 : Binds (flt K) _ d__law_roll.ps [] := F41.binds (ps := [("cup" : Str), ("many" : Str)]) fun _ _ _ _ _ _ us hl => match us, hl with | [_, _], _ => rfl
  have F42 : Fun (flt K) d__law_words.x d__law_words.x d__law_words.st f42 _ := fun_mk (st := topS 62) (flt_look l42 (em_func _ _ _ _)) (flt_code c42) (flt_keep l42)
  have B42 : Binds (flt K) _ d__law_words.ps [] := F42.binds (ps := [("make" : Str), ("lock" : Str), ("wear" : Str)]) fun _ _ _ _ _ _ us hl => match us, hl with | [_, _, _], _ => rfl
  have F43 : Fun (flt K) d_law.x d_law.x d_law.st fa _ := fun_mk (st := topS 63) (flt_look l43 (em_func _ _ _ _)) (flt_code c43) (flt_keep l43)
  have B43 : Binds (flt K) _ d_law.ps [] := F43.binds (ps := [("script" : Str)]) fun _ _ _ _ _ _ us hl => match us, hl with | [_], _ => rfl
  have F44 : Fun (flt K) ("_law_word" : Str) ("_law_word" : Str) (topS 61) f44 _ := fun_mk (st := topS 61) (flt_look l44 (em_func _ _ _ _)) (flt_code c44) (flt_keep l44)
  have B44 : Binds (flt K) _ [("call" : Str)] [] := F44.binds (ps := [("call" : Str)]) fun _ _ _ _ _ _ us hl => match us, hl with | [_], _ => rfl
  have C0 : ClF K "InvalidMake" xc0 := ⟨xg0, y1_0, y2_0, y3_0, y4_0, y5_0, y6_0, y7_0, y8_0, y9_0⟩
  have C1 : ClF K "InvalidKey" xc1 := ⟨xg1, y1_1, y2_1, y3_1, y4_1, y5_1, y6_1, y7_1, y8_1, y9_1⟩
  have C2 : ClF K "InvalidLock" xc2 := ⟨xg2, y1_2, y2_2, y3_2, y4_2, y5_2, y6_2, y7_2, y8_2, y9_2⟩
  have C3 : ClF K "InvalidNumber" xc3 := ⟨xg3, y1_3, y2_3, y3_3, y4_3, y5_3, y6_3, y7_3, y8_3, y9_3⟩
  have C4 : ClF K "InvalidTries" xc4 := ⟨xg4, y1_4, y2_4, y3_4, y4_4, y5_4, y6_4, y7_4, y8_4, y9_4⟩
  have C5 : ClF K "InvalidRooms" xc5 := ⟨xg5, y1_5, y2_5, y3_5, y4_5, y5_5, y6_5, y7_5, y8_5, y9_5⟩
  have C6 : ClF K "InvalidName" xc6 := ⟨xg6, y1_6, y2_6, y3_6, y4_6, y5_6, y6_6, y7_6, y8_6, y9_6⟩
  have C7 : ClF K "PinsError" xc7 := ⟨xg7, y1_7, y2_7, y3_7, y4_7, y5_7, y6_7, y7_7, y8_7, y9_7⟩
  have M : ModQ (flt K) mg ds cs es := by
    refine ⟨fun d hd => ?_, fun b hb => ?_, fun x d hx => ?_, fun x hx => ?_⟩
    · simp only [ds, List.mem_cons, List.not_mem_nil, or_false] at hd
      rcases hd with rfl | rfl | rfl | rfl | rfl | rfl | rfl | rfl | rfl | rfl | rfl | rfl | rfl | rfl | rfl | rfl | rfl | rfl | rfl | rfl | rfl | rfl | rfl | rfl | rfl | rfl | rfl | rfl | rfl | rfl | rfl | rfl | rfl | rfl | rfl | rfl | rfl | rfl | rfl | rfl | rfl | rfl | rfl | rfl
      · exact ⟨f0, _, F0, PySem.W.mg_of X G a0, flt_ns a0, B0⟩
      · exact ⟨f1, _, F1, PySem.W.mg_of X G a1, flt_ns a1, B1⟩
      · exact ⟨f2, _, F2, PySem.W.mg_of X G a2, flt_ns a2, B2⟩
      · exact ⟨f3, _, F3, PySem.W.mg_of X G a3, flt_ns a3, B3⟩
      · exact ⟨f4, _, F4, PySem.W.mg_of X G a4, flt_ns a4, B4⟩
      · exact ⟨f5, _, F5, PySem.W.mg_of X G a5, flt_ns a5, B5⟩
      · exact ⟨f6, _, F6, PySem.W.mg_of X G a6, flt_ns a6, B6⟩
      · exact ⟨f7, _, F7, PySem.W.mg_of X G a7, flt_ns a7, B7⟩
      · exact ⟨f8, _, F8, PySem.W.mg_of X G a8, flt_ns a8, B8⟩
      · exact ⟨f9, _, F9, PySem.W.mg_of X G a9, flt_ns a9, B9⟩
      · exact ⟨f10, _, F10, PySem.W.mg_of X G a10, flt_ns a10, B10⟩
      · exact ⟨f11, _, F11, PySem.W.mg_of X G a11, flt_ns a11, B11⟩
      · exact ⟨f12, _, F12, PySem.W.mg_of X G a12, flt_ns a12, B12⟩
      · exact ⟨f13, _, F13, PySem.W.mg_of X G a13, flt_ns a13, B13⟩
      · exact ⟨f14, _, F14, PySem.W.mg_of X G a14, flt_ns a14, B14⟩
      · exact ⟨f15, _, F15, PySem.W.mg_of X G a15, flt_ns a15, B15⟩
      · exact ⟨f16, _, F16, PySem.W.mg_of X G a16, flt_ns a16, B16⟩
      · exact ⟨f17, _, F17, PySem.W.mg_of X G a17, flt_ns a17, B17⟩
      · exact ⟨f18, _, F18, PySem.W.mg_of X G a18, flt_ns a18, B18⟩
      · exact ⟨f19, _, F19, PySem.W.mg_of X G a19, flt_ns a19, B19⟩
      · exact ⟨f20, _, F20, PySem.W.mg_of X G a20, flt_ns a20, B20⟩
      · exact ⟨f21, _, F21, PySem.W.mg_of X G a21, flt_ns a21, B21⟩
      · exact ⟨f22, _, F22, PySem.W.mg_of X G a22, flt_ns a22, B22⟩
      · exact ⟨f23, _, F23, PySem.W.mg_of X G a23, flt_ns a23, B23⟩
      · exact ⟨f24, _, F24, PySem.W.mg_of X G a24, flt_ns a24, B24⟩
      · exact ⟨f25, _, F25, PySem.W.mg_of X G a25, flt_ns a25, B25⟩
      · exact ⟨f26, _, F26, PySem.W.mg_of X G a26, flt_ns a26, B26⟩
      · exact ⟨f27, _, F27, PySem.W.mg_of X G a27, flt_ns a27, B27⟩
      · exact ⟨f28, _, F28, PySem.W.mg_of X G a28, flt_ns a28, B28⟩
      · exact ⟨f29, _, F29, PySem.W.mg_of X G a29, flt_ns a29, B29⟩
      · exact ⟨f30, _, F30, PySem.W.mg_of X G a30, flt_ns a30, B30⟩
      · exact ⟨f31, _, F31, PySem.W.mg_of X G a31, flt_ns a31, B31⟩
      · exact ⟨f32, _, F32, PySem.W.mg_of X G a32, flt_ns a32, B32⟩
      · exact ⟨f33, _, F33, PySem.W.mg_of X G a33, flt_ns a33, B33⟩
      · exact ⟨f34, _, F34, PySem.W.mg_of X G a34, flt_ns a34, B34⟩
      · exact ⟨f35, _, F35, PySem.W.mg_of X G a35, flt_ns a35, B35⟩
      · exact ⟨f36, _, F36, PySem.W.mg_of X G a36, flt_ns a36, B36⟩
      · exact ⟨f37, _, F37, PySem.W.mg_of X G a37, flt_ns a37, B37⟩
      · exact ⟨f38, _, F38, PySem.W.mg_of X G a38, flt_ns a38, B38⟩
      · exact ⟨f39, _, F39, PySem.W.mg_of X G a39, flt_ns a39, B39⟩
      · exact ⟨f40, _, F40, PySem.W.mg_of X G a40, flt_ns a40, B40⟩
      · exact ⟨f41, _, F41, PySem.W.mg_of X G a41, flt_ns a41, B41⟩
      · exact ⟨f42, _, F42, PySem.W.mg_of X G a42, flt_ns a42, B42⟩
      · exact ⟨fa, _, F43, PySem.W.mg_of X G a43, flt_ns a43, B43⟩
    · simp only [bnames, List.mem_cons, List.not_mem_nil, or_false] at hb
      rcases hb with rfl | rfl | rfl | rfl | rfl | rfl | rfl | rfl | rfl | rfl | rfl | rfl | rfl | rfl | rfl | rfl | rfl | rfl | rfl
      · exact PySem.W.mg_none_of X G z0
      · exact PySem.W.mg_none_of X G z1
      · exact PySem.W.mg_none_of X G z2
      · exact PySem.W.mg_none_of X G z3
      · exact PySem.W.mg_none_of X G z4
      · exact PySem.W.mg_none_of X G z5
      · exact PySem.W.mg_none_of X G z6
      · exact PySem.W.mg_none_of X G z7
      · exact PySem.W.mg_none_of X G z8
      · exact PySem.W.mg_none_of X G z9
      · exact PySem.W.mg_none_of X G z10
      · exact PySem.W.mg_none_of X G z11
      · exact PySem.W.mg_none_of X G z12
      · exact PySem.W.mg_none_of X G z13
      · exact PySem.W.mg_none_of X G z14
      · exact PySem.W.mg_none_of X G z15
      · exact PySem.W.mg_none_of X G z16
      · exact PySem.W.mg_none_of X G z17
      · exact PySem.W.mg_none_of X G z18
    · have hx := mem_lookup hx
      simp only [cs, List.mem_cons, List.not_mem_nil, or_false, Prod.mk.injEq] at hx
      rcases hx with ⟨rfl, rfl⟩ | ⟨rfl, rfl⟩ | ⟨rfl, rfl⟩ | ⟨rfl, rfl⟩ | ⟨rfl, rfl⟩ | ⟨rfl, rfl⟩
      · exact ⟨_, .int 3, PySem.W.mg_of X G qg0, ⟨_, rfl⟩, fun _ _ => .int 3⟩
      · exact ⟨_, .int 10, PySem.W.mg_of X G qg1, ⟨_, rfl⟩, fun _ _ => .int 10⟩
      · exact ⟨_, .int 8, PySem.W.mg_of X G qg2, ⟨_, rfl⟩, fun _ _ => .int 8⟩
      · exact ⟨_, .int 20, PySem.W.mg_of X G qg3, ⟨_, rfl⟩, fun _ _ => .int 20⟩
      · exact ⟨_, .int 9, PySem.W.mg_of X G qg4, ⟨_, rfl⟩, fun _ _ => .int 9⟩
      · exact ⟨_, .int 30, PySem.W.mg_of X G qg5, ⟨_, rfl⟩, fun _ _ => .int 30⟩
    · simp only [es, List.mem_cons, List.not_mem_nil, or_false] at hx
      rcases hx with rfl | rfl | rfl | rfl | rfl
      · exact ⟨xc0, _, _, _, _, PySem.W.mg_of X G xg0, flt_ns xg0, PySem.F.excBase_ValueError, flt_exc xx0, flt_keepC y5_0 xk0, flt_sub y6_0, flt_type y5_0⟩
      · exact ⟨xc1, _, _, _, _, PySem.W.mg_of X G xg1, flt_ns xg1, PySem.F.excBase_ValueError, flt_exc xx1, flt_keepC y5_1 xk1, flt_sub y6_1, flt_type y5_1⟩
      · exact ⟨xc2, _, _, _, _, PySem.W.mg_of X G xg2, flt_ns xg2, PySem.F.excBase_ValueError, flt_exc xx2, flt_keepC y5_2 xk2, flt_sub y6_2, flt_type y5_2⟩
      · exact ⟨xc3, _, _, _, _, PySem.W.mg_of X G xg3, flt_ns xg3, PySem.F.excBase_ValueError, flt_exc xx3, flt_keepC y5_3 xk3, flt_sub y6_3, flt_type y5_3⟩
      · exact ⟨xc4, _, _, _, _, PySem.W.mg_of X G xg4, flt_ns xg4, PySem.F.excBase_ValueError, flt_exc xx4, flt_keepC y5_4 xk4, flt_sub y6_4, flt_type y5_4⟩
  have HW : ∀ (base : Heap) (f : String) (t : WT), ws.lookup f = some t → WdOk PySem.Challenge.rw_strongroom_k51_errors_of_drifts.prog w (flt K) mg base f t := by
    intro base f t hf
    have hf := look_mem hf
    simp only [ws, List.mem_cons, List.not_mem_nil, or_false, Prod.mk.injEq] at hf
    rcases hf with ⟨rfl, rfl⟩
    · refine wd_ok wk__law_word ⟨⟨xc7, PySem.W.mg_of X G xg7, fun c sup hc => ?_⟩, fun b hb => ?_⟩ F44 (PySem.W.mg_of X G a44) B44
      · have hc := look_mem hc
        simp only [wd__law_word, List.mem_cons, List.not_mem_nil, or_false, Prod.mk.injEq] at hc
        rcases hc with ⟨rfl, rfl⟩ | ⟨rfl, rfl⟩ | ⟨rfl, rfl⟩ | ⟨rfl, rfl⟩ | ⟨rfl, rfl⟩
        · refine ⟨xc0, flt_ns xg0, C0.exc, exm_of C7 s0_7, fun k hk => ?_, kit_ve C0⟩
          simp only [wd__law_word, List.mem_cons, List.not_mem_nil, or_false] at hk
          rcases hk with rfl | rfl | rfl | rfl | rfl | rfl | rfl
          · exact ⟨xc4, PySem.W.mg_of X G xg4, kit_ref C4 s0_4⟩
          · exact ⟨xc2, PySem.W.mg_of X G xg2, kit_ref C2 s0_2⟩
          · exact ⟨xc1, PySem.W.mg_of X G xg1, kit_ref C1 s0_1⟩
          · exact ⟨xc0, PySem.W.mg_of X G xg0, kit_ref C0 s0_0⟩
          · exact ⟨xc5, PySem.W.mg_of X G xg5, kit_ref C5 s0_5⟩
          · exact ⟨xc6, PySem.W.mg_of X G xg6, kit_ref C6 s0_6⟩
          · exact ⟨xc3, PySem.W.mg_of X G xg3, kit_ref C3 s0_3⟩
        · refine ⟨xc1, flt_ns xg1, C1.exc, exm_of C7 s1_7, fun k hk => ?_, kit_ve C1⟩
          simp only [wd__law_word, List.mem_cons, List.not_mem_nil, or_false] at hk
          rcases hk with rfl | rfl | rfl | rfl | rfl | rfl | rfl
          · exact ⟨xc4, PySem.W.mg_of X G xg4, kit_ref C4 s1_4⟩
          · exact ⟨xc2, PySem.W.mg_of X G xg2, kit_ref C2 s1_2⟩
          · exact ⟨xc1, PySem.W.mg_of X G xg1, kit_ref C1 s1_1⟩
          · exact ⟨xc0, PySem.W.mg_of X G xg0, kit_ref C0 s1_0⟩
          · exact ⟨xc5, PySem.W.mg_of X G xg5, kit_ref C5 s1_5⟩
          · exact ⟨xc6, PySem.W.mg_of X G xg6, kit_ref C6 s1_6⟩
          · exact ⟨xc3, PySem.W.mg_of X G xg3, kit_ref C3 s1_3⟩
        · refine ⟨xc2, flt_ns xg2, C2.exc, exm_of C7 s2_7, fun k hk => ?_, kit_ve C2⟩
          simp only [wd__law_word, List.mem_cons, List.not_mem_nil, or_false] at hk
          rcases hk with rfl | rfl | rfl | rfl | rfl | rfl | rfl
          · exact ⟨xc4, PySem.W.mg_of X G xg4, kit_ref C4 s2_4⟩
          · exact ⟨xc2, PySem.W.mg_of X G xg2, kit_ref C2 s2_2⟩
          · exact ⟨xc1, PySem.W.mg_of X G xg1, kit_ref C1 s2_1⟩
          · exact ⟨xc0, PySem.W.mg_of X G xg0, kit_ref C0 s2_0⟩
          · exact ⟨xc5, PySem.W.mg_of X G xg5, kit_ref C5 s2_5⟩
          · exact ⟨xc6, PySem.W.mg_of X G xg6, kit_ref C6 s2_6⟩
          · exact ⟨xc3, PySem.W.mg_of X G xg3, kit_ref C3 s2_3⟩
        · refine ⟨xc3, flt_ns xg3, C3.exc, exm_of C7 s3_7, fun k hk => ?_, kit_ve C3⟩
          simp only [wd__law_word, List.mem_cons, List.not_mem_nil, or_false] at hk
          rcases hk with rfl | rfl | rfl | rfl | rfl | rfl | rfl
          · exact ⟨xc4, PySem.W.mg_of X G xg4, kit_ref C4 s3_4⟩
          · exact ⟨xc2, PySem.W.mg_of X G xg2, kit_ref C2 s3_2⟩
          · exact ⟨xc1, PySem.W.mg_of X G xg1, kit_ref C1 s3_1⟩
          · exact ⟨xc0, PySem.W.mg_of X G xg0, kit_ref C0 s3_0⟩
          · exact ⟨xc5, PySem.W.mg_of X G xg5, kit_ref C5 s3_5⟩
          · exact ⟨xc6, PySem.W.mg_of X G xg6, kit_ref C6 s3_6⟩
          · exact ⟨xc3, PySem.W.mg_of X G xg3, kit_ref C3 s3_3⟩
        · refine ⟨xc4, flt_ns xg4, C4.exc, exm_of C7 s4_7, fun k hk => ?_, kit_ve C4⟩
          simp only [wd__law_word, List.mem_cons, List.not_mem_nil, or_false] at hk
          rcases hk with rfl | rfl | rfl | rfl | rfl | rfl | rfl
          · exact ⟨xc4, PySem.W.mg_of X G xg4, kit_ref C4 s4_4⟩
          · exact ⟨xc2, PySem.W.mg_of X G xg2, kit_ref C2 s4_2⟩
          · exact ⟨xc1, PySem.W.mg_of X G xg1, kit_ref C1 s4_1⟩
          · exact ⟨xc0, PySem.W.mg_of X G xg0, kit_ref C0 s4_0⟩
          · exact ⟨xc5, PySem.W.mg_of X G xg5, kit_ref C5 s4_5⟩
          · exact ⟨xc6, PySem.W.mg_of X G xg6, kit_ref C6 s4_6⟩
          · exact ⟨xc3, PySem.W.mg_of X G xg3, kit_ref C3 s4_3⟩
      · simp only [List.mem_cons, List.not_mem_nil, or_false] at hb
        rcases hb with rfl | rfl | rfl
        · exact PySem.W.mg_none_of X G z14
        · exact PySem.W.mg_none_of X G z16
        · exact PySem.W.mg_none_of X G zv
  have HL : ∀ base : Heap, (∀ p ∈ [(cc42, P42), (cc43, P43)], TabB base mg p.1 p.2) → ∀ d ∈ ds, d.lam = true → ∀ fa fd, Fun (flt K) d.x d.x d.st fa fd → mg d.x = some (.ref fa) → ∃ (c Pt : Addr), TabB base mg c Pt ∧ fd.code = .ref c ∧ (Pt, (d.x ++ ".<locals>.") ++ "<lambda>") ∈ LamT.T ∧ ∀ p ∈ LamT.T, p.1 = Pt → p.2 = (d.x ++ ".<locals>.") ++ "<lambda>" := by
    intro base hT d hd hlam f' fd' F' m'
    simp only [ds, List.mem_cons, List.not_mem_nil, or_false] at hd
    rcases hd with rfl | rfl | rfl | rfl | rfl | rfl | rfl | rfl | rfl | rfl | rfl | rfl | rfl | rfl | rfl | rfl | rfl | rfl | rfl | rfl | rfl | rfl | rfl | rfl | rfl | rfl | rfl | rfl | rfl | rfl | rfl | rfl | rfl | rfl | rfl | rfl | rfl | rfl | rfl | rfl | rfl | rfl | rfl | rfl
    · cases hlam
    · cases hlam
    · cases hlam
    · cases hlam
    · cases hlam
    · cases hlam
    · cases hlam
    · cases hlam
    · cases hlam
    · cases hlam
    · cases hlam
    · cases hlam
    · cases hlam
    · cases hlam
    · cases hlam
    · cases hlam
    · cases hlam
    · cases hlam
    · cases hlam
    · cases hlam
    · cases hlam
    · cases hlam
    · cases hlam
    · cases hlam
    · cases hlam
    · cases hlam
    · cases hlam
    · cases hlam
    · cases hlam
    · cases hlam
    · cases hlam
    · cases hlam
    · cases hlam
    · cases hlam
    · cases hlam
    · cases hlam
    · cases hlam
    · cases hlam
    · cases hlam
    · cases hlam
    · cases hlam
    · cases hlam
    · have e := m'.symm.trans (PySem.W.mg_of X G a42)
      cases e
      have ec := fun_code F' (flt_look l42 (em_func _ _ _ _))
      subst ec
      exact ⟨cc42, P42, hT (cc42, P42) (by simp), rfl, List.mem_of_getElem? (i := 0) rfl, tabs_uniq pnd (List.mem_of_getElem? (i := 0) rfl)⟩
    · have e := m'.symm.trans (PySem.W.mg_of X G a43)
      cases e
      have ec := fun_code F' (flt_look l43 (em_func _ _ _ _))
      subst ec
      exact ⟨cc43, P43, hT (cc43, P43) (by simp), rfl, List.mem_of_getElem? (i := 1) rfl, tabs_uniq pnd (List.mem_of_getElem? (i := 1) rfl)⟩
  refine ⟨flt K, fltIn X nd, _, [(cc42, P42), (cc43, P43)], spQ (flt K) (callN (progOf ds) 20) "law", ?_, ?_, ?_, fun s v => .of_eq rfl, fun H a ns hn hH hR hS => law_sp hn (fun p hp => ?_) hR hS (K51.plain ns hn), fun base _ _ hT => all_ok M (HW base) (HL base hT) ck names_nd 20 d_law (by simp [ds]) _ _ F43 (PySem.W.mg_of X G a43)⟩
  · intro p hp
    simp only [List.mem_cons, List.not_mem_nil, or_false] at hp
    rcases hp with rfl | rfl
    · exact tt42
    · exact tt43
  · intro p hp
    simp only [List.mem_cons, List.not_mem_nil, or_false] at hp
    rcases hp with rfl | rfl
    · exact tn42
    · exact tn43
  · intro p hp
    simp only [List.mem_cons, List.not_mem_nil, or_false] at hp
    rcases hp with rfl | rfl
    · exact cdB_hd X cv42 cb42
    · exact cdB_hd X cv43 cb43
  · have hp : p ∈ [(P42, ("_law_words" : Str) ++ ".<locals>." ++ "<lambda>"), (P43, ("law" : Str) ++ ".<locals>." ++ "<lambda>")] := hp
    simp only [List.mem_cons, List.not_mem_nil, or_false] at hp
    rcases hp with rfl | rfl
    · exact TabS.nil (hH (cc42, P42) (by simp))
    · exact TabS.nil (hH (cc43, P43) (by simp))
end K51
open PySem PySem.W PyProof.Rows
set_option maxHeartbeats 0 in
theorem PySem.Challenge.cw_strongroom_k51_errors_of_drifts_holds : PySem.Challenge.rw_strongroom_k51_errors_of_drifts.Holds := by
  w_on; o_law; k_head; (case hw => w_witness2)
  k_fill
  refine Q.walk_q (l := PySem.Challenge.rw_strongroom_k51_errors_of_drifts) (k := 2 * 20 + 1) rfl rfl ⟨rfl, by decide, by decide⟩ ?F
  case F =>
    intro w mg fa h Y G hmg
    refine' K51.all_mk (PySem.W.km_in_of Y) G hmg ?qnd ?a0 ?l0 ?c0 ?a1 ?l1 ?c1 ?a2 ?l2 ?c2 ?a3 ?l3 ?c3 ?a4 ?l4 ?c4 ?a5 ?l5 ?c5 ?a6 ?l6 ?c6 ?a7 ?l7 ?c7 ?a8 ?l8 ?c8 ?a9 ?l9 ?c9 ?a10 ?l10 ?c10 ?a11 ?l11 ?c11 ?a12 ?l12 ?c12 ?a13 ?l13 ?c13 ?a14 ?l14 ?c14 ?a15 ?l15 ?c15 ?a16 ?l16 ?c16 ?a17 ?l17 ?c17 ?a18 ?l18 ?c18 ?a19 ?l19 ?c19 ?a20 ?l20 ?c20 ?a21 ?l21 ?c21 ?a22 ?l22 ?c22 ?a23 ?l23 ?c23 ?a24 ?l24 ?c24 ?a25 ?l25 ?c25 ?a26 ?l26 ?c26 ?a27 ?l27 ?c27 ?a28 ?l28 ?c28 ?a29 ?l29 ?c29 ?a30 ?l30 ?c30 ?a31 ?l31 ?c31 ?a32 ?l32 ?c32 ?a33 ?l33 ?c33 ?a34 ?l34 ?c34 ?a35 ?l35 ?c35 ?a36 ?l36 ?c36 ?a37 ?l37 ?c37 ?a38 ?l38 ?c38 ?a39 ?l39 ?c39 ?a40 ?l40 ?c40 ?a41 ?l41 ?c41 ?a42 ?l42 ?c42 ?cv42 ?cp42 ?cb42 ?ct_42 ?a43 ?l43 ?c43 ?cv43 ?cp43 ?cb43 ?ct_43 ?a44 ?l44 ?c44 ?pnd ?z0 ?z1 ?z2 ?z3 ?z4 ?z5 ?z6 ?z7 ?z8 ?z9 ?z10 ?z11 ?z12 ?z13 ?z14 ?z15 ?z16 ?z17 ?z18 ?zv ?qg0 ?qg1 ?qg2 ?qg3 ?qg4 ?qg5 ?xg0 ?y1_0 ?y2_0 ?y3_0 ?y4_0 ?y5_0 ?y6_0 ?y7_0 ?y8_0 ?y9_0 ?xx0 ?xk0 ?xg1 ?y1_1 ?y2_1 ?y3_1 ?y4_1 ?y5_1 ?y6_1 ?y7_1 ?y8_1 ?y9_1 ?xx1 ?xk1 ?xg2 ?y1_2 ?y2_2 ?y3_2 ?y4_2 ?y5_2 ?y6_2 ?y7_2 ?y8_2 ?y9_2 ?xx2 ?xk2 ?xg3 ?y1_3 ?y2_3 ?y3_3 ?y4_3 ?y5_3 ?y6_3 ?y7_3 ?y8_3 ?y9_3 ?xx3 ?xk3 ?xg4 ?y1_4 ?y2_4 ?y3_4 ?y4_4 ?y5_4 ?y6_4 ?y7_4 ?y8_4 ?y9_4 ?xx4 ?xk4 ?xg5 ?y1_5 ?y2_5 ?y3_5 ?y4_5 ?y5_5 ?y6_5 ?y7_5 ?y8_5 ?y9_5 ?xg6 ?y1_6 ?y2_6 ?y3_6 ?y4_6 ?y5_6 ?y6_6 ?y7_6 ?y8_6 ?y9_6 ?xg7 ?y1_7 ?y2_7 ?y3_7 ?y4_7 ?y5_7 ?y6_7 ?y7_7 ?y8_7 ?y9_7 ?s0_4 ?s0_2 ?s0_1 ?s0_0 ?s0_5 ?s0_6 ?s0_3 ?s0_7 ?s1_4 ?s1_2 ?s1_1 ?s1_0 ?s1_5 ?s1_6 ?s1_3 ?s1_7 ?s2_4 ?s2_2 ?s2_1 ?s2_0 ?s2_5 ?s2_6 ?s2_3 ?s2_7 ?s3_4 ?s3_2 ?s3_1 ?s3_0 ?s3_5 ?s3_6 ?s3_3 ?s3_7 ?s4_4 ?s4_2 ?s4_1 ?s4_0 ?s4_5 ?s4_6 ?s4_3 ?s4_7
    (case a0 => k_is); (case l0 => k_is); (case c0 => k_is); (case a1 => k_is); (case l1 => k_is); (case c1 => k_is); (case a2 => k_is); (case l2 => k_is); (case c2 => k_is); (case a3 => k_is); (case l3 => k_is); (case c3 => k_is); (case a4 => k_is); (case l4 => k_is); (case c4 => k_is); (case a5 => k_is); (case l5 => k_is); (case c5 => k_is); (case a6 => k_is); (case l6 => k_is); (case c6 => k_is); (case a7 => k_is); (case l7 => k_is); (case c7 => k_is); (case a8 => k_is); (case l8 => k_is); (case c8 => k_is); (case a9 => k_is); (case l9 => k_is); (case c9 => k_is); (case a10 => k_is); (case l10 => k_is); (case c10 => k_is); (case a11 => k_is); (case l11 => k_is); (case c11 => k_is); (case a12 => k_is); (case l12 => k_is); (case c12 => k_is); (case a13 => k_is); (case l13 => k_is); (case c13 => k_is); (case a14 => k_is); (case l14 => k_is); (case c14 => k_is); (case a15 => k_is); (case l15 => k_is); (case c15 => k_is); (case a16 => k_is); (case l16 => k_is); (case c16 => k_is); (case a17 => k_is); (case l17 => k_is); (case c17 => k_is); (case a18 => k_is); (case l18 => k_is); (case c18 => k_is); (case a19 => k_is); (case l19 => k_is); (case c19 => k_is); (case a20 => k_is); (case l20 => k_is); (case c20 => k_is); (case a21 => k_is); (case l21 => k_is); (case c21 => k_is); (case a22 => k_is); (case l22 => k_is); (case c22 => k_is); (case a23 => k_is); (case l23 => k_is); (case c23 => k_is); (case a24 => k_is); (case l24 => k_is); (case c24 => k_is); (case a25 => k_is); (case l25 => k_is); (case c25 => k_is); (case a26 => k_is); (case l26 => k_is); (case c26 => k_is); (case a27 => k_is); (case l27 => k_is); (case c27 => k_is); (case a28 => k_is); (case l28 => k_is); (case c28 => k_is); (case a29 => k_is); (case l29 => k_is); (case c29 => k_is); (case a30 => k_is); (case l30 => k_is); (case c30 => k_is); (case a31 => k_is); (case l31 => k_is); (case c31 => k_is); (case a32 => k_is); (case l32 => k_is); (case c32 => k_is); (case a33 => k_is); (case l33 => k_is); (case c33 => k_is); (case a34 => k_is); (case l34 => k_is); (case c34 => k_is); (case a35 => k_is); (case l35 => k_is); (case c35 => k_is); (case a36 => k_is); (case l36 => k_is); (case c36 => k_is); (case a37 => k_is); (case l37 => k_is); (case c37 => k_is); (case a38 => k_is); (case l38 => k_is); (case c38 => k_is); (case a39 => k_is); (case l39 => k_is); (case c39 => k_is); (case a40 => k_is); (case l40 => k_is); (case c40 => k_is); (case a41 => k_is); (case l41 => k_is); (case c41 => k_is); (case a42 => k_is); (case l42 => k_is); (case c42 => k_is); (case cv42 => k_is); (case cp42 => exact rfl); (case cb42 => exact rfl); (case ct_42 => exact PySem.W.km_tabs_of Y _ (by decide)); (case a43 => k_is); (case l43 => k_is); (case c43 => k_is); (case cv43 => k_is); (case cp43 => exact rfl); (case cb43 => exact rfl); (case ct_43 => exact PySem.W.km_tabs_of Y _ (by decide)); (case a44 => k_is); (case l44 => k_is); (case c44 => k_is); (case pnd => decide); (case z0 => k_is); (case z1 => k_is); (case z2 => k_is); (case z3 => k_is); (case z4 => k_is); (case z5 => k_is); (case z6 => k_is); (case z7 => k_is); (case z8 => k_is); (case z9 => k_is); (case z10 => k_is); (case z11 => k_is); (case z12 => k_is); (case z13 => k_is); (case z14 => k_is); (case z15 => k_is); (case z16 => k_is); (case z17 => k_is); (case z18 => k_is); (case zv => k_is); (case qg0 => k_is); (case qg1 => k_is); (case qg2 => k_is); (case qg3 => k_is); (case qg4 => k_is); (case qg5 => k_is); (case xg0 => k_is); (case y1_0 => k_is); (case y2_0 => k_is); (case y3_0 => k_is); (case y4_0 => k_is); (case y5_0 => k_is); (case y6_0 => k_is); (case y7_0 => k_is); (case y8_0 => k_is); (case y9_0 => k_is); (case xx0 => k_exc); (case xk0 => k_is); (case xg1 => k_is); (case y1_1 => k_is); (case y2_1 => k_is); (case y3_1 => k_is); (case y4_1 => k_is); (case y5_1 => k_is); (case y6_1 => k_is); (case y7_1 => k_is); (case y8_1 => k_is); (case y9_1 => k_is); (case xx1 => k_exc); (case xk1 => k_is); (case xg2 => k_is); (case y1_2 => k_is); (case y2_2 => k_is); (case y3_2 => k_is); (case y4_2 => k_is); (case y5_2 => k_is); (case y6_2 => k_is); (case y7_2 => k_is); (case y8_2 => k_is); (case y9_2 => k_is); (case xx2 => k_exc); (case xk2 => k_is); (case xg3 => k_is); (case y1_3 => k_is); (case y2_3 => k_is); (case y3_3 => k_is); (case y4_3 => k_is); (case y5_3 => k_is); (case y6_3 => k_is); (case y7_3 => k_is); (case y8_3 => k_is); (case y9_3 => k_is); (case xx3 => k_exc); (case xk3 => k_is); (case xg4 => k_is); (case y1_4 => k_is); (case y2_4 => k_is); (case y3_4 => k_is); (case y4_4 => k_is); (case y5_4 => k_is); (case y6_4 => k_is); (case y7_4 => k_is); (case y8_4 => k_is); (case y9_4 => k_is); (case xx4 => k_exc); (case xk4 => k_is); (case xg5 => k_is); (case y1_5 => k_is); (case y2_5 => k_is); (case y3_5 => k_is); (case y4_5 => k_is); (case y5_5 => k_is); (case y6_5 => k_is); (case y7_5 => k_is); (case y8_5 => k_is); (case y9_5 => k_is); (case xg6 => k_is); (case y1_6 => k_is); (case y2_6 => k_is); (case y3_6 => k_is); (case y4_6 => k_is); (case y5_6 => k_is); (case y6_6 => k_is); (case y7_6 => k_is); (case y8_6 => k_is); (case y9_6 => k_is); (case xg7 => k_is); (case y1_7 => k_is); (case y2_7 => k_is); (case y3_7 => k_is); (case y4_7 => k_is); (case y5_7 => k_is); (case y6_7 => k_is); (case y7_7 => k_is); (case y8_7 => k_is); (case y9_7 => k_is); (case s0_4 => k_is); (case s0_2 => k_is); (case s0_1 => k_is); (case s0_0 => k_is); (case s0_5 => k_is); (case s0_6 => k_is); (case s0_3 => k_is); (case s0_7 => k_is); (case s1_4 => k_is); (case s1_2 => k_is); (case s1_1 => k_is); (case s1_0 => k_is); (case s1_5 => k_is); (case s1_6 => k_is); (case s1_3 => k_is); (case s1_7 => k_is); (case s2_4 => k_is); (case s2_2 => k_is); (case s2_1 => k_is); (case s2_0 => k_is); (case s2_5 => k_is); (case s2_6 => k_is); (case s2_3 => k_is); (case s2_7 => k_is); (case s3_4 => k_is); (case s3_2 => k_is); (case s3_1 => k_is); (case s3_0 => k_is); (case s3_5 => k_is); (case s3_6 => k_is); (case s3_3 => k_is); (case s3_7 => k_is); (case s4_4 => k_is); (case s4_2 => k_is); (case s4_1 => k_is); (case s4_0 => k_is); (case s4_5 => k_is); (case s4_6 => k_is); (case s4_3 => k_is); (case s4_7 => k_is)
    (case qnd => exact Q.km_nd Y (by decide +kernel))

