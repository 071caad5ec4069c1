import PyProof.Rows.All
import Wide.All
import OpenK.AllK
import Wide.FinOn
import HandS.ForMost
import HandS.ForExc
import HandS.IsInst
import HandS.Walk
import HandS.Zip
import HandS.Conv
import HandS.More
import HandS.TupMul
import HandS.TupAny
import HandS.TupLe
import HandS.CallSlots
import HandS.SortInts
import KE.SortData
import PyProof.ReprReads
import HandS.Deep
import HandS.Text
import HandS.Replace
import HandS.TupSets
import HandS.Lambda
import KE.GoesEnum
import KE.GoesZip
import KE.GoesMore
import HandS.Base
import HandS.Call
import HandS.List
import HandS.Exc
import HandS.ExcOwn
import HandS.Ends
import HandS.EndTab
import PyProof.ReprRoads
import HandS.TryMany
import HandS.ExcIs
import HandS.WordsExc
import HandS.Style
import HandS.Strs
import HandS.NoneIn
import PyProof.ReprLen
import PySem.Challenge.RW_contactnets_k81_pieces_and_rings
set_option Elab.async false
set_option linter.all false
set_option autoImplicit false
set_option maxRecDepth 100000
set_option maxHeartbeats 4000000
/-! Z1: a small language of expressions and statements over plain data, and its evaluator. -/
namespace Z
open PySem

/-- a value: plain data, a mutable object by its number, a def, the script -/
inductive D where
  | b (x : PyData)
  | ref (n : Nat)
  | fn (f : Str)
  | scr (ns : List Int)
  | exc (c : Str)
/-- a mutable object -/
inductive MO where
  | lst (xs : List PyData)
  | any
  | rows (ks : List Nat)
abbrev Mem := List MO
abbrev Env := List (Option D)

/-- an expression's end -/
inductive R (α : Type) where
  | ok (a : α) (m : Mem)
  | ex (c : Str) (m : Mem)
  | bad
def R.bind {α β : Type} (x : R α) (f : α → Mem → R β) : R β :=
  match x with
  | .ok a m => f a m
  | .ex c m => .ex c m
  | .bad => .bad
/-- a statement's end -/
inductive RS where
  | nx (δ : Env) (m : Mem)
  | ret (d : D) (m : Mem)
  | brk (δ : Env) (m : Mem)
  | cont (δ : Env) (m : Mem)
  | ex (c : Str) (δ : Env) (m : Mem)
  | bad
def R.stmt {α : Type} (x : R α) (δ : Env) (f : α → Mem → RS) : RS :=
  match x with
  | .ok a m => f a m
  | .ex c m => .ex c δ m
  | .bad => .bad
def RS.seq (x : RS) (f : Env → Mem → RS) : RS :=
  match x with
  | .nx δ m => f δ m
  | r => r

/-- built-in functions -/
inductive Bi where
  | len | int | str | tuple | list | sorted | all | any | sum | min1 | max1 | min2 | max2 | repr | lrng1 | lrng2
/-- methods of lists and texts -/
inductive Me where
  | append | insert | extend | pop | popAt | clear
/-- a target of a for or an unpacking: one slot, or several -/
inductive Tg where
  | one (i : Nat) | many (is : List Nat)

/-- operations by value of forms of their own -/
inductive Op where
  | idx | repr | rev | sset | dget (kvs : List (Int × Int)) | cat | rep
  | kdx (d : Str) (tab : List (Str × Str)) | kdi (neg : Bool) (d : Str) (tab : List (Str × Str)) | join | split | intS | idxS
/-- what a def tells of an exception that it caught -/
inductive Ans where
  | s (t : Str) | l (ns : List Int)
deriving DecidableEq
def Ans.d : Ans → PyData
  | .s t => .str t
  | .l ns => .list (ns.map .int)
mutual
inductive E where
  | var (i : Nat)
  | int (i : Int)
  | bool (b : Bool)
  | none
  | str (s : Str)
  | glob (x : Str) (d : PyData)
  | gfn (x : Str)
  | bin (op : Operator) (a b : E)
  | neg (a : E)
  | not (a : E)
  | cmp (op : CmpOp) (a b : E)
  | chain (op op' : CmpOp) (a b c : E)
  | and (a b : E)
  | or (a b : E)
  | ife (c a b : E)
  | tup (es : Es)
  | lst (r : Bool) (es : Es)
  | ix (a i : E)
  | ixR (a i : E)
  | sl0 (a : E)
  | slL (a lo : E)
  | slH (a hi : E)
  | slB (a lo hi : E)
  | bi (f : Bi) (r : Bool) (es : Es)
  | isi (a : E) (t : String)
  | me (m : Me) (o : E) (es : Es)
  | call (r : Bool) (f : Str) (es : Es)
  | rowc (tg : Tg) (it : It) (e : E)
  | rcomp (i : Nat) (x e : E)
  | comp (r : Bool) (tg : Tg) (it : It) (e : E)
  | compI (r : Bool) (tg : Tg) (it : It) (c e : E)
  | idx (a x : E)
  | sm (o : Op) (r : Bool) (a x : E)
  | dic (kvs : List (Int × Int))
  | op (o : Op) (r : Bool) (es : Es)
  | said (g : Str) (b : E) (tab : List (Str × Ans))
  | pick (r : Bool) (fs : List Str) (i : E) (es : Es)
  | isx (a : E) (c : Str) (tab : List (Str × Bool))
  | dead
inductive Es where
  | nil
  | cons (e : E) (es : Es)
inductive It where
  | seq (e : E)
  | rng1 (a : E)
  | rng2 (a b : E)
  | enm (a : E)
  | zip (a b : E)
  | zip3 (a b c : E)
end
mutual
inductive S where
  | set (i : Nat) (e : E)
  | setT (is : List Nat) (e : E)
  | setP (is : List Nat) (es : Es)
  | setI (o i e : E)
  | expr (e : E)
  | ife (c : E) (a b : Ss)
  | whl (c : E) (b : Ss)
  | for (tg : Tg) (it : It) (b : Ss)
  | ret (e : E)
  | retN
  | pass
  | brk
  | cont
  | raise (x : Str)
  | dead
inductive Ss where
  | nil
  | cons (s : S) (ss : Ss)
end

/-- the most that a list may hold -/
def lim : Nat := 16777216

/-! ### values -/
def snap (m : Mem) : D → Option PyData
  | .b x => some x
  | .ref n => match m[n]? with
    | some (.lst xs) => some (.list xs)
    | _ => Option.none
  | _ => Option.none
def truth : PyData → Option Bool
  | .none => some false
  | .bool b => some b
  | .int i => some (i != 0)
  | .str s => if s.length ≤ lim then some (s.length != 0) else Option.none
  | .list xs => some (!xs.isEmpty)
  | .tuple xs => some (!xs.isEmpty)
  | .dict _ => Option.none
def intBin (op : Operator) (i j : Int) : Option Int :=
  match op with
  | .Add => some (i + j)
  | .Sub => some (i - j)
  | .Mult => if (-(2 ^ 64) < i ∧ i < 2 ^ 64) ∨ (-(2 ^ 64) < j ∧ j < 2 ^ 64) then some (i * j) else Option.none
  | .Mod => if 0 < j then some (i % j) else Option.none
  | .FloorDiv => if 0 < j ∧ j < 1073741824 then some (i / j) else Option.none
  | .Pow => if 0 ≤ j ∧ j ≤ 1000 ∧ i.natAbs < 2 ^ 64 then some (i ^ j.toNat) else Option.none
  | .LShift => if 0 ≤ j ∧ j ≤ 1000 ∧ i.natAbs < 2 ^ 64 then some (i * 2 ^ j.toNat) else Option.none
  | .RShift => if 0 ≤ j then some (i / 2 ^ j.toNat) else Option.none
  | .BitAnd => some (Builtin.bitAnd i j)
  | .BitOr => some (Builtin.bitOr i j)
  | .BitXor => some (Builtin.bitXor i j)
  | _ => Option.none
def binP (op : Operator) : PyData → PyData → Option PyData
  | .int i, .int j => (intBin op i j).map .int
  | .tuple xs, .tuple ys => match op with
    | .Add => if xs.length + ys.length ≤ lim then some (.tuple (xs ++ ys)) else Option.none
    | _ => Option.none
  | .list xs, .list ys => match op with
    | .Add => if xs.length + ys.length ≤ lim then some (.list (xs ++ ys)) else Option.none
    | _ => Option.none
  | .str x, .str y => match op with
    | .Add => if x.length + y.length ≤ lim then some (.str (x ++ y)) else Option.none
    | _ => Option.none
  | .tuple xs, .int k => match op with
    | .Mult => if xs ≠ [] ∧ 2 ≤ k ∧ k ≤ 1000 ∧ xs.length ≤ 1000 then some (.tuple (List.replicate k.toNat xs).flatten) else Option.none
    | _ => Option.none
  | .list xs, .int k => match op with
    | .Mult => if 0 ≤ k ∧ k ≤ 1000 ∧ xs.length ≤ 1000 then some (.list (List.replicate k.toNat xs).flatten) else Option.none
    | _ => Option.none
  | _, _ => Option.none
def isNoneD : PyData → Bool
  | .none => true
  | _ => false
/-- == may be asked of the two -/
def eqOk (x y : PyData) : Bool := x.canLay0 && y.canLay0 && (decide (x.depth ≤ 64) || decide (y.depth ≤ 64))
def cmpI (op : CmpOp) (i j : Int) : Option Bool :=
  match op with
  | .Lt => some (decide (i < j))
  | .LtE => some (decide (i ≤ j))
  | .Gt => some (decide (j < i))
  | .GtE => some (decide (j ≤ i))
  | _ => Option.none
def isIn (x y : PyData) : Option Bool :=
  match y with
  | .list ys => if eqOk x (.list ys) then some (ys.any fun z => PyData.eqv z x) else Option.none
  | .tuple ys => if eqOk x (.tuple ys) then some (ys.any fun z => PyData.eqv z x) else Option.none
  | .str z => match x with
    | .str c => match c.cps.toList with
      | [k] => some (decide (k ∈ z.cps.toList))
      | _ => Option.none
    | _ => Option.none
  | _ => Option.none
def isP (x y : PyData) : Option Bool :=
  match y with
  | .none => some (isNoneD x)
  | .bool b => match x with
    | .bool a => some (decide (a = b))
    | _ => Option.none
  | _ => Option.none
def intsOf : List PyData → Option (List Int)
  | [] => some []
  | .int i :: r => (intsOf r).map (i :: ·)
  | _ :: _ => Option.none
def boolsOf : List PyData → Option (List Bool)
  | [] => some []
  | .bool i :: r => (boolsOf r).map (i :: ·)
  | _ :: _ => Option.none
def ltP (x y : PyData) : Option Bool :=
  match x, y with
  | .tuple xs, .tuple ys => match intsOf xs, intsOf ys with
    | some a, some c => some (HT.lexLt a c)
    | _, _ => Option.none
  | _, _ => Option.none
def cmpP (op : CmpOp) (x y : PyData) : Option Bool :=
  match op with
  | .Eq => if eqOk x y then some (PyData.eqv x y) else Option.none
  | .NotEq => if eqOk x y then some (!PyData.eqv x y) else Option.none
  | .In => isIn x y
  | .NotIn => (isIn x y).map (!·)
  | .Is => isP x y
  | .IsNot => (isP x y).map (!·)
  | op => match x, y with
    | .int i, .int j => cmpI op i j
    | x, y => match op with
      | .Lt => ltP x y
      | _ => Option.none
def atP {α : Type} (xs : List α) (i : Int) : Option α := L2.atI xs i
def ixP : PyData → PyData → Option PyData
  | .list xs, .int i => atP xs i
  | .tuple xs, .int i => atP xs i
  | .str s, .int i => if s.length ≤ lim then (atP s.cps.toList i).map fun c => .str ⟨#[c]⟩ else Option.none
  | _, _ => Option.none
def cutP {α : Type} (xs : List α) (lo hi : Option Int) : List α :=
  (xs.drop (HT.sIx xs.length 0 lo)).take (HT.sIx xs.length xs.length hi - HT.sIx xs.length 0 lo)
def slP (x : PyData) (lo hi : Option Int) : Option PyData :=
  match x with
  | .list xs => some (.list (cutP xs lo hi))
  | .tuple xs => some (.tuple (cutP xs lo hi))
  | _ => Option.none
def rngP (a b : Int) : List PyData := (List.range (b - a).toNat).map fun i => .int (a + (i : Nat))
def rngOk (a b : Int) : Bool := decide (0 ≤ a ∧ a ≤ 16777216 ∧ 0 ≤ b ∧ b ≤ 16777216)
def minL : List Int → Int
  | [] => 0
  | [x] => x
  | x :: y :: r => min x (minL (y :: r))
def maxL : List Int → Int
  | [] => 0
  | [x] => x
  | x :: y :: r => max x (maxL (y :: r))
def sortI (ns : List Int) : List Int := ns.mergeSort fun a c => decide (a ≤ c)
def biP (f : Bi) (xs : List PyData) : Option PyData :=
  match f, xs with
  | .len, [.list ys] => some (.int ys.length)
  | .len, [.tuple ys] => some (.int ys.length)
  | .len, [.str s] => if s.length ≤ lim then some (.int s.length) else Option.none
  | .int, [.int i] => some (.int i)
  | .int, [.bool b] => some (.int (if b then 1 else 0))
  | .str, [.int i] => if i.natAbs.log2 < 1920 then some (.str (toString i)) else Option.none
  | .tuple, [.list ys] => some (.tuple ys)
  | .tuple, [.tuple ys] => some (.tuple ys)
  | .list, [.list ys] => some (.list ys)
  | .list, [.tuple ys] => some (.list ys)
  | .all, [.list ys] => (boolsOf ys).map fun bs => .bool (bs.all id)
  | .any, [.list ys] => (boolsOf ys).map fun bs => .bool (bs.any id)
  | .sum, [.list ys] => (intsOf ys).map fun ns => .int ns.sum
  | .sorted, [.list ys] => (intsOf ys).map fun ns => .list ((sortI ns).map .int)
  | .min1, [.list ys] => match intsOf ys with
    | some (n :: ns) => some (.int (minL (n :: ns)))
    | _ => Option.none
  | .max1, [.list ys] => match intsOf ys with
    | some (n :: ns) => some (.int (maxL (n :: ns)))
    | _ => Option.none
  | .min2, [.int i, .int j] => some (.int (if j < i then j else i))
  | .max2, [.int i, .int j] => some (.int (if j > i then j else i))
  | .lrng1, [.int j] => if rngOk 0 j then some (.list (rngP 0 j)) else Option.none
  | .lrng2, [.int i, .int j] => if rngOk i j then some (.list (rngP i j)) else Option.none
  | _, _ => Option.none
/-- the type of a datum -/
def tyP : PyData → String
  | .none => "NoneType"
  | .bool _ => "bool"
  | .int _ => "int"
  | .str _ => "str"
  | .list _ => "list"
  | .tuple _ => "tuple"
  | .dict _ => "dict"
def isiP (x : PyData) (t : String) : Option Bool := L2.kitB (tyP x) t

/-! ### the evaluator -/
/-- a value made: by value, or as a new object -/
def mk (r : Bool) (d : PyData) (m : Mem) : R D :=
  match r with
  | false => .ok (.b d) m
  | true => match d with
    | .list xs => .ok (.ref m.length) (m ++ [.lst xs])
    | _ => .bad
def okO (o : Option PyData) (m : Mem) : R D :=
  match o with
  | some d => .ok (.b d) m
  | Option.none => .bad
def snaps (m : Mem) : List D → Option (List PyData)
  | [] => some []
  | d :: ds => match snap m d with
    | some x => (snaps m ds).map (x :: ·)
    | Option.none => Option.none
def p1 (f : PyData → Option PyData) (x : D) (m : Mem) : R D :=
  match snap m x with
  | some a => okO (f a) m
  | Option.none => .bad
def p2 (f : PyData → PyData → Option PyData) (x y : D) (m : Mem) : R D :=
  match snap m x, snap m y with
  | some a, some c => okO (f a c) m
  | _, _ => .bad
/-- by value alone: what may stand within another thing -/
def own : D → Option PyData
  | .b x => some x
  | _ => Option.none
def owns : List D → Option (List PyData)
  | [] => some []
  | d :: ds => match own d with
    | some x => (owns ds).map (x :: ·)
    | Option.none => Option.none
def truthD (x : D) (m : Mem) : R Bool :=
  match snap m x with
  | some a => match truth a with
    | some b => .ok b m
    | Option.none => .bad
  | Option.none => .bad
def ixF (x y : D) (m : Mem) : R D :=
  match x, y with
  | .scr ns, .b (.int i) => match atP ns i with
    | some k => .ok (.b (.int k)) m
    | Option.none => .bad
  | x, y => p2 ixP x y m
/-- a list of lists: the list at a place -/
def ixRF (x y : D) (m : Mem) : R D :=
  match x, y with
  | .ref n, .b (.int i) => match m[n]? with
    | some (.rows ks) => match atP ks i with
      | some k => .ok (.ref k) m
      | Option.none => .bad
    | _ => .bad
  | _, _ => .bad
def strsOf : List PyData → Option (List Str)
  | [] => some []
  | .str i :: r => (strsOf r).map (i :: ·)
  | _ :: _ => Option.none
/-- put into a rising list, once -/
def insS (x : Int) : List Int → List Int
  | [] => [x]
  | y :: l => if x < y then x :: y :: l else if x = y then y :: l else y :: insS x l
/-- a list's members, rising, each once -/
def ssetI (ns : List Int) : List Int := ns.foldr insS []
/-- an operation by value -/
def opP (o : Op) (xs : List PyData) : Option PyData :=
  match o, xs with
  | .idx, [.list ds, d] => if PyData.canLayAll0 ds && d.canLay0 && decide (PyData.depthAll ds ≤ 63) && decide (d.depth ≤ 64) then (ds.findIdx? fun z => PyData.eqv z d).map fun j => .int (j : Nat) else Option.none
  | .repr, [d] => if d.showable && d.canLay0 && decide (d.depth ≤ 64) && decide (d.shown.length ≤ lim) then some (.str d.shown) else Option.none
  | .cat, [.list xs, .list ys] => if xs.length + ys.length ≤ lim then some (.list (xs ++ ys)) else Option.none
  | .rep, [.list xs, .int k] => if 0 ≤ k ∧ k ≤ 1000 ∧ xs.length ≤ 1000 then some (.list (List.replicate k.toNat xs).flatten) else Option.none
  | .rev, [.list xs] => some (.list xs.reverse)
  | .rev, [.tuple xs] => some (.tuple xs.reverse)
  | .dget kvs, [.int i] => match L2.valV (L2.mergeK [] (kvs.map fun p => ((Sum.inl p.1 : L2.Key), L2.V.int p.2))) (Sum.inl i) with
    | some (.int v) => some (.int v)
    | _ => Option.none
  | .sset, [.list xs] => match intsOf xs with
    | some ns => if ns.length ≤ 60 then some (.list ((ssetI ns).map .int)) else Option.none
    | Option.none => Option.none
  | .kdx _ tab, [.str z] => match tab.lookup z with
    | some y => some (.str y)
    | Option.none => Option.none
  | .kdi neg _ tab, [.str z] => some (.bool (if neg = true then !(tab.lookup z).isSome else (tab.lookup z).isSome))
  | .join, [.str a, .list xs] => match strsOf xs with
    | some ys => if (ys.map (·.length)).sum + ys.length * a.length ≤ lim then some (.str (Txt.join a ys)) else Option.none
    | Option.none => Option.none
  | .split, [.str a, .str b] => if (b.length == 0) = false ∧ a.length + 2 ≤ lim then some (.list ((Txt.split a b).map .str)) else Option.none
  | .intS, [.str a] => if a.length ≤ 640 then (PySem.intText? a).map .int else Option.none
  | .idxS, [.str a, .str b] => match Builtin.Str.occurrences a b 0 a.length 1 with
    | i :: _ => some (.int (i : Nat))
    | [] => Option.none
  | _, _ => Option.none
def opF (o : Op) (r : Bool) (xs : List D) (m : Mem) : R D :=
  match snaps m xs with
  | some ys => match opP o ys with
    | some d => mk r d m
    | Option.none => .bad
  | Option.none => .bad
/-- a list, by value or an object -/
def isL : D → Bool
  | .b (.list _) => true
  | .ref _ => true
  | _ => false
def isS : D → Bool
  | .b (.str _) => true
  | _ => false
def biF (f : Bi) (r : Bool) (xs : List D) (m : Mem) : R D :=
  match f, xs with
  | .len, [.scr ns] => .ok (.b (.int ns.length)) m
  | f, xs => match snaps m xs with
    | some ys => match biP f ys with
      | some d => mk r d m
      | Option.none => .bad
    | Option.none => .bad
/-- a method by value: what it gives, the list behind it -/
def meL (f : Me) (zs : List PyData) (xs : List PyData) : Option (PyData × List PyData) :=
  match f with
  | .append => match xs with
    | [y] => if zs.length < lim then some (.none, zs ++ [y]) else Option.none
    | _ => Option.none
  | .extend => match xs with
    | [y] => match y with
      | .list ys => if zs.length + ys.length ≤ lim then some (.none, zs ++ ys) else Option.none
      | _ => Option.none
    | _ => Option.none
  | .insert => match xs with
    | [x, y] => match x with
      | .int i => if zs.length < lim ∧ 0 ≤ i ∧ i ≤ zs.length then some (.none, zs.take i.toNat ++ [y] ++ zs.drop i.toNat) else Option.none
      | _ => Option.none
    | _ => Option.none
  | .pop => match xs with
    | [] => match zs[zs.length - 1]? with
      | some y => some (y, zs.dropLast)
      | Option.none => Option.none
    | _ => Option.none
  | .clear => match xs with
    | [] => some (.none, [])
    | _ => Option.none
  | .popAt => Option.none
def meA (f : Me) (m : Mem) (xs : List D) : Option (List PyData) :=
  match f with
  | .extend => snaps m xs
  | _ => owns xs
def meF (f : Me) (x : D) (xs : List D) (m : Mem) : R D :=
  match x with
  | .ref n => match m[n]? with
    | some (.lst zs) => match meA f m xs with
      | some ys => match meL f zs ys with
        | some (d, zs') => .ok (.b d) (m.set n (.lst zs'))
        | Option.none => .bad
      | Option.none => .bad
    | _ => .bad
  | _ => .bad
def setL (zs : List PyData) (i y : PyData) : Option (List PyData) :=
  match i with
  | .int k => match L2.ixN zs.length k with
    | some j => some (zs.set j y)
    | Option.none => Option.none
  | _ => Option.none
def setF (x i v : D) (m : Mem) : R Unit :=
  match x with
  | .ref n => match m[n]? with
    | some (.lst zs) => match owns [i, v] with
      | some [k, y] => match setL zs k y with
        | some zs' => .ok () (m.set n (.lst zs'))
        | Option.none => .bad
      | _ => .bad
    | _ => .bad
  | _ => .bad
/-- behind a call: what the callee made is dropped, but a list that it hands back -/
def leave (r : Bool) (k : Nat) (d : D) (m : Mem) : R D :=
  match d with
  | .ref n => if n < k then (if r then .ok (.ref n) (m.take k) else .bad) else match m[n]? with
    | some (.lst xs) => if r then .ok (.ref k) (m.take k ++ [.lst xs]) else .ok (.b (.list xs)) (m.take k)
    | _ => .bad
  | .b (.list xs) => if r then .bad else .ok (.b (.list xs)) (m.take k)
  | d => .ok d (m.take k)
def callF (run : Str → List D → Mem → R D) (r : Bool) (f : Str) (xs : List D) (m : Mem) : R D :=
  match run f xs m with
  | .ok d m' => leave r m.length d m'
  | .ex c m' => .ex c (m'.take m.length)
  | .bad => .bad

/-- a call that a def makes in a try: what that def tells of it -/
def saidF (tab : List (Str × Ans)) (m : Mem) (x : R D) : R D :=
  match x with
  | .ok _ m' => .ok (.b .none) (m'.take m.length)
  | .ex c m' => match tab.lookup c with
    | some d => .ok (.b d.d) (m'.take m.length)
    | Option.none => .bad
  | .bad => .bad
/-- one of several defs -/
def pickF (fs : List Str) (x : D) : Option Str :=
  match x with
  | .b (.int i) => atP fs i
  | _ => Option.none
def isxF (tab : List (Str × Bool)) (x : D) (m : Mem) : R D :=
  match x with
  | .b .none => .ok (.b (.bool false)) m
  | .exc c => match tab.lookup c with
    | some b => .ok (.b (.bool b)) m
    | Option.none => .bad
  | _ => .bad

/-- a list that a loop walks must stay as it is -/
abbrev Gd := Option (Nat × List PyData)
def gOk (g : Gd) (m : Mem) : Prop :=
  match g with
  | Option.none => True
  | some (n, xs) => m[n]? = some (.lst xs)
structure Items where
  xs : List PyData
  g : Gd
def itSeq (x : D) (m : Mem) : R Items :=
  match x with
  | .b (.list xs) => .ok ⟨xs, Option.none⟩ m
  | .b (.tuple xs) => .ok ⟨xs, Option.none⟩ m
  | .ref n => match m[n]? with
    | some (.lst xs) => .ok ⟨xs, some (n, xs)⟩ m
    | _ => .bad
  | _ => .bad
def itRng (x y : D) (m : Mem) : R Items :=
  match x, y with
  | .b (.int i), .b (.int j) => if rngOk i j then .ok ⟨rngP i j, Option.none⟩ m else .bad
  | _, _ => .bad
def pairs (xs ys : List PyData) : List PyData := List.zipWith (fun x y => .tuple [x, y]) xs ys
def itEnm (x : D) (m : Mem) : R Items := (itSeq x m).bind fun a m => .ok ⟨pairs (rngP 0 a.xs.length) a.xs, a.g⟩ m
def triples : List PyData → List PyData → List PyData → List PyData
  | x :: xs, y :: ys, z :: zs => .tuple [x, y, z] :: triples xs ys zs
  | _, _, _ => []
def itZip3 (x y z : D) (m : Mem) : R Items :=
  match x, y, z with
  | .b (.list xs), .b (.tuple ys), .b (.tuple zs) => .ok ⟨triples xs ys zs, Option.none⟩ m
  | _, _, _ => .bad
def itZip (x y : D) (m : Mem) : R Items :=
  match x, y with
  | .b (.list xs), .b (.list ys) => .ok ⟨pairs xs ys, Option.none⟩ m
  | .b (.tuple xs), .b (.tuple ys) => .ok ⟨pairs xs ys, Option.none⟩ m
  | .ref n, .b (.list ys) => match m[n]? with
    | some (.lst xs) => .ok ⟨pairs xs ys, some (n, xs)⟩ m
    | _ => .bad
  | _, _ => .bad

def sets : List Nat → List PyData → Env → Option Env
  | [], [], δ => some δ
  | i :: is, x :: xs, δ => sets is xs (δ.set i (some (.b x)))
  | _, _, _ => Option.none
def asgn (tg : Tg) (x : PyData) (δ : Env) : Option Env :=
  match tg with
  | .one i => some (δ.set i (some (.b x)))
  | .many is => match x with
    | .tuple xs => sets is xs δ
    | _ => Option.none
/-- an unpacking into several: of a tuple or a list -/
def asgnT (is : List Nat) (x : PyData) (δ : Env) : Option Env :=
  match x with
  | .tuple xs => sets is xs δ
  | .list xs => sets is xs δ
  | _ => Option.none
def setsD : List Nat → List D → Env → Option Env
  | [], [], δ => some δ
  | i :: is, x :: xs, δ => setsD is xs (δ.set i (some x))
  | _, _, _ => Option.none
def Tg.slots : Tg → List Nat
  | .one i => [i]
  | .many is => is
def clear (δ : Env) : List Nat → Env
  | [] => δ
  | i :: is => (clear δ is).set i Option.none

open Classical in
/-- a list comprehension's turns; the new list is the memory's k-th -/
noncomputable def compL (c : Env → Mem → R Bool) (e : Env → Mem → R D) (tg : Tg) (δ : Env) (g : Gd) (k : Nat) : List PyData → Mem → R Unit
  | [], m => if gOk g m then .ok () m else .bad
  | x :: xs, m => if gOk g m then match asgn tg x (clear δ tg.slots) with
      | some δ1 => match c δ1 m with
        | .ok true m1 => match e δ1 m1 with
          | .ok d m2 => match own d, m2[k]? with
            | some y, some (.lst zs) => if zs.length < lim then compL c e tg δ g k xs ((m2.take (k + 1)).set k (.lst (zs ++ [y]))) else .bad
            | _, _ => .bad
          | _ => .bad
        | .ok false m1 => compL c e tg δ g k xs (m1.take (k + 1))
        | _ => .bad
      | Option.none => .bad
    else .bad
/-- the outer list while it is made: empty at first, then not told -/
def heldAt (ks : List Nat) (o : Option MO) : Bool :=
  match ks, o with
  | [], some (.lst []) => true
  | _ :: _, some .any => true
  | _, _ => false
def isLst : MO → Bool
  | .lst _ => true
  | _ => false
open Classical in
/-- the turns of a comprehension that makes lists of the memory; the outer list is the memory's k-th -/
noncomputable def rowsL (e : Env → Mem → R D) (tg : Tg) (δ : Env) (g : Gd) (k : Nat) : List PyData → List Nat → Mem → R (List Nat)
  | [], ks, m => if gOk g m then .ok ks m else .bad
  | x :: xs, ks, m => if gOk g m then match asgn tg x (clear δ tg.slots) with
      | some δ1 => match e δ1 m with
        | .ok (.ref j) m2 => if k < j ∧ ks.length < lim ∧ heldAt ks m2[k]? = true then rowsL e tg δ g k xs (ks ++ [j]) (m2.set k .any) else .bad
        | _ => .bad
      | Option.none => .bad
    else .bad
def rowsE (k : Nat) (ks : List Nat) (m : Mem) : R D :=
  if heldAt ks m[k]? && (m.drop (k + 1)).all isLst && ks.all (fun j => decide (k < j)) then .ok (.ref (m.length - 1)) (m.take k ++ (m.drop (k + 1) ++ [.rows (ks.map fun j => j - 1)])) else .bad
open Classical in
/-- the turns of a comprehension over a list of lists (all, at n); the new list is the memory's k-th -/
noncomputable def rcL (e : Env → Mem → R D) (i : Nat) (δ : Env) (n : Nat) (all : List Nat) (k : Nat) : List Nat → Mem → R Unit
  | [], m => if m[n]? = some (.rows all) then .ok () m else .bad
  | j :: js, m => if m[n]? = some (.rows all) then match e ((clear δ [i]).set i (some (.ref j))) m with
      | .ok d m2 => match own d, m2[k]? with
        | some y, some (.lst zs) => if zs.length < lim then rcL e i δ n all k js ((m2.take (k + 1)).set k (.lst (zs ++ [y]))) else .bad
        | _, _ => .bad
      | _ => .bad
    else .bad
def rowsOf (d : D) (m : Mem) : Option (Nat × List Nat) :=
  match d with
  | .ref n => match m[n]? with
    | some (.rows ks) => some (n, ks)
    | _ => Option.none
  | _ => Option.none
open Classical in
/-- a for's turns -/
noncomputable def forL (b : Env → Mem → RS) (tg : Tg) (g : Gd) : List PyData → Env → Mem → RS
  | [], δ, m => if gOk g m then .nx δ m else .bad
  | x :: xs, δ, m => if gOk g m then match asgn tg x δ with
      | some δ1 => match b δ1 m with
        | .nx δ2 m2 => forL b tg g xs δ2 m2
        | .cont δ2 m2 => forL b tg g xs δ2 m2
        | .brk δ2 m2 => .nx δ2 m2
        | r => r
      | Option.none => .bad
    else .bad
/-- a while's turns -/
def whlL (c : Env → Mem → R Bool) (b : Env → Mem → RS) : Nat → Env → Mem → RS
  | 0, _, _ => .bad
  | n + 1, δ, m => match c δ m with
    | .ok false m1 => .nx δ m1
    | .ok true m1 => match b δ m1 with
      | .nx δ2 m2 => whlL c b n δ2 m2
      | .cont δ2 m2 => whlL c b n δ2 m2
      | .brk δ2 m2 => .nx δ2 m2
      | r => r
    | .ex c m1 => .ex c δ m1
    | .bad => .bad
/-- the most turns of a while -/
def turns : Nat := 1000000000

section
variable (run : Str → List D → Mem → R D)
mutual
noncomputable def ev : E → Env → Mem → R D
  | .var i, δ, m => match δ[i]? with
    | some (some d) => .ok d m
    | _ => .bad
  | .int i, _, m => .ok (.b (.int i)) m
  | .bool b, _, m => .ok (.b (.bool b)) m
  | .none, _, m => .ok (.b .none) m
  | .str s, _, m => .ok (.b (.str s)) m
  | .glob _ d, _, m => .ok (.b d) m
  | .gfn x, _, m => .ok (.fn x) m
  | .bin op a b, δ, m => (ev a δ m).bind fun x m => (ev b δ m).bind fun y m => p2 (binP op) x y m
  | .neg a, δ, m => (ev a δ m).bind fun x m => match x with
    | .b (.int i) => .ok (.b (.int (-i))) m
    | _ => .bad
  | .not a, δ, m => ((ev a δ m).bind truthD).bind fun b m => .ok (.b (.bool (!b))) m
  | .cmp op a b, δ, m => (ev a δ m).bind fun x m => (ev b δ m).bind fun y m => p2 (fun x y => (cmpP op x y).map .bool) x y m
  | .chain op op' a b c, δ, m => (ev a δ m).bind fun x m => (ev b δ m).bind fun y m => (p2 (fun x y => (cmpP op x y).map .bool) x y m).bind fun z m => match z with
    | .b (.bool true) => (ev c δ m).bind fun w m => p2 (fun x y => (cmpP op' x y).map .bool) y w m
    | .b (.bool false) => .ok (.b (.bool false)) m
    | _ => .bad
  | .and a b, δ, m => (ev a δ m).bind fun x m => match x with
    | .b (.bool true) => ev b δ m
    | .b (.bool false) => .ok (.b (.bool false)) m
    | _ => .bad
  | .or a b, δ, m => (ev a δ m).bind fun x m => match x with
    | .b (.bool false) => ev b δ m
    | .b (.bool true) => .ok (.b (.bool true)) m
    | _ => .bad
  | .ife c a b, δ, m => ((ev c δ m).bind truthD).bind fun t m => if t = true then ev a δ m else ev b δ m
  | .tup es, δ, m => (evs es δ m).bind fun xs m => match owns xs with
    | some ys => if ys.length ≤ lim then .ok (.b (.tuple ys)) m else .bad
    | Option.none => .bad
  | .lst r es, δ, m => (evs es δ m).bind fun xs m => match owns xs with
    | some ys => if ys.length ≤ lim then mk r (.list ys) m else .bad
    | Option.none => .bad
  | .ix a i, δ, m => (ev a δ m).bind fun x m => (ev i δ m).bind fun y m => ixF x y m
  | .ixR a i, δ, m => (ev a δ m).bind fun x m => (ev i δ m).bind fun y m => ixRF x y m
  | .sl0 a, δ, m => (ev a δ m).bind fun x m => p1 (fun x => slP x Option.none Option.none) x m
  | .slL a lo, δ, m => (ev a δ m).bind fun x m => (ev lo δ m).bind fun y m => match y with
    | .b (.int i) => p1 (fun x => slP x (some i) Option.none) x m
    | _ => .bad
  | .slH a hi, δ, m => (ev a δ m).bind fun x m => (ev hi δ m).bind fun y m => match y with
    | .b (.int i) => p1 (fun x => slP x Option.none (some i)) x m
    | _ => .bad
  | .slB a lo hi, δ, m => (ev a δ m).bind fun x m => (ev lo δ m).bind fun y m => match y with
    | .b (.int i) => (ev hi δ m).bind fun z m => match z with
      | .b (.int j) => p1 (fun x => slP x (some i) (some j)) x m
      | _ => .bad
    | _ => .bad
  | .bi f r es, δ, m => (evs es δ m).bind fun xs m => biF f r xs m
  | .isi a t, δ, m => (ev a δ m).bind fun x m => p1 (fun x => (isiP x t).map .bool) x m
  | .me f o es, δ, m => (ev o δ m).bind fun x m => match x with
    | .ref n => (evs es δ m).bind fun xs m => meF f (.ref n) xs m
    | _ => .bad
  | .call r f es, δ, m => (evs es δ m).bind fun xs m => callF run r f xs m
  | .rcomp i x e, δ, m => (ev x δ m).bind fun d m => match rowsOf d m with
    | some p => (rcL (fun δ m => ev e δ m) i δ p.1 p.2 m.length p.2 (m ++ [.lst []])).bind fun _ m' => leave false m.length (.ref m.length) m'
    | Option.none => .bad
  | .rowc tg it e, δ, m => (evI it δ m).bind fun a m => (rowsL (fun δ m => ev e δ m) tg δ a.g m.length a.xs [] (m ++ [.lst []])).bind fun ks m' => rowsE m.length ks m'
  | .comp r tg it e, δ, m => (evI it δ m).bind fun a m => (compL (fun _ m => .ok true m) (fun δ m => ev e δ m) tg δ a.g m.length a.xs (m ++ [.lst []])).bind fun _ m' => leave r m.length (.ref m.length) m'
  | .compI r tg it c e, δ, m => (evI it δ m).bind fun a m => (compL (fun δ m => (ev c δ m).bind truthD) (fun δ m => ev e δ m) tg δ a.g m.length a.xs (m ++ [.lst []])).bind fun _ m' => leave r m.length (.ref m.length) m'
  | .idx a x, δ, m => (ev a δ m).bind fun d m => if isL d = true then (ev x δ m).bind fun y m => opF .idx false [d, y] m else .bad
  | .sm o r a x, δ, m => (ev a δ m).bind fun d m => if isS d = true then (ev x δ m).bind fun y m => opF o r [d, y] m else .bad
  | .dic kvs, _, m => .ok (.b (.dict (kvs.map fun p => (.int p.1, .int p.2)))) m
  | .op o r es, δ, m => (evs es δ m).bind fun xs m => opF o r xs m
  | .said _ b tab, δ, m => saidF tab m (ev b δ m)
  | .pick r fs i es, δ, m => (ev i δ m).bind fun x m => match pickF fs x with
    | some f => (evs es δ m).bind fun xs m => callF run r f xs m
    | Option.none => .bad
  | .isx a _ tab, δ, m => (ev a δ m).bind fun x m => isxF tab x m
  | .dead, _, _ => .bad
noncomputable def evs : Es → Env → Mem → R (List D)
  | .nil, _, m => .ok [] m
  | .cons e es, δ, m => (ev e δ m).bind fun x m => (evs es δ m).bind fun xs m => .ok (x :: xs) m
noncomputable def evI : It → Env → Mem → R Items
  | .seq e, δ, m => (ev e δ m).bind itSeq
  | .rng1 a, δ, m => (ev a δ m).bind fun y m => itRng (.b (.int 0)) y m
  | .rng2 a b, δ, m => (ev a δ m).bind fun x m => (ev b δ m).bind fun y m => itRng x y m
  | .enm a, δ, m => (ev a δ m).bind itEnm
  | .zip a b, δ, m => (ev a δ m).bind fun x m => (ev b δ m).bind fun y m => itZip x y m
  | .zip3 a b c, δ, m => (ev a δ m).bind fun x m => (ev b δ m).bind fun y m => (ev c δ m).bind fun z m => itZip3 x y z m
end
mutual
noncomputable def evS : S → Env → Mem → RS
  | .set i e, δ, m => (ev run e δ m).stmt δ fun x m => .nx (δ.set i (some x)) m
  | .setT is e, δ, m => (ev run e δ m).stmt δ fun x m => match x with
    | .b d => match asgnT is d δ with
      | some δ' => .nx δ' m
      | Option.none => .bad
    | _ => .bad
  | .setP is es, δ, m => (evs run es δ m).stmt δ fun xs m => match setsD is xs δ with
    | some δ' => .nx δ' m
    | Option.none => .bad
  | .setI o i e, δ, m => (ev run e δ m).stmt δ fun v m => (ev run o δ m).stmt δ fun x m => (ev run i δ m).stmt δ fun y m => (setF x y v m).stmt δ fun _ m => .nx δ m
  | .expr e, δ, m => (ev run e δ m).stmt δ fun _ m => .nx δ m
  | .ife c a b, δ, m => ((ev run c δ m).bind truthD).stmt δ fun t m => if t = true then evSs a δ m else evSs b δ m
  | .whl c b, δ, m => whlL (fun δ m => (ev run c δ m).bind truthD) (fun δ m => evSs b δ m) turns δ m
  | .for tg it b, δ, m => (evI run it δ m).stmt δ fun a m => forL (fun δ m => evSs b δ m) tg a.g a.xs δ m
  | .ret e, δ, m => (ev run e δ m).stmt δ fun x m => .ret x m
  | .retN, _, m => .ret (.b .none) m
  | .pass, δ, m => .nx δ m
  | .brk, δ, m => .brk δ m
  | .cont, δ, m => .cont δ m
  | .raise x, δ, m => .ex x δ m
  | .dead, _, _ => .bad
noncomputable def evSs : Ss → Env → Mem → RS
  | .nil, δ, m => .nx δ m
  | .cons s ss, δ, m => (evS s δ m).seq fun δ m => evSs ss δ m
end
end
/-- what is known of the module: its whole numbers; the classes of exceptions; what is a class's of them; defs that make a call in a try -/
structure GI where
  nums : List (Str × Int) := []
  excs : List Str := []
  subs : List (Str × List (Str × Bool)) := []
  saids : List (Str × List (Str × Ans)) := []
  dcts : List (Str × List (Str × Str)) := []
  txts : List (Str × Str) := []
/-- a def: how many parameters, how many slots, its body -/
structure Fd where
  ps : Nat
  n : Nat
  body : Ss
abbrev Tab := Str → Option Fd
def startE (n : Nat) (xs : List D) : Env := xs.map some ++ List.replicate (n - xs.length) Option.none
def endB (r : RS) : R D :=
  match r with
  | .nx _ m => .ok (.b .none) m
  | .ret d m => .ok d m
  | .ex c _ m => .ex c m
  | _ => .bad
noncomputable def run (G : Tab) : Nat → Str → List D → Mem → R D
  | 0, _, _, _ => .bad
  | n + 1, f, xs, m => match G f with
    | some fd => if xs.length = fd.ps ∧ fd.ps ≤ fd.n then endB (evSs (run G n) fd.body (startE fd.n xs) m) else .bad
    | Option.none => .bad
end Z

/-! Z2: how plain data and the memory lie in the abstract heap. -/
namespace Z
open PySem PySem.Spec PyProof.Rows L2
theorem lim_eq : lim = sizeLine := by rw [sizeLine_eq]; rfl

mutual
/-- by value: no list of it is an object that may be changed (r) -/
def RepB (r : List Addr) (H : Hp) : PyData → V → Prop
  | .none, v => v = .non
  | .bool b, v => v = .bl b
  | .int i, v => v = .int i
  | .str s, v => v = .str s
  | .tuple xs, v => ∃ a vs, v = .ref a ∧ H a = some (.tup vs) ∧ RepBs r H xs vs
  | .list xs, v => ∃ a vs, v = .ref a ∧ H a = some (.lst vs) ∧ a ∉ r ∧ RepBs r H xs vs
  | .dict _, v => ∃ a u, v = .ref a ∧ H a = some (.dK u) ∧ a ∉ r
def RepBs (r : List Addr) (H : Hp) : List PyData → List V → Prop
  | [], vs => vs = []
  | x :: xs, vs => ∃ v ws, vs = v :: ws ∧ RepB r H x v ∧ RepBs r H xs ws
end
theorem RepBs.pair {r : List Addr} {H : Hp} : ∀ {xs : List PyData} {vs : List V}, RepBs r H xs vs ↔ Paired (RepB r H) xs vs
  | [], vs => by
    rw [RepBs]
    constructor
    · rintro rfl; exact .nil
    · intro h; cases h; rfl
  | x :: xs, vs => by
    rw [RepBs]
    constructor
    · rintro ⟨v, ws, rfl, h1, h2⟩; exact .cons h1 (RepBs.pair.mp h2)
    · intro h
      cases h with
      | cons h1 h2 => exact ⟨_, _, rfl, h1, RepBs.pair.mpr h2⟩

/-! ### lists side by side -/
section
variable {α β : Type} {F : α → β → Prop}
theorem pr_append : ∀ {xs : List α} {vs : List β} {ys : List α} {ws : List β}, Paired F xs vs → Paired F ys ws → Paired F (xs ++ ys) (vs ++ ws)
  | _, _, _, _, .nil, h => h
  | _, _, _, _, .cons a b, h => .cons a (pr_append b h)
theorem pr_take : ∀ {xs : List α} {vs : List β} (n : Nat), Paired F xs vs → Paired F (xs.take n) (vs.take n)
  | _, _, 0, _ => .nil
  | _, _, _ + 1, .nil => .nil
  | _, _, n + 1, .cons a b => .cons a (pr_take n b)
theorem pr_drop : ∀ {xs : List α} {vs : List β} (n : Nat), Paired F xs vs → Paired F (xs.drop n) (vs.drop n)
  | _, _, 0, h => h
  | _, _, _ + 1, .nil => .nil
  | _, _, n + 1, .cons _ b => pr_drop n b
theorem pr_set : ∀ {xs : List α} {vs : List β} (n : Nat) {x : α} {v : β}, Paired F xs vs → F x v → Paired F (xs.set n x) (vs.set n v)
  | _, _, _, _, _, .nil, _ => .nil
  | _, _, 0, _, _, .cons _ b, h => .cons h b
  | _, _, n + 1, _, _, .cons a b, h => .cons a (pr_set n b h)
theorem pr_get : ∀ {xs : List α} {vs : List β} {n : Nat} {x : α}, Paired F xs vs → xs[n]? = some x → ∃ v, vs[n]? = some v ∧ F x v
  | _, _, _, _, .nil, h => by simp at h
  | _, _, 0, _, .cons a _, h => by simp at h; subst h; exact ⟨_, by simp, a⟩
  | _, _, n + 1, _, .cons _ b, h => by
    obtain ⟨v, h1, h2⟩ := pr_get (n := n) b (by simpa using h)
    exact ⟨v, by simpa using h1, h2⟩
theorem pr_rep (k : Nat) {xs : List α} {vs : List β} (h : Paired F xs vs) : Paired F (List.replicate k xs).flatten (List.replicate k vs).flatten := by
  induction k with
  | zero => exact .nil
  | succ k ih => rw [List.replicate_succ, List.replicate_succ, List.flatten_cons, List.flatten_cons]; exact pr_append h ih
theorem pr_dropLast {xs : List α} {vs : List β} (h : Paired F xs vs) : Paired F xs.dropLast vs.dropLast := by
  have e := Paired.length h
  rw [List.dropLast_eq_take, List.dropLast_eq_take, e]
  exact pr_take _ h
theorem pr_imp {G : α → β → Prop} : ∀ {xs : List α} {vs : List β}, Paired F xs vs → (∀ x v, x ∈ xs → F x v → G x v) → Paired G xs vs
  | _, _, .nil, _ => .nil
  | _, _, .cons a b, h => .cons (h _ _ (List.mem_cons_self ..) a) (pr_imp b fun x v m => h x v (List.mem_cons_of_mem _ m))
theorem pr_nil {vs : List β} (h : Paired F [] vs) : vs = [] := by cases h; rfl
theorem pr_of_get : ∀ {xs : List α} {vs : List β}, xs.length = vs.length → (∀ (n : Nat) x v, xs[n]? = some x → vs[n]? = some v → F x v) → Paired F xs vs
  | [], [], _, _ => .nil
  | x :: xs, v :: vs, e, h => .cons (h 0 x v (by simp) (by simp)) (pr_of_get (by simpa using e) fun n y w h1 h2 => h (n + 1) y w (by simpa using h1) (by simpa using h2))
end

theorem pr_flip {α β : Type} {F : α → β → Prop} : ∀ {xs : List α} {vs : List β}, Paired F xs vs → Paired (fun v x => F x v) vs xs
  | _, _, .nil => .nil
  | _, _, .cons a b => .cons a (pr_flip b)
/-! ### the memory -/
def RepMO (r : List Addr) (H : Hp) (a : Addr) : MO → Prop
  | .lst xs => ∃ vs, H a = some (.lst vs) ∧ RepBs r H xs vs
  | .any => ∃ vs, H a = some (.lst vs)
  | .rows ks => ∃ vs, H a = some (.lst vs) ∧ Paired (fun k v => ∃ b, r[k]? = some b ∧ v = V.ref b) ks vs
/-- the tables of code objects, of the defs that make lambdas -/
class TabC where
  T : List (Addr × Str)
  X : Addr → Str → Prop := fun _ _ => False
variable [TabC]
/-- the memory's objects lie at r -/
structure Rel (r : List Addr) (H : Hp) (m : Mem) : Prop where
  len : r.length = m.length
  nd : r.Nodup
  at_ : ∀ (n : Nat) a o, r[n]? = some a → m[n]? = some o → RepMO r H a o
  tab : LamX.Tabs TabC.T H
  low : ∀ (n : Nat) ks, m[n]? = some (.rows ks) → ∀ k ∈ ks, k < n
/-- from (r, H) to (r', H'): what is not r's stays -/
structure Ext (r : List Addr) (H : Hp) (r' : List Addr) (H' : Hp) : Prop where
  pre : r <+: r'
  fresh : ∀ a ∈ r', a ∈ r ∨ H a = none ∨ ∃ q, H a = some (.tbl q)
  keep : ∀ a o, H a = some o → a ∉ r → (∀ q, o ≠ .tbl q) → H' a = some o
  tups : ∀ a vs, H a = some (.tup vs) → H' a = some (.tup vs)
  frzs : ∀ a o u, H a = some (.frz o u) → H' a = some (.frz o u)
  tabs : LamX.Tabs TabC.T H → LamX.Tabs TabC.T H'
  rows : ∀ a vs, H a = some (.lst vs) → (∃ b, b ∈ r ∧ V.ref b ∈ vs) → H' a = some (.lst vs)
theorem Ext.refl (r : List Addr) (H : Hp) : Ext r H r H := ⟨List.prefix_refl r, fun _ h => .inl h, fun _ _ h _ _ => h, fun _ _ h => h, fun _ _ _ h => h, fun h => h, fun _ _ h _ => h⟩
section
variable {r r1 r2 r' : List Addr} {H H1 H2 H' : Hp} {m m' : Mem}
theorem Ext.sub (e : Ext r H r' H') {a : Addr} (h : a ∈ r) : a ∈ r' := e.pre.subset h
theorem Ext.trans (e : Ext r H r1 H1) (f : Ext r1 H1 r2 H2) : Ext r H r2 H2 where
  pre := e.pre.trans f.pre
  fresh := fun a h => by
    cases q : H a with
    | none => exact .inr (.inl rfl)
    | some o =>
      by_cases h2 : a ∈ r
      · exact .inl h2
      · by_cases ht : ∃ z, o = .tbl z
        · obtain ⟨z, rfl⟩ := ht
          exact .inr (.inr ⟨z, rfl⟩)
        · have k := e.keep a o q h2 fun z y => ht ⟨z, y⟩
          rcases f.fresh a h with h1 | h1 | ⟨z, h1⟩
          · rcases e.fresh a h1 with h3 | h3 | ⟨z, h3⟩
            · exact absurd h3 h2
            · rw [q] at h3; cases h3
            · rw [q] at h3; cases h3; exact absurd ⟨z, rfl⟩ ht
          · rw [k] at h1; cases h1
          · rw [k] at h1; cases h1; exact absurd ⟨z, rfl⟩ ht
  keep := fun a o h n t => f.keep a o (e.keep a o h n t) (fun h1 => by
    rcases e.fresh a h1 with h2 | h2 | ⟨z, h2⟩
    · exact n h2
    · rw [h] at h2; cases h2
    · rw [h] at h2; cases h2; exact t z rfl) t
  tups := fun a vs h => f.tups a vs (e.tups a vs h)
  frzs := fun a o u h => f.frzs a o u (e.frzs a o u h)
  tabs := fun h => f.tabs (e.tabs h)
  rows := fun a vs h b => f.rows a vs (e.rows a vs h b) (b.imp fun _ z => ⟨e.pre.subset z.1, z.2⟩)
theorem Ext.notin (e : Ext r H r' H') {a : Addr} {o : HO} (h : H a = some o) (n : a ∉ r) (t : ∀ q, o ≠ .tbl q) : a ∉ r' := fun h1 => by
  rcases e.fresh a h1 with h2 | h2 | ⟨z, h2⟩
  · exact n h2
  · rw [h] at h2; cases h2
  · rw [h] at h2; cases h2; exact t z rfl
theorem Ext.at_ (e : Ext r H r' H') {n : Nat} {a : Addr} (h : r[n]? = some a) : r'[n]? = some a := by
  obtain ⟨t, rfl⟩ := e.pre
  rw [List.getElem?_append_left (List.getElem?_eq_some_iff.mp h).1]
  exact h
mutual
theorem RepB.ext (e : Ext r H r' H') : ∀ (x : PyData) {v : V}, RepB r H x v → RepB r' H' x v
  | .none, _, h => h
  | .bool _, _, h => h
  | .int _, _, h => h
  | .str _, _, h => h
  | .tuple xs, v, h => by
    rw [RepB] at h ⊢
    obtain ⟨a, vs, ev, ha, h⟩ := h
    exact ⟨a, vs, ev, e.tups a vs ha, RepBs.ext e xs h⟩
  | .list xs, v, h => by
    rw [RepB] at h ⊢
    obtain ⟨a, vs, ev, ha, hn, h⟩ := h
    exact ⟨a, vs, ev, e.keep a _ ha hn (fun q z => by cases z), e.notin ha hn (fun q z => by cases z), RepBs.ext e xs h⟩
  | .dict _, v, h => by
    rw [RepB] at h ⊢
    obtain ⟨a, u, ev, ha, hn⟩ := h
    exact ⟨a, u, ev, e.keep a _ ha hn (fun q z => by cases z), e.notin ha hn (fun q z => by cases z)⟩
theorem RepBs.ext (e : Ext r H r' H') : ∀ (xs : List PyData) {vs : List V}, RepBs r H xs vs → RepBs r' H' xs vs
  | [], _, h => by rw [RepBs] at h ⊢; exact h
  | x :: xs, _, h => by
    rw [RepBs] at h ⊢
    obtain ⟨v, ws, ev, h1, h2⟩ := h
    exact ⟨v, ws, ev, RepB.ext e x h1, RepBs.ext e xs h2⟩
end
mutual
/-- fewer objects of ours -/
theorem RepB.less (k : ∀ a, a ∈ r' → a ∈ r) : ∀ (x : PyData) {v : V}, RepB r H x v → RepB r' H x v
  | .none, _, h => h
  | .bool _, _, h => h
  | .int _, _, h => h
  | .str _, _, h => h
  | .tuple xs, v, h => by
    rw [RepB] at h ⊢
    obtain ⟨a, vs, ev, ha, h⟩ := h
    exact ⟨a, vs, ev, ha, RepBs.less k xs h⟩
  | .list xs, v, h => by
    rw [RepB] at h ⊢
    obtain ⟨a, vs, ev, ha, hn, h⟩ := h
    exact ⟨a, vs, ev, ha, fun z => hn (k a z), RepBs.less k xs h⟩
  | .dict _, v, h => by
    rw [RepB] at h ⊢
    obtain ⟨a, u, ev, ha, hn⟩ := h
    exact ⟨a, u, ev, ha, fun z => hn (k a z)⟩
theorem RepBs.less (k : ∀ a, a ∈ r' → a ∈ r) : ∀ (xs : List PyData) {vs : List V}, RepBs r H xs vs → RepBs r' H xs vs
  | [], _, h => by rw [RepBs] at h ⊢; exact h
  | x :: xs, _, h => by
    rw [RepBs] at h ⊢
    obtain ⟨v, ws, ev, h1, h2⟩ := h
    exact ⟨v, ws, ev, RepB.less k x h1, RepBs.less k xs h2⟩
end
theorem Rel.obj (R : Rel r H m) {a : Addr} (h : a ∈ r) : ∃ vs, H a = some (.lst vs) := by
  obtain ⟨n, hn, e⟩ := List.getElem_of_mem h
  have h1 : r[n]? = some a := by rw [List.getElem?_eq_getElem hn, e]
  have h2 : n < m.length := by rw [← R.len]; exact hn
  have h3 := R.at_ n a m[n] h1 (List.getElem?_eq_getElem h2)
  cases q : m[n] with
  | lst xs =>
    rw [q] at h3
    obtain ⟨vs, h4, _⟩ := h3
    exact ⟨vs, h4⟩
  | any => rw [q] at h3; exact h3
  | rows ks =>
    rw [q] at h3
    obtain ⟨vs, h4, _⟩ := h3
    exact ⟨vs, h4⟩
theorem Rel.notin (R : Rel r H m) {a : Addr} (h : H a = none) : a ∉ r := fun z => by
  obtain ⟨vs, e⟩ := R.obj z
  rw [h] at e; cases e
theorem Rel.addr (R : Rel r H m) {n : Nat} {o : MO} (h : m[n]? = some o) : ∃ a, r[n]? = some a := by
  have h2 : n < r.length := by rw [R.len]; exact (List.getElem?_eq_some_iff.mp h).1
  exact ⟨r[n], List.getElem?_eq_getElem h2⟩
theorem Rel.inj (R : Rel r H m) {n k : Nat} {a : Addr} (h : r[n]? = some a) (h' : r[k]? = some a) : n = k := by
  obtain ⟨h1, e1⟩ := List.getElem?_eq_some_iff.mp h
  obtain ⟨h2, e2⟩ := List.getElem?_eq_some_iff.mp h'
  exact (List.getElem_inj R.nd).mp (e1.trans e2.symm)

/-- a new thing that is not the memory's -/
theorem Ext.new {p : Addr} {o : HO} (h : H p = none) : Ext r H r (upd H p o) := by
  refine ⟨List.prefix_refl r, fun _ h => .inl h, fun a o' q _ _ => ?_, fun a vs q => ?_, fun a o' u q => ?_, fun t => t.ext fun b o' q => ?_, fun a vs q _ => ?_⟩
  all_goals
    rw [upd_ne (ne_of_none q h)]
    exact q
/-- a thing of the memory, elsewhere -/
theorem RepMO.ext {a : Addr} {o : MO} (e : Ext r H r' H') (k : H' a = H a) (h : RepMO r H a o) : RepMO r' H' a o := by
  cases o with
  | lst xs =>
    obtain ⟨vs, h4, h5⟩ := h
    exact ⟨vs, by rw [k]; exact h4, h5.ext e xs⟩
  | any =>
    obtain ⟨vs, h4⟩ := h
    exact ⟨vs, by rw [k]; exact h4⟩
  | rows ks =>
    obtain ⟨vs, h4, h5⟩ := h
    exact ⟨vs, by rw [k]; exact h4, pr_imp h5 fun x v _ z => by
      obtain ⟨b, z1, z2⟩ := z
      exact ⟨b, e.at_ z1, z2⟩⟩
omit [TabC] in
theorem RepMO.lst' {a : Addr} {o : MO} (h : RepMO r H a o) : ∃ vs, H a = some (.lst vs) := by
  cases o with
  | lst xs => exact h.imp fun _ z => z.1
  | any => exact h
  | rows ks => exact h.imp fun _ z => z.1
theorem Rel.same (R : Rel r H m) (e : Ext r H r H') (k : ∀ a ∈ r, H' a = H a) : Rel r H' m := by
  exact ⟨R.len, R.nd, fun n a o h1 h2 => (R.at_ n a o h1 h2).ext e (k a (List.mem_of_getElem? h1)), e.tabs R.tab, R.low⟩
theorem Rel.new (R : Rel r H m) {p : Addr} {o : HO} (h : H p = none) : Rel r (upd H p o) m :=
  R.same (.new h) fun a ha => upd_ne fun z => R.notin h (z ▸ ha)
/-- a new list of the memory -/
theorem Ext.alloc {p : Addr} {o : HO} (h : H p = none) : Ext r H (r ++ [p]) (upd H p o) := by
  refine ⟨List.prefix_append r [p], fun a ha => ?_, fun a o' q _ _ => ?_, fun a vs q => ?_, fun a o' u q => ?_, fun t => t.ext fun b o' q => ?_, fun a vs q _ => ?_⟩
  · rcases List.mem_append.mp ha with z | z
    · exact .inl z
    · rw [List.mem_singleton.mp z]; exact .inr (.inl h)
  all_goals
    rw [upd_ne (ne_of_none q h)]
    exact q
theorem Rel.alloc (R : Rel r H m) {p : Addr} {xs : List PyData} {vs : List V} (h : H p = none) (q : RepBs r H xs vs) : Rel (r ++ [p]) (upd H p (.lst vs)) (m ++ [.lst xs]) := by
  have hp := R.notin h
  refine ⟨by rw [List.length_append, List.length_append, R.len]; rfl, ?_, fun n a o h1 h2 => ?_, (Ext.alloc (r := r) h).tabs R.tab, fun n ks hn => ?_⟩
  · rw [List.nodup_append]
    refine ⟨R.nd, by simp, fun a ha b hb => ?_⟩
    rw [List.mem_singleton.mp hb]
    exact fun z => hp (z ▸ ha)
  · by_cases hn : n < r.length
    · rw [List.getElem?_append_left hn] at h1
      rw [List.getElem?_append_left (by rw [← R.len]; exact hn)] at h2
      have h3 := R.at_ n a o h1 h2
      obtain ⟨ws, h4⟩ := h3.lst'
      exact h3.ext (.alloc h) (upd_ne (ne_of_none h4 h))
    · rw [List.getElem?_append_right (by omega)] at h1
      rw [List.getElem?_append_right (by rw [← R.len]; omega)] at h2
      have e1 : n - r.length = 0 := by
        have := (List.getElem?_eq_some_iff.mp h1).1
        simp at this; omega
      rw [e1] at h1
      rw [← R.len, e1] at h2
      simp at h1 h2
      subst h1 h2
      exact ⟨vs, upd_same, q.ext (.alloc h) xs⟩
  · by_cases hl : n < m.length
    · rw [List.getElem?_append_left hl] at hn
      exact R.low n ks hn
    · rw [List.getElem?_append_right (by omega)] at hn
      have := (List.getElem?_eq_some_iff.mp hn).1
      have e1 : n - m.length = 0 := by simp at this; omega
      rw [e1] at hn
      cases hn
/-- no plain datum is a list of ours -/
theorem RepB.noref (R : Rel r H m) {b : Addr} (hb : b ∈ r) : ∀ (x : PyData), ¬ RepB r H x (V.ref b)
  | .none, h => by rw [RepB] at h; cases h
  | .bool _, h => by rw [RepB] at h; cases h
  | .int _, h => by rw [RepB] at h; cases h
  | .str _, h => by rw [RepB] at h; cases h
  | .tuple xs, h => by
    rw [RepB] at h
    obtain ⟨a, vs, ev, ha, _⟩ := h
    cases ev
    obtain ⟨ws, e⟩ := R.obj hb
    rw [ha] at e; cases e
  | .list xs, h => by
    rw [RepB] at h
    obtain ⟨a, vs, ev, ha, hn, _⟩ := h
    cases ev
    exact hn hb
  | .dict _, h => by
    rw [RepB] at h
    obtain ⟨a, u, ev, ha, hn⟩ := h
    cases ev
    exact hn hb
theorem RepBs.noref (R : Rel r H m) {xs : List PyData} {vs : List V} (h : RepBs r H xs vs) : ∀ b, b ∈ r → V.ref b ∉ vs := fun b hb hv => by
  obtain ⟨n, hn⟩ := List.mem_iff_getElem?.mp hv
  have p := RepBs.pair.mp h
  obtain ⟨x, h1, h2⟩ := pr_get (F := fun v x => RepB r H x v) (pr_flip p) hn
  exact RepB.noref R hb x h2
omit [TabC] in
theorem tab_write {a P : Addr} {o : HO} {vs : List V} {q : Str} (h : H a = some (.lst vs)) (t : LamX.TabS H P q) : LamX.TabS (upd H a o) P q := by
  obtain ⟨ps, h1, h2, h3⟩ := t
  have nP : P ≠ a := fun z => by rw [z, h] at h1; cases h1
  refine ⟨ps, by rw [upd_ne nP]; exact h1, h2, fun pos cv hc => ?_⟩
  obtain ⟨c, e1, e2⟩ := h3 pos cv hc
  have nC : c ≠ a := fun z => by
    rw [z, h] at e2
    unfold LamX.CodeO at e2
    cases e2
  exact ⟨c, e1, by rw [upd_ne nC]; exact e2⟩
/-- a list of the memory is changed -/
theorem Ext.write {a : Addr} {o : HO} {vs : List V} (ha : a ∈ r) (h : H a = some (.lst vs)) (nr : ∀ b, b ∈ r → V.ref b ∉ vs) : Ext r H r (upd H a o) := by
  refine ⟨List.prefix_refl r, fun _ h => .inl h, fun b o' q n _ => ?_, fun b ws q => ?_, fun b o' u q => ?_, fun t x hx => tab_write h (t x hx), fun b ws q z => ?_⟩
  · rw [upd_ne fun z => n (by rw [z]; exact ha)]; exact q
  · rw [upd_ne fun z => by rw [z, h] at q; cases q]; exact q
  · rw [upd_ne fun z => by rw [z, h] at q; cases q]; exact q
  · obtain ⟨c, z1, z2⟩ := z
    rw [upd_ne fun e => by rw [e, h] at q; cases q; exact nr c z1 z2]; exact q
theorem Rel.write (R : Rel r H m) {n : Nat} {a : Addr} {xs : List PyData} {vs ws : List V} (hn : r[n]? = some a) (h : H a = some (.lst vs)) (nr : ∀ b, b ∈ r → V.ref b ∉ vs) (q : RepBs r H xs ws) : Rel r (upd H a (.lst ws)) (m.set n (.lst xs)) := by
  have ha : a ∈ r := List.mem_of_getElem? hn
  refine ⟨by rw [List.length_set]; exact R.len, R.nd, fun k b o h1 h2 => ?_, fun x hx => tab_write h (R.tab x hx), fun k ks hk => ?_⟩
  rotate_left
  · by_cases e : k = n
    · subst e
      have hl : k < m.length := by
        have := (List.getElem?_eq_some_iff.mp hk).1
        rwa [List.length_set] at this
      rw [List.getElem?_set_self hl] at hk
      cases hk
    · rw [List.getElem?_set_ne (Ne.symm e)] at hk
      exact R.low k ks hk
  by_cases e : k = n
  · subst e
    rw [h1] at hn; cases hn
    have hk : k < m.length := by rw [← R.len]; exact (List.getElem?_eq_some_iff.mp h1).1
    rw [List.getElem?_set_self hk] at h2
    cases h2
    exact ⟨ws, upd_same, q.ext (.write ha h nr) xs⟩
  · rw [List.getElem?_set_ne (Ne.symm e)] at h2
    have h3 := R.at_ k b o h1 h2
    exact h3.ext (.write ha h nr) (upd_ne fun z => e (R.inj (h1.trans (by rw [z])) hn))
/-- the first k objects alone -/
theorem Rel.take (R : Rel r H m) (k : Nat) : Rel (r.take k) H (m.take k) := by
  refine ⟨by rw [List.length_take, List.length_take, R.len], R.nd.sublist (List.take_sublist _ _), fun n a o h1 h2 => ?_, R.tab, fun n ks h => ?_⟩
  rotate_left
  · have := (List.getElem?_eq_some_iff.mp h).1
    rw [List.length_take] at this
    rw [List.getElem?_take_of_lt (by omega)] at h
    exact R.low n ks h
  have hk : n < k := by
    have := (List.getElem?_eq_some_iff.mp h1).1
    rw [List.length_take] at this; omega
  rw [List.getElem?_take_of_lt hk] at h1 h2
  have h3 := R.at_ n a o h1 h2
  cases o with
  | lst ys =>
    obtain ⟨us, h4, h5⟩ := h3
    exact ⟨us, h4, h5.less (fun a ha => List.mem_of_mem_take ha) ys⟩
  | any => exact h3
  | rows ks =>
    obtain ⟨us, h4, h5⟩ := h3
    refine ⟨us, h4, pr_imp h5 fun x v hx z => ?_⟩
    obtain ⟨b, z1, z2⟩ := z
    have hlt := R.low n ks h2 x hx
    exact ⟨b, by rw [List.getElem?_take_of_lt (by omega)]; exact z1, z2⟩
omit [TabC] in
theorem prefix_take {α : Type} {l l' : List α} (h : l <+: l') : l'.take l.length = l := by
  obtain ⟨t, rfl⟩ := h
  exact List.take_left
theorem Ext.take (e : Ext r H r' H') : Ext r H r H' :=
  ⟨List.prefix_refl r, fun _ h => .inl h, e.keep, e.tups, e.frzs, e.tabs, e.rows⟩
end

/-! ### values -/
section
variable (K : PySem.W.Frag) (mg : Str → Option Value)
/-- the script -/
def ScrAt (H : Hp) (a : Addr) (ns : List Int) : Prop := (∃ o, H a = some (.frz o (.lst (ns.map V.int)))) ∨ SqL K (fun _ => none) a (ns.map V.int)
def RepD (r : List Addr) (H : Hp) : D → V → Prop
  | .b x, v => RepB r H x v
  | .ref n, v => ∃ a, r[n]? = some a ∧ v = .ref a
  | .fn f, v => ∃ a, v = .ref a ∧ mg f = some (.ref a)
  | .scr ns, v => ∃ a, v = .ref a ∧ ScrAt K H a ns
  | .exc c, v => ∃ a, v = .ref a ∧ TabC.X a c
abbrev RepDs (r : List Addr) (H : Hp) : List D → List V → Prop := Paired (RepD K mg r H)
/-- slots -/
structure RepS (r : List Addr) (H : Hp) (δ : Env) (σ : L2.St) : Prop where
  len : δ.length = σ.length
  at_ : ∀ (i : Nat) d, δ[i]? = some (some d) → ∃ v, σ[i]? = some (some v) ∧ RepD K mg r H d v
end
section
variable {K : PySem.W.Frag} {mg : Str → Option Value} {r r1 r2 r' : List Addr} {H H1 H2 H' : Hp} {m m' : Mem}
omit [TabC] in
theorem ScrAt.seq {a : Addr} {ns : List Int} (h : ScrAt K H a ns) : SqL K H a (ns.map V.int) := by
  rcases h with ⟨o, h⟩ | h
  · exact .inl (.inr ⟨o, h⟩)
  · rcases h with (h | ⟨o, h⟩) | h
    · cases h
    · cases h
    · exact .inr h
theorem RepD.ext (e : Ext r H r' H') : ∀ (d : D) {v : V}, RepD K mg r H d v → RepD K mg r' H' d v
  | .b x, _, h => RepB.ext e x h
  | .ref n, _, ⟨a, h1, h2⟩ => ⟨a, e.at_ h1, h2⟩
  | .fn f, _, h => h
  | .scr ns, _, ⟨a, h1, h2⟩ => ⟨a, h1, h2.elim (fun ⟨o, q⟩ => .inl ⟨o, e.frzs a o _ q⟩) .inr⟩
  | .exc c, _, h => h
theorem RepDs.ext (e : Ext r H r' H') {ds : List D} {vs : List V} (h : RepDs K mg r H ds vs) : RepDs K mg r' H' ds vs := pr_imp h fun d v _ q => q.ext e
theorem RepS.ext (e : Ext r H r' H') {δ : Env} {σ : L2.St} (h : RepS K mg r H δ σ) : RepS K mg r' H' δ σ :=
  ⟨h.len, fun i d q => let ⟨v, h1, h2⟩ := h.at_ i d q; ⟨v, h1, h2.ext e⟩⟩
theorem RepS.set {δ : Env} {σ : L2.St} (h : RepS K mg r H δ σ) (i : Nat) {d : D} {v : V} (q : RepD K mg r H d v) : RepS K mg r H (δ.set i (some d)) (σ.set i (some v)) := by
  refine ⟨by rw [List.length_set, List.length_set]; exact h.len, fun j d' e => ?_⟩
  by_cases z : i = j
  · subst z
    by_cases hi : i < δ.length
    · rw [List.getElem?_set_self hi] at e
      cases e
      exact ⟨v, List.getElem?_set_self (by rw [← h.len]; exact hi), q⟩
    · rw [List.getElem?_eq_none (by simpa using hi)] at e; cases e
  · rw [List.getElem?_set_ne z] at e
    obtain ⟨w, h1, h2⟩ := h.at_ j d' e
    exact ⟨w, by rw [List.getElem?_set_ne z]; exact h1, h2⟩
theorem RepS.forget {δ : Env} {σ : L2.St} (h : RepS K mg r H δ σ) (i : Nat) : RepS K mg r H (δ.set i none) (σ.set i none) := by
  refine ⟨by rw [List.length_set, List.length_set]; exact h.len, fun j d' e => ?_⟩
  by_cases z : i = j
  · subst z
    by_cases hi : i < δ.length
    · rw [List.getElem?_set_self hi] at e; cases e
    · rw [List.getElem?_eq_none (by simpa using hi)] at e; cases e
  · rw [List.getElem?_set_ne z] at e
    obtain ⟨w, h1, h2⟩ := h.at_ j d' e
    exact ⟨w, by rw [List.getElem?_set_ne z]; exact h1, h2⟩
theorem RepS.wipe {δ : Env} {σ : L2.St} (h : RepS K mg r H δ σ) : ∀ is : List Nat, RepS K mg r H (clear δ is) (wipe σ is)
  | [] => h
  | i :: is => by
    rw [clear, L2.wipe]
    exact (RepS.wipe h is).forget i

/-- a value that is looked at: by value, or an object as it stands -/
def RepA (r : List Addr) (H : Hp) (x : PyData) (v : V) : Prop :=
  match x with
  | .list xs => ∃ a vs, v = .ref a ∧ H a = some (.lst vs) ∧ RepBs r H xs vs
  | x => RepB r H x v
omit [TabC] in
theorem RepB.look {x : PyData} {v : V} (h : RepB r H x v) : RepA r H x v := by
  cases x with
  | list xs =>
    rw [RepB] at h
    obtain ⟨a, vs, e, h1, _, h2⟩ := h
    exact ⟨a, vs, e, h1, h2⟩
  | _ => exact h
theorem RepD.snap (R : Rel r H m) {d : D} {v : V} {x : PyData} (h : RepD K mg r H d v) (e : snap m d = some x) : RepA r H x v := by
  cases d with
  | b y =>
    have e' : y = x := Option.some.inj e
    subst e'
    exact RepB.look h
  | ref n =>
    obtain ⟨a, h1, h2⟩ := h
    unfold Z.snap at e
    cases q : m[n]? with
    | none => simp only [q] at e; cases e
    | some o =>
      cases o with
      | lst xs =>
        simp only [q] at e
        cases e
        obtain ⟨vs, h3, h4⟩ := R.at_ n a _ h1 q
        exact ⟨a, vs, h2, h3, h4⟩
      | any => simp only [q] at e; cases e
      | rows ks => simp only [q] at e; cases e
  | fn f => cases e
  | scr ns => cases e
  | exc c => cases e
theorem RepDs.snaps (R : Rel r H m) : ∀ {ds : List D} {vs : List V} {xs : List PyData}, RepDs K mg r H ds vs → snaps m ds = some xs → Paired (RepA r H) xs vs
  | [], _, xs, .nil, e => by cases e; exact .nil
  | d :: ds, _, xs, .cons h t, e => by
    unfold Z.snaps at e
    cases q : snap m d with
    | none => simp only [q] at e; cases e
    | some x =>
      simp only [q] at e
      cases q2 : Z.snaps m ds with
      | none => rw [q2] at e; cases e
      | some ys =>
        rw [q2] at e
        cases e
        exact .cons (RepD.snap R h q) (RepDs.snaps R t q2)
theorem RepDs.owns : ∀ {ds : List D} {vs : List V} {xs : List PyData}, RepDs K mg r H ds vs → owns ds = some xs → RepBs r H xs vs
  | [], _, xs, .nil, e => by cases e; rw [RepBs]
  | d :: ds, _, xs, .cons h t, e => by
    unfold Z.owns at e
    cases d with
    | b x =>
      simp only [own] at e
      cases q2 : Z.owns ds with
      | none => rw [q2] at e; cases e
      | some ys =>
        rw [q2] at e
        cases e
        rw [RepBs]
        exact ⟨_, _, rfl, h, RepDs.owns t q2⟩
    | _ => cases e

/-! ### whole numbers and truths in a list -/
omit [TabC] in
theorem intsOf_vs : ∀ {xs : List PyData} {ns : List Int} {vs : List V}, intsOf xs = some ns → RepBs r H xs vs → vs = ns.map V.int
  | [], ns, vs, e, h => by cases e; rw [RepBs] at h; exact h
  | x :: xs, ns, vs, e, h => by
    rw [RepBs] at h
    obtain ⟨v, ws, rfl, h1, h2⟩ := h
    cases x with
    | int i =>
      simp only [intsOf] at e
      cases q : intsOf xs with
      | none => rw [q] at e; cases e
      | some ms =>
        rw [q] at e
        cases e
        rw [RepB] at h1
        rw [h1, intsOf_vs q h2]; rfl
    | _ => cases e
omit [TabC] in
theorem boolsOf_vs : ∀ {xs : List PyData} {ns : List Bool} {vs : List V}, boolsOf xs = some ns → RepBs r H xs vs → vs = ns.map V.bl
  | [], ns, vs, e, h => by cases e; rw [RepBs] at h; exact h
  | x :: xs, ns, vs, e, h => by
    rw [RepBs] at h
    obtain ⟨v, ws, rfl, h1, h2⟩ := h
    cases x with
    | bool i =>
      simp only [boolsOf] at e
      cases q : boolsOf xs with
      | none => rw [q] at e; cases e
      | some ms =>
        rw [q] at e
        cases e
        rw [RepB] at h1
        rw [h1, boolsOf_vs q h2]; rfl
    | _ => cases e
mutual
theorem RepB.dp : ∀ (x : PyData) {v : V}, x.canLay0 = true → RepB r H x v → Dp K H v x
  | .none, _, _, h => by rw [RepB] at h; subst h; exact .non
  | .bool b, _, _, h => by rw [RepB] at h; subst h; exact .bl b
  | .int b, _, _, h => by rw [RepB] at h; subst h; exact .int b
  | .str b, _, _, h => by rw [RepB] at h; subst h; exact .str b
  | .tuple xs, v, c, h => by
    rw [RepB] at h
    rw [PyData.canLay0] at c
    obtain ⟨a, vs, rfl, ha, h⟩ := h
    exact .tup (.inl (.inl ha)) (RepBs.dp xs c h)
  | .list xs, v, c, h => by
    rw [RepB] at h
    rw [PyData.canLay0] at c
    obtain ⟨a, vs, rfl, ha, hn, h⟩ := h
    exact .lst (.inl (.inl ha)) (RepBs.dp xs c h)
  | .dict _, v, c, h => by rw [PyData.canLay0] at c; cases c
theorem RepBs.dp : ∀ (xs : List PyData) {vs : List V}, PyData.canLayAll0 xs = true → RepBs r H xs vs → DpAll K H vs xs
  | [], _, _, h => by rw [RepBs] at h; subst h; exact .nil
  | x :: xs, _, c, h => by
    rw [RepBs] at h
    rw [PyData.canLayAll0, Bool.and_eq_true] at c
    obtain ⟨v, ws, rfl, h1, h2⟩ := h
    exact .cons (RepB.dp x c.1 h1) (RepBs.dp xs c.2 h2)
end
theorem RepA.dp {x : PyData} {v : V} (c : x.canLay0 = true) (h : RepA r H x v) : Dp K H v x := by
  cases x with
  | list xs =>
    obtain ⟨a, vs, rfl, ha, h⟩ := h
    rw [PyData.canLay0] at c
    exact .lst (.inl (.inl ha)) (h.dp xs c)
  | _ => exact RepB.dp (r := r) _ c h
end
end Z

/-! Z3: the operations by value are the model's. -/
namespace Z
open PySem PySem.Spec PyProof.Rows L2
variable [TabC]

/-- two values, by value: f gives z -/
def rB (f : PyData → PyData → Option PyData) : R2 := fun x y H Q => ∃ r m a c z, Rel r H m ∧ RepA r H a x ∧ RepA r H c y ∧ f a c = some z ∧
  ∀ r' H' v, Ext r H r' H' → Rel r' H' m → RepB r' H' z v → Q v H'
section
variable {X : Cx} {pins : List (Addr × Obj)} {s : Shared} {σ : L2.St} {H : Hp} {r : List Addr} {m : Mem}
theorem newTup {z : List PyData} {Q : VK} (R : Rel r H m) {vs : List V} (h : RepBs r H z vs) (q : ∀ r' H' v, Ext r H r' H' → Rel r' H' m → RepB r' H' (.tuple z) v → Q v H') : ∀ p, H p = none → Q (.ref p) (upd H p (.tup vs)) := fun p hp =>
  q r _ _ (.new hp) (R.new hp) (by rw [RepB]; exact ⟨p, vs, rfl, upd_same, h.ext (.new hp) z⟩)
theorem newLst {z : List PyData} {Q : VK} (R : Rel r H m) {vs : List V} (h : RepBs r H z vs) (q : ∀ r' H' v, Ext r H r' H' → Rel r' H' m → RepB r' H' (.list z) v → Q v H') : ∀ p, H p = none → Q (.ref p) (upd H p (.lst vs)) := fun p hp =>
  q r _ _ (.new hp) (R.new hp) (by rw [RepB]; exact ⟨p, vs, rfl, upd_same, R.notin hp, h.ext (.new hp) z⟩)
omit [TabC] in
theorem repBs_length {xs : List PyData} {vs : List V} (h : RepBs r H xs vs) : xs.length = vs.length := Paired.length (RepBs.pair.mp h)
omit [TabC] in
theorem repBs_nil {xs : List PyData} {vs : List V} (h : RepBs r H xs vs) : xs = [] ↔ vs = [] := by
  have := repBs_length h
  constructor
  · rintro rfl; exact List.length_eq_zero_iff.mp this.symm
  · rintro rfl; exact List.length_eq_zero_iff.mp this
theorem op_bin (op : Operator) : OpR X (binaryOp op) (rB (binP op)) := by
  intro pins s σ H x y v u Q I rx ry ⟨r, m, a, c, z, R, ra, rc, e, q⟩
  have done : ∀ {d : PyData} {w : V}, z = d → RepB r H d w → Q w H := fun ez h => q r H _ (.refl r H) R (ez ▸ h)
  cases a with
  | int i =>
    cases c with
    | int j =>
      have rx' : x = .int i := ra
      have ry' : y = .int j := rc
      simp only [binP] at e
      cases op <;> simp only [intBin] at e
      case Add => exact op_add pins s σ H x y v u Q I rx ry ⟨i, j, rx', ry', done (Option.some.inj e).symm (by rw [RepB])⟩
      case Sub => exact op_sub pins s σ H x y v u Q I rx ry ⟨i, j, rx', ry', done (Option.some.inj e).symm (by rw [RepB])⟩
      case Mult =>
        split at e
        · rename_i h; exact op_mul pins s σ H x y v u Q I rx ry ⟨i, j, rx', ry', h, done (Option.some.inj e).symm (by rw [RepB])⟩
        · cases e
      case Mod =>
        split at e
        · rename_i h; exact op_mod pins s σ H x y v u Q I rx ry ⟨i, j, rx', ry', h, done (Option.some.inj e).symm (by rw [RepB])⟩
        · cases e
      case FloorDiv =>
        split at e
        · rename_i h; exact op_fdiv pins s σ H x y v u Q I rx ry ⟨i, j, rx', ry', h, done (Option.some.inj e).symm (by rw [RepB])⟩
        · cases e
      case Pow =>
        split at e
        · rename_i h; exact op_pow pins s σ H x y v u Q I rx ry ⟨i, j, rx', ry', ⟨h.1, by have := h.2.1; omega, h.2.2⟩, done (Option.some.inj e).symm (by rw [RepB])⟩
        · cases e
      case LShift =>
        split at e
        · rename_i h; exact op_shl pins s σ H x y v u Q I rx ry ⟨i, j, rx', ry', ⟨h.1, by have := h.2.1; omega, h.2.2⟩, done (Option.some.inj e).symm (by rw [RepB])⟩
        · cases e
      case RShift =>
        split at e
        · rename_i h; exact op_shr pins s σ H x y v u Q I rx ry ⟨i, j, rx', ry', h, done (Option.some.inj e).symm (by rw [RepB])⟩
        · cases e
      case BitAnd => exact op_and pins s σ H x y v u Q I rx ry ⟨i, j, rx', ry', done (Option.some.inj e).symm (by rw [RepB])⟩
      case BitOr => exact op_or pins s σ H x y v u Q I rx ry ⟨i, j, rx', ry', done (Option.some.inj e).symm (by rw [RepB])⟩
      case BitXor => exact op_xor pins s σ H x y v u Q I rx ry ⟨i, j, rx', ry', done (Option.some.inj e).symm (by rw [RepB])⟩
      all_goals cases e
    | _ => cases e
  | str i =>
    cases c with
    | str j =>
      have rx' : x = .str i := ra
      have ry' : y = .str j := rc
      cases op <;> simp only [binP] at e
      case Add =>
        split at e
        · rename_i h; exact op_add_str pins s σ H x y v u Q I rx ry ⟨i, j, rx', ry', by rw [← lim_eq]; exact h, done (Option.some.inj e).symm (by rw [RepB])⟩
        · cases e
      all_goals cases e
    | _ => cases e
  | tuple xs =>
    cases c with
    | tuple ys =>
      have ra' : RepB r H (.tuple xs) x := ra
      have rc' : RepB r H (.tuple ys) y := rc
      rw [RepB] at ra' rc'
      obtain ⟨p1, vs, rfl, h1, h2⟩ := ra'
      obtain ⟨p2, ws, rfl, h3, h4⟩ := rc'
      cases op <;> simp only [binP] at e
      case Add =>
        split at e
        · rename_i h
          cases e
          have hl : vs.length + ws.length ≤ sizeLine := by rw [← lim_eq, ← repBs_length h2, ← repBs_length h4]; exact h
          refine op_catA pins s σ H _ _ v u Q I rx ry ⟨p1, p2, vs, ws, rfl, rfl, .of h1, .of h3, hl, fun hx => ?_, fun _ hy => ?_, fun _ _ => ?_⟩
          · have : xs = [] := (repBs_nil h2).mpr hx
            subst this
            exact q r H _ (.refl r H) R (by rw [List.nil_append]; exact rc)
          · have : ys = [] := (repBs_nil h4).mpr hy
            subst this
            exact q r H _ (.refl r H) R (by rw [List.append_nil]; exact ra)
          · exact newTup R (RepBs.pair.mpr (pr_append (RepBs.pair.mp h2) (RepBs.pair.mp h4))) q
        · cases e
      all_goals cases e
    | int k =>
      have ra' : RepB r H (.tuple xs) x := ra
      have ry' : y = .int k := rc
      rw [RepB] at ra'
      obtain ⟨p1, vs, rfl, h1, h2⟩ := ra'
      cases op <;> simp only [binP] at e
      case Mult =>
        split at e
        · rename_i h
          cases e
          exact op_repT pins s σ H _ _ v u Q I rx ry ⟨p1, k, vs, rfl, ry', .of h1, fun z => h.1 ((repBs_nil h2).mpr z), h.2.1, h.2.2.1, by rw [← repBs_length h2]; exact h.2.2.2, newTup R (RepBs.pair.mpr (pr_rep _ (RepBs.pair.mp h2))) q⟩
        · cases e
      all_goals cases e
    | _ => cases e
  | list xs =>
    cases c with
    | list ys =>
      obtain ⟨p1, vs, rfl, h1, h2⟩ := ra
      obtain ⟨p2, ws, rfl, h3, h4⟩ := rc
      cases op <;> simp only [binP] at e
      case Add =>
        split at e
        · rename_i h
          cases e
          have hl : vs.length + ws.length ≤ sizeLine := by rw [← lim_eq, ← repBs_length h2, ← repBs_length h4]; exact h
          exact op_cat pins s σ H _ _ v u Q I rx ry ⟨p1, p2, vs, ws, rfl, rfl, h1, h3, hl, newLst R (RepBs.pair.mpr (pr_append (RepBs.pair.mp h2) (RepBs.pair.mp h4))) q⟩
        · cases e
      all_goals cases e
    | int k =>
      obtain ⟨p1, vs, rfl, h1, h2⟩ := ra
      have ry' : y = .int k := rc
      cases op <;> simp only [binP] at e
      case Mult =>
        split at e
        · rename_i h
          cases e
          refine op_rep pins s σ H _ _ v u Q I rx ry ⟨p1, k, vs, rfl, ry', h1, by omega, by omega, ?_, newLst R (RepBs.pair.mpr (pr_rep _ (RepBs.pair.mp h2))) q⟩
          rw [← repBs_length h2, sizeLine_eq]
          have a1 : xs.length ≤ 1000 := h.2.2
          have a2 : k.toNat ≤ 1000 := by omega
          exact Nat.le_trans (Nat.mul_le_mul a1 a2) (by decide)
        · cases e
      all_goals cases e
    | _ => cases e
  | _ => cases e

omit [TabC] in
theorem canLay_list {xs : List PyData} : PyData.canLay0 (.list xs) = PyData.canLayAll0 xs := by rw [PyData.canLay0]
omit [TabC] in
theorem canLay_tuple {xs : List PyData} : PyData.canLay0 (.tuple xs) = PyData.canLayAll0 xs := by rw [PyData.canLay0]
omit [TabC] in
theorem depth_list {xs : List PyData} : PyData.depth (.list xs) = PyData.depthAll xs + 1 := by rw [PyData.depth] <;> omega
omit [TabC] in
theorem depth_tuple {xs : List PyData} : PyData.depth (.tuple xs) = PyData.depthAll xs + 1 := by rw [PyData.depth] <;> omega

theorem op_cmp (op : CmpOp) (hu : X.A.units + 70 < cLine) : OpR X (compareOp op) (rB fun x y => (cmpP op x y).map .bool) := by
  intro pins s σ H x y v u Q I rx ry ⟨r, m, a, c, z, R, ra, rc, e, q⟩
  have done : ∀ {b : Bool}, z = .bool b → Q (.bl b) H := fun ez => q r H _ (.refl r H) R (by rw [ez, RepB])
  have fin : ∀ {b : Bool}, z = .bool b → EP X pins σ Q (.bool b) s := fun ez => ⟨.bl _, H, I, rfl, done ez⟩
  have e : (cmpP op a c).map PyData.bool = some z := e
  cases hb : cmpP op a c with
  | none => rw [hb] at e; cases e
  | some b =>
  rw [hb] at e
  have ez : z = .bool b := (Option.some.inj e).symm
  have reads : a.canLay0 = true → c.canLay0 = true → ∃ as bs, Reads s.heap v a as ∧ Reads s.heap u c bs := by
    intro ca cc
    obtain ⟨as, h1⟩ := Dp.reads I a x v (RepA.dp ca ra) rx
    obtain ⟨bs, h2⟩ := Dp.reads I c y u (RepA.dp cc rc) ry
    exact ⟨as, bs, h1, h2⟩
  have onI : ∀ {i j : Int} {k : Bool}, a = .int i → c = .int j → cmpI op i j = some k → k = b → wpAny (model X.prog X.w) X.A (compareOp op v u) (EP X pins σ Q) X.xe s := fun {i j k} ea ec hk ek => by
    subst ea ec ek
    have rx' : x = .int i := ra
    have ry' : y = .int j := rc
    cases op <;> simp only [cmpI] at hk
    case Lt => exact op_lt pins s σ H x y v u Q I rx ry ⟨i, j, rx', ry', done (by rw [ez, ← Option.some.inj hk])⟩
    case LtE => exact op_le pins s σ H x y v u Q I rx ry ⟨i, j, rx', ry', done (by rw [ez, ← Option.some.inj hk])⟩
    case Gt => exact op_gt pins s σ H x y v u Q I rx ry ⟨i, j, rx', ry', done (by rw [ez, ← Option.some.inj hk])⟩
    case GtE => exact op_ge pins s σ H x y v u Q I rx ry ⟨i, j, rx', ry', done (by rw [ez, ← Option.some.inj hk])⟩
    all_goals cases hk
  have isin : ∀ {k : Bool}, isIn a c = some k → (op = .In ∨ op = .NotIn) → b = (if op = .In then k else !k) → wpAny (model X.prog X.w) X.A (compareOp op v u) (EP X pins σ Q) X.xe s := fun {k} hk hop hbk => by
    cases c with
    | list ys =>
      simp only [isIn] at hk
      split at hk
      · rename_i ok
        have hk' := Option.some.inj hk
        unfold eqOk at ok
        simp only [Bool.and_eq_true, Bool.or_eq_true, decide_eq_true_eq] at ok
        obtain ⟨as, bs, h1, h2⟩ := reads ok.1.1 ok.1.2
        rw [canLay_list, depth_list] at ok
        have room : X.A.units + 1 + min (PyData.depthAll ys) a.depth < cLine := by
          have := Nat.min_le_left (PyData.depthAll ys) a.depth
          have := Nat.min_le_right (PyData.depthAll ys) a.depth
          omega
        rcases hop with rfl | rfl
        · exact SeqAt.in_list_reads h2 h1 ok.1.2 ok.1.1 room (fin (by rw [ez, hbk, if_pos rfl, hk']))
        · exact SeqAt.notIn_list_reads h2 h1 ok.1.2 ok.1.1 room (fin (by rw [ez, hbk, if_neg (by decide), hk']))
      · cases hk
    | tuple ys =>
      simp only [isIn] at hk
      split at hk
      · rename_i ok
        have hk' := Option.some.inj hk
        unfold eqOk at ok
        simp only [Bool.and_eq_true, Bool.or_eq_true, decide_eq_true_eq] at ok
        obtain ⟨as, bs, h1, h2⟩ := reads ok.1.1 ok.1.2
        rw [canLay_tuple, depth_tuple] at ok
        have room : X.A.units + 1 + min (PyData.depthAll ys) a.depth < cLine := by
          have := Nat.min_le_left (PyData.depthAll ys) a.depth
          have := Nat.min_le_right (PyData.depthAll ys) a.depth
          omega
        rcases hop with rfl | rfl
        · exact SeqAt.in_tuple_reads h2 h1 ok.1.2 ok.1.1 room (fin (by rw [ez, hbk, if_pos rfl, hk']))
        · exact SeqAt.notIn_tuple_reads h2 h1 ok.1.2 ok.1.1 room (fin (by rw [ez, hbk, if_neg (by decide), hk']))
      · cases hk
    | str z =>
      cases a with
      | str cc =>
        have hk : (match cc.cps.toList with
          | [k] => some (decide (k ∈ z.cps.toList))
          | _ => Option.none) = some k := hk
        split at hk
        · rename_i kk hl
          have ec : cc = ⟨#[kk]⟩ := by
            cases cc with
            | mk arr =>
              have : arr = #[kk] := Array.ext' hl
              rw [this]
          have rx' : x = .str cc := ra
          have ry' : y = .str z := rc
          have hk' := Option.some.inj hk
          rw [ec] at rx'
          rcases hop with rfl | rfl
          · exact op_in_sign pins s σ H x y v u Q I rx ry ⟨kk, z, rx', ry', done (by rw [ez, hbk, if_pos rfl, hk'])⟩
          · exact op_notIn_sign pins s σ H x y v u Q I rx ry ⟨kk, z, rx', ry', done (by rw [ez, hbk, if_neg (by decide), hk'])⟩
        · cases hk
      | _ => cases hk
    | _ => cases hk
  have isis : ∀ {k : Bool}, isP a c = some k → (op = .Is ∨ op = .IsNot) → b = (if op = .Is then k else !k) → wpAny (model X.prog X.w) X.A (compareOp op v u) (EP X pins σ Q) X.xe s := fun {k} hk hop hbk => by
    cases c with
    | none =>
      have ry' : y = .non := rc
      have hk' : k = decide (x = .non) := by
        simp only [isP] at hk
        rw [← Option.some.inj hk]
        cases a with
        | none => have : x = .non := ra; rw [this]; rfl
        | bool _ => have : x = .bl _ := ra; rw [this]; rfl
        | int _ => have : x = .int _ := ra; rw [this]; rfl
        | str _ => have : x = .str _ := ra; rw [this]; rfl
        | list _ => obtain ⟨_, _, z, _⟩ := ra; rw [z]; rfl
        | tuple _ =>
          have ra' : RepB r H (.tuple _) x := ra
          rw [RepB] at ra'
          obtain ⟨_, _, z, _⟩ := ra'
          rw [z]; rfl
        | dict kvs =>
          have ra' : RepB r H (.dict kvs) x := ra
          rw [RepB] at ra'
          obtain ⟨_, _, z, _⟩ := ra'
          rw [z]; rfl
      rcases hop with rfl | rfl
      · exact op_isN pins s σ H x y v u Q I rx ry ⟨ry', done (by rw [ez, hbk, if_pos rfl, hk'])⟩
      · exact op_notN pins s σ H x y v u Q I rx ry ⟨ry', done (by rw [ez, hbk, if_neg (by decide), hk'])⟩
    | bool b2 =>
      have ry' : y = .bl b2 := rc
      cases a with
      | bool b1 =>
        have rx' : x = .bl b1 := ra
        have hk' : k = decide (b1 = b2) := (Option.some.inj hk).symm
        rcases hop with rfl | rfl
        · exact op_is_bl pins s σ H x y v u Q I rx ry ⟨b1, b2, rx', ry', done (by rw [ez, hbk, if_pos rfl, hk'])⟩
        · exact op_isnot_bl pins s σ H x y v u Q I rx ry ⟨b1, b2, rx', ry', done (by rw [ez, hbk, if_neg (by decide), hk'])⟩
      | _ => cases hk
    | _ => cases hk
  have eqs : eqOk a c = true → X.A.units + min a.depth c.depth < cLine ∧ a.canLay0 = true ∧ c.canLay0 = true := fun ok => by
    unfold eqOk at ok
    simp only [Bool.and_eq_true, Bool.or_eq_true, decide_eq_true_eq] at ok
    refine ⟨?_, ok.1.1, ok.1.2⟩
    have := Nat.min_le_left a.depth c.depth
    have := Nat.min_le_right a.depth c.depth
    omega
  cases op with
  | Eq =>
    simp only [cmpP] at hb
    split at hb
    · rename_i ok
      obtain ⟨k1, k2, k3⟩ := eqs ok
      obtain ⟨as, bs, h1, h2⟩ := reads k2 k3
      exact SeqAt.compareEq_reads h1 h2 k2 k3 k1 (fin (by rw [ez, ← Option.some.inj hb]))
    · cases hb
  | NotEq =>
    simp only [cmpP] at hb
    split at hb
    · rename_i ok
      obtain ⟨k1, k2, k3⟩ := eqs ok
      obtain ⟨as, bs, h1, h2⟩ := reads k2 k3
      exact SeqAt.compareNe_reads h1 h2 k2 k3 k1 (fin (by rw [ez, ← Option.some.inj hb]))
    · cases hb
  | In => exact isin (k := b) hb (.inl rfl) (by rw [if_pos rfl])
  | NotIn =>
    simp only [cmpP] at hb
    cases hk : isIn a c with
    | none => rw [hk] at hb; cases hb
    | some k => rw [hk] at hb; exact isin hk (.inr rfl) (by rw [if_neg (by decide)]; exact (Option.some.inj hb).symm)
  | Is => exact isis (k := b) hb (.inl rfl) (by rw [if_pos rfl])
  | IsNot =>
    simp only [cmpP] at hb
    cases hk : isP a c with
    | none => rw [hk] at hb; cases hb
    | some k => rw [hk] at hb; exact isis hk (.inr rfl) (by rw [if_neg (by decide)]; exact (Option.some.inj hb).symm)
  | Lt =>
    cases a with
    | int i =>
      cases c with
      | int j => exact onI rfl rfl (k := b) (by simpa [cmpP] using hb) rfl
      | _ => simp [cmpP, ltP] at hb
    | tuple xs =>
      cases c with
      | tuple ys =>
        simp only [cmpP, ltP] at hb
        cases h1 : intsOf xs with
        | none => rw [h1] at hb; cases hb
        | some ns =>
        cases h2 : intsOf ys with
        | none => rw [h1, h2] at hb; cases hb
        | some ms =>
        rw [h1, h2] at hb
        have ra' : RepB r H (.tuple xs) x := ra
        have rc' : RepB r H (.tuple ys) y := rc
        rw [RepB] at ra' rc'
        obtain ⟨p1, vs, rfl, h3, h4⟩ := ra'
        obtain ⟨p2, ws, rfl, h5, h6⟩ := rc'
        have e1 := intsOf_vs h1 h4
        have e2 := intsOf_vs h2 h6
        subst e1 e2
        exact op_ltT (by omega) pins s σ H _ _ v u Q I rx ry ⟨p1, p2, ns, ms, rfl, rfl, .of h3, .of h5, done (by rw [ez, ← Option.some.inj hb])⟩
      | _ => simp [cmpP, ltP] at hb
    | _ => cases c <;> simp [cmpP, ltP] at hb
  | _ =>
    cases a with
    | int i =>
      cases c with
      | int j => exact onI rfl rfl (k := b) (by simpa [cmpP] using hb) rfl
      | _ => simp [cmpP] at hb
    | _ => cases c <;> simp [cmpP] at hb

/-! ### truth -/
omit [TabC] in
theorem len_list {xs : List PyData} {v : V} (I : Inv X pins σ H s) (h : RepA r H (.list xs) v) : xs.length ≤ sizeLine := by
  obtain ⟨a, vs, _, h1, h2⟩ := h
  obtain ⟨hz, _⟩ := I.hok a _ h1
  rw [repBs_length h2]; exact hz
omit [TabC] in
theorem len_tuple' {xs : List PyData} {v : V} (I : Inv X pins σ H s) (h : RepB r H (.tuple xs) v) : xs.length ≤ sizeLine := by
  rw [RepB] at h
  obtain ⟨a, vs, _, h1, h2⟩ := h
  obtain ⟨hz, _⟩ := I.hok a _ h1
  rw [repBs_length h2]; exact hz
omit [TabC] in
theorem isEmpty_of_rep {xs : List PyData} {vs : List V} (h : RepBs r H xs vs) : xs.isEmpty = vs.isEmpty := by
  have := repBs_length h
  cases xs <;> cases vs <;> simp_all
omit [TabC] in
theorem truV_of {K : PySem.W.Frag} {x : PyData} {v : V} {b : Bool} (h : RepA r H x v) (e : truth x = some b) : TruV K v H b := by
  cases x with
  | none => have h' : v = .non := h; subst h'; exact (Option.some.inj e).symm
  | bool c => have h' : v = .bl c := h; subst h'; exact (Option.some.inj e).symm
  | int c => have h' : v = .int c := h; subst h'; exact (Option.some.inj e).symm
  | str c =>
    have h' : v = .str c := h
    subst h'
    simp only [truth] at e
    split at e
    · rename_i hl
      refine ⟨by rw [← lim_eq]; exact hl, ?_⟩
      rw [← Option.some.inj e]
      cases hn : c.length <;> simp <;> omega
    · cases e
  | list xs =>
    obtain ⟨a, vs, rfl, h1, h2⟩ := h
    exact .inl ⟨vs, .of h1, by rw [← Option.some.inj e, isEmpty_of_rep h2]⟩
  | tuple xs =>
    have h' : RepB r H (.tuple xs) v := h
    rw [RepB] at h'
    obtain ⟨a, vs, rfl, h1, h2⟩ := h'
    exact .inr (.inl ⟨vs, .of h1, by rw [← Option.some.inj e, isEmpty_of_rep h2]⟩)
  | dict _ => cases e

/-! ### items, slices -/
omit [TabC] in
theorem pr_at {xs : List PyData} {vs : List V} {i : Int} {z : PyData} (h : RepBs r H xs vs) (e : atP xs i = some z) : ∃ v, atI vs i = some v ∧ RepB r H z v := by
  unfold atP atI at e
  cases q : ixN xs.length i with
  | none => rw [q] at e; cases e
  | some j =>
    rw [q] at e
    obtain ⟨v, h1, h2⟩ := pr_get (RepBs.pair.mp h) (show xs[j]? = some z from e)
    refine ⟨v, ?_, h2⟩
    unfold atI
    rw [← repBs_length h, q]
    exact h1
theorem ix_ok : IxR X (rB ixP) := by
  intro value slice pins s σ H x y v u Q I rx ry ⟨r, m, a, c, z, R, ra, rc, e, q⟩ hs
  cases c with
  | int i =>
    have ry' : y = .int i := rc
    cases a with
    | list xs =>
      obtain ⟨p, vs, rfl, h1, h2⟩ := ra
      obtain ⟨w, h3, h4⟩ := pr_at h2 e
      exact ix_list value slice pins s σ H _ y v u Q I rx ry ⟨p, vs, i, w, rfl, ry', .of h1, h3, q r H _ (.refl r H) R h4⟩ hs
    | tuple xs =>
      have ra' : RepB r H (.tuple xs) x := ra
      rw [RepB] at ra'
      obtain ⟨p, vs, rfl, h1, h2⟩ := ra'
      obtain ⟨w, h3, h4⟩ := pr_at h2 e
      exact ix_tup value slice pins s σ H _ y v u Q I rx ry ⟨p, vs, i, w, rfl, ry', .of h1, h3, q r H _ (.refl r H) R h4⟩ hs
    | str t =>
      have ra' : x = .str t := ra
      simp only [ixP] at e
      split at e
      · rename_i hl
        cases hc : atP t.cps.toList i with
        | none => rw [hc] at e; cases e
        | some k =>
          rw [hc] at e
          have ez : PyData.str ⟨#[k]⟩ = z := Option.some.inj e
          exact ix_str value slice pins s σ H _ y v u Q I rx ry ⟨t, i, k, ra', ry', by rw [← lim_eq]; exact hl, hc, q r H _ (.refl r H) R (by rw [← ez, RepB])⟩ hs
      · cases e
    | _ => cases e
  | _ => cases a <;> cases e
omit [TabC] in
theorem cut_rep {xs : List PyData} {vs : List V} (h : RepBs r H xs vs) (lo hi : Option Int) : RepBs r H (cutP xs lo hi) (cutV vs lo hi) := by
  unfold cutP cutV
  rw [repBs_length h]
  exact RepBs.pair.mpr (pr_take _ (pr_drop _ (RepBs.pair.mp h)))
/-- a slice -/
def rS : V → Option Int → Option Int → Hp → VK → Prop := fun x lo hi H Q => ∃ r m a z, Rel r H m ∧ RepA r H a x ∧ slP a lo hi = some z ∧ ∀ r' H' v, Ext r H r' H' → Rel r' H' m → RepB r' H' z v → Q v H'
theorem sl_ok : SlR X rS := by
  intro pins s σ H x v vl vu lo hi sl Q I rx hs pl pu ⟨r, m, a, z, R, ra, e, q⟩
  cases a with
  | list xs =>
    obtain ⟨p, vs, rfl, h1, h2⟩ := ra
    cases e
    exact sl_list pins s σ H _ v vl vu lo hi sl Q I rx hs pl pu ⟨p, vs, rfl, .of h1, newLst R (cut_rep h2 lo hi) q⟩
  | tuple xs =>
    have ra' : RepB r H (.tuple xs) x := ra
    rw [RepB] at ra'
    obtain ⟨p, vs, rfl, h1, h2⟩ := ra'
    cases e
    refine sl_tupA pins s σ H _ v vl vu lo hi sl Q I rx hs pl pu ⟨p, vs, rfl, .of h1, fun hw => ?_, fun _ => newTup R (cut_rep h2 lo hi) q⟩
    have hc : cutP xs lo hi = xs := by
      unfold cutP
      rw [repBs_length h2, hw.1, hw.2, List.drop_zero, Nat.sub_zero, ← repBs_length h2, List.take_length]
    exact q r H _ (.refl r H) R (by rw [hc]; exact ra)
  | _ => cases e

/-! ### built-in functions -/
/-- z is handed on: a list as a new one -/
def Kont (r : List Addr) (H : Hp) (m : Mem) (z : PyData) (Q : VK) : Prop :=
  match z with
  | .list zs => ∀ p vs, H p = none → RepBs r H zs vs → Q (.ref p) (upd H p (.lst vs))
  | z => ∀ r' H' v, Ext r H r' H' → Rel r' H' m → RepB r' H' z v → Q v H'
/-- some values, by value: f gives z -/
def rC (f : List PyData → Option PyData) : List V → Hp → VK → Prop := fun xs H Q => ∃ r m as z, Rel r H m ∧ Paired (RepA r H) as xs ∧ f as = some z ∧ Kont r H m z Q
/-- the name of a built-in and what it is -/
def Bi.fn : Bi → Option Value
  | .len => some (.builtin "len")
  | .int => some (.type "int")
  | .str => some (.type "str")
  | .tuple => some (.type "tuple")
  | .list => some (.type "list")
  | .sorted => some (.builtin "sorted")
  | .all => some (.builtin "all")
  | .any => some (.builtin "any")
  | .sum => some (.builtin "sum")
  | .min1 => some (.builtin "min")
  | .max1 => some (.builtin "max")
  | .min2 => some (.builtin "min")
  | .max2 => some (.builtin "max")
  | _ => none
omit [TabC] in
theorem minL_le : ∀ (ns : List Int) (y : Int), y ∈ ns → minL ns ≤ y
  | [x], y, h => by rw [List.mem_singleton.mp h]; exact Int.le_refl _
  | x :: z :: r, y, h => by
    rw [minL]
    rcases List.mem_cons.mp h with e | h
    · rw [e]; exact Int.min_le_left _ _
    · exact Int.le_trans (Int.min_le_right _ _) (minL_le (z :: r) y h)
omit [TabC] in
theorem minL_mem : ∀ (ns : List Int), ns ≠ [] → minL ns ∈ ns
  | [x], _ => by simp [minL]
  | x :: z :: r, _ => by
    rw [minL]
    rcases Int.le_total x (minL (z :: r)) with h | h
    · rw [Int.min_eq_left h]; exact List.mem_cons_self ..
    · rw [Int.min_eq_right h]; exact List.mem_cons_of_mem _ (minL_mem (z :: r) (by simp))
omit [TabC] in
theorem maxL_le : ∀ (ns : List Int) (y : Int), y ∈ ns → y ≤ maxL ns
  | [x], y, h => by rw [List.mem_singleton.mp h]; exact Int.le_refl _
  | x :: z :: r, y, h => by
    rw [maxL]
    rcases List.mem_cons.mp h with e | h
    · rw [e]; exact Int.le_max_left _ _
    · exact Int.le_trans (maxL_le (z :: r) y h) (Int.le_max_right _ _)
omit [TabC] in
theorem maxL_mem : ∀ (ns : List Int), ns ≠ [] → maxL ns ∈ ns
  | [x], _ => by simp [maxL]
  | x :: z :: r, _ => by
    rw [maxL]
    rcases Int.le_total x (maxL (z :: r)) with h | h
    · rw [Int.max_eq_right h]; exact List.mem_cons_of_mem _ (maxL_mem (z :: r) (by simp))
    · rw [Int.max_eq_left h]; exact List.mem_cons_self ..
omit [TabC] in
theorem rep_ints (r : List Addr) (H : Hp) : ∀ ns : List Int, RepBs r H (ns.map .int) (ns.map V.int)
  | [] => by rw [List.map_nil, List.map_nil, RepBs]
  | n :: ns => by rw [List.map_cons, List.map_cons, RepBs]; exact ⟨_, _, rfl, by rw [RepB], rep_ints r H ns⟩
omit [TabC] in
theorem sortI_perm (ns : List Int) : (sortI ns).Perm ns := List.mergeSort_perm ns _
omit [TabC] in
theorem sortI_sorted (ns : List Int) : (sortI ns).Pairwise (· ≤ ·) := by
  have h := List.pairwise_mergeSort (le := fun a c : Int => decide (a ≤ c)) (fun a b c h1 h2 => by simp at *; omega) (fun a b => by simp; omega) ns
  exact h.imp fun h => by simpa using h
omit [TabC] in
theorem sort_same {a b : List Int} (hp : a.Perm b) (ha : a.Pairwise (· ≤ ·)) (hb : b.Pairwise (· ≤ ·)) : a = b :=
  hp.eq_of_pairwise (fun x y _ _ h1 h2 => Int.le_antisymm h1 h2) ha hb
theorem bi_ok (f : Bi) {v : Value} (hv : f.fn = some v) (hc : X.calm = true) : CallR X v (rC (biP f)) := by
  intro pins s σ H xs us Q I rv ⟨r, m, as, z, R, ra, e, q⟩
  have done : ∀ {d : PyData} {w : V}, some d = some z → (∀ zs, d ≠ .list zs) → RepB r H d w → Q w H := fun {d w} ez hn h => by
    cases ez
    cases z with
    | list zs => exact absurd rfl (hn zs)
    | _ => exact q r H _ (.refl r H) R h
  cases f with
  | len =>
    cases hv
    match as, ra, e with
    | [.list ys], .cons h .nil, e =>
      obtain ⟨p, vs, rfl, h1, h2⟩ := h
      exact call_len_seq pins s σ H _ us Q I rv ⟨p, vs, rfl, .inl (.of h1), done e (fun _ z => nomatch z) (by rw [RepB, repBs_length h2])⟩
    | [.tuple ys], .cons h .nil, e =>
      have h' : RepB r H (.tuple ys) _ := h
      rw [RepB] at h'
      obtain ⟨p, vs, rfl, h1, h2⟩ := h'
      exact call_len_seq pins s σ H _ us Q I rv ⟨p, vs, rfl, .inr (.of h1), done e (fun _ z => nomatch z) (by rw [RepB, repBs_length h2])⟩
    | [.str t], .cons h .nil, e =>
      have h' : _ = V.str t := h
      subst h'
      simp only [biP] at e
      split at e
      · rename_i hl; exact call_len_str pins s σ H _ us Q I rv ⟨t, rfl, by rw [← lim_eq]; exact hl, done e (fun _ z => nomatch z) (by rw [RepB])⟩
      · cases e
  | int =>
    cases hv
    match as, ra, e with
    | [.int i], .cons h .nil, e =>
      have h' : _ = V.int i := h
      subst h'
      exact call_int1 pins s σ H _ us Q I rv (.inl ⟨i, rfl, done e (fun _ z => nomatch z) (by rw [RepB])⟩)
    | [.bool i], .cons h .nil, e =>
      have h' : _ = V.bl i := h
      subst h'
      exact call_int1 pins s σ H _ us Q I rv (.inr ⟨i, rfl, done e (fun _ z => nomatch z) (by rw [RepB])⟩)
  | str =>
    cases hv
    match as, ra, e with
    | [.int i], .cons h .nil, e =>
      have h' : _ = V.int i := h
      subst h'
      simp only [biP] at e
      split at e
      · rename_i hl; exact call_str_int pins s σ H _ us Q I rv ⟨i, rfl, hl, done e (fun _ z => nomatch z) (by rw [RepB])⟩
      · cases e
  | tuple =>
    cases hv
    match as, ra, e with
    | [.list ys], .cons h .nil, e =>
      obtain ⟨p, vs, rfl, h1, h2⟩ := h
      cases e
      exact call_tuple_of pins s σ H _ us Q I rv ⟨p, vs, rfl, .inl ⟨.of h1, newTup R h2 q⟩⟩
    | [.tuple ys], .cons h .nil, e =>
      have h' : RepB r H (.tuple ys) _ := h
      rw [RepB] at h'
      obtain ⟨p, vs, rfl, h1, h2⟩ := h'
      exact call_tuple_of pins s σ H _ us Q I rv ⟨p, vs, rfl, .inr ⟨.of h1, done e (fun _ z => nomatch z) h⟩⟩
  | list =>
    cases hv
    match as, ra, e with
    | [.list ys], .cons h .nil, e =>
      obtain ⟨p, vs, rfl, h1, h2⟩ := h
      cases e
      exact call_list_of pins s σ H _ us Q I rv ⟨p, vs, rfl, .inl (.of h1), fun p hp => q p _ hp h2⟩
    | [.tuple ys], .cons h .nil, e =>
      have h' : RepB r H (.tuple ys) _ := h
      rw [RepB] at h'
      obtain ⟨p, vs, rfl, h1, h2⟩ := h'
      cases e
      exact call_list_of pins s σ H _ us Q I rv ⟨p, vs, rfl, .inr (.of h1), fun p hp => q p _ hp h2⟩
  | sorted =>
    cases hv
    match as, ra, e with
    | [.list ys], .cons h .nil, e =>
      obtain ⟨p, vs, rfl, h1, h2⟩ := h
      simp only [biP] at e
      cases hb : intsOf ys with
      | none => rw [hb] at e; cases e
      | some ns =>
        rw [hb] at e
        cases e
        have ev := intsOf_vs hb h2
        subst ev
        refine cr_sortedI pins s σ H _ us Q I rv ⟨p, ns, rfl, .of h1, fun ns' p' hp hs hn => ?_⟩
        rw [sort_same (hp.trans (sortI_perm ns).symm) hs (sortI_sorted ns)]
        exact q p' _ hn (rep_ints r H _)
  | all =>
    cases hv
    match as, ra, e with
    | [.list ys], .cons h .nil, e =>
      obtain ⟨p, vs, rfl, h1, h2⟩ := h
      simp only [biP] at e
      cases hb : boolsOf ys with
      | none => rw [hb] at e; cases e
      | some bs =>
        rw [hb] at e
        have ev := boolsOf_vs hb h2
        subst ev
        exact cr_all hc pins s σ H _ us Q I rv ⟨p, bs, rfl, .of h1, done e (fun _ z => nomatch z) (by rw [RepB])⟩
  | any =>
    cases hv
    match as, ra, e with
    | [.list ys], .cons h .nil, e =>
      obtain ⟨p, vs, rfl, h1, h2⟩ := h
      simp only [biP] at e
      cases hb : boolsOf ys with
      | none => rw [hb] at e; cases e
      | some bs =>
        rw [hb] at e
        have ev := boolsOf_vs hb h2
        subst ev
        exact cr_any hc pins s σ H _ us Q I rv ⟨p, bs, rfl, .of h1, done e (fun _ z => nomatch z) (by rw [RepB])⟩
  | sum =>
    cases hv
    match as, ra, e with
    | [.list ys], .cons h .nil, e =>
      obtain ⟨p, vs, rfl, h1, h2⟩ := h
      simp only [biP] at e
      cases hb : intsOf ys with
      | none => rw [hb] at e; cases e
      | some bs =>
        rw [hb] at e
        have ev := intsOf_vs hb h2
        subst ev
        exact cr_sum hc pins s σ H _ us Q I rv ⟨p, bs, rfl, .of h1, done e (fun _ z => nomatch z) (by rw [RepB])⟩
  | min1 =>
    cases hv
    match as, ra, e with
    | [.list ys], .cons h .nil, e =>
      obtain ⟨p, vs, rfl, h1, h2⟩ := h
      simp only [biP] at e
      cases hb : intsOf ys with
      | none => rw [hb] at e; cases e
      | some bs =>
        rw [hb] at e
        have ev := intsOf_vs hb h2
        subst ev
        cases bs with
        | nil => cases e
        | cons n ns =>
          refine cr_min hc pins s σ H _ us Q I rv ⟨p, n :: ns, rfl, .of h1, by simp, fun k hk hle => done e (fun _ z => nomatch z) ?_⟩
          rw [RepB, Int.le_antisymm (hle _ (minL_mem (n :: ns) (by simp))) (minL_le (n :: ns) k hk)]
  | max1 =>
    cases hv
    match as, ra, e with
    | [.list ys], .cons h .nil, e =>
      obtain ⟨p, vs, rfl, h1, h2⟩ := h
      simp only [biP] at e
      cases hb : intsOf ys with
      | none => rw [hb] at e; cases e
      | some bs =>
        rw [hb] at e
        have ev := intsOf_vs hb h2
        subst ev
        cases bs with
        | nil => cases e
        | cons n ns =>
          refine cr_max hc pins s σ H _ us Q I rv ⟨p, n :: ns, rfl, .of h1, by simp, fun k hk hle => done e (fun _ z => nomatch z) ?_⟩
          rw [RepB, Int.le_antisymm (maxL_le (n :: ns) k hk) (hle _ (maxL_mem (n :: ns) (by simp)))]
  | min2 =>
    cases hv
    match as, ra, e with
    | [.int i, .int j], .cons h (.cons k .nil), e =>
      have h' : _ = V.int i := h
      have k' : _ = V.int j := k
      subst h' k'
      exact call_min2 hc pins s σ H _ us Q I rv ⟨i, j, rfl, done e (fun _ z => nomatch z) (by rw [RepB])⟩
  | max2 =>
    cases hv
    match as, ra, e with
    | [.int i, .int j], .cons h (.cons k .nil), e =>
      have h' : _ = V.int i := h
      have k' : _ = V.int j := k
      subst h' k'
      exact call_max2 hc pins s σ H _ us Q I rv ⟨i, j, rfl, done e (fun _ z => nomatch z) (by rw [RepB])⟩
  | _ => cases hv
omit [TabC] in
/-- the type of a value -/
theorem tyX_of {K : PySem.W.Frag} {x : PyData} {v : V} (h : RepA r H x v) : TyX K H v (.type (tyP x)) := by
  cases x with
  | none => have h' : v = .non := h; subst h'; exact .base .non
  | bool c => have h' : v = .bl c := h; subst h'; exact .base (.bl c)
  | int c => have h' : v = .int c := h; subst h'; exact .base (.int c)
  | str c => have h' : v = .str c := h; subst h'; exact .base (.str c)
  | list xs => obtain ⟨a, vs, rfl, h1, h2⟩ := h; exact .base (.lst h1)
  | tuple xs =>
    have h' : RepB r H (.tuple xs) v := h
    rw [RepB] at h'
    obtain ⟨a, vs, rfl, h1, h2⟩ := h'
    exact .base (.tup h1)
  | dict kvs =>
    have h' : RepB r H (.dict kvs) v := h
    rw [RepB] at h'
    obtain ⟨a, u, rfl, h1, h2⟩ := h'
    exact .base (.dK h1)

/-! ### lists changed in place -/
variable {K : PySem.W.Frag} {mg : Str → Option Value}
/-- a result with the memory behind it -/
def After (K : PySem.W.Frag) (mg : Str → Option Value) (r : List Addr) (H : Hp) (d : D) (m' : Mem) (Q : VK) : Prop := ∀ r' H' v, Ext r H r' H' → Rel r' H' m' → RepD K mg r' H' d v → Q v H'
def rM (K : PySem.W.Frag) (mg : Str → Option Value) (f : Me) : V → List V → Hp → VK → Prop := fun x xs H Q => ∃ r m dx ds d m', Rel r H m ∧ RepD K mg r H dx x ∧ RepDs K mg r H ds xs ∧ meF f dx ds m = .ok d m' ∧ After K mg r H d m' Q
def Me.id : Me → String
  | .append => "list.append" | .insert => "list.insert" | .extend => "list.extend" | .pop => "list.pop" | .popAt => "list.pop" | .clear => "list.clear"
def Me.nm : Me → Str
  | .append => "append" | .insert => "insert" | .extend => "extend" | .pop => "pop" | .popAt => "pop" | .clear => "clear"
theorem rM_lst {f : Me} {x : V} {xs : List V} {H : Hp} {Q : VK} (h : rM K mg f x xs H Q) : ∃ r m n zs ys d zs' a vs, Rel r H m ∧ x = .ref a ∧ r[n]? = some a ∧ H a = some (.lst vs) ∧ RepBs r H zs vs ∧
    ((f = .extend → Paired (RepA r H) ys xs) ∧ (f ≠ .extend → RepBs r H ys xs)) ∧ meL f zs ys = some (d, zs') ∧ After K mg r H (.b d) (m.set n (.lst zs')) Q := by
  obtain ⟨r, m, dx, ds, d, m', R, rx, rs, e, q⟩ := h
  cases dx with
  | ref n =>
    obtain ⟨a, h1, h2⟩ := rx
    unfold meF at e
    cases ho : m[n]? with
    | none => simp only [ho] at e; cases e
    | some o =>
      cases o with
      | lst zs =>
        simp only [ho] at e
        obtain ⟨vs, h3, h4⟩ := R.at_ n a _ h1 ho
        cases hA : meA f m ds with
        | none => rw [hA] at e; cases e
        | some ys =>
          rw [hA] at e
          simp only at e
          cases hL : meL f zs ys with
          | none => rw [hL] at e; cases e
          | some p =>
            obtain ⟨d', zs'⟩ := p
            rw [hL] at e
            cases e
            refine ⟨r, m, n, zs, ys, d', zs', a, vs, R, h2, h1, h3, h4, ⟨fun hf => ?_, fun hf => ?_⟩, hL, q⟩
            · subst hf; exact RepDs.snaps R rs hA
            · refine RepDs.owns rs ?_
              cases f <;> first | exact hA | exact absurd rfl hf
      | any => simp only [ho] at e; cases e
      | rows ks => simp only [ho] at e; cases e
  | _ => cases e
theorem after_unit {r : List Addr} {m : Mem} {n : Nat} {a : Addr} {zs : List PyData} {vs ws : List V} {Q : VK} (R : Rel r H m) (h1 : r[n]? = some a) (h3 : H a = some (.lst vs)) (nr : ∀ b, b ∈ r → V.ref b ∉ vs) (q : RepBs r H zs ws)
    (af : After K mg r H (.b .none) (m.set n (.lst zs)) Q) : Q .non (upd H a (.lst ws)) :=
  af r _ .non (.write (List.mem_of_getElem? h1) h3 nr) (R.write h1 h3 nr q) (by show RepB _ _ _ _; rw [RepB])
omit [TabC] in
theorem repBs_snoc {xs : List PyData} {vs : List V} {x : PyData} {v : V} (h : RepBs r H xs vs) (q : RepB r H x v) : RepBs r H (xs ++ [x]) (vs ++ [v]) :=
  RepBs.pair.mpr (pr_append (RepBs.pair.mp h) (.cons q .nil))
omit [TabC] in
theorem repBs_one {y : PyData} {vs : List V} (h : RepBs r H [y] vs) : ∃ v, vs = [v] ∧ RepB r H y v := by
  rw [RepBs] at h
  obtain ⟨v, ws, rfl, h1, h2⟩ := h
  rw [RepBs] at h2
  subst h2
  exact ⟨v, rfl, h1⟩
omit [TabC] in
theorem repBs_two {x y : PyData} {vs : List V} (h : RepBs r H [x, y] vs) : ∃ v w, vs = [v, w] ∧ RepB r H x v ∧ RepB r H y w := by
  rw [RepBs] at h
  obtain ⟨v, ws, rfl, h1, h2⟩ := h
  obtain ⟨w, rfl, h3⟩ := repBs_one h2
  exact ⟨v, w, rfl, h1, h3⟩
theorem me_ok (f : Me) : MtR X f.id (rM K mg f) := by
  intro pins s σ H x xs v us Q I rx rv h
  obtain ⟨r, m, n, zs, ys, d, zs', a, vs, R, rfl, h1, h3, h4, ⟨hs, ho⟩, e, q⟩ := rM_lst h
  cases f with
  | append =>
    have hyy := ho (fun z => nomatch z)
    simp only [meL] at e
    split at e
    · rename_i y
      split at e
      · rename_i hl
        cases e
        obtain ⟨w, rfl, hy⟩ := repBs_one hyy
        exact mt_append pins s σ H _ _ v us Q I rx rv ⟨a, vs, w, rfl, rfl, h3, by rw [← repBs_length h4, ← lim_eq]; exact hl, after_unit R h1 h3 (RepBs.noref R h4) (repBs_snoc h4 hy) q⟩
      · cases e
    · cases e
  | insert =>
    have hyy := ho (fun z => nomatch z)
    simp only [meL] at e
    split at e
    · rename_i x y
      split at e
      · rename_i i
        split at e
        · rename_i hl
          cases e
          obtain ⟨w1, w, rfl, hi, hy⟩ := repBs_two hyy
          rw [RepB] at hi
          subst hi
          have hz : zs.length ≤ lim := Nat.le_of_lt hl.1
          have hlim : lim = 16777216 := rfl
          refine mt_insert pins s σ H _ _ v us Q I rx rv ⟨a, vs, i, w, rfl, rfl, h3, by rw [← repBs_length h4, ← lim_eq]; exact hl.1, hl.2.1, ?_, after_unit R h1 h3 (RepBs.noref R h4) ?_ q⟩
          · have := hl.2.2; omega
          · exact RepBs.pair.mpr (pr_append (pr_append (pr_take _ (RepBs.pair.mp h4)) (.cons hy .nil)) (pr_drop _ (RepBs.pair.mp h4)))
        · cases e
      · cases e
    · cases e
  | extend =>
    have hy := hs rfl
    simp only [meL] at e
    split at e
    · rename_i y
      split at e
      · rename_i ys
        split at e
        · rename_i hl
          cases e
          cases hy with
          | cons hy hn =>
            cases hn
            obtain ⟨b, ws, rfl, h5, h6⟩ := hy
            exact mt_extend pins s σ H _ _ v us Q I rx rv ⟨a, b, vs, ws, rfl, rfl, h3, h5, by rw [← repBs_length h4, ← repBs_length h6, ← lim_eq]; exact hl, after_unit R h1 h3 (RepBs.noref R h4) (RepBs.pair.mpr (pr_append (RepBs.pair.mp h4) (RepBs.pair.mp h6))) q⟩
        · cases e
      · cases e
    · cases e
  | pop =>
    have hyy := ho (fun z => nomatch z)
    simp only [meL] at e
    split at e
    · cases hz : zs[zs.length - 1]? with
      | none => rw [hz] at e; cases e
      | some y =>
        rw [hz] at e
        cases e
        rw [RepBs] at hyy
        subst hyy
        obtain ⟨w, h5, h6⟩ := pr_get (RepBs.pair.mp h4) hz
        rw [repBs_length h4] at h5
        refine mt_pop pins s σ H _ _ v us Q I rx rv ⟨a, vs, w, rfl, rfl, h3, h5, ?_⟩
        have ex : Ext r H r (upd H a (.lst vs.dropLast)) := .write (List.mem_of_getElem? h1) h3 (RepBs.noref R h4)
        exact q r _ w ex (R.write h1 h3 (RepBs.noref R h4) (RepBs.pair.mpr (pr_dropLast (RepBs.pair.mp h4)))) (RepB.ext ex _ h6)
    · cases e
  | popAt => cases e
  | clear =>
    have hyy := ho (fun z => nomatch z)
    simp only [meL] at e
    split at e
    · cases e
      rw [RepBs] at hyy
      subst hyy
      exact mt_clear pins s σ H _ _ v us Q I rx rv ⟨a, vs, rfl, rfl, h3, after_unit R h1 h3 (RepBs.noref R h4) (by rw [RepBs]) q⟩
    · cases e
/-- o[i] = v -/
def rSet (K : PySem.W.Frag) (mg : Str → Option Value) : TSet := fun o i v H Q => ∃ r m dx di dv m', Rel r H m ∧ RepD K mg r H dx o ∧ RepD K mg r H di i ∧ RepD K mg r H dv v ∧ setF dx di dv m = .ok () m' ∧ ∀ r' H', Ext r H r' H' → Rel r' H' m' → Q H'
theorem set_ok : PSet X (rSet K mg) := by
  intro pins s σ H o i v ov iv u Q I ro ri rv ⟨r, m, dx, di, dv, m', R, rx, rj, ry, e, q⟩
  unfold setF at e
  cases dx with
  | ref n =>
    obtain ⟨a, h1, h2⟩ := rx
    subst h2
    cases ho : m[n]? with
    | none => simp only [ho] at e; cases e
    | some ob =>
      cases ob with
      | lst zs =>
        simp only [ho] at e
        obtain ⟨vs, h3, h4⟩ := R.at_ n a _ h1 ho
        split at e
        · rename_i k y hw
          obtain ⟨_, _, ev, hk, hy⟩ := repBs_two (RepDs.owns (.cons rj (.cons ry .nil)) hw)
          cases ev
          unfold setL at e
          cases k with
          | int k =>
            rw [RepB] at hk
            subst hk
            simp only at e
            cases hj : ixN zs.length k with
            | none => rw [hj] at e; cases e
            | some j =>
              rw [hj] at e
              cases e
              refine set_list pins s σ H _ _ v ov iv u Q I ro ri rv ⟨a, vs, k, j, rfl, rfl, h3, by rw [← repBs_length h4]; exact hj, ?_⟩
              exact q r _ (.write (List.mem_of_getElem? h1) h3 (RepBs.noref R h4)) (R.write h1 h3 (RepBs.noref R h4) (RepBs.pair.mpr (pr_set _ (RepBs.pair.mp h4) hy)))
          | _ => cases e
        · cases e
      | any => simp only [ho] at e; cases e
      | rows ks => simp only [ho] at e; cases e
  | _ => cases e
end
end Z

/-! Z4: what loops and comprehensions walk. -/
namespace PySem
open Sem (wp)
set_option maxHeartbeats 1000000 in
theorem z_meets_enum {v : Value} {o : Obj} {H : Heap → Prop} (B : Begins v o H) :
    Meets (Builtin.«enumerate.__new__» ⟨[.type "enumerate", v], []⟩) (fun _ R s => H s.heap ∧
      R (.ok (.ret (.ref (s.heap.push o).objs.size))) { s with heap := (s.heap.push o).push { cls := .type "enumerate", data := .fields #[.none, .bool false, .ref s.heap.objs.size, rawInt 0, .none, .none] } }) :=
  .of_wp fun prog w A R s h => by
    obtain ⟨hp, g, d, tk, os⟩ := s; obtain ⟨h1, h⟩ := h
    have hsub := sub_enumerate
    have q1 : ∀ {A' : Around} {E : Value → Shared → Prop} {Q : Value → Shared → Prop}, Q (.ref hp.objs.size) ⟨hp.push o, g, d, tk, os⟩ → wpAny (model prog w) A' (pyIter v) Q E ⟨hp, g, d, tk, os⟩ :=
      fun q => B.iter prog w _ _ ⟨hp, g, d, tk, os⟩ _ h1 q
    wp_walk using q1
    refine wpAny_stack_any fun st => wpAny_pure ?_
    split
    · rename_i c _ _ _ _ _
      cases (c == Value.type "enumerate")
      · wp_walk using q1
        exact ⟨_, rfl, h⟩
      · wp_walk using q1
        exact ⟨_, rfl, h⟩
    · wp_walk using q1
      exact ⟨_, rfl, h⟩
theorem z_call_enum {prog : Program} {w : World} {A : Around} {E : Value → Shared → Prop} {s : Shared} {v : Value} {o : Obj} {H : Heap → Prop} {Q : Value → Shared → Prop} (B : Begins v o H) (h1 : H s.heap)
    (h : ∀ h', IsEnum h' (s.heap.objs.size + 1) s.heap.objs.size 0 .none → h'.get? s.heap.objs.size = some o → h'.objs.size = s.heap.objs.size + 2 →
      (∀ b o, s.heap.get? b = some o → h'.get? b = some o) → Q (.ref (s.heap.objs.size + 1)) { s with heap := h' }) :
    wpAny (model prog w) A (call (.type "enumerate") [v]) Q E s := by
  refine callType_new F.called_enumerate (by decide) (F.typeCall_enumerate_1 _) (F.newCall_enumerate_1 _) (fun obj => F.args_object_init_2 obj _) F.entry_enumerate_new
    (z_meets_enum B) ⟨h1, ?_⟩
  have hz : (s.heap.push o).objs.size = s.heap.objs.size + 1 := Heap.size_push ..
  show _ ∧ _
  rw [hz]
  have he : IsEnum ((s.heap.push o).push
      { cls := .type "enumerate", data := .fields #[.none, .bool false, .ref s.heap.objs.size, rawInt 0, .none, .none] }) (s.heap.objs.size + 1) s.heap.objs.size 0 .none := by
    have := Heap.get?_push_size (s.heap.push o)
      (o := { cls := .type "enumerate", data := .fields #[.none, .bool false, .ref s.heap.objs.size, rawInt 0, .none, .none] }) rfl
    rw [hz] at this; exact this
  exact ⟨⟨_, he, rfl⟩, h _ he (Heap.get?_push_of_some _ (Heap.get?_push_size _ B.free)) (by rw [Heap.size_push, hz]) fun b o x => Heap.get?_push_of_some _ (Heap.get?_push_of_some _ x)⟩
end PySem

namespace Z
open PySem PySem.Spec PyProof.Rows L2
variable [TabC]

/-! ### enumerate(tuple) -/
def IteT (K : PySem.W.Frag) (a : Addr) : L2.It :=
  ⟨fun i H => ∃ (xs : List V) (x : V), SqT K H a xs ∧ xs[i]? = some x, fun i H v H' => ∃ T x, v = .ref T ∧ H T = none ∧ H' = upd H T (.tup [.int (i : Nat), x]) ∧ ∀ xs, SqT K H a xs → xs[i]? = some x, fun i H => ∃ xs : List V, SqT K H a xs ∧ xs.length = i⟩
omit [TabC] in
theorem turn_enumT {P : Program} {w : World} {K : PySem.W.Frag} {elts : List Expr} {kk : Nat} {tpos : Pos} (a e it : Addr) :
    Turn P w K (.Tuple elts kk tpos) (IteT K a) [e, it] e (fun i h => (∃ old, IsEnum h e it ((i : Nat) : Int) old) ∧ h.IsTupleIter it a i ∧ e ≠ it ∧ a ≠ it ∧ e ≠ a) where
  mem := by simp
  obj := fun i h st b hb => by
    obtain ⟨⟨old, he⟩, ⟨o, ho, hc, hd⟩, _⟩ := st
    have e' : b = e ∨ b = it := by simpa using hb
    rcases e' with z | z
    · rw [z]; exact ⟨_, he, fun v q => nomatch q⟩
    · rw [z]; exact ⟨o, ho, fun v q => by rw [hd] at q; cases q⟩
  keep := fun i h h' st k => let ⟨⟨old, he⟩, hi, hne⟩ := st; ⟨⟨old, k e (by simp) _ he⟩, hi.at fun o q => k it (by simp) o q, hne⟩
  item := by
    intro X hP hw hK hc i pins s σ H E I hf st hg
    subst hP hw hK
    obtain ⟨⟨old, he⟩, hit, hne, hai, hea⟩ := st
    obtain ⟨xs, x, hq, hx⟩ := hg
    obtain ⟨its, rv, p, hz⟩ := I.tuple hq
    obtain ⟨u, hu, ru⟩ := rv.get hx
    have hel : e < s.heap.objs.size := Heap.lt_size he
    have hil : it < s.heap.objs.size := by obtain ⟨_, q, _⟩ := hit; exact Heap.lt_size q
    have hd1 : X.A.in1.handled = none := I.ok.hd hc
    have hlt : i < its.toArray.size := by
      have := (List.getElem?_eq_some_iff.mp hu).1
      rw [List.size_toArray]; exact this
    refine wpAny_pyNext_enum_itemD (Draws.tuple hd1 it a hai its.toArray) he ⟨hit, p⟩ hlt hne (by simp [hne, hea]) fun x' h' tk hP ho st' hT hsz hk => ?_
    have ex : x' = u := by
      have hP' : its.toArray[i]? = some x' := hP
      rw [List.getElem?_toArray, hu] at hP'
      exact (Option.some.inj hP').symm
    subst ex
    obtain ⟨hit', _⟩ := st'
    refine ⟨_, rfl, wpAny_letOwnedTupleGo_enum (s := { s with heap := h', toks := tk + 1 }) ho fun h'' he' sb => ?_⟩
    have hT2 : h''.get? s.heap.objs.size = some { cls := .type "tuple", data := .seq #[.int i tk, x'] } := (sb.2 _ (Nat.ne_of_gt hel)).trans hT
    have new : ObjOk X.prog X.w (upd H s.heap.objs.size (.tup [.int (i : Nat), x])) h'' s.heap.objs.size (.tup [.int (i : Nat), x]) :=
      ⟨by show 2 ≤ sizeLine; decide, [.int i tk, x'], .cons ⟨_, rfl⟩ (.cons ru .nil), ⟨_, hT2, rfl, _, rfl⟩⟩
    have I1 : Inv X pins σ (upd H s.heap.objs.size (.tup [.int (i : Nat), x])) { s with heap := h'', toks := tk + 1 } :=
      I.turnedNew (ch := [e, it]) (fun b ob hb q => (sb.2 b (fun z => hb (by simp [z]))).trans (hk b ob (fun z => hb (by simp [z])) (fun z => hb (by simp [z])) q)) hf (Nat.le_refl _) new
    refine ⟨.ref s.heap.objs.size, _, I1, rfl, ⟨_, x, rfl, I.hok.fresh (Nat.le_refl _), rfl, fun ys hy => by rw [I.tuple_inj hy hq]; exact hx⟩, ⟨⟨x', ?_⟩, hit'.at fun o q => (sb.2 it (Ne.symm hne)).trans q, hne, hai, hea⟩, fun b hb => ?_⟩
    · have e1 : ((i + 1 : Nat) : Int) = (i : Int) + 1 := by omega
      rw [e1]; exact he'
    · have hb' : b < s.heap.objs.size := by
        have e' : b = e ∨ b = it := by simpa using hb
        rcases e' with z | z
        · rw [z]; exact hel
        · rw [z]; exact hil
      rw [upd_ne (Nat.ne_of_lt hb')]
      exact (hf b hb).1
  done := by
    intro X hP hw hK hc i pins s σ H E I hf st hg
    subst hP hw hK
    obtain ⟨⟨old, he⟩, hit, hne, hai, hea⟩ := st
    obtain ⟨xs, hq, hx⟩ := hg
    obtain ⟨its, rv, p, hz⟩ := I.tuple hq
    obtain ⟨f0, f1, f2, f3, f4, f5⟩ := hf it (by simp)
    have hl : its.toArray.size = i := by rw [List.size_toArray, ← rv.length, hx]
    have hd1 : X.A.in1.handled = none := I.ok.hd hc
    exact wpAny_pyNext_enum_endD (Draws.tuple hd1 it a hai its.toArray) he ⟨by rw [hl]; exact hit, p⟩ fun h' eb => ⟨rfl, I.turned (t' := s.toks) (fun b o hb q => eb b o hb q) f0 f1 f3 f4 f5⟩
  self := fun A i s Q E st h => let ⟨⟨_, he⟩, _⟩ := st; wpAny_pyIter_enum he h

/-! ### PI of anything that we walk -/
section
variable {X : Cx} {tg : Expr}
/-- a list or a tuple -/
def iSeq (K : PySem.W.Frag) (tl : TE) : TI := fun σ H R => tl σ H fun x H1 => ∃ a, x = .ref a ∧ (((∃ xs, SqL K H1 a xs) ∧ R (Itl K a) H1) ∨ ((∃ xs, SqT K H1 a xs) ∧ R (Itt K a) H1))
omit [TabC] in
theorem pi_seq {l : Expr} {tl : TE} (hl : PE X l tl) : PI X tg l (iSeq X.K tl) := by
  refine ⟨fun pins s σ H R I h => ?_⟩
  refine thn (hl.run pins s σ H _ I h) fun v s1 ⟨x, H1, I1, r1, q1⟩ => ?_
  obtain ⟨a, e, q1⟩ := q1
  subst e
  cases r1
  have fr : ∀ b ∈ [s1.heap.objs.size], FpOk X pins H1 b := fun b hb => by
    have e : b = s1.heap.objs.size := by simpa using hb
    subst e
    exact I1.fpOk (Nat.le_refl _) (I1.hok.fresh (Nat.le_refl _))
  rcases q1 with ⟨⟨xs, hq⟩, q⟩ | ⟨⟨xs, hq⟩, q⟩
  · obtain ⟨its, rv, p, hz⟩ := I1.list hq
    refine wpAny_pyIter_list p.isList ?_
    exact ⟨s1.heap.objs.size, [s1.heap.objs.size], _, _, H1, rfl, I1.kept (t' := s1.toks) fun b o e => Heap.get?_push_of_some _ e, turn_list a _, ⟨_, Heap.get?_push_size _ rfl, rfl, rfl⟩, fr, q⟩
  · obtain ⟨its, rv, p, hz⟩ := I1.tuple hq
    refine wpAny_pyIter_tuple (show s1.heap.IsTuple a its.toArray from p) ?_
    exact ⟨s1.heap.objs.size, [s1.heap.objs.size], _, _, H1, rfl, I1.kept (t' := s1.toks) fun b o e => Heap.get?_push_of_some _ e, turn_tuple a _, ⟨_, Heap.get?_push_size _ rfl, rfl, rfl⟩, fr, q⟩
/-- enumerate of a list or a tuple -/
def iEnm (K : PySem.W.Frag) (ta : TA) : TI := fun σ H R => ta σ H fun vs H1 => ∃ a, vs = [.ref a] ∧ (((∃ xs, SqL K H1 a xs) ∧ R (Ite K a) H1) ∨ ((∃ xs, SqT K H1 a xs) ∧ R (IteT K a) H1))
omit [TabC] in
theorem pi_enm {e : Expr} {ta : TA} {p pos tpos : Pos} {elts : List Expr} {kk : Nat} (hg : Gl X "enumerate") (hm : X.mg "enumerate" = none) (ha : PA X [e] ta) (hs : starEach [e] X.env = [(false, eval e X.env)]) :
    PI X (.Tuple elts kk tpos) (.Call (.Name "enumerate" p) [e] [] pos) (iEnm X.K ta) := by
  refine ⟨fun pins s σ H R I h => ?_⟩
  refine Call_ (ld_blt I hg hm boot_enumerate (PyProof.Rows.callWith_type1 (thn (ha.run pos pins s σ H _ I h) fun us s1 ⟨vs, H1, I1, r1, q1⟩ => ?_) hs rfl))
  obtain ⟨a, ex, q1⟩ := q1
  subst ex
  cases r1 with
  | cons r rr =>
    cases rr
    cases r
    have fr : ∀ b ∈ [s1.heap.objs.size + 1, s1.heap.objs.size], FpOk X pins H1 b := fun b hb => by
      have e' : b = s1.heap.objs.size + 1 ∨ b = s1.heap.objs.size := by simpa using hb
      have hle : s1.heap.objs.size ≤ b := by
        rcases e' with z | z
        · rw [z]; exact Nat.le_add_right _ _
        · rw [z]; exact Nat.le_refl _
      exact I1.fpOk hle (I1.hok.fresh hle)
    rcases q1 with ⟨⟨xs, hq⟩, q⟩ | ⟨⟨xs, hq⟩, q⟩
    · obtain ⟨its, rv, p', hz⟩ := I1.list hq
      refine call_enumerate_list p'.isList fun h' he hit hsz hk => wpAny_pyIter_enum he ?_
      have I2 : Inv X pins σ H1 { s1 with heap := h' } := I1.kept (t' := s1.toks) hk
      exact ⟨s1.heap.objs.size + 1, [s1.heap.objs.size + 1, s1.heap.objs.size], _, _, H1, rfl, I2, turn_enum a (s1.heap.objs.size + 1) s1.heap.objs.size, ⟨⟨.none, he⟩, hit, Nat.succ_ne_self _⟩, fr, q⟩
    · obtain ⟨its, rv, p', hz⟩ := I1.tuple hq
      have la : a < s1.heap.objs.size := by
        obtain ⟨o, ho, _⟩ := p'
        exact Heap.lt_size ho
      refine z_call_enum (begins_tuple a its.toArray) p' fun h' he hit hsz hk => wpAny_pyIter_enum he ?_
      have I2 : Inv X pins σ H1 { s1 with heap := h' } := I1.kept (t' := s1.toks) hk
      exact ⟨s1.heap.objs.size + 1, [s1.heap.objs.size + 1, s1.heap.objs.size], _, _, H1, rfl, I2, turn_enumT a (s1.heap.objs.size + 1) s1.heap.objs.size, ⟨⟨.none, he⟩, ⟨_, hit, rfl, rfl⟩, Nat.succ_ne_self _, Nat.ne_of_lt la, Nat.ne_of_gt (Nat.lt_succ_of_lt la)⟩, fr, q⟩
end

/-! ### the items -/
/-- J gives the items, from (r0, H0) on -/
structure Wk (J : L2.It) (it : Items) (r0 : List Addr) (H0 : Hp) : Prop where
  go : ∀ (i : Nat) r H m, i < it.xs.length → Ext r0 H0 r H → Rel r H m → gOk it.g m → J.go i H
  stop : ∀ r H m, Ext r0 H0 r H → Rel r H m → gOk it.g m → J.stop it.xs.length H
  yld : ∀ (i : Nat) r H m x H' d, it.xs[i]? = some d → Ext r0 H0 r H → Rel r H m → gOk it.g m → J.yld i H x H' → Ext r H r H' ∧ (∀ a ∈ r, H' a = H a) ∧ RepB r H' d x
theorem Wk.lst {K : PySem.W.Frag} {a : Addr} {xs : List PyData} {r0 : List Addr} {H0 : Hp} {g : Gd} (h : ∀ r H m, Ext r0 H0 r H → Rel r H m → gOk g m → ∃ vs, H a = some (.lst vs) ∧ RepBs r H xs vs) : Wk (Itl K a) ⟨xs, g⟩ r0 H0 where
  go := fun i r H m hi e R hg => by
    obtain ⟨vs, h1, h2⟩ := h r H m e R hg
    have hv : i < vs.length := by rw [← repBs_length h2]; exact hi
    exact ⟨vs, vs[i], .of h1, List.getElem?_eq_getElem hv⟩
  stop := fun r H m e R hg => by
    obtain ⟨vs, h1, h2⟩ := h r H m e R hg
    exact ⟨vs, .of h1, by rw [← repBs_length h2]; exact Nat.le_refl _⟩
  yld := fun i r H m x H' d hd e R hg y => by
    obtain ⟨vs, h1, h2⟩ := h r H m e R hg
    obtain ⟨rfl, y⟩ := y
    obtain ⟨v, h3, h4⟩ := pr_get (RepBs.pair.mp h2) hd
    have h5 := y vs (.of h1)
    rw [h3] at h5
    cases h5
    exact ⟨.refl r _, fun _ _ => rfl, h4⟩
theorem Wk.tup {K : PySem.W.Frag} {a : Addr} {xs : List PyData} {r0 : List Addr} {H0 : Hp} {vs : List V} (h1 : H0 a = some (.tup vs)) (h2 : RepBs r0 H0 xs vs) : Wk (Itt K a) ⟨xs, none⟩ r0 H0 where
  go := fun i r H m hi e R hg => by
    have hv : i < vs.length := by rw [← repBs_length h2]; exact hi
    exact ⟨vs, vs[i], .of (e.tups a vs h1), List.getElem?_eq_getElem hv⟩
  stop := fun r H m e R hg => ⟨vs, .of (e.tups a vs h1), by rw [← repBs_length h2]; exact Nat.le_refl _⟩
  yld := fun i r H m x H' d hd e R hg y => by
    obtain ⟨rfl, y⟩ := y
    obtain ⟨v, h3, h4⟩ := pr_get (RepBs.pair.mp (h2.ext e xs)) hd
    have h5 := y vs (.of (e.tups a vs h1))
    rw [h3] at h5
    cases h5
    exact ⟨.refl r _, fun _ _ => rfl, h4⟩
theorem Wk.rng {lo : Int} {n : Nat} {r0 : List Addr} {H0 : Hp} : Wk (Itr lo n) ⟨(List.range n).map fun i => .int (lo + (i : Nat)), none⟩ r0 H0 where
  go := fun i r H m hi e R hg => by
    rw [List.length_map, List.length_range] at hi; exact hi
  stop := fun r H m e R hg => by
    show n ≤ _
    rw [List.length_map, List.length_range]
    exact Nat.le_refl _
  yld := fun i r H m x H' d hd e R hg y => by
    obtain ⟨rfl, rfl⟩ := y
    rw [List.getElem?_map] at hd
    cases q : (List.range n)[i]? with
    | none => rw [q] at hd; cases hd
    | some j =>
      rw [q] at hd
      cases hd
      obtain ⟨h1, h2⟩ := List.getElem?_eq_some_iff.mp q
      rw [List.getElem_range] at h2
      subst h2
      exact ⟨.refl r _, fun _ _ => rfl, by rw [RepB]⟩
omit [TabC] in
theorem pair_get {xs ys : List PyData} {i : Nat} {d : PyData} (h : (pairs xs ys)[i]? = some d) : ∃ x y, xs[i]? = some x ∧ ys[i]? = some y ∧ d = .tuple [x, y] := by
  unfold pairs at h
  rw [List.getElem?_zipWith] at h
  cases h1 : xs[i]? with
  | none => rw [h1] at h; cases h
  | some x =>
    cases h2 : ys[i]? with
    | none => rw [h1, h2] at h; cases h
    | some y =>
      rw [h1, h2] at h
      exact ⟨x, y, rfl, rfl, (Option.some.inj h).symm⟩
omit [TabC] in
theorem pairs_length (xs ys : List PyData) : (pairs xs ys).length = min xs.length ys.length := by unfold pairs; rw [List.length_zipWith]
/-- a new pair of what is there -/
theorem pair_new {r : List Addr} {H H' : Hp} {m : Mem} {T : Addr} {x y : PyData} {v w : V} (R : Rel r H m) (hT : H T = none) (hx : RepB r H x v) (hy : RepB r H y w) (e : H' = upd H T (.tup [v, w])) :
    Ext r H r H' ∧ (∀ a ∈ r, H' a = H a) ∧ RepB r H' (.tuple [x, y]) (.ref T) := by
  subst e
  have e := Ext.new (r := r) (o := .tup [v, w]) hT
  refine ⟨e, fun a ha => upd_ne fun z => R.notin hT (z ▸ ha), ?_⟩
  rw [RepB]
  refine ⟨T, [v, w], rfl, upd_same, ?_⟩
  rw [RepBs]
  refine ⟨v, [w], rfl, RepB.ext e x hx, ?_⟩
  rw [RepBs]
  exact ⟨w, [], rfl, RepB.ext e y hy, by rw [RepBs]⟩
omit [TabC] in
theorem rng_get {n i : Nat} {d : PyData} (h : (rngP 0 n)[i]? = some d) : d = .int (i : Nat) := by
  unfold rngP at h
  rw [List.getElem?_map] at h
  cases q : (List.range ((n : Int) - 0).toNat)[i]? with
  | none => rw [q] at h; cases h
  | some j =>
    rw [q] at h
    obtain ⟨h1, h2⟩ := List.getElem?_eq_some_iff.mp q
    rw [List.getElem_range] at h2
    subst h2
    rw [← Option.some.inj h]
    show PyData.int (0 + (i : Int)) = _
    rw [Int.zero_add]
omit [TabC] in
theorem rngP_length (a b : Int) : (rngP a b).length = (b - a).toNat := by unfold rngP; rw [List.length_map, List.length_range]
omit [TabC] in
theorem enum_length (xs : List PyData) : (pairs (rngP 0 xs.length) xs).length = xs.length := by
  rw [pairs_length, rngP_length]; omega
theorem Wk.enm {K : PySem.W.Frag} {a : Addr} {xs : List PyData} {r0 : List Addr} {H0 : Hp} {g : Gd} (h : ∀ r H m, Ext r0 H0 r H → Rel r H m → gOk g m → ∃ vs, H a = some (.lst vs) ∧ RepBs r H xs vs) : Wk (Ite K a) ⟨pairs (rngP 0 xs.length) xs, g⟩ r0 H0 where
  go := fun i r H m hi e R hg => by
    obtain ⟨vs, h1, h2⟩ := h r H m e R hg
    have hv : i < vs.length := by rw [← repBs_length h2, ← enum_length xs]; exact hi
    exact ⟨vs, vs[i], .of h1, List.getElem?_eq_getElem hv⟩
  stop := fun r H m e R hg => by
    obtain ⟨vs, h1, h2⟩ := h r H m e R hg
    exact ⟨vs, .of h1, by show vs.length ≤ (pairs (rngP 0 xs.length) xs).length; rw [enum_length, ← repBs_length h2]; exact Nat.le_refl _⟩
  yld := fun i r H m x H' d hd e R hg y => by
    obtain ⟨vs, h1, h2⟩ := h r H m e R hg
    obtain ⟨T, x', rfl, hT, eH, y⟩ := y
    obtain ⟨p, q, h3, h4, rfl⟩ := pair_get hd
    have ep := rng_get h3
    subst ep
    obtain ⟨v, h5, h6⟩ := pr_get (RepBs.pair.mp h2) h4
    have h7 := y vs (.of h1)
    rw [h5] at h7
    cases h7
    exact pair_new R hT (by rw [RepB]) h6 eH
theorem Wk.enmT {K : PySem.W.Frag} {a : Addr} {xs : List PyData} {r0 : List Addr} {H0 : Hp} {vs : List V} (h1 : H0 a = some (.tup vs)) (h2 : RepBs r0 H0 xs vs) : Wk (IteT K a) ⟨pairs (rngP 0 xs.length) xs, none⟩ r0 H0 where
  go := fun i r H m hi e R hg => by
    have hv : i < vs.length := by rw [← repBs_length h2, ← enum_length xs]; exact hi
    exact ⟨vs, vs[i], .of (e.tups a vs h1), List.getElem?_eq_getElem hv⟩
  stop := fun r H m e R hg => ⟨vs, .of (e.tups a vs h1), by show vs.length = (pairs (rngP 0 xs.length) xs).length; rw [enum_length, ← repBs_length h2]⟩
  yld := fun i r H m x H' d hd e R hg y => by
    obtain ⟨T, x', rfl, hT, eH, y⟩ := y
    obtain ⟨p, q, h3, h4, rfl⟩ := pair_get hd
    have ep := rng_get h3
    subst ep
    obtain ⟨v, h5, h6⟩ := pr_get (RepBs.pair.mp (h2.ext e xs)) h4
    have h7 := y vs (.of (e.tups a vs h1))
    rw [h5] at h7
    cases h7
    exact pair_new R hT (by rw [RepB]) h6 eH
theorem Wk.zip {K : PySem.W.Frag} {a b : Addr} {xs ys : List PyData} {r0 : List Addr} {H0 : Hp} {g : Gd} (h : ∀ r H m, Ext r0 H0 r H → Rel r H m → gOk g m → (∃ vs, H a = some (.lst vs) ∧ RepBs r H xs vs) ∧ ∃ vs, H b = some (.lst vs) ∧ RepBs r H ys vs) : Wk (Itz K a b) ⟨pairs xs ys, g⟩ r0 H0 where
  go := fun i r H m hi e R hg => by
    obtain ⟨⟨vs, h1, h2⟩, ws, h3, h4⟩ := h r H m e R hg
    have hi' : i < min xs.length ys.length := by rw [← pairs_length]; exact hi
    have hv : i < vs.length := by rw [← repBs_length h2]; omega
    have hw : i < ws.length := by rw [← repBs_length h4]; omega
    exact ⟨vs, ws, vs[i], ws[i], .of h1, .of h3, List.getElem?_eq_getElem hv, List.getElem?_eq_getElem hw⟩
  stop := fun r H m e R hg => by
    obtain ⟨⟨vs, h1, h2⟩, ws, h3, h4⟩ := h r H m e R hg
    refine ⟨vs, ws, .of h1, .of h3, ?_⟩
    show vs.length ≤ (pairs xs ys).length ∨ ws.length ≤ (pairs xs ys).length
    rw [pairs_length, ← repBs_length h2, ← repBs_length h4]
    omega
  yld := fun i r H m x H' d hd e R hg y => by
    obtain ⟨⟨vs, h1, h2⟩, ws, h3, h4⟩ := h r H m e R hg
    obtain ⟨T, x', y', rfl, hT, eH, y1, y2⟩ := y
    obtain ⟨p, q, h5, h6, rfl⟩ := pair_get hd
    obtain ⟨v, h7, h8⟩ := pr_get (RepBs.pair.mp h2) h5
    obtain ⟨w, h9, h10⟩ := pr_get (RepBs.pair.mp h4) h6
    have k1 := y1 vs (.of h1)
    have k2 := y2 ws (.of h3)
    rw [h7] at k1
    rw [h9] at k2
    cases k1
    cases k2
    exact pair_new R hT h8 h10 eH
theorem Wk.zipT {K : PySem.W.Frag} {a b : Addr} {xs ys : List PyData} {r0 : List Addr} {H0 : Hp} {vs ws : List V} (h1 : H0 a = some (.tup vs)) (h2 : RepBs r0 H0 xs vs) (h3 : H0 b = some (.tup ws)) (h4 : RepBs r0 H0 ys ws) : Wk (RZ.ItzT K a b) ⟨pairs xs ys, none⟩ r0 H0 where
  go := fun i r H m hi e R hg => by
    have hi' : i < min xs.length ys.length := by rw [← pairs_length]; exact hi
    have hv : i < vs.length := by rw [← repBs_length h2]; omega
    have hw : i < ws.length := by rw [← repBs_length h4]; omega
    exact ⟨vs, ws, vs[i], ws[i], .of (e.tups a vs h1), .of (e.tups b ws h3), List.getElem?_eq_getElem hv, List.getElem?_eq_getElem hw⟩
  stop := fun r H m e R hg => by
    refine ⟨vs, ws, .of (e.tups a vs h1), .of (e.tups b ws h3), ?_⟩
    show vs.length ≤ (pairs xs ys).length ∨ ws.length ≤ (pairs xs ys).length
    rw [pairs_length, ← repBs_length h2, ← repBs_length h4]
    omega
  yld := fun i r H m x H' d hd e R hg y => by
    obtain ⟨T, x', y', rfl, hT, eH, y1, y2⟩ := y
    obtain ⟨p, q, h5, h6, rfl⟩ := pair_get hd
    obtain ⟨v, h7, h8⟩ := pr_get (RepBs.pair.mp (h2.ext e xs)) h5
    obtain ⟨w, h9, h10⟩ := pr_get (RepBs.pair.mp (h4.ext e ys)) h6
    have k1 := y1 vs (.of (e.tups a vs h1))
    have k2 := y2 ws (.of (e.tups b ws h3))
    rw [h7] at k1
    rw [h9] at k2
    cases k1
    cases k2
    exact pair_new R hT h8 h10 eH
end Z

/-! ZZ: zip of a list and two tuples. -/
namespace Z
open PySem PySem.Spec PyProof.Rows L2
variable [TabC]
def It3 (K : PySem.W.Frag) (a b c : Addr) : L2.It :=
  ⟨fun i H => ∃ (xs ys zs : List V) (x y z : V), SqL K H a xs ∧ SqT K H b ys ∧ SqT K H c zs ∧ xs[i]? = some x ∧ ys[i]? = some y ∧ zs[i]? = some z,
   fun i H v H' => ∃ T x y z, v = .ref T ∧ H T = none ∧ H' = upd H T (.tup [x, y, z]) ∧ (∀ l, SqL K H a l → l[i]? = some x) ∧ (∀ l, SqT K H b l → l[i]? = some y) ∧ (∀ l, SqT K H c l → l[i]? = some z),
   fun i H => ∃ (xs ys zs : List V), SqL K H a xs ∧ SqT K H b ys ∧ SqT K H c zs ∧ (i ≤ xs.length ∧ i ≤ ys.length ∧ i ≤ zs.length) ∧ (i = xs.length ∨ i = ys.length ∨ i = zs.length)⟩
omit [TabC] in
theorem turn_zip3 {P : Program} {w : World} {K : PySem.W.Frag} {elts : List Expr} {kk : Nat} {tpos : Pos} {z TI TO i1 i2 i3 a b c : Addr} (D : ZipSep3 z TI TO i1 i2 i3 [i1, a] [i2, b] [i3, c]) :
    Turn P w K (.Tuple elts kk tpos) (It3 K a b c) [z, TI, TO, i1, i2, i3] z (fun i h => IsZip h z TI TO .none ∧ IsTupOf3 h TI (.ref i1) (.ref i2) (.ref i3) ∧ (∃ x0 y0 z0, IsTupOf3 h TO x0 y0 z0) ∧ h.IsListIter i1 a i ∧ h.IsTupleIter i2 b i ∧ h.IsTupleIter i3 c i) where
  mem := by simp
  obj := fun i h st b' hb => by
    obtain ⟨hz, hTI, ⟨x0, y0, z0, hTO⟩, ⟨o1, k1, _, d1⟩, ⟨o2, k2, _, d2⟩, ⟨o3, k3, _, d3⟩⟩ := st
    have e' : b' = z ∨ b' = TI ∨ b' = TO ∨ b' = i1 ∨ b' = i2 ∨ b' = i3 := by simpa using hb
    rcases e' with q | q | q | q | q | q
    · rw [q]; exact ⟨_, hz, fun v y => nomatch y⟩
    · rw [q]; exact ⟨_, hTI, fun v y => nomatch y⟩
    · rw [q]; exact ⟨_, hTO, fun v y => nomatch y⟩
    · rw [q]; exact ⟨o1, k1, fun v y => by rw [d1] at y; cases y⟩
    · rw [q]; exact ⟨o2, k2, fun v y => by rw [d2] at y; cases y⟩
    · rw [q]; exact ⟨o3, k3, fun v y => by rw [d3] at y; cases y⟩
  keep := fun i h h' st k => by
    obtain ⟨hz, hTI, ⟨x0, y0, z0, hTO⟩, h1, h2, h3⟩ := st
    exact ⟨k z (by simp) _ hz, k TI (by simp) _ hTI, ⟨x0, y0, z0, k TO (by simp) _ hTO⟩, h1.at fun o q => k i1 (by simp) o q, h2.at fun o q => k i2 (by simp) o q, h3.at fun o q => k i3 (by simp) o q⟩
  item := by
    intro X hP hw hK hc i pins s σ H E I hf st hg
    subst hP hw hK
    obtain ⟨hz, hTI, ⟨x0, y0, z0, hTO⟩, h1, h2, h3⟩ := st
    obtain ⟨xs, ys, zs, x, y, u, hqx, hqy, hqz, hx, hy, hu⟩ := hg
    obtain ⟨its, rv, p, _⟩ := I.list hqx
    obtain ⟨its2, rv2, p2, _⟩ := I.tuple hqy
    obtain ⟨its3, rv3, p3, _⟩ := I.tuple hqz
    obtain ⟨v1, hv1, r1⟩ := rv.get hx
    obtain ⟨v2, hv2, r2⟩ := rv2.get hy
    obtain ⟨v3, hv3, r3⟩ := rv3.get hu
    have hd : X.A.in1.handled = none := I.ok.hd hc
    have hzl : z < s.heap.objs.size := Heap.lt_size hz
    have lt1 : i < its.toArray.size := by have := (List.getElem?_eq_some_iff.mp hv1).1; rw [List.size_toArray]; exact this
    have lt2 : i < its2.toArray.size := by have := (List.getElem?_eq_some_iff.mp hv2).1; rw [List.size_toArray]; exact this
    have lt3 : i < its3.toArray.size := by have := (List.getElem?_eq_some_iff.mp hv3).1; rw [List.size_toArray]; exact this
    have ne1 : a ≠ i1 := fun e => by
      obtain ⟨o, k1, _, d1⟩ := h1
      obtain ⟨o', k2, _, _, d2⟩ := p.isList
      rw [e, k1] at k2; cases k2
      rw [d1] at d2; cases d2
    have ne2 : b ≠ i2 := fun e => by
      obtain ⟨o, k1, c1, d1⟩ := h2
      obtain ⟨o', k2, c2, _⟩ := p2
      rw [e, k1] at k2; cases k2
      rw [c1] at c2; exact absurd (Value.type.inj c2) (by decide)
    have ne3 : c ≠ i3 := fun e => by
      obtain ⟨o, k1, c1, d1⟩ := h3
      obtain ⟨o', k2, c2, _⟩ := p3
      rw [e, k1] at k2; cases k2
      rw [c1] at c2; exact absurd (Value.type.inj c2) (by decide)
    refine wpAny_pyNext_zipD3_item D (Draws.list hd i1 a ne1 its.toArray) (Draws.tuple hd i2 b ne2 its2.toArray) (Draws.tuple hd i3 c ne3 its3.toArray) hz hTI hTO ⟨h1, p.isList⟩ ⟨h2, p2⟩ ⟨h3, p3⟩ lt1 lt2 lt3 fun w1 w2 w3 h' tk e1 e2 e3 z' TO' s1' s2' s3' hT hsz hk => ?_
    have e1 : w1 = v1 := by
      have q : its.toArray[i]? = some w1 := e1
      rw [List.getElem?_toArray, hv1] at q
      exact (Option.some.inj q).symm
    have e2 : w2 = v2 := by
      have q : its2.toArray[i]? = some w2 := e2
      rw [List.getElem?_toArray, hv2] at q
      exact (Option.some.inj q).symm
    have e3 : w3 = v3 := by
      have q : its3.toArray[i]? = some w3 := e3
      rw [List.getElem?_toArray, hv3] at q
      exact (Option.some.inj q).symm
    subst e1 e2 e3
    refine ⟨_, rfl, wpAny_letOwnedTupleGo_zip (s := { s with heap := h', toks := tk }) z' fun h'' z'' sb => ?_⟩
    have hT2 : h''.get? s.heap.objs.size = some { cls := .type "tuple", data := .seq #[w1, w2, w3] } := (sb.2 _ (Nat.ne_of_gt hzl)).trans hT
    have new : ObjOk X.prog X.w (upd H s.heap.objs.size (.tup [x, y, u])) h'' s.heap.objs.size (.tup [x, y, u]) :=
      ⟨by show 3 ≤ sizeLine; decide, [w1, w2, w3], .cons r1 (.cons r2 (.cons r3 .nil)), ⟨_, hT2, rfl, _, rfl⟩⟩
    have J : Inv X pins σ (upd H s.heap.objs.size (.tup [x, y, u])) { s with heap := h'', toks := tk } :=
      I.turnedNew (ch := [z, TI, TO, i1, i2, i3]) (fun d o hb q => (sb.2 d (fun q' => hb (by simp [q']))).trans (hk d o (fun q' => hb (by simp [q'])) (fun q' => hb (by simp [q'])) (fun q' => hb (by simp [q'])) (fun q' => hb (by simp [q'])) (fun q' => hb (by simp [q'])) q)) hf (Nat.le_refl _) new
    have iz1 : i1 ≠ z := Ne.symm D.zi1
    have iz2 : i2 ≠ z := Ne.symm D.zi2
    have iz3 : i3 ≠ z := Ne.symm D.zi3
    refine ⟨.ref s.heap.objs.size, _, J, rfl, ⟨_, x, y, u, rfl, I.hok.fresh (Nat.le_refl _), rfl, fun l hl => by rw [I.list_inj hl hqx]; exact hx, fun l hl => by rw [I.tuple_inj hl hqy]; exact hy, fun l hl => by rw [I.tuple_inj hl hqz]; exact hu⟩, ⟨z'', ?_, ⟨w1, w2, w3, ?_⟩, ?_, ?_, ?_⟩, fun d hdm => ?_⟩
    · exact (sb.2 _ D.TIz).trans (hk _ _ D.TIz D.TITO D.TIi1 D.TIi2 D.TIi3 hTI)
    · exact (sb.2 _ D.TOz).trans TO'
    · exact s1'.1.at fun o q => (sb.2 _ iz1).trans q
    · exact s2'.1.at fun o q => (sb.2 _ iz2).trans q
    · exact s3'.1.at fun o q => (sb.2 _ iz3).trans q
    · have hlt : d < s.heap.objs.size := by
        have e' : d = z ∨ d = TI ∨ d = TO ∨ d = i1 ∨ d = i2 ∨ d = i3 := by simpa using hdm
        rcases e' with q | q | q | q | q | q
        · rw [q]; exact hzl
        · rw [q]; exact Heap.lt_size hTI
        · rw [q]; exact Heap.lt_size hTO
        · rw [q]; obtain ⟨_, g, _⟩ := h1; exact Heap.lt_size g
        · rw [q]; obtain ⟨_, g, _⟩ := h2; exact Heap.lt_size g
        · rw [q]; obtain ⟨_, g, _⟩ := h3; exact Heap.lt_size g
      rw [upd_ne (Nat.ne_of_lt hlt)]
      exact (hf d hdm).1
  done := by
    intro X hP hw hK hc i pins s σ H E I hf st hg
    subst hP hw hK
    obtain ⟨hz, hTI, ⟨x0, y0, z0, hTO⟩, h1, h2, h3⟩ := st
    obtain ⟨xs, ys, zs, hqx, hqy, hqz, ⟨hl1, hl2, hl3⟩, hend⟩ := hg
    obtain ⟨its, rv, p, _⟩ := I.list hqx
    obtain ⟨its2, rv2, p2, _⟩ := I.tuple hqy
    obtain ⟨its3, rv3, p3, _⟩ := I.tuple hqz
    have hd : X.A.in1.handled = none := I.ok.hd hc
    have n1 := rv.length
    have n2 := rv2.length
    have n3 := rv3.length
    have ne1 : a ≠ i1 := fun e => by
      obtain ⟨o, k1, _, d1⟩ := h1
      obtain ⟨o', k2, _, _, d2⟩ := p.isList
      rw [e, k1] at k2; cases k2
      rw [d1] at d2; cases d2
    have ne2 : b ≠ i2 := fun e => by
      obtain ⟨o, k1, c1, d1⟩ := h2
      obtain ⟨o', k2, c2, _⟩ := p2
      rw [e, k1] at k2; cases k2
      rw [c1] at c2; exact absurd (Value.type.inj c2) (by decide)
    have ne3 : c ≠ i3 := fun e => by
      obtain ⟨o, k1, c1, d1⟩ := h3
      obtain ⟨o', k2, c2, _⟩ := p3
      rw [e, k1] at k2; cases k2
      rw [c1] at c2; exact absurd (Value.type.inj c2) (by decide)
    have z1 : its.toArray.size = xs.length := by rw [List.size_toArray, n1]
    have z2 : its2.toArray.size = ys.length := by rw [List.size_toArray, n2]
    have z3 : its3.toArray.size = zs.length := by rw [List.size_toArray, n3]
    exact wpAny_pyNext_zipD3_end D (Draws.list hd i1 a ne1 its.toArray) (Draws.tuple hd i2 b ne2 its2.toArray) (Draws.tuple hd i3 c ne3 its3.toArray) hz hTI hTO ⟨h1, p.isList⟩ ⟨h2, p2⟩ ⟨h3, p3⟩ (by omega) (by omega) (by omega) (by omega) fun h' tk hk => ⟨rfl, I.turnedL (t' := tk) (ch := [z, TI, TO, i1, i2, i3]) (fun d o hb q =>
      hk d o (fun q' => hb (by simp [q'])) (fun q' => hb (by simp [q'])) (fun q' => hb (by simp [q'])) (fun q' => hb (by simp [q'])) (fun q' => hb (by simp [q'])) q) hf⟩
  self := fun A i s Q E st h => wpAny_pyIter_zip st.1 h
def iZip3 (K : PySem.W.Frag) (ta : TA) : TI := fun σ H R => ta σ H fun vs H1 => ∃ a b c xs ys zs, vs = [.ref a, .ref b, .ref c] ∧ SqL K H1 a xs ∧ SqT K H1 b ys ∧ SqT K H1 c zs ∧ R (It3 K a b c) H1
omit [TabC] in
theorem pi_zip3 {X : Cx} {e e2 e3 : Expr} {ta : TA} {p pos tpos : Pos} {elts : List Expr} {kk : Nat} (hg : Gl X "zip") (hm : X.mg "zip" = none) (ha : PA X [e, e2, e3] ta)
    (hs : starEach [e, e2, e3] X.env = (false, eval e X.env) :: starEach [e2, e3] X.env) (hpl : (backTo pos (starEach [e2, e3] X.env)).any (·.1) = false) :
    PI X (.Tuple elts kk tpos) (.Call (.Name "zip" p) [e, e2, e3] [] pos) (iZip3 X.K ta) := by
  constructor
  intro pins s σ H R I h
  refine Call_ (ld_blt I hg hm PyProof.Rows.boot_zip (PyProof.Rows.callWith_type1 (thn (ha.run pos pins s σ H _ I h) fun us s1 ⟨vs, H1, I1, r1, a, b, c, xs, ys, zs, ex, hqx, hqy, hqz, q⟩ => ?_) hs hpl))
  subst ex
  cases r1 with
  | cons ra r1 =>
    cases r1 with
    | cons rb r1 =>
      cases r1 with
      | cons rc r1 =>
        cases r1
        cases ra
        cases rb
        cases rc
        obtain ⟨its, rv, p1, _⟩ := I1.list hqx
        obtain ⟨its2, rv2, p2, _⟩ := I1.tuple hqy
        obtain ⟨its3, rv3, p3, _⟩ := I1.tuple hqz
        have la : a < s1.heap.objs.size := p1.lt
        have lb : b < s1.heap.objs.size := by obtain ⟨o, ho, _⟩ := id p2; exact Heap.lt_size ho
        have lc : c < s1.heap.objs.size := by obtain ⟨o, ho, _⟩ := id p3; exact Heap.lt_size ho
        refine zip_begins3 (begins_list a its.toArray) (begins_tuple b its2.toArray) (begins_tuple c its3.toArray) p1.isList p2 p3 fun h' hz hTI hTO g1 g2 g3 hsz hk => wpAny_pyIter_zip hz ?_
        have J : Inv X pins σ H1 { s1 with heap := h' } := I1.kept (t' := s1.toks) hk
        have sep : ZipSep3 (s1.heap.objs.size + 5) (s1.heap.objs.size + 3) (s1.heap.objs.size + 4) s1.heap.objs.size (s1.heap.objs.size + 1) (s1.heap.objs.size + 2) [s1.heap.objs.size, a] [s1.heap.objs.size + 1, b] [s1.heap.objs.size + 2, c] := by
          have fa : ∀ k : Nat, s1.heap.objs.size + k ≠ a := fun k e => Nat.lt_irrefl _ (Nat.lt_of_le_of_lt (Nat.le_add_right _ k) (e ▸ la))
          have fb : ∀ k : Nat, s1.heap.objs.size + k ≠ b := fun k e => Nat.lt_irrefl _ (Nat.lt_of_le_of_lt (Nat.le_add_right _ k) (e ▸ lb))
          have fc : ∀ k : Nat, s1.heap.objs.size + k ≠ c := fun k e => Nat.lt_irrefl _ (Nat.lt_of_le_of_lt (Nat.le_add_right _ k) (e ▸ lc))
          have fa0 := fa 0
          have fb0 := fb 0
          have fc0 := fc 0
          rw [Nat.add_zero] at fa0 fb0 fc0
          constructor <;> (try simp [fa, fb, fc, fa0, fb0, fc0])
        refine ⟨s1.heap.objs.size + 5, [s1.heap.objs.size + 5, s1.heap.objs.size + 3, s1.heap.objs.size + 4, s1.heap.objs.size, s1.heap.objs.size + 1, s1.heap.objs.size + 2], _, _, H1, rfl, J, turn_zip3 sep, ⟨hz, hTI, ⟨_, _, _, hTO⟩, ⟨_, g1, rfl, rfl⟩, ⟨_, g2, rfl, rfl⟩, ⟨_, g3, rfl, rfl⟩⟩, fun d hd => ?_, q⟩
        have hle : s1.heap.objs.size ≤ d := by
          have e' : d = s1.heap.objs.size + 5 ∨ d = s1.heap.objs.size + 3 ∨ d = s1.heap.objs.size + 4 ∨ d = s1.heap.objs.size ∨ d = s1.heap.objs.size + 1 ∨ d = s1.heap.objs.size + 2 := by simpa using hd
          rcases e' with q | q | q | q | q | q <;> rw [q] <;> first | exact Nat.le_add_right _ _ | exact Nat.le_refl _
        exact I1.fpOk hle (I1.hok.fresh hle)
end Z

/-! ZW: what a zip of three walks. -/
namespace Z
open PySem PySem.Spec PyProof.Rows L2
variable [TabC]
omit [TabC] in
theorem triples_length : ∀ xs ys zs : List PyData, (triples xs ys zs).length = min xs.length (min ys.length zs.length)
  | [], ys, zs => by simp [triples]
  | x :: xs, [], zs => by simp [triples]
  | x :: xs, y :: ys, [] => by simp [triples]
  | x :: xs, y :: ys, z :: zs => by
    rw [triples, List.length_cons, triples_length xs ys zs]
    simp only [List.length_cons]
    omega
omit [TabC] in
theorem triple_get : ∀ {xs ys zs : List PyData} {i : Nat} {d : PyData}, (triples xs ys zs)[i]? = some d → ∃ x y z, xs[i]? = some x ∧ ys[i]? = some y ∧ zs[i]? = some z ∧ d = .tuple [x, y, z]
  | [], ys, zs, i, d, h => by simp [triples] at h
  | x :: xs, [], zs, i, d, h => by simp [triples] at h
  | x :: xs, y :: ys, [], i, d, h => by simp [triples] at h
  | x :: xs, y :: ys, z :: zs, 0, d, h => by
    have : PyData.tuple [x, y, z] = d := by simpa [triples] using h
    exact ⟨x, y, z, by simp, by simp, by simp, this.symm⟩
  | x :: xs, y :: ys, z :: zs, i + 1, d, h => by
    obtain ⟨a, b, c, h1, h2, h3, h4⟩ := triple_get (xs := xs) (ys := ys) (zs := zs) (i := i) (by simpa [triples] using h)
    exact ⟨a, b, c, by simpa using h1, by simpa using h2, by simpa using h3, h4⟩
theorem triple_new {r : List Addr} {H H' : Hp} {m : Mem} {T : Addr} {x y z : PyData} {v w u : V} (R : Rel r H m) (hT : H T = none) (hx : RepB r H x v) (hy : RepB r H y w) (hz : RepB r H z u) (e : H' = upd H T (.tup [v, w, u])) :
    Ext r H r H' ∧ (∀ a ∈ r, H' a = H a) ∧ RepB r H' (.tuple [x, y, z]) (.ref T) := by
  subst e
  have e := Ext.new (r := r) (o := .tup [v, w, u]) hT
  refine ⟨e, fun a ha => upd_ne fun z => R.notin hT (z ▸ ha), ?_⟩
  rw [RepB]
  refine ⟨T, [v, w, u], rfl, upd_same, ?_⟩
  rw [RepBs]
  refine ⟨_, _, rfl, hx.ext e, ?_⟩
  rw [RepBs]
  refine ⟨_, _, rfl, hy.ext e, ?_⟩
  rw [RepBs]
  exact ⟨_, _, rfl, hz.ext e, by rw [RepBs]⟩
theorem Wk.zip3 {K : PySem.W.Frag} {a b c : Addr} {xs ys zs : List PyData} {r0 : List Addr} {H0 : Hp} {us vs ws : List V} (h1 : ∀ r' H', Ext r0 H0 r' H' → ∃ us, H' a = some (.lst us) ∧ RepBs r' H' xs us) (h3 : H0 b = some (.tup vs)) (h4 : RepBs r0 H0 ys vs) (h5 : H0 c = some (.tup ws)) (h6 : RepBs r0 H0 zs ws) :
    Wk (It3 K a b c) ⟨triples xs ys zs, none⟩ r0 H0 where
  go := fun i r H m hi e R hg => by
    have hi' : i < min xs.length (min ys.length zs.length) := by rw [← triples_length]; exact hi
    obtain ⟨us, k1, k2⟩ := h1 r H e
    have hu : i < us.length := by rw [← repBs_length k2]; omega
    have hv : i < vs.length := by rw [← repBs_length h4]; omega
    have hw : i < ws.length := by rw [← repBs_length h6]; omega
    exact ⟨us, vs, ws, us[i], vs[i], ws[i], .of k1, .of (e.tups b vs h3), .of (e.tups c ws h5), List.getElem?_eq_getElem hu, List.getElem?_eq_getElem hv, List.getElem?_eq_getElem hw⟩
  stop := fun r H m e R hg => by
    obtain ⟨us, k1, k2⟩ := h1 r H e
    refine ⟨us, vs, ws, .of k1, .of (e.tups b vs h3), .of (e.tups c ws h5), ?_⟩
    show ((triples xs ys zs).length ≤ us.length ∧ (triples xs ys zs).length ≤ vs.length ∧ (triples xs ys zs).length ≤ ws.length) ∧ ((triples xs ys zs).length = us.length ∨ (triples xs ys zs).length = vs.length ∨ (triples xs ys zs).length = ws.length)
    rw [triples_length, ← repBs_length k2, ← repBs_length h4, ← repBs_length h6]
    omega
  yld := fun i r H m x H' d hd e R hg y => by
    obtain ⟨T, x', y', z', rfl, hT, eH, y1, y2, y3⟩ := y
    obtain ⟨p, q, s, g1, g2, g3, rfl⟩ := triple_get hd
    obtain ⟨us, k1, k2⟩ := h1 r H e
    obtain ⟨u, j1, j2⟩ := pr_get (RepBs.pair.mp k2) g1
    obtain ⟨v, j3, j4⟩ := pr_get (RepBs.pair.mp (h4.ext e ys)) g2
    obtain ⟨w, j5, j6⟩ := pr_get (RepBs.pair.mp (h6.ext e zs)) g3
    have l1 := y1 us (.of k1)
    have l2 := y2 vs (.of (e.tups b vs h3))
    have l3 := y3 ws (.of (e.tups c ws h5))
    rw [j1] at l1
    rw [j3] at l2
    rw [j5] at l3
    cases l1
    cases l2
    cases l3
    exact triple_new R hT j2 j4 j6 eH
end Z

/-! Z5: expressions: the check, and that a checked one is evaluated by the model as by ev. -/
namespace Z
open PySem PySem.Spec PyProof.Rows L2
variable [TabC]

/-! ### the check -/
/-- what is known of a block at rest: its slots' names, its scope, whose cells are its own -/
structure SX where
  N : List Str
  sc : Scope
  fn : Str → Bool
  lam : Bool
  ex : Bool
def SX.kind (S : SX) (x : Str) : Option NameKind := S.sc.names.lookup x
def okNm (x : Str) : Bool := !(x == ("__debug__" : Str)) && !(x == ("__classdict__" : Str)) && !(x == ("__name__" : Str))
def SX.vis (S : SX) (i : Nat) (x : Str) : Bool := decide (S.N[i]? = some x) && okNm x && (match S.kind x with
  | some .local => true
  | some .cell => true
  | some .free => true
  | _ => false)
def SX.loc (S : SX) (i : Nat) (x : Str) : Bool := decide (S.N[i]? = some x) && (match S.kind x with
  | some .local => true
  | some .cell => S.fn x
  | _ => false)
def SX.gl (S : SX) (x : Str) : Bool := okNm x && (match S.kind x with
  | some .globalImplicit => true
  | _ => false)
def SX.blk (S : SX) (scope : Scope) : SX := ⟨S.N, relS scope S.sc, fun x => scope.names.lookup x == some .cell, false, false⟩
/-- within a lambda -/
def SX.lamb (S : SX) (scope : Scope) : SX := ⟨S.N, scope, fun _ => false, false, false⟩
def lamPB : Arguments → Bool
  | ⟨[], [], none, [], [], none, []⟩ => true
  | _ => false
/-- neither starred nor a slice nor a set's display -/
def plainX : Expr → Bool
  | .Starred _ _ => false
  | .Slice _ _ _ _ => false
  | .Set _ _ _ => false
  | _ => true
def notCall : Expr → Bool
  | .Call _ _ _ _ => false
  | _ => true
def notComp : Expr → Bool
  | .ListComp _ _ _ _ => false
  | .SetComp _ _ _ _ => false
  | .DictComp _ _ _ _ _ => false
  | _ => true
def Bi.nm : Bi → Str
  | .len => "len" | .int => "int" | .str => "str" | .tuple => "tuple" | .list => "list" | .sorted => "sorted" | .all => "all" | .any => "any" | .sum => "sum"
  | .min1 => "min" | .max1 => "max" | .min2 => "min" | .max2 => "max" | .repr => "repr" | .lrng1 => "list" | .lrng2 => "list"
/-- the built-in names that must not be the module's -/
def blts : List Str := ["len", "int", "str", "tuple", "list", "sorted", "all", "any", "sum", "min", "max", "range", "enumerate", "zip", "isinstance", "bool", "repr", "set", "dict"]
/-- the types that isinstance is asked for -/
def tys : List String := ["int", "str", "tuple", "list", "bool"]
def tgNames : Expr → List Str
  | .Name x _ => [x]
  | .Tuple es _ _ => es.filterMap fun
    | .Name x _ => some x
    | _ => none
  | _ => []
def chkTgs (S : SX) : List Nat → List Expr → Bool
  | [], es => es.isEmpty
  | i :: is, es => match es with
    | e :: r => (match e with
      | .Name x _ => S.loc i x
      | _ => false) && chkTgs S is r
    | [] => false
def chkTg (S : SX) (tg : Tg) (e : Expr) : Bool :=
  match tg with
  | .one i => match e with
    | .Name x _ => S.loc i x
    | _ => false
  | .many is => match e with
    | .Tuple es _ _ => chkTgs S is es
    | _ => false
/-- a written dict of whole numbers -/
def dictKs : List (Option Expr) → List Expr → Option (List (Int × Int))
  | [], [] => some []
  | some (.Constant (.int k) _ _) :: ks, .Constant (.int v) _ _ :: vs => (dictKs ks vs).map ((k, v) :: ·)
  | _, _ => Option.none
def isM1 : Expr → Bool
  | .UnaryOp .USub (.Constant (.int 1) _ _) _ => true
  | _ => false
/-- an operation's parts, in the order in which they are evaluated -/
def inOp (neg : Bool) : CmpOp :=
  match neg with
  | true => .NotIn
  | false => .In
def opSub (gi : GI) (o : Op) (S : SX) (e : Expr) : Option (List Expr) :=
  match o with
  | .repr => match e with
    | .Call (.Name x _) [y] [] _ => if decide (x = "repr") && S.gl "repr" && plainX y then some [y] else Option.none
    | _ => Option.none
  | .rev => match e with
    | .Subscript x (.Slice none none (some m) _) _ => if isM1 m && plainX x then some [x] else Option.none
    | _ => Option.none
  | .dget kvs => match e with
    | .Subscript (.Dict ks vs _) i _ => if decide (dictKs ks vs = some kvs) && decide (ks.length ≤ 15) && !ks.isEmpty && plainX i then some [i] else Option.none
    | _ => Option.none
  | .cat => match e with
    | .BinOp x o y _ => if decide (o = .Add) && plainX x && plainX y then some [x, y] else Option.none
    | _ => Option.none
  | .rep => match e with
    | .BinOp x o y _ => if decide (o = .Mult) && plainX x && plainX y then some [x, y] else Option.none
    | _ => Option.none
  | .sset => match e with
    | .Call (.Name x _) [.Call (.Name x2 _) [y] [] _] [] _ => if decide (x = "sorted") && S.gl "sorted" && decide (x2 = "set") && S.gl "set" && plainX y then some [y] else Option.none
    | _ => Option.none
  | .kdx d tab => match e with
    | .Subscript (.Name x _) i _ => if decide (x = d) && S.gl d && decide (gi.dcts.lookup d = some tab) && plainX i then some [i] else Option.none
    | _ => Option.none
  | .kdi neg d tab => match e with
    | .Compare a [o] [.Name x _] _ => if decide (o = inOp neg) && decide (x = d) && S.gl d && decide (gi.dcts.lookup d = some tab) && plainX a then some [a] else Option.none
    | _ => Option.none
  | .intS => match e with
    | .Call (.Name x _) [y] [] _ => if decide (x = "int") && S.gl "int" && plainX y then some [y] else Option.none
    | _ => Option.none
  | _ => Option.none
section
variable (gi : GI) (G : Tab)
def chkFs (S : SX) : List Str → List Expr → Bool
  | [], l => l.isEmpty
  | f :: fs, l => match l with
    | e :: es => (match e with
      | .Name x _ => decide (x = f) && S.gl x && (G f).isSome
      | _ => false) && chkFs S fs es
    | [] => false
mutual
def chkE : E → SX → Expr → Bool
  | .var i, S, e => match e with
    | .Name x _ => S.vis i x
    | _ => false
  | .int i, _, e => match e with
    | .Constant c _ _ => decide (c = .int i)
    | _ => false
  | .bool i, _, e => match e with
    | .Constant c _ _ => decide (c = .bool i)
    | _ => false
  | .none, _, e => match e with
    | .Constant c _ _ => decide (c = .none)
    | _ => false
  | .str i, _, e => match e with
    | .Constant c _ _ => decide (c = .str i)
    | _ => false
  | .glob x d, S, e => match e with
    | .Name y _ => decide (y = x) && S.gl x && (match d with
      | .int i => decide (gi.nums.lookup x = some i)
      | .str s => decide (gi.txts.lookup x = some s)
      | _ => false)
    | _ => false
  | .gfn x, S, e => false
  | .bin op a b, S, e => match e with
    | .BinOp x o y _ => decide (o = op) && chkE a S x && chkE b S y
    | _ => false
  | .neg a, S, e => match e with
    | .UnaryOp o x _ => decide (o = .USub) && chkE a S x
    | _ => false
  | .not a, S, e => match e with
    | .UnaryOp o x _ => decide (o = .Not) && chkE a S x
    | _ => false
  | .cmp op a b, S, e => match e with
    | .Compare x [o] [y] _ => decide (o = op) && chkE a S x && chkE b S y && plainX y
    | _ => false
  | .chain o1 o2 a b c, S, e => match e with
    | .Compare x [p1, p2] [y, z] _ => decide (p1 = o1) && decide (p2 = o2) && chkE a S x && chkE b S y && chkE c S z && plainX z
    | _ => false
  | .and a b, S, e => match e with
    | .BoolOp o (x :: y :: rest) p => decide (o = .And) && chkE a S x && (match rest with
      | [] => chkE b S y
      | z :: r => chkE b S (.BoolOp .And (y :: z :: r) p))
    | _ => false
  | .or a b, S, e => match e with
    | .BoolOp o (x :: y :: rest) p => decide (o = .Or) && chkE a S x && (match rest with
      | [] => chkE b S y
      | z :: r => chkE b S (.BoolOp .Or (y :: z :: r) p))
    | _ => false
  | .ife c a b, S, e => match e with
    | .IfExp x y z _ => chkE c S x && chkE a S y && chkE b S z
    | _ => false
  | .tup es, S, e => match e with
    | .Tuple l _ _ => chkEs es S l
    | _ => false
  | .lst _ es, S, e => match e with
    | .List l _ => chkEs es S l
    | _ => false
  | .ix a i, S, e => match e with
    | .Subscript x y _ => plainX y && chkE a S x && chkE i S y
    | _ => false
  | .ixR a i, S, e => match e with
    | .Subscript x y _ => plainX y && chkE a S x && chkE i S y
    | _ => false
  | .sl0 a, S, e => match e with
    | .Subscript x (.Slice none none none _) _ => chkE a S x
    | _ => false
  | .slL a lo, S, e => match e with
    | .Subscript x (.Slice (some y) none none _) _ => chkE a S x && chkE lo S y
    | _ => false
  | .slH a hi, S, e => match e with
    | .Subscript x (.Slice none (some y) none _) _ => chkE a S x && chkE hi S y
    | _ => false
  | .slB a lo hi, S, e => match e with
    | .Subscript x (.Slice (some y) (some z) none _) _ => chkE a S x && chkE lo S y && chkE hi S z
    | _ => false
  | .bi f _ es, S, e => match e with
    | .Call (.Name x _) (y :: ys) [] _ => S.gl x && decide (x = f.nm) && (match f with
      | .lrng1 => match y, ys with
        | .Call (.Name z _) [a] [] _, [] => S.gl z && decide (z = "range") && chkEs es S [a]
        | _, _ => false
      | .lrng2 => match y, ys with
        | .Call (.Name z _) [a, b] [] _, [] => S.gl z && decide (z = "range") && chkEs es S [a, b]
        | _, _ => false
      | f => f.fn.isSome && chkEs es S (y :: ys))
    | _ => false
  | .isi a t, S, e => match e with
    | .Call (.Name x _) [y, .Name z _] [] _ => S.gl x && decide (x = "isinstance") && S.gl z && decide (z = Str.ofString t) && tys.contains t && plainX y && chkE a S y
    | _ => false
  | .me f o es, S, e => match e with
    | .Call (.Attribute x nm apos) ys [] cpos => decide (nm = f.nm) && notCall x && (apos.endLine == cpos.line) && decide (ys.length < 5) && chkE o S x && chkEs es S ys
    | _ => false
  | .call _ f es, S, e => match e with
    | .Call (.Name x _) (y :: ys) [] _ => decide (x = f) && S.gl x && (G f).isSome && chkEs es S (y :: ys)
    | _ => false
  | .rcomp i x e', S, e => match e with
    | .ListComp elt [⟨target, iter, [], k⟩] scope _ => decide (k = 0) && blkC S.N S.sc scope ((tgNames target).zip [i]) && decide ((tgNames target).length = 1) && chkTg (S.blk scope) (.one i) target && plainX iter &&
        chkE x S iter && chkE e' (S.blk scope) elt
    | _ => false
  | .rowc tg it e', S, e => match e with
    | .ListComp elt [⟨target, iter, [], k⟩] scope _ => decide (k = 0) && blkC S.N S.sc scope ((tgNames target).zip tg.slots) && decide ((tgNames target).length = tg.slots.length) && chkTg (S.blk scope) tg target && plainX iter &&
        chkI it S iter target && chkE e' (S.blk scope) elt
    | _ => false
  | .comp _ tg it e', S, e => match e with
    | .ListComp elt [⟨target, iter, [], k⟩] scope _ => decide (k = 0) && blkC S.N S.sc scope ((tgNames target).zip tg.slots) && decide ((tgNames target).length = tg.slots.length) && chkTg (S.blk scope) tg target && plainX iter &&
        chkI it S iter target && chkE e' (S.blk scope) elt
    | _ => false
  | .compI _ tg it c e', S, e => match e with
    | .ListComp elt [⟨target, iter, [t], k⟩] scope _ => decide (k = 0) && blkC S.N S.sc scope ((tgNames target).zip tg.slots) && decide ((tgNames target).length = tg.slots.length) && chkTg (S.blk scope) tg target && plainX iter &&
        chkI it S iter target && chkE c (S.blk scope) t && chkE e' (S.blk scope) elt
    | _ => false
  | .idx a x, S, e => match e with
    | .Call (.Attribute a' nm apos) [x'] [] cpos => decide (nm = "index") && notCall a' && (apos.endLine == cpos.line) && plainX x' && chkE a S a' && chkE x S x'
    | _ => false
  | .sm o _ a x, S, e => match e with
    | .Call (.Attribute a' nm apos) [x'] [] cpos => (match o with
      | .join => decide (nm = "join")
      | .split => decide (nm = "split")
      | .idxS => decide (nm = "index")
      | _ => false) && notCall a' && (apos.endLine == cpos.line) && plainX x' && chkE a S a' && chkE x S x'
    | _ => false
  | .dic kvs, S, e => match e with
    | .Dict ks vs _ => decide (dictKs ks vs = some kvs) && decide (ks.length ≤ 15)
    | _ => false
  | .op o _ es, S, e => match opSub gi o S e with
    | some l => chkEs es S l
    | Option.none => false
  | .said g b tab, S, e => match e with
    | .Call (.Name x _) [.Lambda params body scope _] [] _ => decide (x = g) && S.gl x && S.lam && decide (gi.saids.lookup g = some tab) && LamX.lamSB S.sc scope && lamPB params && chkE b (S.lamb scope) body
    | _ => false
  | .pick _ fs i es, S, e => match e with
    | .Call (.Subscript (.List l _) y _) (a :: as) [] _ => chkFs G S fs l && decide (fs.length ≤ 100) && plainX y && chkE i S y && chkEs es S (a :: as)
    | _ => false
  | .isx a c tab, S, e => match e with
    | .Call (.Name x _) [y, .Name z _] [] _ => S.gl x && decide (x = "isinstance") && S.gl z && decide (z = c) && S.ex && plainX y && decide (gi.subs.lookup c = some tab) && chkE a S y
    | _ => false
  | .dead, _, _ => true
def chkEs : Es → SX → List Expr → Bool
  | .nil, _, l => l.isEmpty
  | .cons e es, S, l => match l with
    | x :: xs => plainX x && chkE e S x && chkEs es S xs
    | [] => false
def chkI : It → SX → Expr → Expr → Bool
  | .seq a, S, e, _ => chkE a S e
  | .rng1 a, S, e, _ => match e with
    | .Call (.Name x _) [y] [] _ => S.gl x && decide (x = "range") && plainX y && chkE a S y
    | _ => false
  | .rng2 a b, S, e, _ => match e with
    | .Call (.Name x _) [y, z] [] _ => S.gl x && decide (x = "range") && plainX y && plainX z && chkE a S y && chkE b S z
    | _ => false
  | .enm a, S, e, t => match e with
    | .Call (.Name x _) [y] [] _ => S.gl x && decide (x = "enumerate") && plainX y && chkE a S y && (match t with
      | .Tuple _ _ _ => true
      | _ => false)
    | _ => false
  | .zip3 a b c, S, e, t => match e with
    | .Call (.Name x _) [y, z, u] [] _ => S.gl x && decide (x = "zip") && plainX y && plainX z && plainX u && chkE a S y && chkE b S z && chkE c S u && (match t with
      | .Tuple _ _ _ => true
      | _ => false)
    | _ => false
  | .zip a b, S, e, t => match e with
    | .Call (.Name x _) [y, z] [] _ => S.gl x && decide (x = "zip") && plainX y && plainX z && chkE a S y && chkE b S z && (match t with
      | .Tuple _ _ _ => true
      | _ => false)
    | _ => false
end
end

/-! ### readings -/
section
variable (K : PySem.W.Frag) (mg : Str → Option Value)
def clsV (c : Str) : Value := (mg c).getD .none
/-- what is wanted of a computation's end -/
def OkR {α : Type} (W : WX) (σ : L2.St) (r : List Addr) (H : Hp) (res : R α) (P : α → List Addr → Hp → Mem → Prop) : Prop :=
  match res with
  | .ok a m' => ∀ r' H', Ext r H r' H' → Rel r' H' m' → P a r' H' m'
  | .ex c m' => ∀ r' H', Ext r H r' H' → Rel r' H' m' → W (clsV mg c) none σ H'
  | .bad => False
variable (run : Str → List D → Mem → R D) (W : WX)
def TX (e : E) : TE := fun σ H Q => ∃ r δ m, Rel r H m ∧ RepS K mg r H δ σ ∧ OkR mg W σ r H (ev run e δ m) fun d r' H' _ => ∀ v, RepD K mg r' H' d v → Q v H'
def TXs (es : Es) : TA := fun σ H Q => ∃ r δ m, Rel r H m ∧ RepS K mg r H δ σ ∧ OkR mg W σ r H (evs run es δ m) fun ds r' H' _ => ∀ vs, RepDs K mg r' H' ds vs → Q vs H'
def TXt (e : E) : TT := fun σ H Q => ∃ r δ m, Rel r H m ∧ RepS K mg r H δ σ ∧ OkR mg W σ r H ((ev run e δ m).bind truthD) fun b _ H' _ => Q b H'
def TXi (it : It) : TI := fun σ H Q => ∃ r δ m, Rel r H m ∧ RepS K mg r H δ σ ∧ OkR mg W σ r H (evI run it δ m) fun a r' H' m' => gOk a.g m' → ∀ J, Wk J a r' H' → Q J H'
end
section
variable {K : PySem.W.Frag} {mg : Str → Option Value} {run : Str → List D → Mem → R D} {W : WX} {σ : L2.St} {r r1 : List Addr} {H H1 : Hp} {m : Mem} {α β : Type} {δ : Env}
theorem OkR.mono {res : R α} {P P' : α → List Addr → Hp → Mem → Prop} (h : OkR mg W σ r H res P) (k : ∀ a r' H' m', Ext r H r' H' → Rel r' H' m' → P a r' H' m' → P' a r' H' m') : OkR mg W σ r H res P' := by
  cases res with
  | ok a m' => exact fun r' H' e R => k a r' H' m' e R (h r' H' e R)
  | ex c m' => exact h
  | bad => exact h
theorem OkR.ext {res : R α} {P : α → List Addr → Hp → Mem → Prop} (h : OkR mg W σ r H res P) (e : Ext r H r1 H1) : OkR mg W σ r1 H1 res P := by
  cases res with
  | ok a m' => exact fun r' H' e' R => h r' H' (e.trans e') R
  | ex c m' => exact fun r' H' e' R => h r' H' (e.trans e') R
  | bad => exact h
theorem OkR.bind {res : R α} {f : α → Mem → R β} {P : β → List Addr → Hp → Mem → Prop} (h : OkR mg W σ r H (res.bind f) P) : OkR mg W σ r H res fun a r1 H1 m1 => OkR mg W σ r1 H1 (f a m1) P := by
  cases res with
  | ok a m' =>
    have h : OkR mg W σ r H (f a m') P := h
    exact fun r' H' e R => h.ext e
  | ex c m' => exact h
  | bad => exact h
/-- one value, then on -/
theorem TX.one {e : E} {f : D → Mem → R β} {P : β → List Addr → Hp → Mem → Prop} {Q : VK} (R : Rel r H m) (S : RepS K mg r H δ σ) (h : OkR mg W σ r H ((ev run e δ m).bind f) P)
    (k : ∀ d v r1 H1 m1, Ext r H r1 H1 → Rel r1 H1 m1 → RepS K mg r1 H1 δ σ → RepD K mg r1 H1 d v → OkR mg W σ r1 H1 (f d m1) P → Q v H1) : TX K mg run W e σ H Q :=
  ⟨r, δ, m, R, S, h.bind.mono fun d r1 H1 m1 e1 R1 h1 v rv => k d v r1 H1 m1 e1 R1 (S.ext e1) rv h1⟩
theorem TX.two {a b : E} {f : D → D → Mem → R β} {P : β → List Addr → Hp → Mem → Prop} {Q : V → V → Hp → Prop} (R : Rel r H m) (S : RepS K mg r H δ σ)
    (h : OkR mg W σ r H ((ev run a δ m).bind fun x m => (ev run b δ m).bind fun y m => f x y m) P)
    (k : ∀ x y v u r2 H2 m2, Ext r H r2 H2 → Rel r2 H2 m2 → RepS K mg r2 H2 δ σ → RepD K mg r2 H2 x v → RepD K mg r2 H2 y u → OkR mg W σ r2 H2 (f x y m2) P → Q v u H2) :
    TX K mg run W a σ H fun v H1 => TX K mg run W b σ H1 fun u H2 => Q v u H2 :=
  TX.one R S h fun x v r1 H1 m1 e1 R1 S1 rx h1 => TX.one R1 S1 h1 fun y u r2 H2 m2 e2 R2 S2 ry h2 => k x y v u r2 H2 m2 (e1.trans e2) R2 S2 (rx.ext e2) ry h2
theorem TXs.one {es : Es} {f : List D → Mem → R β} {P : β → List Addr → Hp → Mem → Prop} {Q : List V → Hp → Prop} (R : Rel r H m) (S : RepS K mg r H δ σ) (h : OkR mg W σ r H ((evs run es δ m).bind f) P)
    (k : ∀ ds vs r1 H1 m1, Ext r H r1 H1 → Rel r1 H1 m1 → RepS K mg r1 H1 δ σ → RepDs K mg r1 H1 ds vs → OkR mg W σ r1 H1 (f ds m1) P → Q vs H1) : TXs K mg run W es σ H Q :=
  ⟨r, δ, m, R, S, h.bind.mono fun d r1 H1 m1 e1 R1 h1 v rv => k d v r1 H1 m1 e1 R1 (S.ext e1) rv h1⟩
theorem TXt.one {e : E} {f : Bool → Mem → R β} {P : β → List Addr → Hp → Mem → Prop} {Q : Bool → Hp → Prop} (R : Rel r H m) (S : RepS K mg r H δ σ) (h : OkR mg W σ r H (((ev run e δ m).bind truthD).bind f) P)
    (k : ∀ b r1 H1 m1, Ext r H r1 H1 → Rel r1 H1 m1 → RepS K mg r1 H1 δ σ → OkR mg W σ r1 H1 (f b m1) P → Q b H1) : TXt K mg run W e σ H Q :=
  ⟨r, δ, m, R, S, h.bind.mono fun d r1 H1 m1 e1 R1 h1 => k d r1 H1 m1 e1 R1 (S.ext e1) h1⟩

/-! ### ends of the operations -/
/-- a value -/
abbrev PV (K : PySem.W.Frag) (mg : Str → Option Value) (Q : VK) : D → List Addr → Hp → Mem → Prop := fun d r' H' _ => ∀ v, RepD K mg r' H' d v → Q v H'
theorem okO_inv {o : Option PyData} {Q : VK} (h : OkR mg W σ r H (okO o m) (PV K mg Q)) : ∃ z, o = some z ∧ ∀ r' H' v, Ext r H r' H' → Rel r' H' m → RepB r' H' z v → Q v H' := by
  cases o with
  | none => exact h.elim
  | some z => exact ⟨z, rfl, fun r' H' v e R rv => h r' H' e R v rv⟩
theorem p1_inv {f : PyData → Option PyData} {x : D} {Q : VK} (h : OkR mg W σ r H (p1 f x m) (PV K mg Q)) : ∃ a z, snap m x = some a ∧ f a = some z ∧ ∀ r' H' v, Ext r H r' H' → Rel r' H' m → RepB r' H' z v → Q v H' := by
  unfold p1 at h
  cases q : snap m x with
  | none => simp only [q] at h; exact h.elim
  | some a =>
    simp only [q] at h
    obtain ⟨z, e, k⟩ := okO_inv h
    exact ⟨a, z, rfl, e, k⟩
theorem p2_inv {f : PyData → PyData → Option PyData} {x y : D} {Q : VK} (h : OkR mg W σ r H (p2 f x y m) (PV K mg Q)) : ∃ a c z, snap m x = some a ∧ snap m y = some c ∧ f a c = some z ∧ ∀ r' H' v, Ext r H r' H' → Rel r' H' m → RepB r' H' z v → Q v H' := by
  unfold p2 at h
  cases q : snap m x with
  | none => simp only [q] at h; exact h.elim
  | some a =>
    cases q2 : snap m y with
    | none => simp only [q, q2] at h; exact h.elim
    | some c =>
      simp only [q, q2] at h
      obtain ⟨z, e, k⟩ := okO_inv h
      exact ⟨a, c, z, rfl, rfl, e, k⟩
theorem p2_rB {f : PyData → PyData → Option PyData} {x y : D} {v u : V} {Q : VK} (R : Rel r H m) (rx : RepD K mg r H x v) (ry : RepD K mg r H y u) (h : OkR mg W σ r H (p2 f x y m) (PV K mg Q)) : rB f v u H Q := by
  obtain ⟨a, c, z, e1, e2, e3, k⟩ := p2_inv h
  exact ⟨r, m, a, c, z, R, RepD.snap R rx e1, RepD.snap R ry e2, e3, k⟩
/-- a list that is made -/
theorem mk_new {b : Bool} {z : List PyData} {vs : List V} {Q : VK} (R : Rel r H m) (h : RepBs r H z vs) (q : OkR mg W σ r H (mk b (.list z) m) (PV K mg Q)) : ∀ p, H p = none → Q (.ref p) (upd H p (.lst vs)) := by
  intro p hp
  cases b with
  | false => exact newLst R h (fun r' H' v e R' hv => q r' H' e R' v hv) p hp
  | true =>
    refine q (r ++ [p]) _ (.alloc hp) (R.alloc hp h) _ ⟨p, ?_, rfl⟩
    rw [List.getElem?_append_right (by rw [R.len]; exact Nat.le_refl _), R.len, Nat.sub_self]
    rfl
end
end Z

/-! ZG: promises of defs where no guard stands on the stack (repr wants it). -/
namespace Z
open PySem PySem.Spec PyProof.Rows L2
/-- a def keeps its promise where no guard stands around -/
structure FnG (P : Program) (w : World) (K : PySem.W.Frag) (mg : Str → Option Value) (base : Heap) (C : CXT) (k : Nat) (f : Addr) (fd : FuncData) (ps : List Str) (sp : Sp) : Prop where
  ar : ∀ vs H Q E, sp vs H Q E → vs.length = ps.length
  go : ∀ (A : Around) (o : List PySem.Env) (s : Shared) (H : Hp) (args : Args) (us : List Value) (vs : List V) (Q : VK) (E : XK), A.guards = some [] → Room k A → Env0 P w K mg base A o s H → BindsTo s fd args (ps.zip us) → Vals vs us → sp vs H Q E → codeAny (model P w) A (.call (.ref f) args) (CR C o P w H s Q E) s
section
variable {P : Program} {w : World} {K : PySem.W.Frag} {mg : Str → Option Value} {base : Heap} {C : CXT} {k : Nat}
theorem FnG.weak {f : Addr} {fd : FuncData} {ps : List Str} {sp sp' : Sp} (F : FnG P w K mg base C k f fd ps sp) (h : ∀ vs H Q E, sp' vs H Q E → sp vs H Q E) : FnG P w K mg base C k f fd ps sp' :=
  ⟨fun vs H Q E q => F.ar _ H Q E (h _ _ _ _ q), fun A o s H args us vs Q E hg hr e b r q => F.go A o s H args us vs Q E hg hr e b r (h _ _ _ _ q)⟩
theorem fnG_of {f : Addr} {nm ql : Str} {pars : Arguments} {blk : List Stmt} {scp : Scope} {dV kV doc pm cdv ct oc : Value} {an od : Option Addr} {osl : Array (Option Value)} {N ps : List Str} {sp : Sp}
    (l : K.lookup f = some ⟨oc, od, .func (PySem.W.fnOf nm ql pars blk scp dV kV doc pm an cdv ct), osl⟩) (hc : PySem.W.codeIn K cdv ql = true) (S : FnScope N ps scp) (ar : ∀ vs H Q E, sp vs H Q E → vs.length = ps.length)
    (bd : ∀ (A : Around) (o : List PySem.Env) (s : Shared) (H : Hp) (vs : List V) (Q : VK) (E : XK), (A.deeper (envOfC ql scp s.heap.objs.size f cdv)).guards = some [] → Room k (A.deeper (envOfC ql scp s.heap.objs.size f cdv)) → sp vs H Q E →
      ∃ t, PSs (cxOf C P w K mg base N ql scp f cdv A o s H E) blk t ∧ t { nx := fun _ H' => Q .non H', rt := Q } (start N vs) H) :
    FnG P w K mg base C (k + 1) f (PySem.W.fnOf nm ql pars blk scp dV kV doc pm an cdv ct) ps sp := by
  constructor
  · exact ar
  intro A o s H args us vs Q E hgd room e0 hb r q
  have hlen := ar _ _ _ _ q
  have inn : K.In s.heap := e0.mod.kin.keeps fun b x y => (e0.bs b x y).1
  have nol : s.heap.NoLimit := e0.mod.nolimit.keeps fun b x y => (e0.bs b x y).1
  have kinds : ∀ y ∈ ps.zip us, scp.names.lookup y.1 = some .local ∨ (scp.names.lookup y.1 = some .cell ∧ ((cellsFrom (s.heap.objs.size + 1) scp.names []).lookup y.1).isSome = true) := by
    rintro ⟨n, v⟩ hy
    rcases S.par n (List.of_mem_zip hy).1 with z | z
    · exact Or.inl z
    · exact Or.inr ⟨z, PySem.W.cellsFrom_some _ _ _ (.inl z)⟩
  refine codeAny_call_function room.depth (inn _ _ l) rfl S.co S.gen rfl (PySem.W.codeRec_of inn hc) (hb _ _ _ _ ?_)
  refine wpAny_newFunctionEnv_cells S.kind kinds fun env he s1 x => ?_
  cases he
  refine ⟨nol.keeps x.toInCall.keep, codeAny_func ?_⟩
  have hgd2 : (A.deeper (envOfC ql scp s.heap.objs.size f cdv)).guards = some [] := hgd
  obtain ⟨t, ht, hq⟩ := bd A o s H vs Q E hgd2 (room.deeper _) q
  have I := inv_start (CX := C) (E := E) S room.hd e0 hlen r x
  refine wpAny_mono (ht.run [] s1 (start N vs) H _ I hq) (fun fl s' z => ?_) fun e s' z => z
  have out : ∀ {σ' : L2.St} {H' : Hp} {v : V} {u : Value}, Inv (cxOf C P w K mg base N ql scp f cdv A o s H E) [] σ' H' s' → RelV v u → Q v H' → CE o P w H s Q u s' := by
    intro σ' H' v u J rv q
    exact ⟨v, H', J.os, J.bare, J.base, J.hok, rv, q⟩
  match fl, z with
  | .ret u, ⟨v, σ', H', J, rv, q⟩ => exact out J rv q
  | .next, ⟨σ', H', J, q⟩ => exact out (v := V.non) (u := Value.none) J rfl q
  | .brk, ⟨_, _, _, q⟩ => exact q.elim
  | .cont, ⟨_, _, _, q⟩ => exact q.elim
end
section
variable {X : Cx} {C : CXT} {k : Nat} {f : Addr} {fd : FuncData} {ps : List Str} {sp : Sp} {E : L2.St → XK}
theorem run_fnG {pins : List (Addr × Obj)} {σ : L2.St} {H : Hp} {s : Shared} {Q : VK} {us : List Value} {vs : List V} (F : FnG X.prog X.w X.K X.mg X.base C k f fd ps sp) (hgd : X.A.guards = some []) (room : Room k X.A) (hb : Binds X.K fd ps []) (hx : PassesAt C X σ (E σ))
    (I : Inv X pins σ H s) (r : Vals vs us) (h : sp vs H Q (E σ)) : wpAny (model X.prog X.w) X.A (call (.ref f) us) (EP X pins σ Q) X.xe s := by
  have hl : us.length = ps.length := r.length.symm.trans (F.ar _ _ _ _ h)
  have b0 := hb s us I.kIn (by rw [List.append_nil]; exact hl)
  rw [List.append_nil] at b0
  refine wpAny_call (codeAny_mono (F.go X.A X.stack s H ⟨us, []⟩ us vs Q (E σ) hgd room I.env0 b0 r h) fun z s' hz => ?_)
  match z, hz with
  | .error e, hz => exact hx pins H s e s' I hz
  | .ok (.ret u), hz => exact I.after hz
/-- f(e, ..) -/
theorem pe_callG {x : Str} {p pos : Pos} {e : Expr} {es : List Expr} {t : TA} (F : FnG X.prog X.w X.K X.mg X.base C k f fd ps sp) (hgd : X.A.guards = some []) (room : Room k X.A) (hg : Gl X x) (hm : X.mg x = some (.ref f)) (hk : PySem.W.keepIn X.K (.ref f) = true) (hb : Binds X.K fd ps []) (hx : ∀ σ, PassesAt C X σ (E σ))
    (ha : PA X (e :: es) t) (hd : (x == ("__debug__" : Str)) = false) (h1 : starEach (e :: es) X.env = (false, eval e X.env) :: starEach es X.env) (h2 : (backTo pos (starEach es X.env)).any (·.1) = false) :
    PE X (.Call (.Name x p) (e :: es) [] pos) (fun σ H Q => t σ H fun vs H1 => sp vs H1 Q (E σ)) := by
  constructor
  intro pins s σ H Q I q
  refine wpAny_Call_Name_kw (ld_glob I hg hm ?_ hd)
  exact PySem.W.callWith_K (h₀ := X.base) I.ok.mod.kin hk (thn (ha.run pos pins s σ H _ I q) fun us s1 ⟨vs, H1, I1, r, q1⟩ => ⟨I1.kIn, run_fnG F hgd room hb (hx σ) I1 r q1⟩) h1 h2
end
/-- the law's call, from the law's promise -/
theorem law_callG {P : Program} {w : World} {K : PySem.W.Frag} {mg mb : Str → Option Value} {C : CXT} {k : Nat} {fa a : Addr} {fd : FuncData} {x : Str} {sp : Sp} {t : Shared} {vs : List Value} {ns : List Int}
    (inn : K.In t.heap) (gl : t.heap.Ns mainGlobals mg) (bl : t.heap.Ns builtinsNs mb) (bb : ∀ x : Str, x ≠ "__name__" → mb x = bootBuiltins x) (nol : t.heap.NoLimit) (g0 : t.gens = #[])
    (scr : t.heap.get? a = some { cls := .type "list", data := .seq vs.toArray }) (hi : IntsAre vs ns) (few : ns.length ≤ sizeLine) (room : Room k callerA)
    (F : ∀ base : Heap, K.In base → base.Ns mainGlobals mg → FnG P w K mg base C k fa fd [x] sp) (bnd : ∀ (s : Shared) (u : Value), BindsTo s fd ⟨[u], []⟩ [(x, u)])
    (hs : ∀ H : Hp, Only H → SqL K H a (ns.map V.int) → sp [.ref a] H (fun v _ => v = .bl true) fun _ _ _ => False)
    (hC : ∀ H e s', C [] H t (fun _ _ _ => False) e s' → False) :
    codeAny (model P w) callerA (.call (.ref fa) ⟨[.ref a], []⟩) (fun r s' => r = .ok (.ret (.bool true)) ∧ OldK t.heap s'.heap ∧ s'.os = t.os ∧ AllBare s'.gens) t := by
  have hvals := vals_ints hi
  have hlen := hi.length
  have main : ∀ H : Hp, Only H → SqL K H a (ns.map V.int) → HOk P w H t.heap → (∀ b, H b ≠ none → b = a) → (H a ≠ none → K.lookup a = none) →
      codeAny (model P w) callerA (.call (.ref fa) ⟨[.ref a], []⟩) (fun r s' => r = .ok (.ret (.bool true)) ∧ OldK t.heap s'.heap ∧ s'.os = t.os ∧ AllBare s'.gens) t := by
    intro H only sq hok one nk
    have low : ∀ {b : Addr} {o : Obj}, t.heap.get? b = some o → H b = none → (hidT t.heap H).get? b = some o := fun e n => hidT_get e n
    have nod : ∀ {b : Addr} {o : Obj} {es : Array DictEntry} {ep : Nat}, t.heap.get? b = some o → o.data = .dict es ep → H b = none := by
      intro b o es ep e d
      cases z : H b with
      | none => rfl
      | some u =>
        obtain rfl : b = a := one b (by rw [z]; intro y; cases y)
        rw [scr] at e
        cases e
        cases (show Data.seq vs.toArray _ = Data.dict es ep from d)
    have nsl : ∀ {b : Addr} {m : Str → Option Value}, t.heap.Ns b m → (hidT t.heap H).Ns b m := by
      rintro b m ⟨o, es, ep, e, d, r⟩
      exact ⟨o, es, ep, low e (nod e d), d, r⟩
    have kb : K.In (hidT t.heap H) := by
      intro b o e
      refine low (inn b o e) ?_
      cases z : H b with
      | none => rfl
      | some u =>
        obtain rfl : b = a := one b (by rw [z]; intro y; cases y)
        rw [nk (by rw [z]; intro y; cases y)] at e
        cases e
    have md : Mod K mg (hidT t.heap H) := by
      obtain ⟨mc, l1, l2⟩ := nol
      exact ⟨kb, nsl gl, ⟨mb, nsl bl, bb⟩, ⟨mc, nsl l1, l2⟩⟩
    have e0 : Env0 P w K mg (hidT t.heap H) callerA [] t H :=
      { frames := rfl, mod := md, bs := fun b o e => of_hidT e, bsz := Nat.le_of_eq (hidT_size _ _), funs := trivial, frf := (fun b hb => nomatch (show b ∈ ([] : List Addr) from hb)), hok := hok, bare := .of_eq g0 }
    have step := (F _ kb (nsl gl)).go callerA [] t H ⟨[.ref a], []⟩ [.ref a] [.ref a] _ _ rfl room e0 (bnd t (.ref a)) (.cons rfl .nil) (hs H only sq)
    refine codeAny_mono step fun r s' z => ?_
    match r, z with
    | .error e, z => exact (hC H e s' z).elim
    | .ok (.ret u), ⟨v, H', os, bare, un, hok', r', q⟩ =>
      have q' : v = .bl true := q
      subst q'
      have eu : u = Value.bool true := r'
      subst eu
      refine ⟨rfl, OldK.of_keep fun b o e => ?_, os, bare⟩
      cases y : H b with
      | none => exact un.keep b o e y (by intro z; cases (show b ∈ ([] : List Addr) from z)) (by simp)
      | some u =>
        rcases only b with z | ⟨ob, xs, z⟩
        · rw [y] at z
          cases z
        · obtain ⟨k1, _⟩ := hok b _ z
          obtain ⟨k2, _⟩ := hok' b _ (un.frzs b ob _ z)
          rw [e] at k1
          cases k1
          exact k2
  cases hk : K.lookup a with
  | some o =>
    have e := inn a o hk
    rw [scr] at e
    cases e
    have sq0 : SqL K (fun _ => none) a (ns.map V.int) := Or.inr ⟨_, vs.toArray, _, hk, rfl, rfl, rfl, (by rw [List.size_toArray, hlen]; exact few), (by simpa using hvals)⟩
    exact main (fun _ => none) (fun _ => .inl rfl) sq0 (fun b u z => nomatch (show (none : Option HO) = some u from z)) (fun b z => absurd rfl z) fun z => absurd rfl z
  | none =>
    let o1 : Obj := { cls := .type "list", data := .seq vs.toArray }
    let u1 : HO := .frz o1 (.lst (ns.map V.int))
    let H1 : Hp := fun b => if b = a then some u1 else none
    have yes : ∀ b, b = a → H1 b = some u1 := fun b z => if_pos z
    have no : ∀ b, b ≠ a → H1 b = none := fun b z => if_neg z
    refine main H1 (fun b => ?_) (.inl (.inr ⟨o1, yes a rfl⟩)) (fun b u z => ?_) (fun b z => ?_) fun _ => hk
    · by_cases hb : b = a
      · exact .inr ⟨_, _, yes b hb⟩
      · exact .inl (no b hb)
    · by_cases hb : b = a
      · have y := (yes b hb).symm.trans z
        cases y
        subst hb
        exact ⟨scr, by rw [List.length_map]; exact few, vs, _, hvals, scr⟩
      · have y := (no b hb).symm.trans z
        cases y
    · exact Classical.byContradiction fun hb => z (no b hb)
/-- the end of a law -/
theorem walk_ofG {l : PySem.W.OpenLaw} {n k : Nat} {q : Program} {loose : List Str} {XP : (Str → Option Value) → Heap → Prop} {YP : World → Heap → Prop} {d : DefRec} {K : Params → PySem.W.Frag} {C : World → CXT} {sp : World → Sp} {x : Str}
    (hn : l.most = some n) (hn2 : n ≤ sizeLine) (hd : d.params.defaults = []) (room : Room k callerA) (hY : ∀ (w : World) (h : Heap), YP w h → (K w.params).In h)
    (F : ∀ (w : World) (mg : Str → Option Value) (fa : Addr) (h : Heap), (K w.params).In h → h.Ns mainGlobals mg → mg d.name = some (.ref fa) →
      ∃ fd : FuncData, (∀ (s : Shared) (u : Value), BindsTo s fd ⟨[u], []⟩ [(x, u)]) ∧ ∀ base : Heap, (K w.params).In base → base.Ns mainGlobals mg → FnG l.prog w (K w.params) mg base (C w) k fa fd [x] (sp w))
    (hs : ∀ (w : World) (H : Hp) (a : Addr) (ns : List Int), ns.length ≤ n → Only H → SqL (K w.params) H a (ns.map V.int) → sp w [.ref a] H (fun v _ => v = .bl true) fun _ _ _ => False)
    (hC : ∀ (w : World) (H : Hp) (s : Shared) (e : Value) (s' : Shared), C w [] H s (fun _ _ _ => False) e s' → False) :
    PySem.W.WalkO q loose XP YP l.row.toRowW d [] (fun f vs => PySem.call f vs) := by
  refine Att.attach_call hn hd fun w s0 t mg mb fa o pm cd doc a vs ns G Y ho h1 h2 h3 h4 h5 h6 h7 => ?_
  have inn := hY w _ Y
  obtain ⟨fd, hb, hF⟩ := F w mg fa _ inn G.T.g h3
  exact law_callG inn G.T.g G.T.b G.T.builtins G.T.nolimit h7 h4 h5 (Nat.le_trans h6 hn2) room hF hb (fun H hO hS => hs w H a ns h6 hO hS) fun H e s' => hC w H t e s'
/-! ### the end with tables of code objects -/
/-- only the script and the tables are told -/
def OnlyT (ts : List Addr) (H : Hp) : Prop := ∀ b, H b = none ∨ (b ∈ ts ∧ H b = some (.tbl #[])) ∨ ∃ o xs, H b = some (.frz o (.lst xs))
theorem law_callGT {P : Program} {w : World} {K : PySem.W.Frag} {mg mb : Str → Option Value} {C : CXT} {k : Nat} {fa a : Addr} {cs : List (Addr × Addr)} {fd : FuncData} {x : Str} {sp : Sp} {t : Shared} {vs : List Value} {ns : List Int}
    (inn : K.In t.heap) (gl : t.heap.Ns mainGlobals mg) (bl : t.heap.Ns builtinsNs mb) (bb : ∀ x : Str, x ≠ "__name__" → mb x = bootBuiltins x) (nol : t.heap.NoLimit) (g0 : t.gens = #[])
    (tabs : ∀ p ∈ cs, t.heap.get? p.2 = some { cls := .none, data := .fields #[] }) (tabK : ∀ p ∈ cs, K.lookup p.2 = none) (cods : ∀ p ∈ cs, PySem.W.CodeHd t.heap p.1 p.2)
    (bmod : ∃ (bm : Addr) (ob : Obj), mg "__builtins__" = some (.ref bm) ∧ bm ≠ builtinsNs ∧ t.heap.get? bm = some ob ∧ ob.cls = .type "module" ∧ ob.dict = some builtinsNs ∧ ob.data = .plain)
    (scr : t.heap.get? a = some { cls := .type "list", data := .seq vs.toArray }) (hi : IntsAre vs ns) (few : ns.length ≤ sizeLine) (room : Room k callerA)
    (F : ∀ base : Heap, K.In base → base.Ns mainGlobals mg → (∀ p ∈ cs, LamX.TabB base mg p.1 p.2) → FnG P w K mg base C k fa fd [x] sp) (bnd : ∀ (s : Shared) (u : Value), BindsTo s fd ⟨[u], []⟩ [(x, u)])
    (hs : ∀ H : Hp, OnlyT (cs.map (·.2)) H → (∀ p ∈ cs, H p.2 = some (.tbl #[])) → SqL K H a (ns.map V.int) → sp [.ref a] H (fun v _ => v = .bl true) fun _ _ _ => False)
    (hC : ∀ H e s', C [] H t (fun _ _ _ => False) e s' → False) :
    codeAny (model P w) callerA (.call (.ref fa) ⟨[.ref a], []⟩) (fun r s' => r = .ok (.ret (.bool true)) ∧ OldK t.heap s'.heap ∧ s'.os = t.os ∧ AllBare s'.gens) t := by
  have hvals := vals_ints hi
  have hlen := hi.length
  have tabAt : ∀ b, b ∈ cs.map (·.2) → ∃ p ∈ cs, p.2 = b := fun b hb => by
    obtain ⟨p, hp, e⟩ := List.mem_map.mp hb
    exact ⟨p, hp, e⟩
  have tabO : ∀ b, b ∈ cs.map (·.2) → t.heap.get? b = some { cls := .none, data := .fields #[] } := fun b hb => by
    obtain ⟨p, hp, rfl⟩ := tabAt b hb
    exact tabs p hp
  have aNo : a ∉ cs.map (·.2) := fun z => by
    have e := tabO a z
    rw [scr] at e
    cases (show Data.seq vs.toArray _ = Data.fields #[] from congrArg Obj.data (Option.some.inj e))
  have main : ∀ H : Hp, OnlyT (cs.map (·.2)) H → (∀ p ∈ cs, H p.2 = some (.tbl #[])) → SqL K H a (ns.map V.int) → HOk P w H t.heap → (∀ b, H b ≠ none → b = a ∨ b ∈ cs.map (·.2)) → (H a ≠ none → K.lookup a = none) →
      codeAny (model P w) callerA (.call (.ref fa) ⟨[.ref a], []⟩) (fun r s' => r = .ok (.ret (.bool true)) ∧ OldK t.heap s'.heap ∧ s'.os = t.os ∧ AllBare s'.gens) t := by
    intro H only hT sq hok one nk
    have low : ∀ {b : Addr} {o : Obj}, t.heap.get? b = some o → H b = none → (hidT t.heap H).get? b = some o := fun e n => hidT_get e n
    -- what is neither a list nor an empty table is not told
    have out : ∀ {b : Addr} {o : Obj}, t.heap.get? b = some o → (∀ z n, o.data ≠ .seq z n) → o.data ≠ .fields #[] → H b = none := by
      intro b o e n1 n2
      cases z : H b with
      | none => rfl
      | some u =>
        rcases one b (by rw [z]; intro y; cases y) with rfl | hb
        · rw [scr] at e
          cases e
          exact absurd rfl (n1 _ _)
        · rw [tabO b hb] at e
          cases e
          exact absurd rfl n2
    have nsl : ∀ {b : Addr} {m : Str → Option Value}, t.heap.Ns b m → (hidT t.heap H).Ns b m := by
      rintro b m ⟨o, es, ep, e, d, r⟩
      exact ⟨o, es, ep, low e (out e (fun z n y => by rw [d] at y; cases y) fun y => by rw [d] at y; cases y), d, r⟩
    have kb : K.In (hidT t.heap H) := by
      intro b o e
      refine low (inn b o e) ?_
      cases z : H b with
      | none => rfl
      | some u =>
        rcases one b (by rw [z]; intro y; cases y) with rfl | hb
        · rw [nk (by rw [z]; intro y; cases y)] at e
          cases e
        · obtain ⟨p, hp, rfl⟩ := tabAt b hb
          rw [tabK p hp] at e
          cases e
    have md : Mod K mg (hidT t.heap H) := by
      obtain ⟨mc, l1, l2⟩ := nol
      exact ⟨kb, nsl gl, ⟨mb, nsl bl, bb⟩, ⟨mc, nsl l1, l2⟩⟩
    have tbl : ∀ p ∈ cs, LamX.TabB (hidT t.heap H) mg p.1 p.2 := by
      intro p hp
      have hp2 := tabs p hp
      constructor
      · obtain ⟨o, us, file, tf, flags, tg, inF, text, tt, e1, r1, r2, r3, r4, r5, r6, r7, r8, r9⟩ := cods p hp
        refine ⟨o, us, file, tf, flags, tg, inF, text, tt, low e1 (out e1 (fun z n y => by rw [r2] at y; cases y) fun y => ?_), r1, r2, r3, r4, r5, r6, r7, r8, r9⟩
        rw [r2] at y
        cases y
        simp at r3
      · obtain ⟨bm, ob, b1, b2, b3, b4, b5, b6⟩ := bmod
        refine ⟨bm, ob, b1, b2, fun z => ?_, fun z => ?_, low b3 (out b3 (fun z n y => by rw [b6] at y; cases y) fun y => by rw [b6] at y; cases y), b4, b5, b6⟩
        · obtain ⟨o, es, ep, e, d, _⟩ := gl
          rw [z, e] at b3
          cases b3
          rw [d] at b6
          cases b6
        · rw [z, hp2] at b3
          cases b3
          cases b6
      · intro z
        obtain ⟨o, es, ep, e, d, _⟩ := gl
        rw [z, hp2] at e
        cases e
        cases d
    have e0 : Env0 P w K mg (hidT t.heap H) callerA [] t H :=
      { frames := rfl, mod := md, bs := fun b o e => of_hidT e, bsz := Nat.le_of_eq (hidT_size _ _), funs := trivial, frf := (fun b hb => nomatch (show b ∈ ([] : List Addr) from hb)), hok := hok, bare := .of_eq g0 }
    have step := (F _ kb (nsl gl) tbl).go callerA [] t H ⟨[.ref a], []⟩ [.ref a] [.ref a] _ _ rfl room e0 (bnd t (.ref a)) (.cons rfl .nil) (hs H only hT sq)
    refine codeAny_mono step fun r s' z => ?_
    match r, z with
    | .error e, z => exact (hC H e s' z).elim
    | .ok (.ret u), ⟨v, H', os, bare, un, hok', r', q⟩ =>
      have q' : v = .bl true := q
      subst q'
      have eu : u = Value.bool true := r'
      subst eu
      have keep : ∀ b o, b ∉ cs.map (·.2) → t.heap.get? b = some o → s'.heap.get? b = some o := by
        intro b o nb e
        cases y : H b with
        | none => exact un.keep b o e y (by intro z; cases (show b ∈ ([] : List Addr) from z)) (by simp)
        | some u =>
          rcases only b with z | ⟨z, _⟩ | ⟨ob, xs, z⟩
          · rw [y] at z
            cases z
          · exact absurd z nb
          · obtain ⟨k1, _⟩ := hok b _ z
            obtain ⟨k2, _⟩ := hok' b _ (un.frzs b ob _ z)
            rw [e] at k1
            cases k1
            exact k2
      have more : ∀ p ∈ cs, ∃ l : Array Value, s'.heap.get? p.2 = some { cls := .none, data := .fields l } := fun p hp => by
        obtain ⟨l, z⟩ := un.tbls p.2 #[] (hT p hp)
        exact ⟨_, hok' p.2 _ z⟩
      refine ⟨rfl, ⟨fun b o e => ?_, fun b o e => ?_⟩, os, bare⟩
      · by_cases hb : b ∈ cs.map (·.2)
        · obtain ⟨p, hp, rfl⟩ := tabAt b hb
          obtain ⟨l, hl⟩ := more p hp
          rw [tabs p hp] at e
          cases e
          exact .inr (.inl ⟨((cods p hp).tab (tabs p hp)).isCodeTable, rfl, #[], l, rfl, by rw [Array.empty_append]; exact hl⟩)
        · exact .inl (keep b o hb e)
      · by_cases hb : b ∈ cs.map (·.2)
        · obtain ⟨p, hp, rfl⟩ := tabAt b hb
          obtain ⟨l, hl⟩ := more p hp
          exact ⟨_, hl⟩
        · exact ⟨o, keep b o hb e⟩
  let T : Hp := fun b => if b ∈ cs.map (·.2) then some (.tbl #[]) else none
  have Ty : ∀ b, b ∈ cs.map (·.2) → T b = some (.tbl #[]) := fun b hb => if_pos hb
  have Tn : ∀ b, b ∉ cs.map (·.2) → T b = none := fun b hb => if_neg hb
  cases hk : K.lookup a with
  | some o =>
    have e := inn a o hk
    rw [scr] at e
    cases e
    have sq0 : SqL K T a (ns.map V.int) := Or.inr ⟨_, vs.toArray, _, hk, rfl, rfl, rfl, (by rw [List.size_toArray, hlen]; exact few), (by simpa using hvals)⟩
    refine main T (fun b => ?_) (fun p hp => Ty _ (List.mem_map.mpr ⟨p, hp, rfl⟩)) sq0 (fun b u z => ?_) (fun b z => ?_) fun z => absurd (Tn a aNo) z
    · by_cases hb : b ∈ cs.map (·.2)
      · exact .inr (.inl ⟨hb, Ty b hb⟩)
      · exact .inl (Tn b hb)
    · by_cases hb : b ∈ cs.map (·.2)
      · rw [Ty b hb] at z
        cases z
        exact tabO b hb
      · rw [Tn b hb] at z
        cases z
    · by_cases hb : b ∈ cs.map (·.2)
      · exact .inr hb
      · exact absurd (Tn b hb) z
  | none =>
    let o1 : Obj := { cls := .type "list", data := .seq vs.toArray }
    let u1 : HO := .frz o1 (.lst (ns.map V.int))
    let H1 : Hp := fun b => if b = a then some u1 else T b
    have yes : ∀ b, b = a → H1 b = some u1 := fun b z => if_pos z
    have no : ∀ b, b ≠ a → H1 b = T b := fun b z => if_neg z
    refine main H1 (fun b => ?_) (fun p hp => ?_) (.inl (.inr ⟨o1, yes a rfl⟩)) (fun b u z => ?_) (fun b z => ?_) fun _ => hk
    · by_cases hb : b = a
      · exact .inr (.inr ⟨_, _, yes b hb⟩)
      · by_cases hb2 : b ∈ cs.map (·.2)
        · exact .inr (.inl ⟨hb2, (no b hb).trans (Ty b hb2)⟩)
        · exact .inl ((no b hb).trans (Tn b hb2))
    · have hm : p.2 ∈ cs.map (·.2) := List.mem_map.mpr ⟨p, hp, rfl⟩
      exact (no _ fun z => aNo (z ▸ hm)).trans (Ty _ hm)
    · by_cases hb : b = a
      · have y := (yes b hb).symm.trans z
        cases y
        subst hb
        exact ⟨scr, by rw [List.length_map]; exact few, vs, _, hvals, scr⟩
      · have y := (no b hb).symm.trans z
        by_cases hb2 : b ∈ cs.map (·.2)
        · rw [Ty b hb2] at y
          cases y
          exact tabO b hb2
        · rw [Tn b hb2] at y
          cases y
    · by_cases hb : b = a
      · exact .inl hb
      · by_cases hb2 : b ∈ cs.map (·.2)
        · exact .inr hb2
        · exact absurd ((no b hb).trans (Tn b hb2)) z
/-! ### repr -/
section
variable {X : Cx}
theorem vals_one {x : V} {us : List Value} (r : Vals [x] us) : ∃ u, us = [u] ∧ RelV x u := by
  cases r with
  | cons h t => cases t; exact ⟨_, rfl, h⟩
/-- repr(x), x plain data -/
theorem call_repr (hgd : X.A.guards = some []) (hu : X.A.units + 70 < cLine) : CallR X (.builtin "repr") (fun xs H Q => ∃ v d, xs = [v] ∧ Dp X.K H v d ∧ d.showable = true ∧ d.hasDict = false ∧ d.depth ≤ 64 ∧ d.shown.length ≤ sizeLine ∧ Q (.str d.shown) H) := by
  intro pins s σ H xs us Q I r h
  obtain ⟨v, d, rfl, dp, hs, hd, hdp, hsz, q⟩ := h
  obtain ⟨u, rfl, ru⟩ := vals_one r
  obtain ⟨as, rd⟩ := Dp.reads I d v u dp ru
  have fin : ∀ (h' : Heap) (t : Tok) (tk : Nat), (∀ b o, s.heap.get? b = some o → h'.get? b = some o) → EP X pins σ Q (.str d.shown t) { s with heap := h', toks := tk } := fun h' t tk hk =>
    ⟨.str d.shown, H, I.kept hk, ⟨t, rfl⟩, q⟩
  cases rd with
  | none => exact PySem.P.repr_of_none (fin s.heap _ _ fun b o e => e)
  | bool b => exact PySem.P.repr_of_bool (fin s.heap _ _ fun b o e => e)
  | int i t => exact PySem.P.repr_of_int (by simpa [PyData.showable] using hs) (fin s.heap _ _ fun b o e => e)
  | str x t => exact PySem.P.repr_of_str (fin s.heap _ _ fun b o e => e) hsz
  | list h1 h2 h3 h4 => exact repr_of_reads' (.list h1 h2 h3 h4) hs (fun z => by rw [hd] at z; cases z) hgd (by omega) (fun b o e => e) (fun h' u tk hk => fin h' _ tk hk) hsz
  | tuple h1 h2 h3 h4 => exact repr_of_reads' (.tuple h1 h2 h3 h4) hs (fun z => by rw [hd] at z; cases z) hgd (by omega) (fun b o e => e) (fun h' u tk hk => fin h' _ tk hk) hsz
  | dict h1 h2 h3 h4 h5 => simp [PyData.hasDict] at hd
end
end Z

/-! ZK: what is known of the module: classes of exceptions, defs that make a call in a try; a lambda handed to such a def where no guard stands around. -/
namespace Z
open PySem PySem.Spec PyProof.Rows L2
variable [TabC]
section
variable (P : Program) (w : World) (K : PySem.W.Frag) (mg : Str → Option Value) (base : Heap)
/-- an own class of exceptions -/
def ExcV (c : Str) : Prop := ∃ (C : Addr) (B newId initId : String) (bmB : List Value), mg c = some (.ref C) ∧ PySem.W.keepIn K (.ref C) = true ∧ ExcBaseFacts B newId initId bmB ∧ PySem.W.excIn K C bmB newId = true ∧
  PySem.W.subIn K (.ref C) (.type "BaseException") = some true ∧ PySem.W.typeIn K (.ref C) = some (.type "type") ∧ ExcC K C
/-- a dict of the module, texts to texts -/
def DctV (w : World) (K : PySem.W.Frag) (mg : Str → Option Value) (d : Str) (tab : List (Str × Str)) : Prop := ∃ (a : Addr) (es : Array DictEntry) (n : Nat), mg d = some (.ref a) ∧ KDict K w a es n ∧
  ∀ z, match tab.lookup z with
    | some y => ∃ t, PySem.W.nsIn K a z = some (some (.str y t))
    | none => PySem.W.nsIn K a z = some none
/-- a class that isinstance asks of an exception -/
def SubV (c : Str) (tab : List (Str × Bool)) : Prop := ∃ (v : V) (cv : Value), ((∃ C, mg c = some (.ref C) ∧ cv = .ref C ∧ v = .ref C) ∨ (∃ t, mg c = none ∧ bootBuiltins c = some (.type t) ∧ cv = .type t ∧ v = .ty t)) ∧
  PySem.W.kitOne K (.type "NoneType") cv = some false ∧ ∀ x b, tab.lookup x = some b → ∃ D, mg x = some (.ref D) ∧ ExcC K D ∧ PySem.W.kitOne K (.ref D) cv = some b
/-- what a def tells, wished for -/
def AnsQ (d : Ans) (H : Hp) (Q : VK) : Prop :=
  match d with
  | .s t => ∀ H', Ext [] H [] H' → Q (.str t) H'
  | .l ns => ∀ H' p, Ext [] H [] H' → (∀ vs, H p ≠ some (.lst vs)) → H' p = some (.lst (ns.map V.int)) → Q (.ref p) H'
def TTz (tab : List (Str × Ans)) : (XK → Hp → VK → Prop) → Hp → VK → Prop := fun tl H Q =>
  ∀ Q' : VK, (∀ v H', LamX.Tabs TabC.T H' → (∀ H'', Ext [] H' [] H'' → Q .non H'') → Q' v H') → tl (fun cls d H' => d = none ∧ LamX.Tabs TabC.T H' ∧ ∃ c d, cls = clsV mg c ∧ tab.lookup c = some d ∧ AnsQ d H' Q) H Q'
/-- the def that calls what it got, where no guard stands around -/
def GivZ (Ng : List Str) (x : Str) (sg : Scope) (g : Addr) (cdg : Value) (bg : List Stmt) (a : Str) (TT : (XK → Hp → VK → Prop) → Hp → VK → Prop) : Prop :=
  ∀ (A : Around) (st : List PySem.Env) (q : Str) (f c' : Addr) (s : Shared) (H : Hp) (Q : VK) (tl : XK → Hp → VK → Prop), A.guards = some [] → Room 1 A →
    (∀ (W : WX) (pn : List (Addr × Obj)) (xe : Value → Shared → Prop) (E : XK) (p1 p2 : Pos), Takes ((cxOf C8.CX0 P w K mg base Ng x sg g cdg A st s H C8.E0).tr pn xe) W → (∀ cls d σ' H', E cls d H' → W cls d σ' H') →
      PE ((cxOf C8.CX0 P w K mg base Ng x sg g cdg A st s H C8.E0).tr pn xe) (.Call (.Name a p1) [] [] p2) (fun σZ HZ Q => σZ[0]? = some (some (.ref f)) ∧ HZ c' = some (LamX.CodeO c' q) ∧ tl E HZ Q)) →
    H c' = some (LamX.CodeO c' q) → TT tl H Q →
    ∃ t, PSs (cxOf C8.CX0 P w K mg base Ng x sg g cdg A st s H C8.E0).nox bg t ∧ t { nx := fun _ H' => Q .non H', rt := Q } (L2.start Ng [.ref f]) H
def SaidV (g : Str) (tab : List (Str × Ans)) : Prop :=
  ∃ (ga : Addr) (oc : Value) (od : Option Addr) (pg : Arguments) (bg : List Stmt) (sg : Scope) (dV kV doc pm cdv ct : Value) (an : Option Addr) (osl : Array (Option Value)) (Ng : List Str) (a : Str),
    mg g = some (.ref ga) ∧ PySem.W.keepIn K (.ref ga) = true ∧ K.lookup ga = some ⟨oc, od, .func (PySem.W.fnOf g g pg bg sg dV kV doc pm an cdv ct), osl⟩ ∧ PySem.W.codeIn K cdv g = true ∧
    L2.Binds K (PySem.W.fnOf g g pg bg sg dV kV doc pm an cdv ct) [a] [] ∧ FnScope Ng [a] sg ∧ Ng[0]? = some a ∧ Vis sg a ∧ okNm a = true ∧ GivZ P w K mg base Ng g sg ga cdv bg a (TTz mg tab)
structure GOk (gi : GI) : Prop where
  dcts : ∀ d tab, gi.dcts.lookup d = some tab → DctV w K mg d tab
  txts : ∀ x s, gi.txts.lookup x = some s → ∃ t, mg x = some (Value.str s t)
  excs : ∀ x ∈ gi.excs, ExcV K mg x
  subs : ∀ c tab, gi.subs.lookup c = some tab → SubV K mg c tab
  saids : ∀ g tab, gi.saids.lookup g = some tab → SaidV P w K mg base g tab
end
section
variable {r : List Addr} {H H1 : Hp} {m : Mem}
theorem ext0 (e : Ext [] H [] H1) : Ext r H r H1 := ⟨List.prefix_refl r, fun _ h => .inl h, fun a o h _ t => e.keep a o h (by simp) t, e.tups, e.frzs, e.tabs, fun a vs h _ => e.keep a _ h (by simp) (fun q z => by cases z)⟩
theorem Rel.ext0 (R : Rel r H m) (e : Ext [] H [] H1) : Rel r H1 m := R.same (Z.ext0 e) fun a ha => by
  obtain ⟨vs, h⟩ := R.obj ha
  rw [h]
  exact e.keep a _ h (by simp) fun q z => by cases z
theorem extN (e : LamX.ExtN H H1) (t : LamX.Tabs TabC.T H → LamX.Tabs TabC.T H1) : Ext [] H [] H1 :=
  ⟨List.prefix_refl _, fun _ h => .inl h, fun a o h _ n => e a o h n, fun a vs h => e a _ h (fun q z => by cases z), fun a o u h => e a _ h (fun q z => by cases z), t, fun a vs h _ => e a _ h (fun q z => by cases z)⟩
end
/-! ### the lambda called, the def called -/
section
variable {X : Cx} {pins : List (Addr × Obj)} {σ : L2.St} {H : Hp} {s : Shared}
omit [TabC] in
/-- a() in the def that got the lambda -/
theorem actG {Cg : CXT} {Eg : XK} {Ng : List Str} {qg : Str} {sg : Scope} {g f c' : Addr} {cdg pm ctv : Value} {pars : Arguments} {body : Expr} {scp : Scope} {k i : Nat} {a : Str} {pn : List (Addr × Obj)} {xe : Value → Shared → Prop} {W : WX} {E : XK} {tb : TE} {p1 p2 : Pos}
    (hgd : X.A.guards = some []) (I : Inv X pins σ H s) (L : LamX.LamS X.env.scope scp) (hf : s.heap.get? f = some (PySem.W.kla_obj "<lambda>" (X.env.qual ++ "<lambda>") pars body scp (cloFrom X.env.cells scp.names []) pm c' ctv)) (hn : H f = none) (hr : f ∉ frs X.stack)
    (bind : bindArgs (PySem.W.kla_fn "<lambda>" (X.env.qual ++ "<lambda>") pars body scp (cloFrom X.env.cells scp.names []) pm (.ref c') ctv) ⟨[], []⟩ = pure [])
    (tk : Takes ((cxOf Cg X.prog X.w X.K X.mg X.base Ng qg sg g cdg X.A X.stack s H Eg).tr pn xe) W) (hW : ∀ cls d σ' H', E cls d H' → W cls d σ' H') (room : Room (k + 1) (X.A.deeper (envOfC qg sg s.heap.objs.size g cdg)))
    (hbody : ∀ (A : Around) (o : List PySem.Env) (s : Shared) (H : Hp), A.guards = some [] → Room k (A.deeper (LamX.lamEnv X scp s.heap.objs.size f c')) → PE (LamX.lamCx X A o s H E scp f c') body tb)
    (hN : Ng[i]? = some a) (hv : Vis sg a) (hd : (a == ("__debug__" : Str)) = false) (hcd : (a == ("__classdict__" : Str)) = false) :
    PE ((cxOf Cg X.prog X.w X.K X.mg X.base Ng qg sg g cdg X.A X.stack s H Eg).tr pn xe) (.Call (.Name a p1) [] [] p2)
      (fun σZ HZ Q => σZ[i]? = some (some (.ref f)) ∧ HZ c' = some (LamX.CodeO c' (X.env.qual ++ "<lambda>")) ∧ tb σ HZ Q) := by
  constructor
  rintro pinsY sY σY HY QY J ⟨g1, g2, g3⟩
  have ld := (pe_var (pos := p1) (i := i) (X := (cxOf Cg X.prog X.w X.K X.mg X.base Ng qg sg g cdg X.A X.stack s H Eg).tr pn xe) hN hv hd hcd).run pinsY sY σY HY (fun v H1 => v = .ref f ∧ H1 = HY) J ⟨_, g1, rfl, rfl⟩
  refine wpAny_Call_Name_kw (thn ld ?_)
  rintro u sZ ⟨v, HZ, JZ, ru, e1, e2⟩
  subst e1
  rw [e2] at JZ
  have eu : u = Value.ref f := ru
  subst eu
  have base := JZ.base
  have there := base.keep f _ hf hn hr (fun z => nomatch (show f ∈ ([] : List Addr) from z))
  refine PySem.W.callWith_F0 ⟨_, _, _, _, there⟩ ?_
  obtain ⟨⟨oc, ws, t, o1, o2, o3⟩, _⟩ := JZ.hok c' _ g2
  have step : codeAny (model X.prog X.w) (X.A.deeper (envOfC qg sg s.heap.objs.size g cdg)) (.call (.ref f) ⟨[], []⟩) (CR (L2.CX X.prog X.w) (envOfC qg sg s.heap.objs.size g cdg :: X.stack) X.prog X.w HY sZ QY E) sZ := by
    refine PySem.W.kla_callFunE room.depth there rfl L.co L.gen rfl ⟨c', oc, ws, t, rfl, o1, o2, o3⟩ ?_
    rw [bind]
    refine wpAny_pure ?_
    refine wpAny_newFunctionEnv (fun y hy => (L.own y hy).2) (fun y hy => nomatch hy) (fun hh nsl sb => ⟨JZ.nolimit.fresh _ sb, ?_⟩) L.kind
    show codeAny _ _ (.expr body (LamX.lamEnv X scp sZ.heap.objs.size f c')) _ _
    have keep : ∀ b o, sZ.heap.get? b = some o → hh.get? b = some o := fun b o e => sb.extBut b o (Nat.ne_of_lt (Heap.lt_size e)) (Heap.get?_push_of_some _ e)
    have I2 := LamX.lam_start2 (E := E) (c' := c') (f := f) (tk := sZ.toks + ([] : List (Str × Value)).length) I L JZ.env0 room.hd base nsl keep
    have gd2 : (X.A.deeper (envOfC qg sg s.heap.objs.size g cdg)).guards = some [] := hgd
    have run := (hbody _ _ sZ HY gd2 (room.deeper _)).run [] _ _ HY QY I2 g3
    refine PySem.W.kla_codeExpr (wpAny_mono run ?_ fun e s' z => z)
    rintro v s' ⟨w', H', I3, rv, q⟩
    exact ⟨w', H', I3.os, I3.bare, I3.base, I3.hok, rv, q⟩
  have pass := passes_call (E := E) tk hW
  refine wpAny_call (codeAny_mono step ?_)
  intro r s' z
  match r, z with
  | .error e, z => exact pass pinsY σY HY sZ e s' JZ z
  | .ok (.ret u), z => exact JZ.after z
def tLamZ (TT : (XK → Hp → VK → Prop) → Hp → VK → Prop) (t : XK → TE) : TE := fun σ H Q => LamX.Tabs TabC.T H ∧ ∀ H1, LamX.ExtN H H1 → LamX.Tabs TabC.T H1 → TT (fun E H' Q' => t E σ H' Q') H1 Q
/-- g(lambda: body) -/
theorem pe_lamG {TT : (XK → Hp → VK → Prop) → Hp → VK → Prop} {x a : Str} {g c P : Addr} {k : Nat} {pg : Arguments} {bg : List Stmt} {sg : Scope} {dV kV doc pm cdv ct oc : Value} {an od : Option Addr} {osl : Array (Option Value)} {Ng : List Str}
    {pars : Arguments} {body : Expr} {scp : Scope} {t : XK → TE} {p lpos pos : Pos} (hgd : X.A.guards = some []) (hg : Gl X x) (hm : X.mg x = some (.ref g)) (hk : PySem.W.keepIn X.K (.ref g) = true)
    (lk : X.K.lookup g = some ⟨oc, od, .func (PySem.W.fnOf x x pg bg sg dV kV doc pm an cdv ct), osl⟩) (hcg : PySem.W.codeIn X.K cdv x = true) (hb : L2.Binds X.K (PySem.W.fnOf x x pg bg sg dV kV doc pm an cdv ct) [a] []) (Sg : FnScope Ng [a] sg) (hNg : Ng[0]? = some a) (hva : Vis sg a)
    (gives : GivZ X.prog X.w X.K X.mg X.base Ng x sg g cdv bg a TT)
    (TB : LamX.TabB X.base X.mg c P) (code : X.env.code = .ref c) (hT : (P, X.env.qual ++ "<lambda>") ∈ TabC.T) (one : ∀ p ∈ TabC.T, p.1 = P → p.2 = X.env.qual ++ "<lambda>") (room : Room (k + 2) X.A) (L : LamX.LamS X.env.scope scp) (noDef : defaultsOf pars X.env = ([], []))
    (bind : ∀ (q : Str) (cl : List (Str × Addr)) (pm cv ctv : Value), bindArgs (PySem.W.kla_fn "<lambda>" q pars body scp cl pm cv ctv) ⟨[], []⟩ = pure [])
    (hbody : ∀ (A : Around) (o : List PySem.Env) (s : Shared) (H : Hp) (E : XK) (f c' : Addr), A.guards = some [] → Room k (A.deeper (LamX.lamEnv X scp s.heap.objs.size f c')) → PE (LamX.lamCx X A o s H E scp f c') body (t E))
    (hdb : (x == ("__debug__" : Str)) = false) (hd : (a == ("__debug__" : Str)) = false) (hcd : (a == ("__classdict__" : Str)) = false) :
    PE X (.Call (.Name x p) [.Lambda pars body scp lpos] [] pos) (tLamZ TT t) := by
  constructor
  rintro pins s σ H Q I ⟨tabs, q⟩
  refine wpAny_Call_Name_kw (ld_glob I hg hm ?_ hdb)
  refine PySem.W.callWith_K (h₀ := X.base) I.ok.mod.kin hk ?_ (by rfl) (by rfl)
  show wpAny _ _ (spliced ((false, eval (.Lambda pars body scp lpos) X.env) :: backTo pos (starEach [] X.env))) _ _ s
  refine Calls.spliced_cons ?_
  refine LamX.lam_make2 I TB code hT one tabs noDef (L.has I.ok) ?_
  intro f c' pm' ctv H1 s1 J eN T1 there hn hr hco
  refine Calls.spliced_nil ⟨J.kIn, ?_⟩
  have step : codeAny (model X.prog X.w) X.A (.call (.ref g) ⟨[.ref f], []⟩) (CR C8.CX0 X.stack X.prog X.w H1 s1 Q C8.E0) s1 := by
    refine LamX.run_ofS (N := Ng) (ps := [a]) (us := [.ref f]) (vs := [.ref f]) lk hcg Sg room J.env0 (hb s1 [.ref f] J.kIn rfl) (.cons rfl .nil) rfl ?_
    intro room1
    have mk := gives X.A X.stack (X.env.qual ++ "<lambda>") f c' s1 H1 Q (fun E H' Q' => t E σ H' Q') hgd (room.mono (by omega))
      (fun W pn xe E p1 p2 tk hW => actG (i := 0) hgd J L there hn hr (bind _ _ _ _ _) tk hW room1 (fun A o s H gd rm => hbody A o s H E f c' gd rm) hNg hva hd hcd) hco (q H1 eN T1)
    obtain ⟨t', h1, h2⟩ := mk
    exact ⟨t', h1.nox, h2⟩
  refine wpAny_call (codeAny_mono step ?_)
  intro r s2 z
  match r, z with
  | .error e, z => exact (show False from z).elim
  | .ok (.ret u), z => exact J.after z
end
/-! ### isinstance of an exception that is held -/
section
variable {X : Cx}
omit [TabC] in
theorem call_isH {a D : Addr} {oe : Obj} (hp : (a, oe) ∈ X.pn) (C : ExcC X.K D) (hz : Zc (.ref D) none oe) (hf : ∃ vs, oe.data = .fields vs) {pins : List (Addr × Obj)} {σ : L2.St} {H : Hp} {s : Shared} {us : List Value} {c : V} {cv : Value} {b : Bool} {Q : VK}
    (I : Inv X pins σ H s) (r : Vals [.ref a, c] us) (hcv : ClsV c cv) (e : PySem.W.kitOne X.K (.ref D) cv = some b) (q : Q (.bl b) H) : wpAny (model X.prog X.w) X.A (call (.builtin "isinstance") us) (EP X pins σ Q) X.xe s := by
  cases r with
  | cons r1 r2 =>
    cases r2 with
    | cons r3 r4 =>
      cases r4
      have e1 := hcv.eq r3
      subst e1
      cases r1
      have pn := (I.pin (a, oe) (List.mem_append_left _ hp)).1
      have inst : PySem.W.InstAt s.heap a oe D none := by
        obtain ⟨vs, hv⟩ := hf
        obtain ⟨c1, d1, t1, l1⟩ := oe
        obtain ⟨z1, z2⟩ := hz
        dsimp only at z1 z2 hv
        subst z1 z2 hv
        exact ⟨pn, rfl, rfl, trivial⟩
      refine PySem.W.kia_one (PySem.W.handS_kitx_exc C.hg C.hk C.hs C.hd C.ha C.hn C.ht C.hm) I.kIn inst e (fun z => nomatch z) ?_
      intro tk
      exact ⟨.bl b, H, I.kept (t' := tk) fun _ _ z => z, rfl, q⟩
end
end Z

/-! Z6: a checked expression is evaluated by the model as by ev. -/
namespace Z
open PySem PySem.Spec PyProof.Rows L2
variable [TabC]

/-! ### the context -/
section
variable (P : Program) (w : World) (K : PySem.W.Frag) (mg : Str → Option Value) (base : Heap) (gi : GI) (G : Tab)
/-- the promise of the def f, to the depth n -/
def spF (n : Nat) (f : Str) : Sp := fun vs H Q E => ∃ r m ds, Rel r H m ∧ RepDs K mg r H ds vs ∧ OkR mg (fun c d _ H' => E c d H') [] r H (run G n f ds m) (PV K mg Q)
/-- the defs of the table keep their promises -/
def Fns (n : Nat) : Prop := ∀ f fd, G f = some fd → ∃ a fdat ps, mg f = some (.ref a) ∧ PySem.W.keepIn K (.ref a) = true ∧ Binds K fdat ps [] ∧ ps.length = fd.ps ∧ FnG P w K mg base (L2.CX P w) (3 * n) a fdat ps (spF K mg G n f)
structure XOk (n : Nat) (S : SX) (W : WX) (X : Cx) : Prop where
  eP : X.prog = P
  eW : X.w = w
  eK : X.K = K
  eM : X.mg = mg
  eB : X.base = base
  eN : X.N = S.N
  eS : X.env.scope = S.sc
  nd : S.N.Nodup
  calm : X.calm = true
  eF : X.fn = S.fn
  tk : Takes X W
  own : PassesOwn (model X.prog X.w) X.A X.env X.xe
  room : Room (3 * n) X.A
  gok : GOk P w K mg base gi
  rl : S.lam = true → Room (3 * n + 2) X.A ∧ ∃ c P, X.env.code = .ref c ∧ LamX.TabB base mg c P ∧ (P, X.env.qual ++ "<lambda>") ∈ TabC.T ∧ ∀ p ∈ TabC.T, p.1 = P → p.2 = X.env.qual ++ "<lambda>"
  exq : S.ex = true → ∀ a c, TabC.X a c → ∃ oe, (a, oe) ∈ X.pn ∧ Zc (clsV mg c) none oe ∧ ∃ vs, oe.data = .fields vs
  gd : X.A.guards = some []
  blt : ∀ x ∈ blts, mg x = none
  gint : ∀ x i, gi.nums.lookup x = some i → ∃ t, mg x = some (Value.int i t)
  fns : Fns P w K mg base G n
end
section
variable {P : Program} {w : World} {K : PySem.W.Frag} {mg : Str → Option Value} {base : Heap} {gi : GI} {G : Tab} {n : Nat} {S : SX} {W : WX} {X : Cx}

/-! ### what the check says -/
omit [TabC] in
theorem okNm_of {x : Str} (h : okNm x = true) : (x == ("__debug__" : Str)) = false ∧ (x == ("__classdict__" : Str)) = false ∧ x ≠ "__name__" := by
  unfold okNm at h
  simp only [Bool.and_eq_true, Bool.not_eq_true'] at h
  exact ⟨h.1.1, h.1.2, fun e => by subst e; exact absurd h.2 (by decide)⟩
theorem vis_of (ok : XOk P w K mg base gi G n S W X) {i : Nat} {x : Str} (h : S.vis i x = true) : X.N[i]? = some x ∧ Vis X.env.scope x ∧ okNm x = true := by
  unfold SX.vis at h
  simp only [Bool.and_eq_true, decide_eq_true_eq] at h
  refine ⟨by rw [ok.eN]; exact h.1.1, ?_, h.1.2⟩
  unfold Vis
  rw [ok.eS]
  have q := h.2
  unfold SX.kind at q
  split at q
  · rename_i e; exact .inl e
  · rename_i e; exact .inr (.inl e)
  · rename_i e; exact .inr (.inr e)
  · cases q
theorem loc_of (ok : XOk P w K mg base gi G n S W X) {i : Nat} {x : Str} (h : S.loc i x = true) : X.N[i]? = some x ∧ L2.Loc X.env.scope x ∧ (X.fn x = true ∨ X.env.scope.names.lookup x = some .local) := by
  unfold SX.loc at h
  simp only [Bool.and_eq_true, decide_eq_true_eq] at h
  have q := h.2
  unfold SX.kind at q
  unfold L2.Loc
  rw [ok.eN, ok.eS, ok.eF]
  refine ⟨h.1, ?_⟩
  split at q
  · rename_i e; exact ⟨.inl e, .inr e⟩
  · rename_i e; exact ⟨.inr e, .inl q⟩
  · cases q
theorem gl_of (ok : XOk P w K mg base gi G n S W X) {x : Str} (h : S.gl x = true) : Gl X x ∧ okNm x = true := by
  unfold SX.gl at h
  simp only [Bool.and_eq_true] at h
  refine ⟨?_, h.1⟩
  show X.env.scope.names.lookup x = _
  rw [ok.eS]
  have q := h.2
  unfold SX.kind at q
  split at q
  · rename_i e; exact e
  · cases q
theorem blt_of (ok : XOk P w K mg base gi G n S W X) {x : Str} (h : x ∈ blts) : X.mg x = none := by rw [ok.eM]; exact ok.blt x h
omit [TabC] in
theorem star_of {e : Expr} {es : List Expr} {env : PySem.Env} (h : plainX e = true) : starEach (e :: es) env = (false, eval e env) :: starEach es env := by
  cases e <;> first | rfl | cases h
omit [TabC] in
theorem set_of {e : Expr} {env : PySem.Env} (h : plainX e = true) : ∀ x, foldedSetIterable e env x = pure x := by
  intro x
  cases e <;> first | rfl | cases h
omit [TabC] in
theorem mark_of {op : CmpOp} {e : Expr} (h : plainX e = true) : behindInMarks op e = false := by
  cases e <;> first | rfl | cases h
omit [TabC] in
theorem ix_of {e : Expr} (h : plainX e = true) : PlainIx e := by
  intro o i
  cases e <;> first | rfl | cases h
omit [TabC] in
theorem base_of {o : Expr} {nm : Str} {env : PySem.Env} (h : notCall o = true) : attributeBase o nm env (eval o env) = eval o env := by
  cases o <;> first | rfl | cases h
omit [TabC] in
theorem pe_w {x : Expr} {t t' : TE} (h : PE X x t) (k : ∀ σ H Q, t' σ H Q → t σ H Q) : PE X x t' := ⟨fun pins s σ H Q I hq => h.run pins s σ H Q I (k σ H Q hq)⟩
omit [TabC] in
theorem pe_wI {x : Expr} {t t' : TE} (h : PE X x t) (k : ∀ pins s σ H Q, L2.Inv X pins σ H s → t' σ H Q → t σ H Q) : PE X x t' := ⟨fun pins s σ H Q I hq => h.run pins s σ H Q I (k pins s σ H Q I hq)⟩
omit [TabC] in
theorem pt_w {x : Expr} {t t' : TT} (h : PT X x t) (k : ∀ σ H Q, t' σ H Q → t σ H Q) : PT X x t' := ⟨fun pins s σ H Q I hq => h.run pins s σ H Q I (k σ H Q hq)⟩
omit [TabC] in
theorem pa_w {x : List Expr} {t t' : TA} (h : PA X x t) (k : ∀ σ H Q, t' σ H Q → t σ H Q) : PA X x t' := ⟨fun pos pins s σ H Q I hq => h.run pos pins s σ H Q I (k σ H Q hq)⟩
omit [TabC] in
theorem plain_all {l : List Expr} {env : PySem.Env} {pos : Pos} (h : ∀ e ∈ l, plainX e = true) : (backTo pos (starEach l env)).any (·.1) = false := by
  induction l with
  | nil => rfl
  | cons e es ih =>
    rw [star_of (h e (List.mem_cons_self ..))]
    have := ih fun e he => h e (List.mem_cons_of_mem _ he)
    unfold backTo at this ⊢
    rw [List.map_cons, List.any_cons, this]
    rfl

/-! ### truth, not, if .. else -/
theorem pt_ofPE {x : Expr} {e : E} (he : PE X x (TX K mg (run G n) W e)) (hK : X.K = K) (hx : ∀ whole, isTrue x X.env whole = (do let v ← whole; standAt x.pos; holding [v] (truthy v))) : PT X x (TXt K mg (run G n) W e) := by
  refine pt_w (pt_truth he hx) fun σ H Q ⟨r, δ, m, R, Sl, h⟩ => ?_
  refine TX.one R Sl h fun d v r1 H1 m1 e1 R1 S1 rv h1 => ?_
  unfold truthD at h1
  cases q : snap m1 d with
  | none => simp only [q] at h1; exact h1.elim
  | some a =>
    simp only [q] at h1
    cases q2 : truth a with
    | none => simp only [q2] at h1; exact h1.elim
    | some b =>
      simp only [q2] at h1
      exact ⟨b, by rw [hK]; exact truV_of (RepD.snap R1 rv q) q2, h1 r1 H1 (.refl r1 H1) R1⟩
omit [TabC] in
theorem pe_notZ {a : Expr} {ta : TE} {pos : Pos} (ha : PE X a ta) : PE X (.UnaryOp .Not a pos) (fun σ H Q => ta σ H fun x H1 => ∃ c, TruV X.K x H1 c ∧ Q (.bl (!c)) H1) := by
  refine ⟨fun pins s σ H Q I h => ?_⟩
  refine UnaryOp_ (thn (ha.run pins s σ H _ I h) fun v s1 ⟨x, H1, I1, r1, q1⟩ => ?_)
  exact not_of (thn (tru_ok pins s1 σ H1 x v (fun c H2 => Q (.bl (!c)) H2) I1 r1 q1) fun c s2 ⟨H2, I2, q2⟩ => ⟨.bl (!c), H2, I2, rfl, q2⟩)
omit [TabC] in
theorem pt_ifExp {c a b : Expr} {tc ta tb : TT} {pos : Pos} (hc : PT X c tc) (ha : PT X a ta) (hb : PT X b tb) : PT X (.IfExp c a b pos) (fun σ H Q => tc σ H fun t H1 => if t = true then ta σ H1 Q else tb σ H1 Q) := by
  refine ⟨fun pins s σ H Q I h => ?_⟩
  show wpAny _ _ (do if ← isTrue c X.env (eval c X.env) then isTrue a X.env (eval a X.env) else isTrue b X.env (eval b X.env)) _ _ s
  refine wpAny_bind (thn (hc.run pins s σ H _ I h) fun t s1 ⟨H1, I1, q1⟩ => ?_)
  cases t with
  | true => exact ha.run pins s1 σ H1 Q I1 q1
  | false => exact hb.run pins s1 σ H1 Q I1 q1
omit [TabC] in
theorem pw_ofPT {op : BoolOp} {vs : List Expr} {pos : Pos} {t : TT} (h : PT X (.BoolOp op vs pos) t) : PW X (.BoolOp op vs pos) t := ⟨fun wh pins s σ H Q I hq => h.run pins s σ H Q I hq⟩
/-- a truth for sure -/
theorem bT {e : E} {σ : L2.St} {H : Hp} {Q : Bool → Hp → Prop} (hb : ∀ δ m d m', ev (run G n) e δ m = .ok d m' → ∃ k, d = .b (.bool k)) (h : TXt K mg (run G n) W e σ H Q) : TX K mg (run G n) W e σ H fun x H1 => ∃ k, x = .bl k ∧ Q k H1 := by
  obtain ⟨r, δ, m, R, Sl, h⟩ := h
  refine ⟨r, δ, m, R, Sl, ?_⟩
  cases q : ev (run G n) e δ m with
  | ok d m' =>
    rw [q] at h
    obtain ⟨k, rfl⟩ := hb _ _ _ _ q
    intro r' H' e R' v rv
    exact ⟨k, rv, h r' H' e R'⟩
  | ex c m' => rw [q] at h; exact h
  | bad => rw [q] at h; exact h
omit [TabC] in
theorem p2_bool {f : PyData → PyData → Option Bool} {x y : D} {m m' : Mem} {d : D} (h : p2 (fun x y => (f x y).map PyData.bool) x y m = .ok d m') : ∃ k, d = .b (.bool k) := by
  unfold p2 at h
  split at h
  · rename_i a c _ _
    cases q : f a c with
    | none => simp only [q] at h; cases h
    | some k => simp only [q] at h; cases h; exact ⟨k, rfl⟩
  · cases h
omit [TabC] in
theorem bind_ok {α β : Type} {x : R α} {f : α → Mem → R β} {b : β} {m' : Mem} (h : x.bind f = .ok b m') : ∃ a m1, x = .ok a m1 ∧ f a m1 = .ok b m' := by
  cases x with
  | ok a m1 => exact ⟨a, m1, rfl, h⟩
  | ex c m1 => cases h
  | bad => cases h

/-! ### calls of built-ins -/
theorem biF_inv {f : Bi} {b : Bool} {ds : List D} {m : Mem} {σ : L2.St} {r : List Addr} {H : Hp} {vs : List V} {Q : VK} (R : Rel r H m) (rs : RepDs K mg r H ds vs) (h : OkR mg W σ r H (biF f b ds m) (PV K mg Q)) :
    (∃ ns, f = .len ∧ ds = [.scr ns] ∧ Q (.int ns.length) H) ∨ rC (biP f) vs H Q := by
  unfold biF at h
  split at h
  · rename_i ns
    exact .inl ⟨ns, rfl, rfl, h r H (.refl r H) R _ (by show RepB _ _ _ _; rw [RepB])⟩
  · cases q : snaps m ds with
    | none => simp only [q] at h; exact h.elim
    | some ys =>
      simp only [q] at h
      cases q2 : biP f ys with
      | none => simp only [q2] at h; exact h.elim
      | some z =>
        simp only [q2] at h
        refine .inr ⟨r, m, ys, z, R, RepDs.snaps R rs q, q2, ?_⟩
        cases z with
        | list zs => exact fun p us hp hz => mk_new R hz h p hp
        | _ =>
          cases b with
          | false => exact fun r' H' v e R' rv => h r' H' e R' v rv
          | true => exact h.elim
def rBi (K : PySem.W.Frag) (mg : Str → Option Value) (f : Bi) : List V → Hp → VK → Prop := fun vs H Q => (∃ (a : Addr) (ns : List Int), f = .len ∧ vs = [.ref a] ∧ SqL K H a (ns.map V.int) ∧ Q (.int ns.length) H) ∨ rC (biP f) vs H Q
theorem bi_ok2 (f : Bi) {v : Value} (hv : f.fn = some v) (hc : X.calm = true) (hK : X.K = K) : CallR X v (rBi K mg f) := by
  intro pins s σ H xs us Q I rv h
  rcases h with ⟨a, ns, rfl, rfl, hs, q⟩ | h
  · cases hv
    subst hK
    exact call_len_seq pins s σ H _ us Q I rv ⟨a, _, rfl, .inl hs, by rw [List.length_map]; exact q⟩
  · exact bi_ok f hv hc pins s σ H xs us Q I rv h
theorem biF_ok {f : Bi} {b : Bool} {ds : List D} {m : Mem} {σ : L2.St} {r : List Addr} {H : Hp} {vs : List V} {Q : VK} (R : Rel r H m) (rs : RepDs K mg r H ds vs) (h : OkR mg W σ r H (biF f b ds m) (PV K mg Q)) : rBi K mg f vs H Q := by
  rcases biF_inv R rs h with ⟨ns, e1, e2, q⟩ | h
  · subst e2
    cases rs with
    | cons rx rn =>
      cases rn
      obtain ⟨a, rfl, hs⟩ := rx
      exact .inl ⟨a, ns, e1, rfl, hs.seq, q⟩
  · exact .inr h
omit [TabC] in
theorem boot_bi (f : Bi) {v : Value} (hv : f.fn = some v) : bootBuiltins f.nm = some v := by
  cases f <;> first | (cases hv; decide +kernel) | cases hv
omit [TabC] in
theorem nm_blts (f : Bi) (h : f.fn.isSome = true) : f.nm ∈ blts := by
  cases f <;> first | (decide) | cases h
omit [TabC] in
theorem pe_bi {x : Str} {p pos : Pos} {e : Expr} {es : List Expr} {t : TA} {r : List V → Hp → VK → Prop} {v : Value} (hc : CallR X v r) (hk : (∃ id, v = .builtin id) ∨ ∃ T, v = .type T) (hg : Gl X x) (hm : X.mg x = none) (hv : bootBuiltins x = some v) (ha : PA X (e :: es) t)
    (hx : okNm x = true) (he : starEach (e :: es) X.env = (false, eval e X.env) :: starEach es X.env) (hpl : (backTo pos (starEach es X.env)).any (·.1) = false) : PE X (.Call (.Name x p) (e :: es) [] pos) (tCB r t) := by
  obtain ⟨h1, h2, h3⟩ := okNm_of hx
  rcases hk with ⟨id, rfl⟩ | ⟨T, rfl⟩
  · exact pe_callB hc hg hm hv ha h3 h1 he hpl
  · exact pe_callTy hc hg hm hv ha h3 h1 he hpl
omit [TabC] in
theorem fn_kind (f : Bi) {v : Value} (hv : f.fn = some v) : (∃ id, v = .builtin id) ∨ ∃ T, v = .type T := by
  cases f <;> first | (cases hv; exact .inl ⟨_, rfl⟩) | (cases hv; exact .inr ⟨_, rfl⟩) | cases hv

/-! ### methods of lists -/
omit [TabC] in
theorem me_slot (f : Me) : Slot "list" f.nm f.id ∧ typeOf (.builtin f.id) = pure (.type "method_descriptor") := by
  cases f
  · exact ⟨PySem.F.slot_list_append, PySem.F.type_list_append⟩
  · exact ⟨PySem.F.slot_list_insert, PySem.F.type_list_insert⟩
  · exact ⟨PySem.F.slot_list_extend, PySem.F.type_list_extend⟩
  · exact ⟨PySem.F.slot_list_pop, PySem.F.type_list_pop⟩
  · exact ⟨PySem.F.slot_list_pop, PySem.F.type_list_pop⟩
  · exact ⟨PySem.F.slot_list_clear, PySem.F.type_list_clear⟩
omit [TabC] in
theorem pe_me0 (f : Me) {o : Expr} {to : TE} {apos cpos : Pos} {r : V → List V → Hp → VK → Prop} (hm : MtR X f.id r) (ho : PE X o to) (hbase : notCall o = true) (hline : (apos.endLine == cpos.line) = true) :
    PE X (.Call (.Attribute o f.nm apos) [] [] cpos) (tBM0 X.K "list" r to) :=
  pe_bm0 PySem.F.plainAttrs_list (me_slot f).1 (me_slot f).2 hm ho (base_of hbase) hline
omit [TabC] in
theorem pe_me1 (f : Me) {o e : Expr} {es : List Expr} {to : TE} {t : TA} {apos cpos : Pos} {r : V → List V → Hp → VK → Prop} (hm : MtR X f.id r) (ho : PE X o to) (ha : PA X (e :: es) t) (hpl : ∀ x ∈ e :: es, plainX x = true) (hn : (e :: es).length < 5)
    (hbase : notCall o = true) (hline : (apos.endLine == cpos.line) = true) : PE X (.Call (.Attribute o f.nm apos) (e :: es) [] cpos) (tBM X.K "list" r to t) := by
  have few : ((backTo cpos (starEach (e :: es) X.env)).all (fun x => !x.1) && (backToKw cpos (keywordEach [] X.env)).all (fun x => x.1.isSome)
      && decide ((e :: es).length + ([] : List Keyword).length + (if ([] : List Keyword).isEmpty then 0 else 1) < 30)) = true := by
    have h1 := plain_all (env := X.env) (pos := cpos) hpl
    have h2 : (backTo cpos (starEach (e :: es) X.env)).all (fun x => !x.1) = true := by
      rw [List.all_eq_true]
      intro p hp
      rw [List.any_eq_false] at h1
      simpa using h1 p hp
    rw [h2]
    have h3 : (backToKw cpos (keywordEach [] X.env)).all (fun x => x.1.isSome) = true := rfl
    rw [h3]
    have h4 : (e :: es).length + ([] : List Keyword).length + (if ([] : List Keyword).isEmpty then 0 else 1) < 30 := by
      show (e :: es).length + 0 + 0 < 30
      omega
    rw [decide_eq_true h4]
    rfl
  exact pe_bm PySem.F.plainAttrs_list (me_slot f).1 (me_slot f).2 hm ho ha (base_of hbase) few hline (star_of (hpl e (List.mem_cons_self ..))) (plain_all fun e he => hpl e (List.mem_cons_of_mem _ he))
end
end Z

/-! Z7: calls, comprehensions, and the whole of the expressions. -/
namespace Z
open PySem PySem.Spec PyProof.Rows L2
variable [TabC]
section
variable {P : Program} {w : World} {K : PySem.W.Frag} {mg : Str → Option Value} {base : Heap} {gi : GI} {G : Tab} {n : Nat} {S : SX} {W : WX} {X : Cx}

/-! ### calls -/
theorem leave_ok {b : Bool} {d : D} {m m' : Mem} {σ : L2.St} {r r' : List Addr} {H H' : Hp} {v : V} {Q : VK} (R : Rel r H m) (e : Ext r H r' H') (R' : Rel r' H' m') (rv : RepD K mg r' H' d v) (h : OkR mg W σ r H (leave b m.length d m') (PV K mg Q)) : Q v H' := by
  have et : r'.take m.length = r := by rw [← R.len]; exact prefix_take e.pre
  have Rt : Rel r H' (m'.take m.length) := by have := R'.take m.length; rw [et] at this; exact this
  have sub : ∀ a, a ∈ r → a ∈ r' := fun a ha => e.sub ha
  unfold leave at h
  cases d with
  | ref k =>
    obtain ⟨a, h1, rfl⟩ := rv
    simp only at h
    split at h
    · rename_i hk
      split at h
      · refine h r H' e.take Rt _ ⟨a, ?_, rfl⟩
        rw [← et, List.getElem?_take_of_lt hk]; exact h1
      · exact h.elim
    · rename_i hk
      have hna : a ∉ r := fun ha => by
        obtain ⟨j, hj, ej⟩ := List.getElem_of_mem ha
        have h2 : r'[j]? = some a := e.at_ (by rw [List.getElem?_eq_getElem hj, ej])
        have := R'.inj h1 h2
        rw [R.len] at hj
        omega
      cases q : m'[k]? with
      | none => simp only [q] at h; exact h.elim
      | some o =>
        cases o with
        | lst xs =>
          simp only [q] at h
          obtain ⟨vs, h3, h4⟩ := R'.at_ k a _ h1 q
          split at h
          · have ea : Ext r H (r ++ [a]) H' := by
              refine ⟨List.prefix_append r [a], fun c hc => ?_, e.keep, e.tups, e.frzs, e.tabs, e.rows⟩
              rcases List.mem_append.mp hc with z | z
              · exact .inl z
              · rw [List.mem_singleton.mp z]
                exact e.fresh a (List.mem_of_getElem? h1)
            have Ra : Rel (r ++ [a]) H' (m'.take m.length ++ [.lst xs]) := by
              refine ⟨by rw [List.length_append, List.length_append, Rt.len]; rfl, ?_, fun j c o h5 h6 => ?_, R'.tab, fun j ks h5 => ?_⟩
              rotate_right
              · by_cases hj : j < (m'.take m.length).length
                · rw [List.getElem?_append_left hj] at h5
                  have hj2 : j < m.length := by rw [List.length_take] at hj; omega
                  rw [List.getElem?_take_of_lt hj2] at h5
                  exact R'.low j ks h5
                · rw [List.getElem?_append_right (by omega)] at h5
                  have e1 : j - (m'.take m.length).length = 0 := by
                    have := (List.getElem?_eq_some_iff.mp h5).1
                    simp only [List.length_cons, List.length_nil] at this; omega
                  rw [e1] at h5
                  cases h5
              · rw [List.nodup_append]
                refine ⟨R.nd, by simp, fun c hc b hb => ?_⟩
                rw [List.mem_singleton.mp hb]
                exact fun z => hna (z ▸ hc)
              · have less : ∀ c, c ∈ r ++ [a] → c ∈ r' := fun c hc => by
                  rcases List.mem_append.mp hc with z | z
                  · exact sub c z
                  · rw [List.mem_singleton.mp z]; exact List.mem_of_getElem? h1
                by_cases hj : j < r.length
                · rw [List.getElem?_append_left hj] at h5
                  have hj2 : j < (m'.take m.length).length := by rw [← Rt.len]; exact hj
                  rw [List.getElem?_append_left hj2, List.getElem?_take_of_lt (by rw [← R.len]; exact hj)] at h6
                  have h7 := R'.at_ j c o (e.at_ h5) h6
                  cases o with
                  | lst ys => obtain ⟨us, h8, h9⟩ := h7; exact ⟨us, h8, h9.less less ys⟩
                  | any => exact h7
                  | rows ks =>
                    obtain ⟨us, h8, h9⟩ := h7
                    refine ⟨us, h8, pr_imp h9 fun x v hx z => ?_⟩
                    obtain ⟨b, z1, z2⟩ := z
                    have hlt := R'.low j ks h6 x hx
                    have hr : r[x]? = some r[x] := List.getElem?_eq_getElem (by omega)
                    have := e.at_ hr
                    rw [z1] at this
                    cases this
                    exact ⟨_, by rw [List.getElem?_append_left (by omega)]; exact hr, z2⟩
                · rw [List.getElem?_append_right (by omega)] at h5
                  rw [List.getElem?_append_right (by rw [← Rt.len]; omega)] at h6
                  have e1 : j - r.length = 0 := by
                    have := (List.getElem?_eq_some_iff.mp h5).1
                    simp at this; omega
                  rw [e1] at h5
                  rw [← Rt.len, e1] at h6
                  simp at h5 h6
                  subst h5 h6
                  exact ⟨vs, h3, h4.less less xs⟩
            refine h (r ++ [a]) H' ea Ra _ ⟨a, ?_, rfl⟩
            rw [List.getElem?_append_right (by rw [R.len]; exact Nat.le_refl _), R.len, Nat.sub_self]
            rfl
          · refine h r H' e.take Rt _ ?_
            show RepB r H' (.list xs) (.ref a)
            rw [RepB]
            exact ⟨a, vs, rfl, h3, hna, h4.less sub xs⟩
        | any => simp only [q] at h; exact h.elim
        | rows ks => simp only [q] at h; exact h.elim
  | b x =>
    have fin : OkR mg W σ r H (.ok (.b x) (m'.take m.length)) (PV K mg Q) → Q v H' := fun h => h r H' e.take Rt v (RepB.less sub x rv)
    cases x with
    | list xs =>
      simp only at h
      split at h
      · exact h.elim
      · exact fin h
    | _ => exact fin h
  | fn f => exact h r H' e.take Rt v rv
  | scr ns => exact h r H' e.take Rt v rv
  | exc c => exact h r H' e.take Rt v rv
theorem call_pe (ok : XOk P w K mg base gi G n S W X) {b : Bool} {f : Str} {p pos : Pos} {e : Expr} {es : List Expr} {t : Es} (hG : (G f).isSome = true) (hg : S.gl f = true) (hpl : ∀ x ∈ e :: es, plainX x = true)
    (ha : PA X (e :: es) (TXs K mg (run G n) W t)) : PE X (.Call (.Name f p) (e :: es) [] pos) (TX K mg (run G n) W (.call b f t)) := by
  obtain ⟨fd, hfd⟩ := Option.isSome_iff_exists.mp hG
  obtain ⟨a, fdat, ps, h1, h2, h3, h4, h5⟩ := ok.fns f fd hfd
  obtain ⟨gl, nm⟩ := gl_of ok hg
  obtain ⟨d1, d2, d3⟩ := okNm_of nm
  have F : FnG X.prog X.w X.K X.mg X.base (L2.CX X.prog X.w) (3 * n) a fdat ps (spF K mg G n f) := by
    rw [ok.eP, ok.eW, ok.eK, ok.eM, ok.eB]; exact h5
  have pc := pe_callG (X := X) (E := fun σ c d H => W c d σ H) (p := p) (pos := pos) F ok.gd ok.room gl (by rw [ok.eM]; exact h1) (by rw [ok.eK]; exact h2) (by rw [ok.eK]; exact h3) (fun σ => passAt ok.tk σ) ha d1 (star_of (hpl e (List.mem_cons_self ..))) (plain_all fun x hx => hpl x (List.mem_cons_of_mem _ hx))
  refine pe_w pc fun σ H Q ⟨r, δ, m, R, Sl, h⟩ => ?_
  refine TXs.one R Sl h fun ds vs r1 H1 m1 e1 R1 S1 rs hc => ?_
  refine ⟨r1, m1, ds, R1, rs, ?_⟩
  unfold callF at hc
  cases q : run G n f ds m1 with
  | ok d m' =>
    rw [q] at hc
    exact fun r' H' e' R' v rv => leave_ok R1 e' R' rv hc
  | ex c m' =>
    rw [q] at hc
    intro r' H' e' R'
    have et : r'.take m1.length = r1 := by rw [← R1.len]; exact prefix_take e'.pre
    have Rt : Rel r1 H' (m'.take m1.length) := by have := R'.take m1.length; rw [et] at this; exact this
    exact hc r1 H' e'.take Rt
  | bad => rw [q] at hc; exact hc

/-! ### targets -/
theorem sets_ok {r : List Addr} {H : Hp} : ∀ {is : List Nat} {xs : List PyData} {vs : List V} {δ δ' : Env} {σ : L2.St}, RepS K mg r H δ σ → RepBs r H xs vs → sets is xs δ = some δ' → is.length = vs.length ∧ RepS K mg r H δ' (List.foldl (fun s (p : Nat × V) => s.set p.1 (some p.2)) σ (is.zip vs))
  | [], [], vs, δ, δ', σ, Sl, h, e => by
    rw [RepBs] at h
    subst h
    cases e
    exact ⟨rfl, Sl⟩
  | i :: is, x :: xs, vs, δ, δ', σ, Sl, h, e => by
    rw [RepBs] at h
    obtain ⟨v, ws, rfl, h1, h2⟩ := h
    obtain ⟨h3, h4⟩ := sets_ok (Sl.set i (d := .b x) h1) h2 e
    exact ⟨by rw [List.length_cons, List.length_cons, h3], h4⟩
  | [], _ :: _, _, _, _, _, _, _, e => by cases e
  | _ :: _, [], _, _, _, _, _, _, e => by cases e
def gSets (is : List Nat) : TGs := fun vs σ H Q => is.length = vs.length ∧ Q (List.foldl (fun s (p : Nat × V) => s.set p.1 (some p.2)) σ (is.zip vs)) H
theorem pgs_of (ok : XOk P w K mg base gi G n S W X) : ∀ (is : List Nat) (es : List Expr), chkTgs S is es = true → PGs X es (gSets is) ∧ (assignEach es X.env).length = is.length ∧ (assignEach es X.env).findIdx? (·.1) = none
  | [], es, h => by
    have : es = [] := by simpa [chkTgs] using h
    subst this
    refine ⟨⟨fun pins s σ H vs us Q I rv hq => ?_⟩, rfl, rfl⟩
    obtain ⟨e, q⟩ := hq
    have : vs = [] := List.length_eq_zero_iff.mp e.symm
    subst this
    exact pgs_nil.run pins s σ H [] us Q I rv ⟨rfl, q⟩
  | i :: is, [], h => by cases h
  | i :: is, e :: r, h => by
    cases e with
    | Name x p =>
      have h : (S.loc i x && chkTgs S is r) = true := h
      rw [Bool.and_eq_true] at h
      obtain ⟨h1, h2⟩ := h
      obtain ⟨i1, i2, i3⟩ := pgs_of ok is r h2
      obtain ⟨a1, a2, a3⟩ := loc_of ok h1
      have pg : PG X (.Name x p) (gName i) := pg_name (by rw [ok.eN]; exact ok.nd) a1 a2 a3
      have pc := pgs_cons pg i1
      refine ⟨⟨fun pins s σ H vs us Q I rv hq => ?_⟩, ?_, ?_⟩
      · obtain ⟨e, q⟩ := hq
        cases vs with
        | nil => cases e
        | cons v vs => exact pc.run pins s σ H (v :: vs) us Q I rv ⟨v, vs, rfl, by simpa using e, q⟩
      · show (assignEach r X.env).length + 1 = is.length + 1
        rw [i2]
      · show List.findIdx? (·.1) ((false, _) :: assignEach r X.env) = none
        rw [List.findIdx?_cons, i3]
        rfl
    | _ => exact absurd (show (false && chkTgs S is r) = true from h) (by simp)
def gTg (K : PySem.W.Frag) (tg : Tg) : TG :=
  match tg with
  | .one i => gName i
  | .many is => gTup K is.length (gSets is)
theorem pg_of (ok : XOk P w K mg base gi G n S W X) {tg : Tg} {e : Expr} (h : chkTg S tg e = true) : PG X e (gTg K tg) := by
  unfold chkTg at h
  cases tg with
  | one i =>
    cases e with
    | Name x p =>
      obtain ⟨a1, a2, a3⟩ := loc_of ok h
      exact pg_name (by rw [ok.eN]; exact ok.nd) a1 a2 a3
    | _ => cases h
  | many is =>
    cases e with
    | Tuple es k p =>
      obtain ⟨i1, i2, i3⟩ := pgs_of ok is es h
      have := pg_tup (X := X) (k := k) (pos := p) (n := is.length) ok.calm i1 i2 i3
      rw [ok.eK] at this
      exact this
    | _ => cases h
theorem asgn_ok {tg : Tg} {x : PyData} {v : V} {r : List Addr} {H : Hp} {δ δ' : Env} {σ : L2.St} {Q : L2.St → Hp → Prop} (Sl : RepS K mg r H δ σ) (rv : RepB r H x v) (e : asgn tg x δ = some δ')
    (q : ∀ σ', RepS K mg r H δ' σ' → σ'.length = σ.length → wipe σ' tg.slots = wipe σ tg.slots → Q σ' H) : gTg K tg v σ H Q := by
  have foldl_len : ∀ (l : List (Nat × V)) (σ : L2.St), (List.foldl (fun s (p : Nat × V) => s.set p.1 (some p.2)) σ l).length = σ.length := by
    intro l
    induction l with
    | nil => intro σ; rfl
    | cons a l ih => intro σ; rw [List.foldl_cons, ih, List.length_set]
  have wipe_set : ∀ (is : List Nat) (σ : L2.St) (i : Nat) (o : Option V), i ∈ is → wipe (σ.set i o) is = wipe σ is := by
    intro is
    induction is with
    | nil => intro σ i o h; cases h
    | cons j is ih =>
      intro σ i o h
      rw [L2.wipe, L2.wipe]
      have comm : ∀ (js : List Nat) (σ : L2.St), wipe (σ.set i o) js = (if i ∈ js then wipe σ js else (wipe σ js).set i o) := by
        intro js
        induction js with
        | nil => intro σ; rfl
        | cons k ks ih2 =>
          intro σ
          rw [L2.wipe, L2.wipe, ih2]
          by_cases hk : i = k
          · subst hk
            by_cases hi : i ∈ ks
            · rw [if_pos hi, if_pos (List.mem_cons_self ..)]
            · rw [if_neg hi, if_pos (List.mem_cons_self ..), List.set_set]
          · by_cases hi : i ∈ ks
            · rw [if_pos hi, if_pos (List.mem_cons_of_mem _ hi)]
            · rw [if_neg hi, if_neg (by simp [hk, hi])]
              exact List.set_comm _ _ hk
      rw [comm]
      by_cases hi : i ∈ is
      · rw [if_pos hi]
      · rw [if_neg hi]
        rcases List.mem_cons.mp h with z | z
        · subst z; rw [List.set_set]
        · exact absurd z hi
  cases tg with
  | one i =>
    cases e
    exact q _ (Sl.set i (d := .b x) rv) (List.length_set ..) (wipe_set [i] σ i _ (by simp))
  | many is =>
    cases x with
    | tuple xs =>
      rw [RepB] at rv
      obtain ⟨a, vs, rfl, h1, h2⟩ := rv
      obtain ⟨h3, h4⟩ := sets_ok Sl h2 e
      refine ⟨a, vs, rfl, .of h1, h3.symm, h3, q _ h4 (foldl_len _ _) ?_⟩
      have : ∀ (l : List (Nat × V)) (σ : L2.St), (∀ p ∈ l, p.1 ∈ is) → wipe (List.foldl (fun s (p : Nat × V) => s.set p.1 (some p.2)) σ l) is = wipe σ is := by
        intro l
        induction l with
        | nil => intro σ _; rfl
        | cons p l ih =>
          intro σ hp
          rw [List.foldl_cons, ih _ fun q hq => hp q (List.mem_cons_of_mem _ hq), wipe_set is σ p.1 _ (hp p (List.mem_cons_self ..))]
      exact this _ _ fun p hp => (List.of_mem_zip (a := p.1) (b := p.2) hp).1
    | _ => cases e
end
end Z

/-! Z8: comprehensions, and the whole of the expressions. -/
namespace Z
open PySem PySem.Spec PyProof.Rows L2
variable [TabC]
section
variable {P : Program} {w : World} {K : PySem.W.Frag} {mg : Str → Option Value} {base : Heap} {gi : GI} {G : Tab} {n : Nat} {S : SX} {W : WX} {X : Cx}

omit [TabC] in
theorem wipe_get (σ : L2.St) (i : Nat) : ∀ vs : List Nat, (wipe σ vs)[i]? = if i ∈ vs ∧ i < σ.length then some none else σ[i]?
  | [] => by simp [L2.wipe]
  | v :: vs => by
    rw [L2.wipe]
    by_cases h : v = i
    · subst h
      by_cases hl : v < σ.length
      · rw [List.getElem?_set_self (by rw [L2.wipe_length]; exact hl), if_pos ⟨List.mem_cons_self .., hl⟩]
      · rw [if_neg (fun z => hl z.2), List.getElem?_eq_none (by rw [List.length_set, L2.wipe_length]; omega), List.getElem?_eq_none (by omega)]
    · rw [List.getElem?_set_ne h, wipe_get σ i vs]
      have : (i ∈ v :: vs) ↔ i ∈ vs := by simp [Ne.symm h]
      simp only [this]
omit [TabC] in
theorem wipe_wipe (σ : L2.St) (vs : List Nat) : wipe (wipe σ vs) vs = wipe σ vs := by
  apply List.ext_getElem?
  intro i
  rw [wipe_get, wipe_get, L2.wipe_length]
  by_cases h : i ∈ vs ∧ i < σ.length
  · rw [if_pos h, if_pos h]
  · rw [if_neg h, if_neg h]
theorem TXi.one {it : It} {β : Type} {f : Items → Mem → R β} {P' : β → List Addr → Hp → Mem → Prop} {Q : L2.It → Hp → Prop} {r : List Addr} {H : Hp} {m : Mem} {δ : Env} {σ : L2.St} {run : Str → List D → Mem → R D} (R : Rel r H m) (S : RepS K mg r H δ σ) (h : OkR mg W σ r H ((evI run it δ m).bind f) P')
    (k : ∀ a r1 H1 m1, Ext r H r1 H1 → Rel r1 H1 m1 → RepS K mg r1 H1 δ σ → gOk a.g m1 → OkR mg W σ r1 H1 (f a m1) P' → ∀ J, Wk J a r1 H1 → Q J H1) : TXi K mg run W it σ H Q :=
  ⟨r, δ, m, R, S, h.bind.mono fun a r1 H1 m1 e1 R1 h1 hg J hJ => k a r1 H1 m1 e1 R1 (S.ext e1) hg h1 J hJ⟩
def cBlk (scope : Scope) : Cx → Shared → Hp → Addr → List (Str × Addr) → List Addr → Cx := fun X s H C cl fp => X.blk s H scope (compEnvC scope cl C X.env) fp
abbrev W0 : WX := fun _ _ _ _ => False
theorem blk_ok (ok : XOk P w K mg base gi G n S W X) {scope : Scope} (s : Shared) (H : Hp) (C : Addr) (cl : List (Str × Addr)) (fp : List Addr) : XOk P w K mg base gi G n (S.blk scope) W0 (X.blk s H scope (compEnvC scope cl C X.env) fp) where
  eP := ok.eP
  eW := ok.eW
  eK := ok.eK
  eM := ok.eM
  eB := ok.eB
  eN := ok.eN
  eS := by
    show relS scope X.env.scope = relS scope S.sc
    rw [ok.eS]
  nd := ok.nd
  calm := ok.calm
  eF := rfl
  tk := takes0
  own := PassesOwn.never
  room := ok.room
  gok := ok.gok
  rl := fun z => nomatch (show false = true from z)
  exq := fun z => nomatch (show false = true from z)
  gd := ok.gd
  blt := ok.blt
  gint := ok.gint
  fns := ok.fns
/-- a comprehension's reading -/
theorem comp_tx {it : It} {tg : Tg} {b : Bool} {cF : Env → Mem → R Bool} {e : E} {tt : TT} {σ : L2.St} {H : Hp} {Q : VK} {r : List Addr} {δ : Env} {m : Mem} (R : Rel r H m) (Sl : RepS K mg r H δ σ)
    (ht : ∀ (σ : L2.St) (H : Hp) (Q : Bool → Hp → Prop) (r : List Addr) (δ : Env) (m : Mem), Rel r H m → RepS K mg r H δ σ → (∃ b m', cF δ m = .ok b m' ∧ ∀ r' H', Ext r H r' H' → Rel r' H' m' → Q b H') → tt σ H Q)
    (h : OkR mg W σ r H ((evI (run G n) it δ m).bind fun a m => (compL cF (fun δ m => ev (run G n) e δ m) tg δ a.g m.length a.xs (m ++ [.lst []])).bind fun _ m' => leave b m.length (.ref m.length) m') (PV K mg Q)) :
    tLc (TXi K mg (run G n) W it) (gTg K tg) tt (TX K mg (run G n) W0 e) tg.slots σ H Q := by
  refine TXi.one R Sl h fun a r1 H1 m1 e1 R1 S1 hg h1 J hJ D hD => ?_
  have R2 : Rel (r1 ++ [D]) (upd H1 D (.lst [])) (m1 ++ [.lst []]) := R1.alloc hD (by rw [RepBs])
  have E2 : Ext r1 H1 (r1 ++ [D]) (upd H1 D (.lst [])) := .alloc hD
  have rl : (r1 ++ [D]).length = m1.length + 1 := by rw [List.length_append, R1.len]; rfl
  have rD : (r1 ++ [D])[m1.length]? = some D := by
    rw [List.getElem?_append_right (by rw [R1.len]; exact Nat.le_refl _), R1.len, Nat.sub_self]; rfl
  -- the step between turns
  let Inv' : Nat → Hp → Prop := fun i H => ∃ m, Ext (r1 ++ [D]) (upd H1 D (.lst [])) (r1 ++ [D]) H ∧ Rel (r1 ++ [D]) H m ∧
    OkR mg W σ r1 H1 ((compL cF (fun δ m => ev (run G n) e δ m) tg δ a.g m1.length (a.xs.drop i) m).bind fun _ m' => leave b m1.length (.ref m1.length) m') (PV K mg Q)
  refine ⟨fun i k H => k = a.xs.length - i ∧ i ≤ a.xs.length ∧ Inv' i H, ⟨_, rfl, Nat.zero_le _, _, .refl _ _, R2, h1⟩, ?_⟩
  rintro i k H3 ⟨rfl, hi, m3, E3, R3, h3⟩
  by_cases hlt : i < a.xs.length
  · have hd : a.xs.drop i = a.xs[i] :: a.xs.drop (i + 1) := List.drop_eq_getElem_cons hlt
    have hx : a.xs[i]? = some a.xs[i] := List.getElem?_eq_getElem hlt
    rw [hd, compL] at h3
    by_cases hg3 : gOk a.g m3
    case neg => rw [if_neg hg3] at h3; exact h3.elim
    rw [if_pos hg3] at h3
    have hgo := hJ.go i _ _ _ hlt (E2.trans E3) R3 hg3
    refine .inr ⟨hgo, Inv' (i + 1), fun H' q => ⟨a.xs.length - (i + 1), by omega, rfl, hlt, q⟩, fun x H' y => ?_⟩
    obtain ⟨E4, k4, rx⟩ := hJ.yld i _ _ _ x H' _ hx (E2.trans E3) R3 hg3 y
    have R4 := R3.same E4 k4
    cases q : asgn tg a.xs[i] (clear δ tg.slots) with
    | none => simp only [q] at h3; exact h3.elim
    | some δ1 =>
      simp only [q] at h3
      have S4 : RepS K mg (r1 ++ [D]) H' (clear δ tg.slots) (wipe σ tg.slots) := ((S1.ext (E2.trans (E3.trans E4))).wipe _)
      refine asgn_ok S4 rx q fun σ1 S5 hl hw => ⟨hw.trans (wipe_wipe _ _), ?_⟩
      refine ht σ1 H' _ _ δ1 m3 R4 S5 ?_
      -- behind a turn: what is ours alone
      have back : ∀ {r' : List Addr} {H' H'' : Hp} {m' : Mem}, Ext (r1 ++ [D]) H' r' H'' → Rel r' H'' m' → Rel (r1 ++ [D]) H'' (m'.take (m1.length + 1)) := fun E R => by
        have := R.take (m1.length + 1)
        have et := prefix_take E.pre
        rw [rl] at et
        rw [et] at this
        exact this
      cases qc : cF δ1 m3 with
      | ex c m5 => simp only [qc] at h3; exact h3.elim
      | bad => simp only [qc] at h3; exact h3.elim
      | ok t m5 =>
        refine ⟨t, m5, rfl, fun r5 H5 E5 R5 => ?_⟩
        cases t with
        | false =>
          simp only [qc] at h3
          simp only [Bool.false_eq_true, if_false]
          exact ⟨_, E3.trans (E4.trans E5.take), back E5 R5, h3⟩
        | true =>
          simp only [qc] at h3
          simp only [if_true]
          refine ⟨r5, δ1, m5, R5, S5.ext E5, ?_⟩
          cases qe : ev (run G n) e δ1 m5 with
          | ex c m6 => simp only [qe] at h3; exact h3.elim
          | bad => simp only [qe] at h3; exact h3.elim
          | ok d m6 =>
            simp only [qe] at h3
            intro r6 H6 E6 R6 v rv
            cases d with
            | b x' =>
              simp only [own] at h3
              cases qm : m6[m1.length]? with
              | none => simp only [qm] at h3; exact h3.elim
              | some o =>
                cases o with
                | lst zs =>
                  simp only [qm] at h3
                  by_cases hz : zs.length < lim
                  case neg => rw [if_neg hz] at h3; exact h3.elim
                  rw [if_pos hz] at h3
                  have E56 := E5.trans E6
                  obtain ⟨vs, g1, g2⟩ := R6.at_ _ D _ (E56.at_ rD) qm
                  have sub : ∀ c, c ∈ r1 ++ [D] → c ∈ r6 := fun c hc => E56.sub hc
                  have nr : ∀ b, b ∈ r1 ++ [D] → V.ref b ∉ vs := fun b hb => RepBs.noref R6 g2 b (sub b hb)
                  refine ⟨vs, g1, by rw [← repBs_length g2, ← lim_eq]; exact hz, (m6.take (m1.length + 1)).set m1.length (.lst (zs ++ [x'])), ?_, ?_, h3⟩
                  · exact E3.trans (E4.trans (E56.take.trans (.write (List.mem_of_getElem? rD) g1 nr)))
                  · refine (back E56 R6).write rD g1 nr ?_
                    have g3 : RepBs (r1 ++ [D]) H6 zs vs := g2.less sub zs
                    have g4 : RepB (r1 ++ [D]) H6 x' v := RepB.less sub x' rv
                    exact RepBs.pair.mpr (pr_append (RepBs.pair.mp g3) (.cons g4 .nil))
                | any => simp only [qm] at h3; exact h3.elim
                | rows ks => simp only [qm] at h3; exact h3.elim
            | _ => simp only [own] at h3; exact h3.elim
  · have ei : i = a.xs.length := by omega
    subst ei
    rw [List.drop_length, compL] at h3
    by_cases hg3 : gOk a.g m3
    case neg => rw [if_neg hg3] at h3; exact h3.elim
    rw [if_pos hg3] at h3
    exact .inl ⟨hJ.stop _ _ _ (E2.trans E3) R3 hg3, leave_ok (K := K) (mg := mg) (d := .ref m1.length) R1 (E2.trans E3) R3 ⟨D, rD, rfl⟩ h3⟩
end
end Z

/-! Z9: a checked expression is evaluated by the model as by ev. -/
namespace Z
open PySem PySem.Spec PyProof.Rows L2
variable [TabC]
omit [TabC] in
theorem bindA {α β γ : Type} (x : R α) (f : α → Mem → R β) (g : β → Mem → R γ) : (x.bind f).bind g = x.bind fun a m => (f a m).bind g := by
  cases x <;> rfl
section
variable {P : Program} {w : World} {K : PySem.W.Frag} {mg : Str → Option Value} {base : Heap} {gi : GI} {G : Tab} {n : Nat} {S : SX} {W : WX} {X : Cx}
abbrev VE (K : PySem.W.Frag) (mg : Str → Option Value) (G : Tab) (n : Nat) (W : WX) (X : Cx) (e : Expr) (t : E) : Prop := PE X e (TX K mg (run G n) W t) ∧ PT X e (TXt K mg (run G n) W t)
/-- any expression whose truth is its value's -/
theorem ve_of {e : Expr} {t : E} (hK : X.K = K) (h : PE X e (TX K mg (run G n) W t)) (hx : ∀ whole, isTrue e X.env whole = (do let v ← whole; standAt e.pos; holding [v] (truthy v))) : VE K mg G n W X e t := ⟨h, pt_ofPE h hK hx⟩
theorem c_var {x : Str} {pos : Pos} {i : Nat} (ok : XOk P w K mg base gi G n S W X) (h : S.vis i x = true) : PE X (.Name x pos) (TX K mg (run G n) W (.var i)) := by
  obtain ⟨h1, h2, h3⟩ := vis_of ok h
  obtain ⟨d1, d2, d3⟩ := okNm_of h3
  refine pe_w (pe_var h1 h2 d1 d2) fun σ H Q ⟨r, δ, m, R, Sl, q⟩ => ?_
  rw [ev] at q
  cases hd : δ[i]? with
  | none => simp only [hd] at q; exact q.elim
  | some o =>
    cases o with
    | none => simp only [hd] at q; exact q.elim
    | some d =>
      simp only [hd] at q
      obtain ⟨v, e1, rv⟩ := Sl.at_ i d hd
      exact ⟨v, e1, q r H (.refl r H) R v rv⟩
theorem c_const {e : Expr} {t : E} {d : PyData} {v : V} (hp : PE X e (tC v)) (he : ∀ δ m, ev (run G n) t δ m = .ok (.b d) m) (rv : ∀ r H, RepB r H d v) : PE X e (TX K mg (run G n) W t) := by
  refine pe_w hp fun σ H Q ⟨r, δ, m, R, Sl, q⟩ => ?_
  rw [he] at q
  exact q r H (.refl r H) R v (rv r H)
theorem c_bin {op : Operator} {a b : Expr} {ta tb : E} {pos : Pos} (ha : PE X a (TX K mg (run G n) W ta)) (hb : PE X b (TX K mg (run G n) W tb)) : PE X (.BinOp a op b pos) (TX K mg (run G n) W (.bin op ta tb)) := by
  refine pe_w (pe_op (op_bin op) ha hb) fun σ H Q ⟨r, δ, m, R, Sl, q⟩ => ?_
  rw [ev] at q
  exact TX.two R Sl q fun x y v u r2 H2 m2 e2 R2 S2 rx ry q => p2_rB R2 rx ry q
theorem c_neg {a : Expr} {ta : E} {pos : Pos} (ha : PE X a (TX K mg (run G n) W ta)) : PE X (.UnaryOp .USub a pos) (TX K mg (run G n) W (.neg ta)) := by
  refine pe_w (pe_un un_neg ha) fun σ H Q ⟨r, δ, m, R, Sl, q⟩ => ?_
  rw [ev] at q
  refine TX.one R Sl q fun d v r1 H1 m1 e1 R1 S1 rv q => ?_
  split at q
  · rename_i i
    have rv : RepB r1 H1 (.int i) v := rv
    rw [RepB] at rv
    exact ⟨i, rv, q r1 H1 (.refl _ _) R1 _ (by show RepB _ _ _ _; rw [RepB])⟩
  · exact q.elim
theorem c_not {a : Expr} {ta : E} {pos : Pos} (hK : X.K = K) (ha : VE K mg G n W X a ta) : VE K mg G n W X (.UnaryOp .Not a pos) (.not ta) := by
  constructor
  · refine pe_w (pe_notZ ha.1) fun σ H Q ⟨r, δ, m, R, Sl, q⟩ => ?_
    rw [ev, bindA] at q
    refine TX.one R Sl q fun d v r1 H1 m1 e1 R1 S1 rv q => ?_
    unfold truthD at q
    cases hs : snap m1 d with
    | none => simp only [hs] at q; exact q.elim
    | some x =>
      simp only [hs] at q
      cases ht : truth x with
      | none => simp only [ht] at q; exact q.elim
      | some c =>
        simp only [ht] at q
        refine ⟨c, by rw [hK]; exact truV_of (RepD.snap R1 rv hs) ht, q r1 H1 (.refl _ _) R1 _ ?_⟩
        show RepB _ _ _ _
        rw [RepB]
  · refine pt_w (pt_not ha.2) fun σ H Q ⟨r, δ, m, R, Sl, q⟩ => ?_
    rw [ev, bindA] at q
    exact TXt.one R Sl q fun b r1 H1 m1 e1 R1 S1 q => q r1 H1 (.refl _ _) R1
theorem c_cmp {op : CmpOp} {a b : Expr} {ta tb : E} {pos : Pos} (ok : XOk P w K mg base gi G n S W X) (hb' : plainX b = true) (ha : PE X a (TX K mg (run G n) W ta)) (hb : PE X b (TX K mg (run G n) W tb)) : VE K mg G n W X (.Compare a [op] [b] pos) (.cmp op ta tb) := by
  have hu : X.A.units + 70 < cLine := by have := ok.room.un; omega
  have key : ∀ σ H Q, TX K mg (run G n) W (.cmp op ta tb) σ H Q → tOp (rB fun x y => (cmpP op x y).map .bool) (TX K mg (run G n) W ta) (TX K mg (run G n) W tb) σ H Q := fun σ H Q ⟨r, δ, m, R, Sl, q⟩ => by
    rw [ev] at q
    exact TX.two R Sl q fun x y v u r2 H2 m2 e2 R2 S2 rx ry q => p2_rB R2 rx ry q
  refine ⟨pe_w (pe_cmpR (op_cmp op hu) ha hb (mark_of hb')) key, pt_w (pt_cmpR (op_cmp op hu) ha hb (mark_of hb')) fun σ H Q q => key _ _ _ (bT (fun δ m d m' e => ?_) q)⟩
  rw [ev] at e
  obtain ⟨x, m1, _, e⟩ := bind_ok e
  obtain ⟨y, m2, _, e⟩ := bind_ok e
  exact p2_bool e
theorem c_chain {op op' : CmpOp} {a b c : Expr} {ta tb tc : E} {pos : Pos} (ok : XOk P w K mg base gi G n S W X) (hc' : plainX c = true) (ha : PE X a (TX K mg (run G n) W ta)) (hb : PE X b (TX K mg (run G n) W tb)) (hc : PE X c (TX K mg (run G n) W tc)) : VE K mg G n W X (.Compare a [op, op'] [b, c] pos) (.chain op op' ta tb tc) := by
  have hu : X.A.units + 70 < cLine := by have := ok.room.un; omega
  have hm : lastMarks [op, op'] [b, c] = false := by show behindInMarks op' c = false; exact mark_of hc'
  have key : ∀ σ H Q, TX K mg (run G n) W (.chain op op' ta tb tc) σ H Q → tChain (rB fun x y => (cmpP op x y).map .bool) (rB fun x y => (cmpP op' x y).map .bool) (TX K mg (run G n) W ta) (TX K mg (run G n) W tb) (TX K mg (run G n) W tc) σ H Q := fun σ H Q ⟨r, δ, m, R, Sl, q⟩ => by
    rw [ev] at q
    refine TX.two R Sl q fun x y v u r2 H2 m2 e2 R2 S2 rx ry q => ?_
    unfold p2 at q
    cases h1 : snap m2 x with
    | none => simp only [h1] at q; exact q.elim
    | some a' =>
      cases h2 : snap m2 y with
      | none => simp only [h1, h2] at q; exact q.elim
      | some b' =>
        simp only [h1, h2] at q
        cases h3 : cmpP op a' b' with
        | none => simp only [h3] at q; exact q.elim
        | some k =>
          simp only [h3] at q
          refine ⟨r2, m2, a', b', .bool k, R2, RepD.snap R2 rx h1, RepD.snap R2 ry h2, by show (cmpP op a' b').map PyData.bool = _; rw [h3]; rfl, fun r3 H3 v3 e3 R3 rv => ?_⟩
          rw [RepB] at rv
          refine ⟨k, rv, ?_⟩
          have q : OkR mg W σ r2 H2 (match D.b (PyData.bool k) with
            | .b (.bool true) => (ev (run G n) tc δ m2).bind fun w m => p2 (fun x y => (cmpP op' x y).map PyData.bool) y w m
            | .b (.bool false) => .ok (.b (.bool false)) m2
            | _ => .bad) (PV K mg Q) := q
          cases k with
          | true => exact TX.one R3 (S2.ext e3) (q.ext e3) fun d v4 r4 H4 m4 e4 R4 S4 rv4 q4 => p2_rB R4 (ry.ext (e3.trans e4)) rv4 q4
          | false => exact q r3 H3 e3 R3 _ (by show RepB _ _ _ _; rw [RepB])
  refine ⟨pe_w (pe_chain (op_cmp op hu) (op_cmp op' hu) ha hb hc hm) key, pt_w (pt_chain (op_cmp op hu) (op_cmp op' hu) ha hb hc hm) fun σ H Q q => key _ _ _ (bT (fun δ m d m' e => ?_) q)⟩
  rw [ev] at e
  obtain ⟨x, m1, _, e⟩ := bind_ok e
  obtain ⟨y, m2, _, e⟩ := bind_ok e
  obtain ⟨z, m3, _, e⟩ := bind_ok e
  split at e
  · obtain ⟨z, m3, _, e⟩ := bind_ok e
    exact p2_bool e
  · cases e; exact ⟨_, rfl⟩
  · cases e
omit [TabC] in
theorem truthD_bool (k : Bool) (m : Mem) : truthD (.b (.bool k)) m = .ok k m := rfl
theorem c_and {a b : Expr} {l : List Expr} {ta tb : E} {pos : Pos} (ha : VE K mg G n W X a ta) (hb : PE X (.BoolOp .And (b :: l) pos) (TX K mg (run G n) W tb)) (hb' : PW X (.BoolOp .And (b :: l) pos) (TXt K mg (run G n) W tb)) : VE K mg G n W X (.BoolOp .And (a :: b :: l) pos) (.and ta tb) := by
  constructor
  · refine pe_w (pe_and ha.1 hb) fun σ H Q ⟨r, δ, m, R, Sl, q⟩ => ?_
    rw [ev] at q
    refine TX.one R Sl q fun d v r1 H1 m1 e1 R1 S1 rv q => ?_
    split at q
    · have rv : RepB r1 H1 (.bool true) v := rv
      rw [RepB] at rv
      exact ⟨true, rv, r1, δ, m1, R1, S1, q⟩
    · have rv : RepB r1 H1 (.bool false) v := rv
      rw [RepB] at rv
      exact ⟨false, rv, q r1 H1 (.refl _ _) R1 _ (by show RepB _ _ _ _; rw [RepB])⟩
    · exact q.elim
  · refine pt_w (pw_and ha.2 hb').pt fun σ H Q ⟨r, δ, m, R, Sl, q⟩ => ?_
    rw [ev, bindA] at q
    refine ⟨r, δ, m, R, Sl, ?_⟩
    cases he : ev (run G n) ta δ m with
    | ex c m' => rw [he] at q; exact q
    | bad => rw [he] at q; exact q
    | ok d m1 =>
      rw [he] at q
      show OkR mg W σ r H (truthD d m1) _
      have q : OkR mg W σ r H ((match d with
        | .b (.bool true) => ev (run G n) tb δ m1
        | .b (.bool false) => .ok (.b (.bool false)) m1
        | _ => .bad).bind truthD) _ := q
      split at q
      · intro r1 H1 e1 R1
        exact ⟨r1, δ, m1, R1, Sl.ext e1, q.ext e1⟩
      · intro r1 H1 e1 R1
        exact q r1 H1 e1 R1
      · exact q.elim
theorem c_or {a b : Expr} {l : List Expr} {ta tb : E} {pos : Pos} (ha : VE K mg G n W X a ta) (hb : PE X (.BoolOp .Or (b :: l) pos) (TX K mg (run G n) W tb)) (hb' : PW X (.BoolOp .Or (b :: l) pos) (TXt K mg (run G n) W tb)) : VE K mg G n W X (.BoolOp .Or (a :: b :: l) pos) (.or ta tb) := by
  constructor
  · refine pe_w (pe_or ha.1 hb) fun σ H Q ⟨r, δ, m, R, Sl, q⟩ => ?_
    rw [ev] at q
    refine TX.one R Sl q fun d v r1 H1 m1 e1 R1 S1 rv q => ?_
    split at q
    · have rv : RepB r1 H1 (.bool false) v := rv
      rw [RepB] at rv
      exact ⟨false, rv, r1, δ, m1, R1, S1, q⟩
    · have rv : RepB r1 H1 (.bool true) v := rv
      rw [RepB] at rv
      exact ⟨true, rv, q r1 H1 (.refl _ _) R1 _ (by show RepB _ _ _ _; rw [RepB])⟩
    · exact q.elim
  · refine pt_w (pw_or ha.2 hb').pt fun σ H Q ⟨r, δ, m, R, Sl, q⟩ => ?_
    rw [ev, bindA] at q
    refine ⟨r, δ, m, R, Sl, ?_⟩
    cases he : ev (run G n) ta δ m with
    | ex c m' => rw [he] at q; exact q
    | bad => rw [he] at q; exact q
    | ok d m1 =>
      rw [he] at q
      show OkR mg W σ r H (truthD d m1) _
      have q : OkR mg W σ r H ((match d with
        | .b (.bool false) => ev (run G n) tb δ m1
        | .b (.bool true) => .ok (.b (.bool true)) m1
        | _ => .bad).bind truthD) _ := q
      split at q
      · intro r1 H1 e1 R1
        exact ⟨r1, δ, m1, R1, Sl.ext e1, q.ext e1⟩
      · intro r1 H1 e1 R1
        exact q r1 H1 e1 R1
      · exact q.elim
theorem c_ife {c a b : Expr} {tc ta tb : E} {pos : Pos} (hc : VE K mg G n W X c tc) (ha : VE K mg G n W X a ta) (hb : VE K mg G n W X b tb) : VE K mg G n W X (.IfExp c a b pos) (.ife tc ta tb) := by
  constructor
  · refine pe_w (pe_ifExp hc.2 ha.1 hb.1) fun σ H Q ⟨r, δ, m, R, Sl, q⟩ => ?_
    rw [ev] at q
    refine TXt.one R Sl q fun b r1 H1 m1 e1 R1 S1 q => ?_
    cases b with
    | true => exact ⟨r1, δ, m1, R1, S1, q⟩
    | false => exact ⟨r1, δ, m1, R1, S1, q⟩
  · refine pt_w (pt_ifExp hc.2 ha.2 hb.2) fun σ H Q ⟨r, δ, m, R, Sl, q⟩ => ?_
    rw [ev, bindA] at q
    refine TXt.one R Sl q fun b r1 H1 m1 e1 R1 S1 q => ?_
    cases b with
    | true => exact ⟨r1, δ, m1, R1, S1, q⟩
    | false => exact ⟨r1, δ, m1, R1, S1, q⟩
theorem repDs_length {r : List Addr} {H : Hp} {ds : List D} {vs : List V} (h : RepDs K mg r H ds vs) : ds.length = vs.length := Paired.length h
theorem c_tup {l : List Expr} {es : Es} {k : Nat} {pos : Pos} (ha : PA X l (TXs K mg (run G n) W es)) : PE X (.Tuple l k pos) (TX K mg (run G n) W (.tup es)) := by
  refine pe_w (pe_tup ha) fun σ H Q ⟨r, δ, m, R, Sl, q⟩ => ?_
  rw [ev] at q
  refine TXs.one R Sl q fun ds vs r1 H1 m1 e1 R1 S1 rv q => ?_
  cases ho : owns ds with
  | none => simp only [ho] at q; exact q.elim
  | some ys =>
    simp only [ho] at q
    by_cases hl : ys.length ≤ lim
    case neg => rw [if_neg hl] at q; exact q.elim
    rw [if_pos hl] at q
    have rb := RepDs.owns rv ho
    exact ⟨by rw [← repBs_length rb, ← lim_eq]; exact hl, newTup R1 rb fun r' H' v e R' hv => q r' H' e R' v hv⟩
theorem c_lst {l : List Expr} {es : Es} {b : Bool} {pos : Pos} (ha : PA X l (TXs K mg (run G n) W es)) : PE X (.List l pos) (TX K mg (run G n) W (.lst b es)) := by
  refine pe_w (pe_lst ha) fun σ H Q ⟨r, δ, m, R, Sl, q⟩ => ?_
  rw [ev] at q
  refine TXs.one R Sl q fun ds vs r1 H1 m1 e1 R1 S1 rv q => ?_
  cases ho : owns ds with
  | none => simp only [ho] at q; exact q.elim
  | some ys =>
    simp only [ho] at q
    by_cases hl : ys.length ≤ lim
    case neg => rw [if_neg hl] at q; exact q.elim
    rw [if_pos hl] at q
    have rb := RepDs.owns rv ho
    exact ⟨by rw [← repBs_length rb, ← lim_eq]; exact hl, mk_new R1 rb q⟩
def rIxZ (K : PySem.W.Frag) : R2 := fun x y H Q => rIxL K x y H Q ∨ rB ixP x y H Q
omit [TabC] in
theorem atP_map {ns : List Int} {i k : Int} (h : atP ns i = some k) : atI (ns.map V.int) i = some (V.int k) := by
  unfold atP atI at *
  rw [List.length_map]
  cases q : ixN ns.length i with
  | none => rw [q] at h; cases h
  | some j =>
    rw [q] at h
    have h : ns[j]? = some k := h
    show (ns.map V.int)[j]? = _
    rw [List.getElem?_map, h]
    rfl
theorem c_ix {a i : Expr} {ta ti : E} {pos : Pos} (hK : X.K = K) (hp : plainX i = true) (ha : PE X a (TX K mg (run G n) W ta)) (hi : PE X i (TX K mg (run G n) W ti)) : PE X (.Subscript a i pos) (TX K mg (run G n) W (.ix ta ti)) := by
  have hr : IxR X (rIxZ K) := by rw [← hK]; exact ix_list.or ix_ok
  refine pe_w (pe_ix hr ha hi (ix_of hp)) fun σ H Q ⟨r, δ, m, R, Sl, q⟩ => ?_
  rw [ev] at q
  refine TX.two R Sl q fun x y v u r2 H2 m2 e2 R2 S2 rx ry q => ?_
  unfold ixF at q
  split at q
  · rename_i ns i
    split at q
    · rename_i k hk
      obtain ⟨a, rfl, hs⟩ := rx
      have ry : RepB r2 H2 (.int i) u := ry
      rw [RepB] at ry
      exact .inl ⟨a, _, i, _, rfl, ry, hs.seq, atP_map hk, q r2 H2 (.refl _ _) R2 _ (by show RepB _ _ _ _; rw [RepB])⟩
    · exact q.elim
  · exact .inr (p2_rB R2 rx ry q)
theorem c_ixR {a i : Expr} {ta ti : E} {pos : Pos} (hK : X.K = K) (hp : plainX i = true) (ha : PE X a (TX K mg (run G n) W ta)) (hi : PE X i (TX K mg (run G n) W ti)) : PE X (.Subscript a i pos) (TX K mg (run G n) W (.ixR ta ti)) := by
  have hr : IxR X (rIxL K) := by rw [← hK]; exact ix_list
  refine pe_w (pe_ix hr ha hi (ix_of hp)) fun σ H Q ⟨r, δ, m, R, Sl, q⟩ => ?_
  rw [ev] at q
  refine TX.two R Sl q fun x y v u r2 H2 m2 e2 R2 S2 rx ry q => ?_
  unfold ixRF at q
  split at q
  · rename_i n i
    split at q
    · rename_i ks hm
      split at q
      · rename_i k hk
        obtain ⟨a, h1, rfl⟩ := rx
        have ry : RepB r2 H2 (.int i) u := ry
        rw [RepB] at ry
        obtain ⟨vs, h3, h4⟩ := R2.at_ n a _ h1 hm
        unfold atP atI at hk
        cases hj : ixN ks.length i with
        | none => rw [hj] at hk; cases hk
        | some j =>
          rw [hj] at hk
          have hk : ks[j]? = some k := hk
          obtain ⟨w, hw, b, hb, rfl⟩ := pr_get h4 hk
          have hat : atI vs i = some (V.ref b) := by
            unfold atI
            rw [← Paired.length h4, hj]
            exact hw
          exact ⟨a, vs, i, _, rfl, ry, .inl (.inl h3), hat, q r2 H2 (.refl _ _) R2 _ ⟨b, hb, rfl⟩⟩
      · exact q.elim
    · exact q.elim
  · exact q.elim
theorem sl_fin {r : List Addr} {H : Hp} {m : Mem} {σ : L2.St} {d : D} {v : V} {lo hi : Option Int} {Q : VK} (R : Rel r H m) (rv : RepD K mg r H d v) (q : OkR mg W σ r H (p1 (fun x => slP x lo hi) d m) (PV K mg Q)) : rS v lo hi H Q := by
  obtain ⟨a, z, h1, h2, h3⟩ := p1_inv q
  exact ⟨r, m, a, z, R, RepD.snap R rv h1, h2, h3⟩
theorem c_sl0 {a : Expr} {ta : E} {p2 pos : Pos} (ha : PE X a (TX K mg (run G n) W ta)) : PE X (.Subscript a (.Slice none none none p2) pos) (TX K mg (run G n) W (.sl0 ta)) := by
  refine pe_w (pe_slice sl_ok ha po_none po_none) fun σ H Q ⟨r, δ, m, R, Sl, q⟩ => ?_
  rw [ev] at q
  exact TX.one R Sl q fun d v r1 H1 m1 e1 R1 S1 rv q => sl_fin R1 rv q
theorem c_slL {a lo : Expr} {ta tl : E} {p2 pos : Pos} (ha : PE X a (TX K mg (run G n) W ta)) (hl : PE X lo (TX K mg (run G n) W tl)) : PE X (.Subscript a (.Slice (some lo) none none p2) pos) (TX K mg (run G n) W (.slL ta tl)) := by
  refine pe_w (pe_slice sl_ok ha (po_some hl) po_none) fun σ H Q ⟨r, δ, m, R, Sl, q⟩ => ?_
  rw [ev] at q
  refine TX.two (Q := fun v u H2 => ∃ i, u = .int i ∧ rS v (some i) none H2 Q) R Sl q fun x y v u r2 H2 m2 e2 R2 S2 rx ry q => ?_
  split at q
  · rename_i i
    have ry : RepB r2 H2 (.int i) u := ry
    rw [RepB] at ry
    exact ⟨i, ry, sl_fin R2 rx q⟩
  · exact q.elim
theorem c_slH {a hi : Expr} {ta tl : E} {p2 pos : Pos} (ha : PE X a (TX K mg (run G n) W ta)) (hl : PE X hi (TX K mg (run G n) W tl)) : PE X (.Subscript a (.Slice none (some hi) none p2) pos) (TX K mg (run G n) W (.slH ta tl)) := by
  refine pe_w (pe_slice sl_ok ha po_none (po_some hl)) fun σ H Q ⟨r, δ, m, R, Sl, q⟩ => ?_
  rw [ev] at q
  refine TX.two (Q := fun v u H2 => ∃ i, u = .int i ∧ rS v none (some i) H2 Q) R Sl q fun x y v u r2 H2 m2 e2 R2 S2 rx ry q => ?_
  split at q
  · rename_i i
    have ry : RepB r2 H2 (.int i) u := ry
    rw [RepB] at ry
    exact ⟨i, ry, sl_fin R2 rx q⟩
  · exact q.elim
theorem c_slB {a lo hi : Expr} {ta tl th : E} {p2 pos : Pos} (ha : PE X a (TX K mg (run G n) W ta)) (hl : PE X lo (TX K mg (run G n) W tl)) (hh : PE X hi (TX K mg (run G n) W th)) : PE X (.Subscript a (.Slice (some lo) (some hi) none p2) pos) (TX K mg (run G n) W (.slB ta tl th)) := by
  refine pe_w (pe_slice sl_ok ha (po_some hl) (po_some hh)) fun σ H Q ⟨r, δ, m, R, Sl, q⟩ => ?_
  rw [ev] at q
  refine TX.one R Sl q fun x v r1 H1 m1 e1 R1 S1 rx q => ?_
  refine TX.one R1 S1 q fun y u r2 H2 m2 e2 R2 S2 ry q => ?_
  split at q
  · rename_i i
    have ry : RepB r2 H2 (.int i) u := ry
    rw [RepB] at ry
    refine ⟨i, ry, TX.one (Q := fun u H2 => ∃ j, u = .int j ∧ rS v (some i) (some j) H2 Q) R2 S2 q fun z w r3 H3 m3 e3 R3 S3 rz q => ?_⟩
    split at q
    · rename_i j
      have rz : RepB r3 H3 (.int j) w := rz
      rw [RepB] at rz
      exact ⟨j, rz, sl_fin R3 (rx.ext (e2.trans e3)) q⟩
    · exact q.elim
  · exact q.elim
end
end Z

/-! Z10: calls and iterables; the whole of the expressions. -/
namespace Z
open PySem PySem.Spec PyProof.Rows L2
variable [TabC]
section
variable {P : Program} {w : World} {K : PySem.W.Frag} {mg : Str → Option Value} {base : Heap} {gi : GI} {G : Tab} {n : Nat} {S : SX} {W : WX} {X : Cx}
omit [TabC] in
/-- plain arguments alone -/
theorem plain_es : ∀ {es : Es} {l : List Expr}, chkEs gi G es S l = true → ∀ x ∈ l, plainX x = true
  | .nil, [], _ => fun x h => nomatch h
  | .nil, _ :: _, h => by rw [chkEs] at h; cases h
  | .cons e es, [], h => by rw [chkEs] at h; cases h
  | .cons e es, y :: l, h => by
    rw [chkEs] at h
    simp only [Bool.and_eq_true] at h
    intro x hx
    rcases List.mem_cons.mp hx with rfl | hx
    · exact h.1.1
    · exact plain_es h.2 x hx
theorem c_bi {f : Bi} {v : Value} {b : Bool} {e : Expr} {l : List Expr} {es : Es} {x : Str} {p pos : Pos} (ok : XOk P w K mg base gi G n S W X) (hv : f.fn = some v) (hg : S.gl x = true) (hx : x = f.nm) (hpl : ∀ x ∈ e :: l, plainX x = true) (ha : PA X (e :: l) (TXs K mg (run G n) W es)) :
    PE X (.Call (.Name x p) (e :: l) [] pos) (TX K mg (run G n) W (.bi f b es)) := by
  obtain ⟨g1, g2⟩ := gl_of ok hg
  have hm : X.mg x = none := by rw [hx]; exact blt_of ok (nm_blts f (by rw [hv]; rfl))
  refine pe_w (pe_bi (bi_ok2 (K := K) (mg := mg) f hv ok.calm ok.eK) (fn_kind f hv) g1 hm (by rw [hx]; exact boot_bi f hv) ha g2 (star_of (hpl e (List.mem_cons_self ..))) (plain_all fun e he => hpl e (List.mem_cons_of_mem _ he))) fun σ H Q ⟨r, δ, m, R, Sl, q⟩ => ?_
  rw [ev] at q
  exact TXs.one R Sl q fun ds vs r1 H1 m1 e1 R1 S1 rv q => biF_ok R1 rv q
omit [TabC] in
theorem rng_rep (r : List Addr) (H : Hp) (a b : Int) : RepBs r H (rngP a b) (rgV a b) := by
  unfold rngP rgV
  generalize List.range (b - a).toNat = l
  induction l with
  | nil => rw [List.map_nil, List.map_nil, RepBs]
  | cons i l ih =>
    rw [List.map_cons, List.map_cons, RepBs]
    exact ⟨_, _, rfl, by rw [RepB], ih⟩
omit [TabC] in
theorem rgOk_of {a b : Int} (h : rngOk a b = true) : RgOk a b := by
  unfold rngOk at h
  have h := of_decide_eq_true h
  exact .of_le h.1 h.2.2.2 h.2.1 h.2.2.1
omit [TabC] in
theorem evs_nil {run : Str → List D → Mem → R D} {δ : Env} {m : Mem} : evs run .nil δ m = .ok [] m := by rw [evs]
omit [TabC] in
theorem evs_cons {run : Str → List D → Mem → R D} {e : E} {es : Es} {δ : Env} {m : Mem} : evs run (.cons e es) δ m = (ev run e δ m).bind fun x m => (evs run es δ m).bind fun xs m => .ok (x :: xs) m := by rw [evs]
theorem lrng_fin {b : Bool} {r : List Addr} {H : Hp} {m : Mem} {σ : L2.St} {Q : VK} {i j : Int} (R : Rel r H m) (q : OkR mg W σ r H (if rngOk i j = true then mk b (.list (rngP i j)) m else .bad) (PV K mg Q)) : RgOk i j ∧ ∀ p, H p = none → Q (.ref p) (upd H p (.lst (rgV i j))) := by
  by_cases h : rngOk i j = true
  · rw [if_pos h] at q
    exact ⟨rgOk_of h, mk_new R (rng_rep _ _ i j) q⟩
  · rw [if_neg h] at q
    exact q.elim
theorem snap_int {r : List Addr} {H : Hp} {m : Mem} {d : D} {v : V} {i : Int} (R : Rel r H m) (rv : RepD K mg r H d v) (h : snap m d = some (.int i)) : v = .int i := by
  have := RepD.snap R rv h
  exact this
theorem lrng1_inv {d : D} {b : Bool} {m : Mem} {σ : L2.St} {r : List Addr} {H : Hp} {Q : VK} (q : OkR mg W σ r H (biF .lrng1 b [d] m) (PV K mg Q)) : ∃ j, snap m d = some (.int j) ∧ OkR mg W σ r H (if rngOk 0 j = true then mk b (.list (rngP 0 j)) m else .bad) (PV K mg Q) := by
  unfold biF snaps snaps at q
  simp only at q
  cases hs : snap m d with
  | none => simp only [hs] at q; exact q.elim
  | some y =>
    simp only [hs, Option.map] at q
    cases y with
    | int j =>
      refine ⟨j, rfl, ?_⟩
      simp only [biP] at q
      by_cases hc : rngOk 0 j = true
      · simp only [if_pos hc] at q ⊢; exact q
      · simp only [if_neg hc] at q; exact q.elim
    | _ => exact q.elim
theorem lrng2_inv {d e : D} {b : Bool} {m : Mem} {σ : L2.St} {r : List Addr} {H : Hp} {Q : VK} (q : OkR mg W σ r H (biF .lrng2 b [d, e] m) (PV K mg Q)) : ∃ i j, snap m d = some (.int i) ∧ snap m e = some (.int j) ∧ OkR mg W σ r H (if rngOk i j = true then mk b (.list (rngP i j)) m else .bad) (PV K mg Q) := by
  unfold biF snaps snaps snaps at q
  simp only at q
  cases hs : snap m d with
  | none => simp only [hs] at q; exact q.elim
  | some y =>
    cases ht : snap m e with
    | none => simp only [hs, ht, Option.map] at q; exact q.elim
    | some z =>
      simp only [hs, ht, Option.map] at q
      cases y with
      | int i =>
        cases z with
        | int j =>
          refine ⟨i, j, rfl, rfl, ?_⟩
          simp only [biP] at q
          by_cases hc : rngOk i j = true
          · simp only [if_pos hc] at q ⊢; exact q
          · simp only [if_neg hc] at q; exact q.elim
        | _ => exact q.elim
      | _ => exact q.elim
theorem c_lrng1 {b : Bool} {a : Expr} {ta : E} {p p2 pos pos2 : Pos} (ok : XOk P w K mg base gi G n S W X) (hg : S.gl "list" = true) (hg2 : S.gl "range" = true) (hpl : plainX a = true) (ha : PE X a (TX K mg (run G n) W ta)) :
    PE X (.Call (.Name "list" p) [.Call (.Name "range" p2) [a] [] pos2] [] pos) (TX K mg (run G n) W (.bi .lrng1 b (.cons ta .nil))) := by
  refine pe_w (pe_listRg ok.calm (gl_of ok hg).1 (blt_of ok (by decide)) (prg_1 (gl_of ok hg2).1 (blt_of ok (by decide)) ha (star_of hpl)) rfl) fun σ H Q ⟨r, δ, m, R, Sl, q⟩ => ?_
  rw [ev, evs_cons, bindA] at q
  refine TX.one R Sl q fun d v r1 H1 m1 e1 R1 S1 rv q => ?_
  rw [evs_nil] at q
  obtain ⟨j, h1, h2⟩ := lrng1_inv (σ := σ) (r := r1) (H := H1) (Q := Q) (W := W) (K := K) (mg := mg) q
  exact ⟨j, snap_int R1 rv h1, lrng_fin R1 h2⟩
theorem c_lrng2 {b : Bool} {a c : Expr} {ta tc : E} {p p2 pos pos2 : Pos} (ok : XOk P w K mg base gi G n S W X) (hg : S.gl "list" = true) (hg2 : S.gl "range" = true) (hpl : plainX a = true) (hpl2 : plainX c = true) (ha : PE X a (TX K mg (run G n) W ta)) (hc : PE X c (TX K mg (run G n) W tc)) :
    PE X (.Call (.Name "list" p) [.Call (.Name "range" p2) [a, c] [] pos2] [] pos) (TX K mg (run G n) W (.bi .lrng2 b (.cons ta (.cons tc .nil)))) := by
  have s2 : starEach [c] X.env = (false, eval c X.env) :: starEach [] X.env := star_of hpl2
  have s1 : starEach [a, c] X.env = (false, eval a X.env) :: starEach [c] X.env := star_of hpl
  refine pe_w (pe_listRg ok.calm (gl_of ok hg).1 (blt_of ok (by decide)) (prg_2 (gl_of ok hg2).1 (blt_of ok (by decide)) ha hc s1 s2 (by rw [s2]; rfl)) rfl) fun σ H Q ⟨r, δ, m, R, Sl, q⟩ => ?_
  rw [ev, evs_cons, bindA] at q
  refine TX.one R Sl q fun d v r1 H1 m1 e1 R1 S1 rv q => ?_
  rw [evs_cons, bindA, bindA] at q
  refine TX.one R1 S1 q fun d' v' r2 H2 m2 e2 R2 S2 rv' q => ?_
  rw [evs_nil] at q
  obtain ⟨i, j, h1, h2, h3⟩ := lrng2_inv (σ := σ) (r := r2) (H := H2) (Q := Q) (W := W) (K := K) (mg := mg) (d := d) (e := d') (b := b) (m := m2) q
  exact ⟨i, j, snap_int R2 (rv.ext e2) h1, snap_int R2 rv' h2, lrng_fin R2 h3⟩
omit [TabC] in
theorem boot_isi : bootBuiltins "isinstance" = some (.builtin "isinstance") := by decide +kernel
omit [TabC] in
theorem boot_ty {t : String} (h : tys.contains t = true) : bootBuiltins (Str.ofString t) = some (.type t) ∧ Str.ofString t ∈ blts := by
  have : t ∈ tys := by simpa using h
  unfold tys at this
  simp only [List.mem_cons, List.mem_nil_iff, or_false] at this
  rcases this with rfl | rfl | rfl | rfl | rfl <;> exact ⟨by decide +kernel, by decide +kernel⟩
theorem c_isi {a : Expr} {ta : E} {t : String} {z : Str} {p p2 pos : Pos} (ok : XOk P w K mg base gi G n S W X) (hg : S.gl "isinstance" = true) (hg2 : S.gl z = true) (hz : z = Str.ofString t) (ht : tys.contains t = true) (hpl : plainX a = true) (ha : PE X a (TX K mg (run G n) W ta)) :
    PE X (.Call (.Name "isinstance" p) [a, .Name z p2] [] pos) (TX K mg (run G n) W (.isi ta t)) := by
  obtain ⟨b1, b2⟩ := boot_ty ht
  obtain ⟨g1, g2⟩ := gl_of ok hg2
  obtain ⟨d1, d2, d3⟩ := okNm_of g2
  have pz : PE X (.Name z p2) (tC (.ty t)) := pe_bltn g1 (by rw [hz]; exact blt_of ok b2) (by rw [hz]; exact b1) rfl d3 d1
  have pa : PA X [a, .Name z p2] (tCons (TX K mg (run G n) W ta) (tCons (tC (.ty t)) tNil)) := pa_cons ha (pa_cons pz pa_nil) (star_of hpl)
  refine pe_w (pe_callB (X := X) call_isi (gl_of ok hg).1 (blt_of ok (by decide)) boot_isi pa (by decide) (by decide) (star_of hpl)) fun σ H Q ⟨r, δ, m, R, Sl, q⟩ => ?_
  rw [ev] at q
  refine TX.one R Sl q fun d v r1 H1 m1 e1 R1 S1 rv q => ?_
  obtain ⟨x, y, h1, h2, h3⟩ := p1_inv q
  cases hk : isiP x t with
  | none => rw [hk] at h2; cases h2
  | some k =>
    rw [hk] at h2
    cases h2
    have ra := RepD.snap R1 rv h1
    refine ⟨v, .ty t, _, _, k, rfl, .ty t, by rw [ok.eK]; exact tyX_of ra, kit_ty hk, h3 r1 H1 _ (.refl _ _) R1 (by rw [RepB])⟩
theorem me_inv {f : Me} {nn : Nat} {ds : List D} {m : Mem} {σ : L2.St} {r : List Addr} {H : Hp} {Q : VK} (q : OkR mg W σ r H (meF f (.ref nn) ds m) (PV K mg Q)) : ∃ d m', meF f (.ref nn) ds m = .ok d m' ∧ After K mg r H d m' Q := by
  cases h : meF f (.ref nn) ds m with
  | ok d m' => rw [h] at q; exact ⟨d, m', rfl, fun r' H' v e R rv => q r' H' e R v rv⟩
  | bad => rw [h] at q; exact q.elim
  | ex c m' =>
    unfold meF at h
    repeat' split at h
    all_goals cases h
theorem tyV_list {r : List Addr} {H : Hp} {m : Mem} {a : Addr} (R : Rel r H m) (h : a ∈ r) : tyV K "list" (.ref a) H := by
  obtain ⟨vs, e⟩ := R.obj h
  exact .inl ⟨rfl, vs, .of e⟩
theorem c_me0 {f : Me} {o : Expr} {to : E} {apos cpos : Pos} (hK : X.K = K) (hb : notCall o = true) (hl : (apos.endLine == cpos.line) = true) (ho : PE X o (TX K mg (run G n) W to)) : PE X (.Call (.Attribute o f.nm apos) [] [] cpos) (TX K mg (run G n) W (.me f to .nil)) := by
  refine pe_w (pe_me0 f (me_ok (K := K) (mg := mg) f) ho hb hl) fun σ H Q ⟨r, δ, m, R, Sl, q⟩ => ?_
  rw [ev] at q
  refine TX.one R Sl q fun d v r1 H1 m1 e1 R1 S1 rv q => ?_
  split at q
  · obtain ⟨a, h1, rfl⟩ := rv
    refine ⟨by rw [hK]; exact tyV_list R1 (List.mem_of_getElem? h1), ?_⟩
    rw [evs_nil] at q
    obtain ⟨d, m', h2, h3⟩ := me_inv q
    exact ⟨r1, m1, .ref _, [], d, m', R1, ⟨a, h1, rfl⟩, .nil, h2, h3⟩
  · exact q.elim
theorem c_me1 {f : Me} {o e : Expr} {l : List Expr} {to : E} {es : Es} {apos cpos : Pos} (hK : X.K = K) (hb : notCall o = true) (hl : (apos.endLine == cpos.line) = true) (hn : (e :: l).length < 5) (hpl : ∀ x ∈ e :: l, plainX x = true) (ho : PE X o (TX K mg (run G n) W to)) (ha : PA X (e :: l) (TXs K mg (run G n) W es)) : PE X (.Call (.Attribute o f.nm apos) (e :: l) [] cpos) (TX K mg (run G n) W (.me f to es)) := by
  refine pe_w (pe_me1 f (me_ok (K := K) (mg := mg) f) ho ha hpl hn hb hl) fun σ H Q ⟨r, δ, m, R, Sl, q⟩ => ?_
  rw [ev] at q
  refine TX.one R Sl q fun d v r1 H1 m1 e1 R1 S1 rv q => ?_
  split at q
  · obtain ⟨a, h1, rfl⟩ := rv
    refine ⟨by rw [hK]; exact tyV_list R1 (List.mem_of_getElem? h1), ?_⟩
    refine TXs.one R1 S1 q fun ds vs r2 H2 m2 e2 R2 S2 rvs q => ?_
    obtain ⟨d, m', h2, h3⟩ := me_inv q
    exact ⟨r2, m2, .ref _, ds, d, m', R2, ⟨a, e2.at_ h1, rfl⟩, rvs, h2, h3⟩
  · exact q.elim
/-! ### argument lists -/
theorem a_nil : PA X [] (TXs K mg (run G n) W .nil) := by
  refine pa_w pa_nil fun σ H Q ⟨r, δ, m, R, Sl, q⟩ => ?_
  rw [evs_nil] at q
  exact q r H (.refl _ _) R [] .nil
theorem a_cons {e : Expr} {l : List Expr} {t : E} {es : Es} (hp : plainX e = true) (he : PE X e (TX K mg (run G n) W t)) (ha : PA X l (TXs K mg (run G n) W es)) : PA X (e :: l) (TXs K mg (run G n) W (.cons t es)) := by
  refine pa_w (pa_cons he ha (star_of hp)) fun σ H Q ⟨r, δ, m, R, Sl, q⟩ => ?_
  rw [evs_cons] at q
  refine TX.one R Sl q fun d v r1 H1 m1 e1 R1 S1 rv q => ?_
  exact TXs.one R1 S1 q fun ds vs r2 H2 m2 e2 R2 S2 rvs q => q r2 H2 (.refl _ _) R2 _ (.cons (rv.ext e2) rvs)
end
end Z

namespace HT
open PySem PySem.Spec PyProof.Rows L2
section
variable {prog : Program} {w : World} {A : Around} {E : Value → Shared → Prop} {s : Shared}
theorem adj_rev (n : Nat) : Builtin.Slice.sliceAdjust none none (-1) (n : Int) = ((n : Int) - 1, -1) := by
  unfold Builtin.Slice.sliceAdjust
  simp
theorem plc_rev (n : Nat) : Builtin.Slice.slicePlaces ((n : Int) - 1) (-1) (-1) = n := by
  unfold Builtin.Slice.slicePlaces
  simp
  omega
theorem sliceApplied_rev {sl : Addr} {vl vu vs : Value} {n : Nat} {Q : Int × Int × Nat → Shared → Prop} (hs : s.heap.IsSliceOf sl vl vu vs) (pl : IsPart vl none) (pu : IsPart vu none) (ps : IsPart vs (some (-1)))
    (h : Q ((n : Int) - 1, -1, n) s) : wpAny (model prog w) A (Builtin.Slice.sliceApplied (.ref sl) (pure (n : Int))) Q E s := by
  obtain ⟨os, h1, h2, h3⟩ := id hs
  unfold Builtin.Slice.sliceApplied Builtin.Slice.sliceFields
  refine wpAny_bind (wpAny_bind (wpAny_field h1 h3 (x := vl) rfl (wpAny_bind (wpAny_field h1 h3 (x := vu) rfl (wpAny_bind (wpAny_field h1 h3 (x := vs) rfl (wpAny_pure ?_)))))))
  refine wpAny_bind (slicePart_ ps ?_)
  show wpAny _ _ (if (((some (-1 : Int)).getD 1) == 0) = true then _ else _) _ _ s
  rw [if_neg (by decide)]
  refine wpAny_bind (slicePart_ pl (wpAny_bind (slicePart_ pu (wpAny_bind (wpAny_pure ?_)))))
  show wpAny _ _ (match Builtin.Slice.sliceAdjust none none (-1) (n : Int) with | (lo, hi) => pure (lo, (-1 : Int), Builtin.Slice.slicePlaces lo hi (-1))) _ _ s
  rw [adj_rev]
  show wpAny _ _ (pure (((n : Int) - 1), (-1 : Int), Builtin.Slice.slicePlaces ((n : Int) - 1) (-1) (-1))) _ _ s
  rw [plc_rev]
  exact wpAny_pure h
theorem fm_map {α β : Type} (f : α → Option β) (g : α → β) : ∀ l : List α, (∀ m ∈ l, f m = some (g m)) → l.filterMap f = l.map g
  | [], _ => rfl
  | x :: l, h => by
    rw [List.filterMap_cons, h x (List.mem_cons_self ..), List.map_cons, fm_map f g l fun m hm => h m (List.mem_cons_of_mem _ hm)]
theorem pick_rev (xs : Array Value) : ((List.range xs.size).filterMap fun (m : Nat) => xs[(((xs.size : Int) - 1) + (m : Int) * (-1)).toNat]?).toArray = xs.toList.reverse.toArray := by
  congr 1
  apply List.ext_getElem?
  intro i
  have e : (List.range xs.size).filterMap (fun (m : Nat) => xs[(((xs.size : Int) - 1) + (m : Int) * (-1)).toNat]?) = (List.range xs.size).map fun m => xs.toList.getD (xs.size - 1 - m) .none := by
    refine fm_map _ _ _ fun m hm => ?_
    have hm := List.mem_range.mp hm
    have : (((xs.size : Int) - 1) + (m : Int) * (-1)).toNat = xs.size - 1 - m := by omega
    rw [this]
    have hlt : xs.size - 1 - m < xs.size := by omega
    simp [List.getD_eq_getElem?_getD, hlt]
  rw [e, List.getElem?_map]
  by_cases hi : i < xs.size
  · rw [List.getElem?_range hi, List.getElem?_reverse (by simpa using hi)]
    have hlt : xs.size - 1 - i < xs.size := by omega
    simp [List.getD_eq_getElem?_getD, hlt]
  · rw [List.getElem?_eq_none (by simpa using hi), List.getElem?_eq_none (by simpa using hi)]
    rfl
theorem getItem_tuple_rev {t sl : Addr} {items : Array Value} {vl vu vs : Value} {Q : Value → Shared → Prop} (ht : IsTup s.heap t items) (hs : s.heap.IsSliceOf sl vl vu vs) (pl : IsPart vl none) (pu : IsPart vu none) (ps : IsPart vs (some (-1)))
    (h : Q (.ref s.heap.objs.size) { s with heap := s.heap.push { cls := .type "tuple", data := .seq items.toList.reverse.toArray } })
    (hsz : items.size ≤ sizeLine) : wpAny (model prog w) A (getItem (.ref t) (.ref sl)) Q E s := by
  have fits : sizeOk (.seq items.toList.reverse.toArray) := by
    show items.toList.reverse.toArray.size ≤ sizeLine
    rw [List.size_toArray, List.length_reverse, Array.length_toList]
    exact hsz
  obtain ⟨os, h1, h2, h3⟩ := id hs
  have hT : s.TypeIs (.ref sl) "slice" := ⟨os, h1, h2⟩
  unfold getItem
  try with_reducible refine wpAny_holding ?_
  first | refine wpAny_bind (wpAny_pure ?_) | skip
  refine wpAny_bind (wpAny_sequenceKey ht.typeIs (by decide) ?_)
  refine wpAny_bind (wpAny_callSpecial?_slot (name := Str.ofString "__getitem__") ht.typeIs PyProof.Rows.slot_tuple_getitem
    (wpAny_call_entry PyProof.Rows.slot_tuple_getitem ht.typeIs entry_tuple_getitem ?_ (args_tuple_getitem _ _)))
  show wpAny _ _ (Builtin.Tuple.tupleItemsOf (.ref t) >>= _) _ _ s
  refine wpAny_bind (tupleItemsOf_ ht ?_)
  refine wpAny_bind (wpAny_typeOf hT ?_)
  rw [if_pos (by decide)]
  refine wpAny_bind (sliceApplied_rev hs pl pu ps ?_)
  show wpAny _ _ (if ((((items.size : Int) - 1) == 0 && (-1 : Int) == 1 && items.size == items.size) = true) then _ else _) _ _ s
  rw [if_neg (by simp), pick_rev]
  first
    | exact wpAny_bind (m := Builtin.Tuple.tupleExact _) (wpAny_newObj_type (wpAny_pure ⟨_, rfl, wpAny_pure h⟩) fits)
    | exact wpAny_bind (m := Builtin.Tuple.tupleExact _) (wpAny_newObj_type (wpAny_bind (wpAny_pure (wpAny_pure ⟨_, rfl, wpAny_pure h⟩))) fits)
    | exact wpAny_bind (wpAny_bind (m := Builtin.Tuple.tupleExact _) (wpAny_newObj_type (wpAny_pure (wpAny_pure ⟨_, rfl, wpAny_pure h⟩)) fits))
    | exact wpAny_bind (wpAny_bind (m := Builtin.Tuple.tupleExact _) (wpAny_newObj_type (wpAny_pure ⟨_, rfl, wpAny_pure h⟩) fits))
end
end HT
namespace Z
open PySem PySem.Spec PyProof.Rows L2
/-- x[::-1], a list or a tuple -/
def tRev (K : PySem.W.Frag) (te : TE) : TE := fun σ H Q => te σ H fun x H1 => ∃ a xs, x = .ref a ∧ ((SqL K H1 a xs ∧ ∀ p, H1 p = none → Q (.ref p) (upd H1 p (.lst xs.reverse))) ∨ (SqT K H1 a xs ∧ ∀ p, H1 p = none → Q (.ref p) (upd H1 p (.tup xs.reverse))))
theorem pe_rev {X : Cx} {e : Expr} {te : TE} {k : Nat} {p1 p2 p3 pos : Pos} (he : PE X e te) : PE X (.Subscript e (.Slice none none (some (.UnaryOp .USub (.Constant (.int 1) k p1) p2)) p3) pos) (tRev X.K te) := by
  constructor
  intro pins s σ H Q I h
  refine Subscript_ (thn (he.run pins s σ H _ I h) fun v t1 ⟨x, H1, I1, r1, a, xs, ex, q⟩ => ?_)
  subst ex
  cases r1
  have step : PO X (some (.UnaryOp .USub (.Constant (.int 1) k p1) p2)) (tPart (tUn (rU fun i => .int (-i)) (tC (.int 1)))) := po_some (pe_un un_neg pe_int)
  refine wpAny_Slice (thn (po_none.run pins t1 σ H1 (fun o H2 => o = none ∧ H2 = H1) I1 ⟨rfl, rfl⟩) fun vl t2 ⟨l, H2, I2, pl, el, e2⟩ => ?_)
  cases el; cases e2
  refine thn (po_none.run pins t2 σ H1 (fun o H3 => o = none ∧ H3 = H1) I2 ⟨rfl, rfl⟩) fun vu t3 ⟨u, H3, I3, pu, eu, e3⟩ => ?_
  cases eu; cases e3
  refine thn (step.run pins t3 σ H1 (fun o H4 => o = some (-1) ∧ H4 = H1) I3 ⟨1, rfl, -1, rfl, rfl, rfl⟩) fun vs t4 ⟨o, H4, I4, ps, eo, e4⟩ => ?_
  cases eo; cases e4
  have J : Inv X pins σ H1 { t4 with heap := t4.heap.push { cls := .type "slice", data := .fields #[vl, vu, vs] } } := I4.kept (t' := t4.toks) fun b ob z => Heap.get?_push_of_some _ z
  show wpAny (model X.prog X.w) X.A (subscriptTail e (.Slice none none (some (.UnaryOp .USub (.Constant (.int 1) k p1) p2)) p3) (.ref a) (.ref t4.heap.objs.size)) (EP X pins σ Q) X.xe { t4 with heap := t4.heap.push { cls := .type "slice", data := .fields #[vl, vu, vs] } }
  rcases q with ⟨hx, q⟩ | ⟨hx, q⟩
  · obtain ⟨its, r, ht, hz⟩ := J.list hx
    have hn := r.length
    refine tail_any (ops := [.ref a, .ref t4.heap.objs.size]) ht.isList.typeIs (PySem.slot_list_getitem.lookup) ?_ (by with_unfolding_all rfl)
    refine wpAny_getItem_list_slice ht.isList (Heap.IsSliceOf.new _ vl vu vs) pl pu ps (by decide) ?_ (by rw [List.size_toArray]; omega)
    rw [PySem.W.krv_pick]
    exact ⟨.ref _, _, J.laid (t' := t4.toks) (o := .lst xs.reverse) (fun b ob z => Heap.get?_push_of_some _ z) (Nat.le_refl _) ⟨by rw [List.length_reverse]; exact hz, _, 0, r.reverse, Heap.get?_push_size _ rfl⟩, rfl, q _ (J.hok.fresh (Nat.le_refl _))⟩
  · obtain ⟨its, r, ht, hz⟩ := J.tuple hx
    have hn := r.length
    refine tail_any (ops := [.ref a, .ref t4.heap.objs.size]) ht.typeIs (PyProof.Rows.slot_tuple_getitem.lookup) ?_ (by with_unfolding_all rfl)
    refine HT.getItem_tuple_rev ht (Heap.IsSliceOf.new _ vl vu vs) pl pu ps ?_ (by rw [List.size_toArray]; omega)
    exact ⟨.ref _, _, J.laid (t' := t4.toks) (o := .tup xs.reverse) (fun b ob z => Heap.get?_push_of_some _ z) (Nat.le_refl _) ⟨by rw [List.length_reverse]; exact hz, _, r.reverse, IsTup.new _ _⟩, rfl, q _ (J.hok.fresh (Nat.le_refl _))⟩
end Z

/-! ZL0: set(a list of whole numbers), as sorted(..) wants it. -/
namespace L2
open PySem PySem.Spec PyProof.Rows
section
variable {P : Program} {w : World} {A : Around} {E : Value → Shared → Prop} {s : Shared}
/-- a set that was just made -/
abbrev NewSet (w : World) : Obj := { cls := .type "set", dict := none, data := .set #[] 0 (.fresh 0 0 (!w.params.followText "set-order")) }
abbrev hpS (w : World) (s : Shared) : Heap := s.heap.push (NewSet w)
theorem set_of_list {q : Addr} {its : Array Value} (ks : List Int) {R : Value → Shared → Prop} (nh : A.handled = none) (li : s.heap.IsList q its) (ii : IntsAre its.toList ks) (few : ks.length + 1 < scanBound)
    (fin : ∀ (hp : Heap) (t c : Nat), SetR w hp s.heap.objs.size (fun j => decide (j ∈ ks)) c → c ≤ ks.length → (∀ b o, s.heap.get? b = some o → hp.get? b = some o) → R (.ref s.heap.objs.size) { s with heap := hp, toks := t }) :
    wpAny (model P w) A (call (.type "set") [.ref q]) R E s := by
  have zs : its.size = ks.length := by have := IntsAre.length ii; rwa [Array.length_toList] at this
  obtain ⟨c0, t0, mro⟩ := F.called_set.mro
  have made := F.called_set.made; have isSub := F.called_set.sub
  refine wpAny_call (codeAny_of_tree ?_); show wpAny _ _ (callAny (.type "set") _) _ _ _
  refine wpAny_pure ⟨Code.quiet_builtin _ (by decide +kernel), codeAny_builtin F.entry_type_call (by
    rw [Around.under_plain (weight_type_call_type "set" [.ref q] []) rfl]
    have nt := F.called_set.notType; have cc := F.called_set.canCreate; have tc := F.typeCall_set_1 (.ref q)
    (repeat (any_goals (first | assumption | wp_step)))
    refine codeAny_mono (code_set_led1 (.ref q) (E := E) (Q₁ := fun ob s1 => ob = .ref s.heap.objs.size ∧ s1 = { s with heap := hpS w s }) ⟨rfl, rfl⟩) fun r s1 hr => ?_
    match r, hr with
    | .error e, hr => exact hr
    | .ok (.ret ob), hr =>
      obtain ⟨rfl, rfl⟩ := hr
      have gS : (hpS w s).get? s.heap.objs.size = some (NewSet w) := Heap.get?_push_size _ rfl
      have tyS : Shared.TypeIs { s with heap := hpS w s } (.ref s.heap.objs.size) "set" := ⟨_, gS, rfl⟩
      have il := F.called_set.init.lookup; have ib := F.called_set.init.bind (.ref s.heap.objs.size)
      (repeat (any_goals (first | assumption | wp_step)))
      refine codeAny_mono (codeAny_call_builtin (R := wants (fun r s2 => r = .none ∧ ∃ hp t c, s2 = { s with heap := hp, toks := t } ∧ SetR w hp s.heap.objs.size (fun j => decide (j ∈ ks)) c ∧ c ≤ ks.length ∧ ∀ b o, s.heap.get? b = some o → hp.get? b = some o) E) F.called_set.init.plain F.entry_set_init (check_set_init_1 tyS ?_)) fun r2 s2 hr2 => ?_
      · obtain ⟨⟨oc, od, oda, osl⟩, go, lc, nl, ld⟩ := li
        simp only at lc ld; subst lc; subst ld
        have go' : (hpS w s).get? q = some { cls := .type "list", dict := od, data := .seq its nl, slots := osl } := Heap.get?_push_of_some _ go
        have s1 := F.sub_list_set; have s2 := F.sub_list_frozenset
        have nd : (Value.type "list" == Value.type "dict") = false := by decide
        have li1 : (hpS w s).IsList q its := ⟨_, go', rfl, nl, rfl⟩
        unfold Builtin.«set.__init__» noKeywords Builtin.Frozenset.updateFrom; generalize hPI : pyIter = PI; wp_walk; subst hPI
        refine wpAny_pyIter_list li1 (wpAny_bind (wpAny_runValue ?_))
        have ql : q < s.heap.objs.size := Heap.lt_size go
        have nh3 : A.in1.in1.in1.handled = none := by simp [nh]
        have zp : (hpS w s).objs.size = s.heap.objs.size + 1 := Heap.size_push ..
        have nq : q ≠ (hpS w s).objs.size := by rw [zp]; exact Nat.ne_of_lt (Nat.lt_succ_of_lt ql)
        have nS : s.heap.objs.size ∉ [(hpS w s).objs.size, q] := by rw [zp]; simp only [List.mem_cons, List.not_mem_nil, or_false, not_or]; exact ⟨Nat.ne_of_lt (Nat.lt_succ_self _), Nat.ne_of_gt ql⟩
        have vals : ∀ (i : Nat) (v : Value), its[i]? = some v → ∃ k t, ks[i]? = some k ∧ v = .int k t := fun i v hv => by
          have hi : i < ks.length := by rw [← zs]; exact (Array.getElem?_eq_some_iff.mp hv).1
          obtain ⟨t, e⟩ := PyProof.Rows.IntsAre.int_at ii i v (by rw [Array.getElem?_toList]; exact hv)
          refine ⟨ks[i], t, List.getElem?_eq_getElem hi, e.trans ?_⟩
          rw [List.getD_eq_getElem?_getD, List.getElem?_eq_getElem hi]; rfl
        refine set_update_ints ((Walks.list nh3 _ q nq its).toS) s.heap.objs.size nS ks zs few vals (its.size - 0) 0 _ (by omega) (Nat.zero_le _) ⟨⟨_, Heap.get?_push_size _ rfl, rfl, rfl⟩, (li1.push _)⟩ ⟨0, Nat.le_refl 0, setR_new_at (Heap.get?_push_of_some _ gS)⟩ ?_
        intro s' c' mv hc' hS'
        obtain ⟨hp', g2, d2, t2, o2⟩ := s'
        have e1 : g2 = s.gens := mv.gens
        have e2 : d2 = s.drawn := mv.drawn
        have e3 : o2 = s.os := mv.os
        subst e1; subst e2; subst e3
        show wpAny _ _ _ _ _ _; refine wpAny_pure ?_; show wpAny _ _ (ret Value.none) _ _ _
        rw [zs] at hc'
        refine wpAny_pure ⟨rfl, hp', t2, c', rfl, hS', hc', fun b o e => ?_⟩
        have b0 : b < s.heap.objs.size := Heap.lt_size e
        exact mv.heap b o (by simp only [List.mem_cons, List.not_mem_nil, or_false, not_or]; exact ⟨Nat.ne_of_lt b0, fun h => absurd b0 (by rw [h, zp]; exact Nat.not_lt.mpr (Nat.le_succ _))⟩) (Heap.get?_push_of_some _ (Heap.get?_push_of_some _ e))
      · match r2, hr2 with
        | .error e, hr2 => exact hr2
        | .ok (.ret r), hr2 =>
          obtain ⟨rfl, hp', t', c', rfl, hS', hc', hk'⟩ := hr2
          (repeat (any_goals (first | assumption | wp_step)))
          exact fin _ _ _ hS' hc' hk'
        | .ok .next, hr2 => exact hr2.elim
        | .ok .brk, hr2 => exact hr2.elim
        | .ok .cont, hr2 => exact hr2.elim
    | .ok .next, hr => exact hr.elim
    | .ok .brk, hr => exact hr.elim
    | .ok .cont, hr => exact hr.elim)⟩
end
section
variable {X : Cx}
/-- set(xs), xs a list of whole numbers -/
def rSetLI (K : PySem.W.Frag) (w : World) : List V → Hp → VK → Prop := fun xs H Q => ∃ (l : Addr) (ks : List Int), xs = [V.ref l] ∧ SqL K H l (ks.map V.int) ∧ ks.length + 1 < scanBound ∧
  ∀ a c, H a = none → c ≤ ks.length → Q (.ref a) (upd H a (SetO w a (fun j => decide (j ∈ ks)) c))
theorem cr_setL (hc : X.calm = true) : CallR X (.type "set") (rSetLI X.K X.w) := by
  intro pins s σ H xs us Q I r h
  obtain ⟨l, ks, rfl, hl, hf, q⟩ := h
  rw [Vals.ref1 r]
  obtain ⟨its, rv, pl, hz⟩ := I.list hl
  refine set_of_list (P := X.prog) (w := X.w) ks (I.ok.hd hc) pl.isList (by simpa using ints_of_vals rv) hf fun hp t c R hcl k => ?_
  exact ⟨.ref s.heap.objs.size, upd H s.heap.objs.size (SetO X.w s.heap.objs.size (fun j => decide (j ∈ ks)) c), I.laid (t' := t) k (Nat.le_refl _) (setO_new R), rfl, q _ c (I.hok.fresh (Nat.le_refl _)) hcl⟩
end
end L2

/-! ZO: operations of forms of their own. -/
namespace Z
open PySem PySem.Spec PyProof.Rows L2
variable [TabC]
section
variable {P : Program} {w : World} {K : PySem.W.Frag} {mg : Str → Option Value} {base : Heap} {gi : GI} {G : Tab} {n : Nat} {S : SX} {W : WX} {X : Cx}
/-- parts that are evaluated as by ev -/
def PEL (K : PySem.W.Frag) (mg : Str → Option Value) (G : Tab) (n : Nat) (W : WX) (X : Cx) : List Expr → Es → Prop
  | [], .nil => True
  | x :: xs, .cons e es => plainX x = true ∧ VE K mg G n W X x e ∧ PEL K mg G n W X xs es
  | _, _ => False
theorem opF_inv {o : Op} {b : Bool} {ds : List D} {m : Mem} {σ : L2.St} {r : List Addr} {H : Hp} {vs : List V} {Q : VK} (R : Rel r H m) (rs : RepDs K mg r H ds vs) (h : OkR mg W σ r H (opF o b ds m) (PV K mg Q)) :
    ∃ ys z, Paired (RepA r H) ys vs ∧ opP o ys = some z ∧ OkR mg W σ r H (mk b z m) (PV K mg Q) := by
  unfold opF at h
  cases q : snaps m ds with
  | none => simp only [q] at h; exact h.elim
  | some ys =>
    simp only [q] at h
    cases q2 : opP o ys with
    | none => simp only [q2] at h; exact h.elim
    | some z =>
      simp only [q2] at h
      exact ⟨ys, z, RepDs.snaps R rs q, q2, h⟩
/-- a value that is no list -/
theorem mk_val {b : Bool} {z : PyData} {m : Mem} {σ : L2.St} {r : List Addr} {H : Hp} {v : V} {Q : VK} (R : Rel r H m) (hz : ∀ l, z ≠ .list l) (h : OkR mg W σ r H (mk b z m) (PV K mg Q)) (rv : RepB r H z v) : Q v H := by
  cases b with
  | false => exact h r H (.refl _ _) R v rv
  | true =>
    cases z with
    | list l => exact absurd rfl (hz l)
    | _ => exact (show False from h).elim
omit [TabC] in
theorem evs_one {e : E} {β : Type} {δ : Env} {m : Mem} (f : List D → Mem → R β) : (evs (run G n) (.cons e .nil) δ m).bind f = (ev (run G n) e δ m).bind fun x m => f [x] m := by
  rw [evs_cons, bindA]
  congr 1
omit [TabC] in
theorem evs_two {e e2 : E} {β : Type} {δ : Env} {m : Mem} (f : List D → Mem → R β) : (evs (run G n) (.cons e (.cons e2 .nil)) δ m).bind f = (ev (run G n) e δ m).bind fun x m => (ev (run G n) e2 δ m).bind fun y m => f [x, y] m := by
  rw [evs_cons, bindA]
  congr 1; funext x m
  rw [evs_cons, bindA, bindA]
  congr 1
omit [TabC] in
theorem opP_cat {ys : List PyData} {z : PyData} (h : opP .cat ys = some z) : ∃ a c, ys = [.list a, .list c] ∧ a.length + c.length ≤ lim ∧ z = .list (a ++ c) := by
  match ys, h with
  | [.list a, .list c], h =>
    have h : (if a.length + c.length ≤ lim then some (PyData.list (a ++ c)) else Option.none) = some z := h
    split at h
    · rename_i hl; exact ⟨a, c, rfl, hl, (Option.some.inj h).symm⟩
    · cases h
omit [TabC] in
theorem opP_rep {ys : List PyData} {z : PyData} (h : opP .rep ys = some z) : ∃ a k, ys = [.list a, .int k] ∧ (0 ≤ k ∧ k ≤ 1000 ∧ a.length ≤ 1000) ∧ z = .list (List.replicate k.toNat a).flatten := by
  match ys, h with
  | [.list a, .int k], h =>
    have h : (if 0 ≤ k ∧ k ≤ 1000 ∧ a.length ≤ 1000 then some (PyData.list (List.replicate k.toNat a).flatten) else Option.none) = some z := h
    split at h
    · rename_i hl; exact ⟨a, k, rfl, hl, (Option.some.inj h).symm⟩
    · cases h
theorem c_cat {a c : Expr} {ta tc : E} {b : Bool} {pos : Pos} (ha : PE X a (TX K mg (run G n) W ta)) (hb : PE X c (TX K mg (run G n) W tc)) : PE X (.BinOp a .Add c pos) (TX K mg (run G n) W (.op .cat b (.cons ta (.cons tc .nil)))) := by
  refine pe_w (pe_op op_cat ha hb) fun σ H Q ⟨r, δ, m, R, Sl, q⟩ => ?_
  rw [ev, evs_two] at q
  refine TX.two R Sl q fun x y v u r2 H2 m2 e2 R2 S2 rx ry q => ?_
  obtain ⟨ys, z, h1, h2, h3⟩ := opF_inv R2 (.cons rx (.cons ry .nil)) q
  obtain ⟨xs, zs, rfl, hl, rfl⟩ := opP_cat h2
  cases h1 with
  | cons k1 h1 =>
    cases h1 with
    | cons k2 h1 =>
      obtain ⟨p1, vs, rfl, g1, g2⟩ := k1
      obtain ⟨p2, ws, rfl, g3, g4⟩ := k2
      exact ⟨p1, p2, vs, ws, rfl, rfl, g1, g3, by rw [← lim_eq, ← repBs_length g2, ← repBs_length g4]; exact hl, mk_new R2 (RepBs.pair.mpr (pr_append (RepBs.pair.mp g2) (RepBs.pair.mp g4))) h3⟩
theorem c_rep {a c : Expr} {ta tc : E} {b : Bool} {pos : Pos} (ha : PE X a (TX K mg (run G n) W ta)) (hb : PE X c (TX K mg (run G n) W tc)) : PE X (.BinOp a .Mult c pos) (TX K mg (run G n) W (.op .rep b (.cons ta (.cons tc .nil)))) := by
  refine pe_w (pe_op op_rep ha hb) fun σ H Q ⟨r, δ, m, R, Sl, q⟩ => ?_
  rw [ev, evs_two] at q
  refine TX.two R Sl q fun x y v u r2 H2 m2 e2 R2 S2 rx ry q => ?_
  obtain ⟨ys, z, h1, h2, h3⟩ := opF_inv R2 (.cons rx (.cons ry .nil)) q
  obtain ⟨xs, k, rfl, hl, rfl⟩ := opP_rep h2
  cases h1 with
  | cons k1 h1 =>
    cases h1 with
    | cons k2 h1 =>
      obtain ⟨p1, vs, rfl, g1, g2⟩ := k1
      have k2 : u = .int k := k2
      refine ⟨p1, k, vs, rfl, k2, g1, by omega, by omega, ?_, mk_new R2 (RepBs.pair.mpr (pr_rep _ (RepBs.pair.mp g2))) h3⟩
      rw [← repBs_length g2, sizeLine_eq]
      exact Nat.le_trans (Nat.mul_le_mul hl.2.2 (show k.toNat ≤ 1000 by omega)) (by decide)
omit [TabC] in
theorem shaped_of {d : PyData} (h : d.canLay0 = true) (h2 : d.depth ≤ 64) : SeqAt.shaped d = true := by
  unfold SeqAt.shaped; rw [h, decide_eq_true h2]; rfl
theorem units_ok (ok : XOk P w K mg base gi G n S W X) : X.A.units + 70 < cLine := by have := ok.room.un; omega
theorem c_repr {y : Expr} {t : E} {b : Bool} {p pos : Pos} (ok : XOk P w K mg base gi G n S W X) (hg : S.gl "repr" = true) (hp : plainX y = true) (ha : PE X y (TX K mg (run G n) W t)) : PE X (.Call (.Name "repr" p) [y] [] pos) (TX K mg (run G n) W (.op .repr b (.cons t .nil))) := by
  obtain ⟨g1, g2⟩ := gl_of ok hg
  obtain ⟨d1, d2, d3⟩ := okNm_of g2
  refine pe_w (pe_callB (call_repr ok.gd (units_ok ok)) g1 (blt_of ok (by decide)) (by decide +kernel) (pa_cons ha pa_nil (star_of hp)) d3 d1 (star_of hp) (by rfl)) fun σ H Q ⟨r, δ, m, R, Sl, q⟩ => ?_
  rw [ev, evs_one] at q
  refine TX.one R Sl q fun d v r1 H1 m1 e1 R1 S1 rv q => ?_
  obtain ⟨ys, z, h1, h2, h3⟩ := opF_inv R1 (.cons rv .nil) q
  cases h1 with
  | @cons a _ _ _ ra rn =>
    cases rn
    unfold opP at h2
    simp only at h2
    split at h2
    · rename_i hc
      simp only [Bool.and_eq_true, decide_eq_true_eq] at hc
      cases h2
      refine ⟨v, a, rfl, by rw [ok.eK]; exact RepA.dp hc.1.1.2 ra, hc.1.1.1, PyData.hasDict_of_canLay _ hc.1.1.2, hc.1.2, by rw [← lim_eq]; exact hc.2, ?_⟩
      exact mk_val R1 (fun l e => by cases e) h3 (by rw [RepB])
    · cases h2
omit [TabC] in
theorem opP_idx {ys : List PyData} {z : PyData} (h : opP .idx ys = some z) : ∃ ds d j, ys = [.list ds, d] ∧ (PyData.canLayAll0 ds && d.canLay0 && decide (PyData.depthAll ds ≤ 63) && decide (d.depth ≤ 64)) = true ∧ (ds.findIdx? fun z => PyData.eqv z d) = some j ∧ z = .int (j : Nat) := by
  match ys, h with
  | [.list ds, d], h =>
    have h : (if PyData.canLayAll0 ds && d.canLay0 && decide (PyData.depthAll ds ≤ 63) && decide (d.depth ≤ 64) then (ds.findIdx? fun z => PyData.eqv z d).map fun j => PyData.int (j : Nat) else Option.none) = some z := h
    split at h
    · rename_i hc
      cases hj : (ds.findIdx? fun z => PyData.eqv z d) with
      | none => rw [hj] at h; cases h
      | some j => rw [hj] at h; exact ⟨ds, d, j, rfl, hc, hj, (Option.some.inj h).symm⟩
    · cases h
omit [TabC] in
theorem idx_first {ds : List PyData} {d : PyData} {j : Nat} (h : (ds.findIdx? fun z => PyData.eqv z d) = some j) : ∃ z, ds[j]? = some z ∧ PyData.eqv z d = true ∧ ∀ (m : Nat) (z' : PyData), m < j → ds[m]? = some z' → PyData.eqv z' d = false := by
  obtain ⟨hl, h1, h2⟩ := List.findIdx?_eq_some_iff_getElem.mp h
  refine ⟨ds[j], List.getElem?_eq_getElem hl, h1, fun m z' hm hz => ?_⟩
  obtain ⟨hml, rfl⟩ := List.getElem?_eq_some_iff.mp hz
  have := h2 m hm
  simpa using this
theorem isL_ty {d : D} {m : Mem} {r : List Addr} {H : Hp} {v : V} (R : Rel r H m) (rv : RepD K mg r H d v) (h : isL d = true) : ∃ a xs, v = .ref a ∧ SqL K H a xs := by
  unfold isL at h
  split at h
  · rename_i l
    have rv : RepB r H (.list l) v := rv
    rw [RepB] at rv
    obtain ⟨a, vs, rfl, h1, _⟩ := rv
    exact ⟨a, vs, rfl, .of h1⟩
  · rename_i k
    obtain ⟨a, h1, rfl⟩ := rv
    obtain ⟨vs, h2⟩ := R.obj (List.mem_of_getElem? h1)
    exact ⟨a, vs, rfl, .of h2⟩
  · cases h
theorem c_idx {a x : Expr} {ta tx : E} {apos cpos : Pos} (ok : XOk P w K mg base gi G n S W X) (hb : notCall a = true) (hl : (apos.endLine == cpos.line) = true) (hp : plainX x = true) (ha : PE X a (TX K mg (run G n) W ta)) (hx : PE X x (TX K mg (run G n) W tx)) :
    PE X (.Call (.Attribute a "index" apos) [x] [] cpos) (TX K mg (run G n) W (.idx ta tx)) := by
  have few : ((backTo cpos (starEach [x] X.env)).all (fun x => !x.1) && (backToKw cpos (keywordEach [] X.env)).all (fun x => x.1.isSome) && decide ([x].length + ([] : List Keyword).length + (if ([] : List Keyword).isEmpty then 0 else 1) < 30)) = true := by
    have s : starEach [x] X.env = [(false, eval x X.env)] := star_of hp
    rw [s]; rfl
  have rule := pe_bm (o := a) (apos := apos) (cpos := cpos) PySem.F.plainAttrs_list PySem.F.slot_list_index PySem.F.type_list_index (mt_indexD (X := X) (by have := units_ok ok; omega)) ha (pa_cons hx pa_nil (star_of hp)) (base_of hb) few hl (star_of hp) (plain_all (l := []) (by simp))
  refine pe_w rule fun σ H Q ⟨r, δ, m, R, Sl, q⟩ => ?_
  rw [ev] at q
  refine TX.one R Sl q fun d v r1 H1 m1 e1 R1 S1 rv q => ?_
  by_cases hd : isL d = true
  case neg => rw [if_neg hd] at q; exact q.elim
  rw [if_pos hd] at q
  obtain ⟨p, xs, rfl, sq⟩ := isL_ty R1 rv hd
  refine ⟨Or.inl ⟨rfl, _, by rw [ok.eK]; exact sq⟩, ?_⟩
  refine TX.one R1 S1 q fun y u r2 H2 m2 e2 R2 S2 ry q => ?_
  obtain ⟨ys, z, h1, h2, h3⟩ := opF_inv R2 (.cons (rv.ext e2) (.cons ry .nil)) q
  obtain ⟨ds, d', j, rfl, hc, hj, rfl⟩ := opP_idx h2
  simp only [Bool.and_eq_true, decide_eq_true_eq] at hc
  obtain ⟨z', k1, k2, k3⟩ := idx_first hj
  cases h1 with
  | cons r1' rn =>
    cases rn with
    | cons r2' rn =>
      refine ⟨p, u, d', ds, j, z', rfl, rfl, by rw [ok.eK]; exact RepA.dp (by rw [PyData.canLay0]; exact hc.1.1.1) r1', by rw [ok.eK]; exact RepA.dp hc.1.1.2 r2', shaped_of (by rw [PyData.canLay0]; exact hc.1.1.1) (by rw [depth_list]; omega), shaped_of hc.1.1.2 hc.2, k1, k2, k3, ?_⟩
      exact mk_val R2 (fun l e => by cases e) h3 (by rw [RepB])
omit [TabC] in
theorem dictKs_len : ∀ {ks : List (Option Expr)} {vs : List Expr} {kvs : List (Int × Int)}, dictKs ks vs = some kvs → ks.length = vs.length ∧ ks.all (·.isSome) = true ∧ kvs.length = ks.length
  | [], [], kvs, h => by cases h; exact ⟨rfl, rfl, rfl⟩
  | some (.Constant (.int k) a b) :: ks, .Constant (.int v) c d :: vs, kvs, h => by
    rw [dictKs] at h
    cases q : dictKs ks vs with
    | none => rw [q] at h; cases h
    | some l =>
      rw [q] at h
      cases h
      obtain ⟨h1, h2, h3⟩ := dictKs_len q
      exact ⟨by rw [List.length_cons, List.length_cons, h1], by rw [List.all_cons, h2]; rfl, by rw [List.length_cons, List.length_cons, h3]⟩
omit [TabC] in
theorem pps_const {pos : Pos} : ∀ {ks : List (Option Expr)} {vs : List Expr} {kvs : List (Int × Int)}, dictKs ks vs = some kvs → PPs X pos ks vs (kvs.map fun p => (tC (.int p.1), tC (.int p.2)))
  | [], [], kvs, h => by cases h; exact pps_nil
  | some (.Constant (.int k) a b) :: ks, .Constant (.int v) c d :: vs, kvs, h => by
    rw [dictKs] at h
    cases q : dictKs ks vs with
    | none => rw [q] at h; cases h
    | some l =>
      rw [q] at h
      cases h
      exact pps_cons pe_int pe_int (pps_const q)
omit [TabC] in
theorem pairs_const {σ : L2.St} {H : Hp} : ∀ (kvs : List (Int × Int)) {Q : List (V × V) → Hp → Prop}, Q (kvs.map fun p => (.int p.1, .int p.2)) H → tPairs (kvs.map fun p => (tC (V.int p.1), tC (V.int p.2))) σ H Q
  | [], _, h => h
  | p :: kvs, Q, h => pairs_const kvs (Q := fun ps H => Q ((.int p.1, .int p.2) :: ps) H) h
omit [TabC] in
theorem upd_upd {H : Hp} {p : Addr} {a b : HO} : upd (upd H p a) p b = upd H p b := by
  funext c
  by_cases h : c = p
  · subst h; rw [upd_same, upd_same]
  · rw [upd_ne h, upd_ne h, upd_ne h]
theorem c_dic {ks : List (Option Expr)} {vs : List Expr} {kvs : List (Int × Int)} {pos : Pos} (h : dictKs ks vs = some kvs) (h15 : ks.length ≤ 15) : PE X (.Dict ks vs pos) (TX K mg (run G n) W (.dic kvs)) := by
  obtain ⟨h1, h2, h3⟩ := dictKs_len h
  have fin : ∀ {r : List Addr} {H : Hp} {m : Mem} {σ : L2.St} {Q : VK} (u : List (Key × V)), Rel r H m → OkR mg W σ r H (.ok (.b (.dict (kvs.map fun p => (.int p.1, .int p.2)))) m) (PV K mg Q) → ∀ p, H p = none → Q (.ref p) (upd H p (.dK u)) := fun {r H m σ Q} u R q p hp =>
    q r _ (.new hp) (R.new hp) (.ref p) (by show RepB _ _ _ _; rw [RepB]; exact ⟨p, u, rfl, upd_same, R.notin hp⟩)
  by_cases h0 : ks = []
  · subst h0
    have : vs = [] := List.length_eq_zero_iff.mp h1.symm
    subst this
    refine pe_w pe_dnewK fun σ H Q ⟨r, δ, m, R, Sl, q⟩ p hp => ?_
    rw [ev] at q
    exact fin [] R q p hp
  · refine pe_w (pe_disp (pps_const h) h2 h1 h0 h15) fun σ H Q ⟨r, δ, m, R, Sl, q⟩ p hp => ?_
    rw [ev] at q
    refine pairs_const kvs ⟨upd_same, kvs.map fun p => ((Sum.inl p.1 : Key), V.int p.2), by rw [List.map_map]; rfl, by rw [List.length_map, h3]; exact h15, ?_⟩
    rw [upd_upd]
    exact fin _ R q p hp
omit [TabC] in
theorem opP_dget {kvs : List (Int × Int)} {ys : List PyData} {z : PyData} (h : opP (.dget kvs) ys = some z) : ∃ i v, ys = [.int i] ∧ z = .int v ∧ valV (mergeK [] (kvs.map fun p => ((Sum.inl p.1 : Key), V.int p.2))) (Sum.inl i) = some (.int v) := by
  match ys, h with
  | [.int i], h =>
    have h : (match valV (mergeK [] (kvs.map fun p => ((Sum.inl p.1 : Key), V.int p.2))) (Sum.inl i) with
      | some (.int v) => some (PyData.int v)
      | _ => Option.none) = some z := h
    split at h
    · rename_i v e; exact ⟨i, v, rfl, (Option.some.inj h).symm, e⟩
    · cases h
theorem c_dget {ks : List (Option Expr)} {vs : List Expr} {kvs : List (Int × Int)} {i : Expr} {ti : E} {b : Bool} {pos dpos : Pos} (ok : XOk P w K mg base gi G n S W X) (h : dictKs ks vs = some kvs) (h15 : ks.length ≤ 15) (h0 : ks ≠ []) (hp : plainX i = true) (hi : PE X i (TX K mg (run G n) W ti)) :
    PE X (.Subscript (.Dict ks vs dpos) i pos) (TX K mg (run G n) W (.op (.dget kvs) b (.cons ti .nil))) := by
  obtain ⟨h1, h2, h3⟩ := dictKs_len h
  refine pe_w (pe_dget (by have := units_ok ok; omega) (pe_disp (pps_const h) h2 h1 h0 h15) hi (ix_of hp)) fun σ H Q ⟨r, δ, m, R, Sl, q⟩ => ?_
  rw [ev, evs_one] at q
  intro p hp'
  refine pairs_const kvs ⟨upd_same, kvs.map fun p => ((Sum.inl p.1 : Key), V.int p.2), by rw [List.map_map]; rfl, by rw [List.length_map, h3]; exact h15, ?_⟩
  rw [upd_upd]
  have e1 : Ext r H r (upd H p (.dK (mergeK [] (kvs.map fun p => ((Sum.inl p.1 : Key), V.int p.2))))) := .new hp'
  have R1 : Rel r (upd H p (.dK (mergeK [] (kvs.map fun p => ((Sum.inl p.1 : Key), V.int p.2))))) m := R.new hp'
  refine TX.one R1 (Sl.ext e1) (q.ext e1) fun d v r2 H2 m2 e2 R2 S2 rv q => ?_
  obtain ⟨ys, z, k1, k2, k3⟩ := opF_inv R2 (.cons rv .nil) q
  obtain ⟨j, u, rfl, rfl, hv⟩ := opP_dget k2
  cases k1 with
  | cons ra rn =>
    have ra : v = .int j := ra
    subst ra
    refine ⟨p, .int u, rfl, ?_, mk_val R2 (fun l e => by cases e) k3 (by rw [RepB])⟩
    rw [← hv]
    exact DGet.k (k := Sum.inl j) (e2.keep p _ upd_same (R.notin hp') fun q e => by cases e)
omit [TabC] in
theorem opP_rev {ys : List PyData} {z : PyData} (h : opP .rev ys = some z) : (∃ a, ys = [.list a] ∧ z = .list a.reverse) ∨ ∃ a, ys = [.tuple a] ∧ z = .tuple a.reverse := by
  match ys, h with
  | [.list a], h => exact .inl ⟨a, rfl, (Option.some.inj h).symm⟩
  | [.tuple a], h => exact .inr ⟨a, rfl, (Option.some.inj h).symm⟩
omit [TabC] in
theorem pr_rev {α β : Type} {F : α → β → Prop} : ∀ {xs : List α} {vs : List β}, Paired F xs vs → Paired F xs.reverse vs.reverse
  | _, _, .nil => .nil
  | _, _, .cons a b => by rw [List.reverse_cons, List.reverse_cons]; exact pr_append (pr_rev b) (.cons a .nil)
theorem c_rev {a m1 : Expr} {ta : E} {b : Bool} {p3 pos : Pos} (ok : XOk P w K mg base gi G n S W X) (h : isM1 m1 = true) (ha : PE X a (TX K mg (run G n) W ta)) : PE X (.Subscript a (.Slice none none (some m1) p3) pos) (TX K mg (run G n) W (.op .rev b (.cons ta .nil))) := by
  unfold isM1 at h
  split at h
  · refine pe_w (pe_rev ha) fun σ H Q ⟨r, δ, m, R, Sl, q⟩ => ?_
    rw [ev, evs_one] at q
    refine TX.one R Sl q fun d v r1 H1 m1 e1 R1 S1 rv q => ?_
    obtain ⟨ys, z, k1, k2, k3⟩ := opF_inv R1 (.cons rv .nil) q
    rcases opP_rev k2 with ⟨l, rfl, rfl⟩ | ⟨l, rfl, rfl⟩
    · cases k1 with
      | cons ra rn =>
        obtain ⟨p, vs, rfl, g1, g2⟩ := ra
        exact ⟨p, vs, rfl, .inl ⟨.of g1, mk_new R1 (RepBs.pair.mpr (pr_rev (RepBs.pair.mp g2))) k3⟩⟩
    · cases k1 with
      | cons ra rn =>
        have ra : RepB r1 H1 (.tuple l) v := ra
        rw [RepB] at ra
        obtain ⟨p, vs, rfl, g1, g2⟩ := ra
        refine ⟨p, vs, rfl, .inr ⟨.of g1, ?_⟩⟩
        cases b with
        | true => exact (show False from k3).elim
        | false => exact newTup R1 (RepBs.pair.mpr (pr_rev (RepBs.pair.mp g2))) fun r' H' v e R' hv => k3 r' H' e R' v hv
  · cases h
/-! texts, dicts of the module -/
omit [TabC] in
theorem opP_kdx {d : Str} {tab : List (Str × Str)} {ys : List PyData} {z : PyData} (h : opP (.kdx d tab) ys = some z) : ∃ x y, ys = [.str x] ∧ tab.lookup x = some y ∧ z = .str y := by
  match ys, h with
  | [.str x], h =>
    have h : (match tab.lookup x with
      | some y => some (PyData.str y)
      | Option.none => Option.none) = some z := h
    split at h
    · rename_i y hy
      exact ⟨x, y, rfl, hy, (Option.some.inj h).symm⟩
    · cases h
omit [TabC] in
theorem opP_kdi {neg : Bool} {d : Str} {tab : List (Str × Str)} {ys : List PyData} {z : PyData} (h : opP (.kdi neg d tab) ys = some z) : ∃ x, ys = [.str x] ∧ z = .bool (if neg = true then !(tab.lookup x).isSome else (tab.lookup x).isSome) := by
  match ys, h with
  | [.str x], h => exact ⟨x, rfl, (Option.some.inj h).symm⟩
omit [TabC] in
theorem opP_join {ys : List PyData} {z : PyData} (h : opP .join ys = some z) : ∃ a xs ts, ys = [.str a, .list xs] ∧ strsOf xs = some ts ∧ (ts.map (·.length)).sum + ts.length * a.length ≤ lim ∧ z = .str (Txt.join a ts) := by
  match ys, h with
  | [.str a, .list xs], h =>
    have h : (match strsOf xs with
      | some ys => if (ys.map (·.length)).sum + ys.length * a.length ≤ lim then some (PyData.str (Txt.join a ys)) else Option.none
      | Option.none => Option.none) = some z := h
    split at h
    · rename_i ts hts
      split at h
      · rename_i hl
        exact ⟨a, xs, ts, rfl, hts, hl, (Option.some.inj h).symm⟩
      · cases h
    · cases h
omit [TabC] in
theorem opP_split {ys : List PyData} {z : PyData} (h : opP .split ys = some z) : ∃ a b, ys = [.str a, .str b] ∧ ((b.length == 0) = false ∧ a.length + 2 ≤ lim) ∧ z = .list ((Txt.split a b).map .str) := by
  match ys, h with
  | [.str a, .str b], h =>
    have h : (if (b.length == 0) = false ∧ a.length + 2 ≤ lim then some (PyData.list ((Txt.split a b).map .str)) else Option.none) = some z := h
    split at h
    · rename_i hl
      exact ⟨a, b, rfl, hl, (Option.some.inj h).symm⟩
    · cases h
omit [TabC] in
theorem opP_intS {ys : List PyData} {z : PyData} (h : opP .intS ys = some z) : ∃ a i, ys = [.str a] ∧ a.length ≤ 640 ∧ PySem.intText? a = some i ∧ z = .int i := by
  match ys, h with
  | [.str a], h =>
    have h : (if a.length ≤ 640 then (PySem.intText? a).map PyData.int else Option.none) = some z := h
    split at h
    · rename_i hl
      cases q : PySem.intText? a with
      | none => rw [q] at h; cases h
      | some i => rw [q] at h; exact ⟨a, i, rfl, hl, q, (Option.some.inj h).symm⟩
    · cases h
omit [TabC] in
theorem opP_idxS {ys : List PyData} {z : PyData} (h : opP .idxS ys = some z) : ∃ a b i r, ys = [.str a, .str b] ∧ Builtin.Str.occurrences a b 0 a.length 1 = i :: r ∧ z = .int (i : Nat) := by
  match ys, h with
  | [.str a, .str b], h =>
    have h : (match Builtin.Str.occurrences a b 0 a.length 1 with
      | i :: _ => some (PyData.int (i : Nat))
      | [] => Option.none) = some z := h
    split at h
    · rename_i i r hi
      exact ⟨a, b, i, r, rfl, hi, (Option.some.inj h).symm⟩
    · cases h
omit [TabC] in
theorem strs_rep {r : List Addr} {H : Hp} : ∀ {xs : List PyData} {ts : List Str} {vs : List V}, strsOf xs = some ts → RepBs r H xs vs → vs = ts.map V.str
  | [], ts, vs, e, h => by
    rw [RepBs] at h
    cases e
    subst h
    rfl
  | .str x :: xs, ts, vs, e, h => by
    rw [RepBs] at h
    obtain ⟨v, ws, rfl, h1, h2⟩ := h
    rw [strsOf] at e
    cases q : strsOf xs with
    | none => rw [q] at e; cases e
    | some t =>
      rw [q] at e
      cases e
      have h1 : v = .str x := h1
      rw [h1, strs_rep q h2]
      rfl
  | .none :: _, _, _, e, _ => by cases e
  | .bool _ :: _, _, _, e, _ => by cases e
  | .int _ :: _, _, _, e, _ => by cases e
  | .list _ :: _, _, _, e, _ => by cases e
  | .tuple _ :: _, _, _, e, _ => by cases e
  | .dict _ :: _, _, _, e, _ => by cases e
omit [TabC] in
theorem repBs_strs {r : List Addr} {H : Hp} : ∀ (ts : List Str), RepBs r H (ts.map .str) (ts.map V.str)
  | [] => by rw [List.map_nil, List.map_nil, RepBs]
  | t :: ts => by
    rw [List.map_cons, List.map_cons, RepBs]
    exact ⟨_, _, rfl, rfl, repBs_strs ts⟩
theorem c_kdx {d : Str} {tab : List (Str × Str)} {i : Expr} {ti : E} {b : Bool} {p pos : Pos} (ok : XOk P w K mg base gi G n S W X) (hg : S.gl d = true) (ht : gi.dcts.lookup d = some tab) (hp : plainX i = true) (hi : PE X i (TX K mg (run G n) W ti)) :
    PE X (.Subscript (.Name d p) i pos) (TX K mg (run G n) W (.op (.kdx d tab) b (.cons ti .nil))) := by
  obtain ⟨g1, g2⟩ := gl_of ok hg
  obtain ⟨d1, d2, d3⟩ := okNm_of g2
  obtain ⟨a, es, nn, hm, D, hz⟩ := ok.gok.dcts d tab ht
  have hr : IxR X (rIxD X.K X.w) := ix_kdict
  have hn : PE X (.Name d p) (tC (.ref a)) := pe_glob g1 (by rw [ok.eM]; exact hm) rfl d1
  refine pe_w (pe_ix hr hn hi (ix_of hp)) fun σ H Q ⟨r, δ, m, R, Sl, q⟩ => ?_
  rw [ev, evs_one] at q
  refine TX.one R Sl q fun d' v r1 H1 m1 e1 R1 S1 rv q => ?_
  obtain ⟨ys, z, h1, h2, h3⟩ := opF_inv R1 (.cons rv .nil) q
  obtain ⟨zs, y, rfl, hl, rfl⟩ := opP_kdx h2
  cases h1 with
  | cons k1 rn =>
    cases rn
    have k1 : v = .str zs := k1
    have hzz := hz zs
    rw [hl] at hzz
    obtain ⟨t, ht⟩ := hzz
    exact ⟨a, zs, .str y, rfl, k1, ⟨es, nn, _, by rw [ok.eK]; exact D.at_, by rw [ok.eW]; exact D.lit, by rw [ok.eK]; exact ht, ⟨t, rfl⟩⟩, mk_val R1 (fun l e => by cases e) h3 (by rw [RepB])⟩
theorem c_kdi {neg : Bool} {d : Str} {tab : List (Str × Str)} {a : Expr} {ta : E} {b : Bool} {p pos : Pos} (ok : XOk P w K mg base gi G n S W X) (hg : S.gl d = true) (ht : gi.dcts.lookup d = some tab) (hp : plainX a = true) (ha : PE X a (TX K mg (run G n) W ta)) :
    VE K mg G n W X (.Compare a [inOp neg] [.Name d p] pos) (.op (.kdi neg d tab) b (.cons ta .nil)) := by
  obtain ⟨g1, g2⟩ := gl_of ok hg
  obtain ⟨d1, d2, d3⟩ := okNm_of g2
  obtain ⟨ad, es, nn, hm, D, hz⟩ := ok.gok.dcts d tab ht
  have D' : KDict X.K X.w ad es nn := by rw [ok.eK, ok.eW]; exact D
  have hn : PE X (.Name d p) (tC (.ref ad)) := pe_glob g1 (by rw [ok.eM]; exact hm) rfl d1
  have ho : OpR X (compareOp (inOp neg)) (fun x y H Q => ∃ (z : Str) (r : Option Value), x = .str z ∧ y = .ref ad ∧ PySem.W.nsIn X.K ad z = some r ∧ Q (.bl (if neg = true then !r.isSome else r.isSome)) H) := by
    cases neg with
    | true => exact op_notIn_kd D'
    | false => exact op_in_kd D'
  have key : ∀ σ H Q, TX K mg (run G n) W (.op (.kdi neg d tab) b (.cons ta .nil)) σ H Q → tOp (fun x y H Q => ∃ (z : Str) (r : Option Value), x = .str z ∧ y = .ref ad ∧ PySem.W.nsIn X.K ad z = some r ∧ Q (.bl (if neg = true then !r.isSome else r.isSome)) H) (TX K mg (run G n) W ta) (tC (.ref ad)) σ H Q := fun σ H Q ⟨r, δ, m, R, Sl, q⟩ => by
    rw [ev, evs_one] at q
    refine TX.one R Sl q fun d' v r1 H1 m1 e1 R1 S1 rv q => ?_
    obtain ⟨ys, z, h1, h2, h3⟩ := opF_inv R1 (.cons rv .nil) q
    obtain ⟨zs, rfl, rfl⟩ := opP_kdi h2
    cases h1 with
    | cons k1 rn =>
      cases rn
      have k1 : v = .str zs := k1
      have hzz := hz zs
      have : ∃ r : Option Value, PySem.W.nsIn K ad zs = some r ∧ r.isSome = (tab.lookup zs).isSome := by
        cases q2 : tab.lookup zs with
        | none => rw [q2] at hzz; exact ⟨_, hzz, rfl⟩
        | some y => rw [q2] at hzz; obtain ⟨t, hzz⟩ := hzz; exact ⟨_, hzz, rfl⟩
      obtain ⟨ro, e1, e2⟩ := this
      refine ⟨zs, ro, k1, rfl, by rw [ok.eK]; exact e1, ?_⟩
      rw [e2]
      exact mk_val R1 (fun l e => by cases e) h3 (by rw [RepB])
  refine ⟨pe_w (pe_cmpR ho ha hn (by rfl)) key, pt_w (pt_cmpR ho ha hn (by rfl)) fun σ H Q q => key _ _ _ (bT (fun δ m d' m' e => ?_) q)⟩
  rw [ev, evs_one] at e
  obtain ⟨x, m1, _, e⟩ := bind_ok e
  unfold opF at e
  split at e
  · split at e
    · rename_i z hz
      obtain ⟨zs, _, rfl⟩ := opP_kdi hz
      cases b with
      | false => cases e; exact ⟨_, rfl⟩
      | true => cases e
    · cases e
  · cases e
theorem isS_rep {d : D} {r : List Addr} {H : Hp} {v : V} (rv : RepD K mg r H d v) (h : isS d = true) : ∃ a, d = .b (.str a) ∧ v = .str a := by
  unfold isS at h
  split at h
  · rename_i a
    exact ⟨a, rfl, rv⟩
  · cases h
theorem c_sm {o : Op} {b : Bool} {a x : Expr} {ta tx : E} {nm : Str} {id : String} {apos cpos : Pos} {rl : V → List V → Hp → VK → Prop} (ok : XOk P w K mg base gi G n S W X) (hb : notCall a = true) (hl : (apos.endLine == cpos.line) = true) (hp : plainX x = true) (ha : PE X a (TX K mg (run G n) W ta)) (hx : PE X x (TX K mg (run G n) W tx))
    (slot : Slot "str" nm id) (ty : typeOf (.builtin id) = pure (.type "method_descriptor")) (rule : MtR X id rl)
    (k : ∀ (s : Str) (y : D) (u : V) (r : List Addr) (H : Hp) (m : Mem) (σ : L2.St) (Q : VK), Rel r H m → RepD K mg r H y u → OkR mg W σ r H (opF o b [.b (.str s), y] m) (PV K mg Q) → rl (.str s) [u] H Q) :
    PE X (.Call (.Attribute a nm apos) [x] [] cpos) (TX K mg (run G n) W (.sm o b ta tx)) := by
  refine pe_w (pe_m1 slot ty rule ha hx (star_of hp) (base_of hb) hl) fun σ H Q ⟨r, δ, m, R, Sl, q⟩ => ?_
  rw [ev] at q
  refine TX.one R Sl q fun d v r1 H1 m1 e1 R1 S1 rv q => ?_
  by_cases hd : isS d = true
  case neg => rw [if_neg hd] at q; exact q.elim
  rw [if_pos hd] at q
  obtain ⟨s, rfl, rfl⟩ := isS_rep rv hd
  refine ⟨⟨s, rfl⟩, ?_⟩
  refine TX.one R1 S1 q fun y u r2 H2 m2 e2 R2 S2 ry q => ?_
  exact k s y u r2 H2 m2 σ Q R2 ry q
theorem c_join {a x : Expr} {ta tx : E} {b : Bool} {apos cpos : Pos} (ok : XOk P w K mg base gi G n S W X) (hb : notCall a = true) (hl : (apos.endLine == cpos.line) = true) (hp : plainX x = true) (ha : PE X a (TX K mg (run G n) W ta)) (hx : PE X x (TX K mg (run G n) W tx)) :
    PE X (.Call (.Attribute a "join" apos) [x] [] cpos) (TX K mg (run G n) W (.sm .join b ta tx)) := by
  refine c_sm ok hb hl hp ha hx PySem.F.slot_str_join PySem.F.type_str_join mt_join fun s y u r H m σ Q R ry q => ?_
  obtain ⟨ys, z, h1, h2, h3⟩ := opF_inv R (.cons (show RepD K mg r H (.b (.str s)) (.str s) from rfl) (.cons ry .nil)) q
  obtain ⟨s', xs, ts, rfl, hs, hle, rfl⟩ := opP_join h2
  cases h1 with
  | cons k0 rn =>
    cases rn with
    | cons k1 rn =>
      cases rn
      have k0 : V.str s = .str s' := k0
      cases k0
      obtain ⟨p, vs, rfl, g1, g2⟩ := k1
      have e := strs_rep hs g2
      subst e
      exact ⟨s, p, ts, rfl, rfl, .inl (.of g1), by rw [lim_eq, sizeLine_eq] at hle; exact hle, mk_val R (fun l e => by cases e) h3 (by rw [RepB])⟩
theorem c_split {a x : Expr} {ta tx : E} {b : Bool} {apos cpos : Pos} (ok : XOk P w K mg base gi G n S W X) (hb : notCall a = true) (hl : (apos.endLine == cpos.line) = true) (hp : plainX x = true) (ha : PE X a (TX K mg (run G n) W ta)) (hx : PE X x (TX K mg (run G n) W tx)) :
    PE X (.Call (.Attribute a "split" apos) [x] [] cpos) (TX K mg (run G n) W (.sm .split b ta tx)) := by
  refine c_sm ok hb hl hp ha hx PySem.F.slot_str_split PySem.F.type_str_split mt_split fun s y u r H m σ Q R ry q => ?_
  obtain ⟨ys, z, h1, h2, h3⟩ := opF_inv R (.cons (show RepD K mg r H (.b (.str s)) (.str s) from rfl) (.cons ry .nil)) q
  obtain ⟨s', t, rfl, ⟨hc, hle⟩, rfl⟩ := opP_split h2
  cases h1 with
  | cons k0 rn =>
    cases rn with
    | cons k1 rn =>
      cases rn
      have k0 : V.str s = .str s' := k0
      cases k0
      have k1 : u = .str t := k1
      exact ⟨s, t, rfl, by rw [k1], hc, by rw [← lim_eq]; exact hle, mk_new R (repBs_strs _) h3⟩
theorem c_idxS {a x : Expr} {ta tx : E} {b : Bool} {apos cpos : Pos} (ok : XOk P w K mg base gi G n S W X) (hb : notCall a = true) (hl : (apos.endLine == cpos.line) = true) (hp : plainX x = true) (ha : PE X a (TX K mg (run G n) W ta)) (hx : PE X x (TX K mg (run G n) W tx)) :
    PE X (.Call (.Attribute a "index" apos) [x] [] cpos) (TX K mg (run G n) W (.sm .idxS b ta tx)) := by
  refine c_sm ok hb hl hp ha hx PySem.F.slot_str_index PySem.F.type_str_index mt_sindex fun s y u r H m σ Q R ry q => ?_
  obtain ⟨ys, z, h1, h2, h3⟩ := opF_inv R (.cons (show RepD K mg r H (.b (.str s)) (.str s) from rfl) (.cons ry .nil)) q
  obtain ⟨s', t, i, rest, rfl, ho, rfl⟩ := opP_idxS h2
  cases h1 with
  | cons k0 rn =>
    cases rn with
    | cons k1 rn =>
      cases rn
      have k0 : V.str s = .str s' := k0
      cases k0
      have k1 : u = .str t := k1
      exact ⟨s, t, i, rest, rfl, by rw [k1], ho, mk_val R (fun l e => by cases e) h3 (by rw [RepB])⟩
theorem c_intS {y : Expr} {t : E} {b : Bool} {p pos : Pos} (ok : XOk P w K mg base gi G n S W X) (hg : S.gl "int" = true) (hp : plainX y = true) (ha : PE X y (TX K mg (run G n) W t)) : PE X (.Call (.Name "int" p) [y] [] pos) (TX K mg (run G n) W (.op .intS b (.cons t .nil))) := by
  obtain ⟨g1, g2⟩ := gl_of ok hg
  obtain ⟨d1, d2, d3⟩ := okNm_of g2
  refine pe_w (pe_callTy call_int_str g1 (blt_of ok (by decide)) (by decide +kernel) (pa_cons ha pa_nil (star_of hp)) d3 d1 (star_of hp) (by rfl)) fun σ H Q ⟨r, δ, m, R, Sl, q⟩ => ?_
  rw [ev, evs_one] at q
  refine TX.one R Sl q fun d v r1 H1 m1 e1 R1 S1 rv q => ?_
  obtain ⟨ys, z, h1, h2, h3⟩ := opF_inv R1 (.cons rv .nil) q
  obtain ⟨a, i, rfl, hle, hi, rfl⟩ := opP_intS h2
  cases h1 with
  | cons k1 rn =>
    cases rn
    have k1 : v = .str a := k1
    exact ⟨a, i, by rw [k1], hi, hle, mk_val R1 (fun l e => by cases e) h3 (by rw [RepB])⟩
omit [TabC] in
theorem mem_insS {x z : Int} : ∀ {l : List Int}, z ∈ insS x l ↔ z = x ∨ z ∈ l
  | [] => by simp [insS]
  | y :: l => by
    unfold insS
    split
    · simp
    · split
      · rename_i e
        subst e
        simp
      · rw [List.mem_cons, mem_insS, List.mem_cons]
        constructor
        · rintro (h | h | h)
          · exact .inr (.inl h)
          · exact .inl h
          · exact .inr (.inr h)
        · rintro (h | h | h)
          · exact .inr (.inl h)
          · exact .inl h
          · exact .inr (.inr h)
omit [TabC] in
theorem insS_rise {x : Int} : ∀ {l : List Int}, l.Pairwise (· < ·) → (insS x l).Pairwise (· < ·)
  | [], _ => by simp [insS]
  | y :: l, h => by
    obtain ⟨h1, h2⟩ := List.pairwise_cons.mp h
    unfold insS
    split
    · rename_i e
      refine List.pairwise_cons.mpr ⟨fun z hz => ?_, h⟩
      rcases List.mem_cons.mp hz with rfl | hz
      · exact e
      · exact Int.lt_trans e (h1 z hz)
    · split
      · exact h
      · refine List.pairwise_cons.mpr ⟨fun z hz => ?_, insS_rise h2⟩
        rcases mem_insS.mp hz with rfl | hz
        · omega
        · exact h1 z hz
omit [TabC] in
theorem mem_ssetI {z : Int} : ∀ {ns : List Int}, z ∈ ssetI ns ↔ z ∈ ns
  | [] => by simp [ssetI]
  | n :: ns => by
    show z ∈ insS n (ssetI ns) ↔ _
    rw [mem_insS, mem_ssetI, List.mem_cons]
omit [TabC] in
theorem ssetI_rise : ∀ ns : List Int, (ssetI ns).Pairwise (· < ·)
  | [] => by simp [ssetI]
  | n :: ns => insS_rise (ssetI_rise ns)
omit [TabC] in
/-- rising lists of the same members -/
theorem rise_eq : ∀ {a b : List Int}, a.Pairwise (· < ·) → b.Pairwise (· < ·) → (∀ z, z ∈ a ↔ z ∈ b) → a = b
  | [], [], _, _, _ => rfl
  | [], y :: b, _, _, h => by have := (h y).mpr (List.mem_cons_self ..); cases this
  | x :: a, [], _, _, h => by have := (h x).mp (List.mem_cons_self ..); cases this
  | x :: a, y :: b, ha, hb, h => by
    obtain ⟨a1, a2⟩ := List.pairwise_cons.mp ha
    obtain ⟨b1, b2⟩ := List.pairwise_cons.mp hb
    have e : x = y := by
      rcases List.mem_cons.mp ((h x).mp (List.mem_cons_self ..)) with e | m1
      · exact e
      · rcases List.mem_cons.mp ((h y).mpr (List.mem_cons_self ..)) with e | m2
        · exact e.symm
        · have := a1 y m2
          have := b1 x m1
          omega
    subst e
    congr 1
    refine rise_eq a2 b2 fun z => ⟨fun hz => ?_, fun hz => ?_⟩
    · rcases List.mem_cons.mp ((h z).mp (List.mem_cons_of_mem _ hz)) with e | m
      · have := a1 z hz; omega
      · exact m
    · rcases List.mem_cons.mp ((h z).mpr (List.mem_cons_of_mem _ hz)) with e | m
      · have := b1 z hz; omega
      · exact m
omit [TabC] in
theorem opP_sset {ys : List PyData} {z : PyData} (h : opP .sset ys = some z) : ∃ xs ns, ys = [.list xs] ∧ intsOf xs = some ns ∧ ns.length ≤ 60 ∧ z = .list ((ssetI ns).map .int) := by
  match ys, h with
  | [.list xs], h =>
    have h : (match intsOf xs with
      | some ns => if ns.length ≤ 60 then some (PyData.list ((ssetI ns).map .int)) else Option.none
      | Option.none => Option.none) = some z := h
    split at h
    · rename_i ns hns
      split at h
      · rename_i hl
        exact ⟨xs, ns, rfl, hns, hl, (Option.some.inj h).symm⟩
      · cases h
    · cases h
theorem c_sset {y : Expr} {t : E} {b : Bool} {p p2 pos pos2 : Pos} (ok : XOk P w K mg base gi G n S W X) (hg : S.gl "sorted" = true) (hg2 : S.gl "set" = true) (hp : plainX y = true) (ha : PE X y (TX K mg (run G n) W t)) :
    PE X (.Call (.Name "sorted" p) [.Call (.Name "set" p2) [y] [] pos2] [] pos) (TX K mg (run G n) W (.op .sset b (.cons t .nil))) := by
  obtain ⟨g1, g2⟩ := gl_of ok hg
  obtain ⟨d1, d2, d3⟩ := okNm_of g2
  obtain ⟨k1, k2⟩ := gl_of ok hg2
  obtain ⟨q1, q2, q3⟩ := okNm_of k2
  have inner := pe_callTy (X := X) (p := p2) (pos := pos2) (cr_setL ok.calm) k1 (blt_of ok (by decide)) (by decide +kernel) (pa_cons ha pa_nil (star_of hp)) q3 q1 (star_of hp) (by rfl)
  refine pe_w (pe_callB (cr_sortedSet ok.calm) g1 (blt_of ok (by decide)) (by decide +kernel) (pa_cons inner pa_nil (by rfl)) d3 d1 (by rfl) (by rfl)) fun σ H Q ⟨r, δ, m, R, Sl, q⟩ => ?_
  rw [ev, evs_one] at q
  refine TX.one R Sl q fun d v r1 H1 m1 e1 R1 S1 rv q => ?_
  obtain ⟨ys, z, h1, h2, h3⟩ := opF_inv R1 (.cons rv .nil) q
  obtain ⟨xs, ns, rfl, hi, hl, rfl⟩ := opP_sset h2
  cases h1 with
  | cons k1 rn =>
    cases rn
    obtain ⟨p, vs, rfl, g1, g2⟩ := k1
    have ev := intsOf_vs hi g2
    subst ev
    refine ⟨p, ns, rfl, by rw [ok.eK]; exact .of g1, Nat.lt_of_le_of_lt (Nat.succ_le_succ hl) (by decide), fun a c ha hc => ?_⟩
    refine ⟨a, _, c, rfl, upd_same, by omega, fun ns' p' hm hk hn hp' => ?_⟩
    have e : ns' = ssetI ns := rise_eq hm (ssetI_rise ns) fun z => by rw [hk, mem_ssetI, decide_eq_true_eq]
    subst e
    exact mk_new (R1.new ha) (rep_ints _ _ _) (h3.ext (.new ha)) p' hp'
/-- every form -/
theorem op_ve {o : Op} {b : Bool} {e : Expr} {l : List Expr} {es : Es} (ok : XOk P w K mg base gi G n S W X) (h : opSub gi o S e = some l) (hs : PEL K mg G n W X l es) : VE K mg G n W X e (.op o b es) := by
  unfold opSub at h
  cases o with
  | repr =>
    simp only at h
    split at h
    · rename_i x p y pos
      split at h
      · rename_i hc
        simp only [Bool.and_eq_true, decide_eq_true_eq] at hc
        cases h
        obtain ⟨⟨rfl, h2⟩, h3⟩ := hc
        match es, hs with
        | .cons t .nil, ⟨k1, k2, _⟩ => exact ve_of ok.eK (c_repr ok h2 h3 k2.1) fun _ => rfl
        | .nil, hs => exact hs.elim
        | .cons t (.cons _ _), ⟨_, _, hs⟩ => exact hs.elim
      · cases h
    · cases h
  | rev =>
    simp only at h
    split at h
    · split at h
      · rename_i hc
        simp only [Bool.and_eq_true] at hc
        cases h
        match es, hs with
        | .cons t .nil, ⟨k1, k2, _⟩ => exact ve_of ok.eK (c_rev ok hc.1 k2.1) fun _ => rfl
        | .nil, hs => exact hs.elim
        | .cons t (.cons _ _), ⟨_, _, hs⟩ => exact hs.elim
      · cases h
    · cases h
  | dget kvs =>
    simp only at h
    split at h
    · split at h
      · rename_i hc
        simp only [Bool.and_eq_true, decide_eq_true_eq, Bool.not_eq_true'] at hc
        obtain ⟨⟨⟨k1, k2⟩, k3⟩, k4⟩ := hc
        cases h
        match es, hs with
        | .cons t .nil, ⟨_, j2, _⟩ => exact ve_of ok.eK (c_dget ok k1 k2 (fun e => by rw [e] at k3; cases k3) k4 j2.1) fun _ => rfl
        | .nil, hs => exact hs.elim
        | .cons t (.cons _ _), ⟨_, _, hs⟩ => exact hs.elim
      · cases h
    · cases h
  | sset =>
    simp only at h
    split at h
    · split at h
      · rename_i hc
        simp only [Bool.and_eq_true, decide_eq_true_eq] at hc
        obtain ⟨⟨⟨⟨rfl, k2⟩, rfl⟩, k3⟩, k4⟩ := hc
        cases h
        match es, hs with
        | .cons t .nil, ⟨_, j2, _⟩ => exact ve_of ok.eK (c_sset ok k2 k3 k4 j2.1) fun _ => rfl
        | .nil, hs => exact hs.elim
        | .cons t (.cons _ _), ⟨_, _, hs⟩ => exact hs.elim
      · cases h
    · cases h
  | kdx d tab =>
    simp only at h
    split at h
    · split at h
      · rename_i hc
        simp only [Bool.and_eq_true, decide_eq_true_eq] at hc
        obtain ⟨⟨⟨rfl, k2⟩, k3⟩, k4⟩ := hc
        cases h
        match es, hs with
        | .cons t .nil, ⟨_, j2, _⟩ => exact ve_of ok.eK (c_kdx ok k2 k3 k4 j2.1) fun _ => rfl
        | .nil, hs => exact hs.elim
        | .cons t (.cons _ _), ⟨_, _, hs⟩ => exact hs.elim
      · cases h
    · cases h
  | kdi neg d tab =>
    simp only at h
    split at h
    · split at h
      · rename_i hc
        simp only [Bool.and_eq_true, decide_eq_true_eq] at hc
        obtain ⟨⟨⟨⟨rfl, rfl⟩, k2⟩, k3⟩, k4⟩ := hc
        cases h
        match es, hs with
        | .cons t .nil, ⟨_, j2, _⟩ => exact c_kdi ok k2 k3 k4 j2.1
        | .nil, hs => exact hs.elim
        | .cons t (.cons _ _), ⟨_, _, hs⟩ => exact hs.elim
      · cases h
    · cases h
  | intS =>
    simp only at h
    split at h
    · split at h
      · rename_i hc
        simp only [Bool.and_eq_true, decide_eq_true_eq] at hc
        obtain ⟨⟨rfl, k2⟩, k3⟩ := hc
        cases h
        match es, hs with
        | .cons t .nil, ⟨_, j2, _⟩ => exact ve_of ok.eK (c_intS ok k2 k3 j2.1) fun _ => rfl
        | .nil, hs => exact hs.elim
        | .cons t (.cons _ _), ⟨_, _, hs⟩ => exact hs.elim
      · cases h
    · cases h
  | join => cases h
  | split => cases h
  | idxS => cases h
  | cat =>
    simp only at h
    split at h
    · rename_i x o y pos
      split at h
      · rename_i hc
        simp only [Bool.and_eq_true, decide_eq_true_eq] at hc
        cases h
        obtain ⟨⟨rfl, h2⟩, h3⟩ := hc
        match es, hs with
        | .cons t (.cons t2 .nil), ⟨k1, k2, k3, k4, _⟩ => exact ve_of ok.eK (c_cat k2.1 k4.1) fun _ => rfl
        | .nil, hs => exact hs.elim
        | .cons t .nil, ⟨_, _, hs⟩ => exact hs.elim
        | .cons t (.cons _ (.cons _ _)), ⟨_, _, _, _, hs⟩ => exact hs.elim
      · cases h
    · cases h
  | rep =>
    simp only at h
    split at h
    · rename_i x o y pos
      split at h
      · rename_i hc
        simp only [Bool.and_eq_true, decide_eq_true_eq] at hc
        cases h
        obtain ⟨⟨rfl, h2⟩, h3⟩ := hc
        match es, hs with
        | .cons t (.cons t2 .nil), ⟨k1, k2, k3, k4, _⟩ => exact ve_of ok.eK (c_rep k2.1 k4.1) fun _ => rfl
        | .nil, hs => exact hs.elim
        | .cons t .nil, ⟨_, _, hs⟩ => exact hs.elim
        | .cons t (.cons _ (.cons _ _)), ⟨_, _, _, _, hs⟩ => exact hs.elim
      · cases h
    · cases h
  | _ => cases h
end
end Z

/-! ZP: a call in a try by another def; one of several defs called; isinstance of exceptions; raise. -/
namespace Z
open PySem PySem.Spec PyProof.Rows L2
variable [TabC]
section
variable {P : Program} {w : World} {K : PySem.W.Frag} {mg : Str → Option Value} {base : Heap} {gi : GI} {G : Tab} {n : Nat} {S : SX} {W : WX} {X : Cx}
theorem callF_sp {b : Bool} {f : Str} {ds : List D} {vs : List V} {r1 : List Addr} {H1 : Hp} {m1 : Mem} {σ : L2.St} {Q : VK} (R1 : Rel r1 H1 m1) (rs : RepDs K mg r1 H1 ds vs) (hc : OkR mg W σ r1 H1 (callF (run G n) b f ds m1) (PV K mg Q)) : spF K mg G n f vs H1 Q (fun c d H => W c d σ H) := by
  refine ⟨r1, m1, ds, R1, rs, ?_⟩
  unfold callF at hc
  cases q : run G n f ds m1 with
  | ok d m' =>
    rw [q] at hc
    exact fun r' H' e' R' v rv => leave_ok R1 e' R' rv hc
  | ex c m' =>
    rw [q] at hc
    intro r' H' e' R'
    have et : r'.take m1.length = r1 := by rw [← R1.len]; exact prefix_take e'.pre
    have Rt : Rel r1 H' (m'.take m1.length) := by have := R'.take m1.length; rw [et] at this; exact this
    exact hc r1 H' e'.take Rt
  | bad => rw [q] at hc; exact hc
/-- defs by their names -/
theorem pa_fs (ok : XOk P w K mg base gi G n S W X) : ∀ (fs : List Str) (l : List Expr), chkFs G S fs l = true → ∃ as : List Addr, (∀ (j : Nat) f, fs[j]? = some f → ∃ a, as[j]? = some a ∧ mg f = some (.ref a)) ∧ as.length = fs.length ∧ (∀ f ∈ fs, (G f).isSome = true) ∧ PA X l (fun σ H Q => Q (as.map V.ref) H)
  | [], l, h => by
    have : l = [] := by simpa [chkFs] using h
    subst this
    exact ⟨[], (fun j f h => by simp at h), rfl, (fun f h => nomatch h), ⟨fun pos pins s σ H Q I hq => (pa_nil (X := X)).run pos pins s σ H Q I hq⟩⟩
  | f :: fs, [], h => by cases h
  | f :: fs, e :: es, h => by
    cases e with
    | Name x p =>
      have h : (decide (x = f) && S.gl x && (G f).isSome && chkFs G S fs es) = true := h
      simp only [Bool.and_eq_true] at h
      obtain ⟨⟨⟨h1, h2⟩, h3⟩, h4⟩ := h
      have h1 := of_decide_eq_true h1
      subst h1
      obtain ⟨as, g1, gl, g2, g3⟩ := pa_fs ok fs es h4
      obtain ⟨fd, hfd⟩ := Option.isSome_iff_exists.mp h3
      obtain ⟨a, fdat, ps, m1, m2, m3, m4, m5⟩ := ok.fns x fd hfd
      obtain ⟨gg, nm⟩ := gl_of ok h2
      refine ⟨a :: as, fun j f hj => ?_, by simp [gl], fun f hf => ?_, ⟨fun pos pins s σ H Q I hq => ?_⟩⟩
      · cases j with
        | zero => cases hj; exact ⟨a, rfl, m1⟩
        | succ j => exact g1 j f hj
      · rcases List.mem_cons.mp hf with rfl | hf
        · exact h3
        · exact g2 f hf
      · exact (pa_cons (pe_glob (v := .ref a) (pos := p) gg (by rw [ok.eM]; exact m1) rfl (okNm_of nm).1) g3).run pos pins s σ H Q I hq
    | _ => exact absurd (show (false && chkFs G S fs es) = true from h) (by simp)
theorem c_pick {b : Bool} {fs : List Str} {l : List Expr} {y e : Expr} {es : List Expr} {ti : E} {t : Es} {p1 p2 pos : Pos} (ok : XOk P w K mg base gi G n S W X) (hf : chkFs G S fs l = true) (hlen : fs.length ≤ lim) (hy : plainX y = true) (hi : PE X y (TX K mg (run G n) W ti)) (hpl : ∀ x ∈ e :: es, plainX x = true) (ha : PA X (e :: es) (TXs K mg (run G n) W t)) :
    PE X (.Call (.Subscript (.List l p1) y p2) (e :: es) [] pos) (TX K mg (run G n) W (.pick b fs ti t)) := by
  obtain ⟨as, g1, gl, g2, g3⟩ := pa_fs ok fs l hf
  constructor
  rintro pins s σ H Q I ⟨r, δ, m, R, Sl, q⟩
  have hsub : PE X (.Subscript (.List l p1) y p2) (fun σ H Q => as.length ≤ sizeLine ∧ ∀ p, H p = none → TX K mg (run G n) W ti σ (upd H p (.lst (as.map V.ref))) fun u H2 => rIxL X.K (.ref p) u H2 Q) :=
    pe_w (pe_ix ix_list (pe_lst g3) hi (ix_of hy)) fun σ H Q ⟨h1, h2⟩ => ⟨by rw [List.length_map]; exact h1, fun p hp => h2 p hp⟩
  show wpAny _ _ (do let f ← eval (.Subscript (.List l p1) y p2) X.env; callWith pos f [] (backTo pos (starEach (e :: es) X.env)) (backToKw pos (keywordEach [] X.env))) _ _ _
  refine wpAny_bind (thn (hsub.run pins s σ H (fun v H1 => ∃ f a m1 r1, v = .ref a ∧ mg f = some (.ref a) ∧ (G f).isSome = true ∧ Rel r1 H1 m1 ∧ RepS K mg r1 H1 δ σ ∧ OkR mg W σ r1 H1 ((evs (run G n) t δ m1).bind fun xs m => callF (run G n) b f xs m) (PV K mg Q)) I ?_) ?_)
  · refine ⟨by rw [gl, ← lim_eq]; exact hlen, fun p hp => ?_⟩
    have e0 := Ext.new (r := r) (o := .lst (as.map V.ref)) hp
    rw [ev] at q
    refine TX.one (R.new hp) (Sl.ext e0) (q.ext e0) fun d v r1 H1 m1 e1 R1 S1 rv q => ?_
    unfold pickF at q
    split at q
    · rename_i f hpick
      split at hpick
      · rename_i k
        have rv : RepB r1 H1 (.int k) v := rv
        rw [RepB] at rv
        subst rv
        unfold atP atI at hpick
        cases hk : ixN fs.length k with
        | none => rw [hk] at hpick; cases hpick
        | some j =>
          rw [hk] at hpick
          have hj : fs[j]? = some f := hpick
          obtain ⟨a, a1, a2⟩ := g1 j f hj
          refine ⟨p, as.map V.ref, k, .ref a, rfl, rfl, .of (e1.keep p _ upd_same (R.notin hp) fun z y => by cases y), ?_, f, a, m1, r1, rfl, a2, g2 f (List.mem_of_getElem? hj), R1, S1, q⟩
          unfold atI
          rw [List.length_map, gl, hk]
          show (as.map V.ref)[j]? = _
          rw [List.getElem?_map, a1]
          rfl
      · cases hpick
    · exact q.elim
  · rintro u s1 ⟨v, H1, I1, ru, f, a, m1, r1, rfl, hm, hG, R1, S1, q1⟩
    have eu : u = Value.ref a := ru
    subst eu
    obtain ⟨fd, hfd⟩ := Option.isSome_iff_exists.mp hG
    obtain ⟨a', fdat, ps, h1, h2, h3, h4, h5⟩ := ok.fns f fd hfd
    rw [hm] at h1
    cases h1
    have F : FnG X.prog X.w X.K X.mg X.base (L2.CX X.prog X.w) (3 * n) a fdat ps (spF K mg G n f) := by
      rw [ok.eP, ok.eW, ok.eK, ok.eM, ok.eB]; exact h5
    have arg : TXs K mg (run G n) W t σ H1 fun vs H2 => spF K mg G n f vs H2 Q (fun c d H => W c d σ H) :=
      TXs.one R1 S1 q1 fun ds vs r2 H2 m2 e2 R2 S2 rs hc => callF_sp R2 rs hc
    exact PySem.W.callWith_K (h₀ := X.base) I1.ok.mod.kin (by rw [ok.eK]; exact h2) (thn (ha.run pos pins s1 σ H1 _ I1 arg) fun us s2 ⟨vs, H2, I2, rr, q2⟩ => ⟨I2.kIn, run_fnG (E := fun σ c d H => W c d σ H) F ok.gd ok.room (by rw [ok.eK]; exact h3) (passAt ok.tk σ) I2 rr q2⟩) (star_of (hpl e (List.mem_cons_self ..))) (plain_all fun x hx => hpl x (List.mem_cons_of_mem _ hx))
/-! ### isinstance(e, C) -/
theorem c_isx {a : Expr} {ta : E} {c : Str} {tab : List (Str × Bool)} {p p2 pos : Pos} (ok : XOk P w K mg base gi G n S W X) (hg : S.gl "isinstance" = true) (hg2 : S.gl c = true) (hx : S.ex = true) (hs : gi.subs.lookup c = some tab) (hpl : plainX a = true) (ha : PE X a (TX K mg (run G n) W ta)) :
    PE X (.Call (.Name "isinstance" p) [a, .Name c p2] [] pos) (TX K mg (run G n) W (.isx ta c tab)) := by
  obtain ⟨g1, g2⟩ := gl_of ok hg2
  obtain ⟨d1, d2, d3⟩ := okNm_of g2
  obtain ⟨v, cv, hv, hn, htab⟩ := ok.gok.subs c tab hs
  have cl : ClsV v cv := by
    rcases hv with ⟨C, _, rfl, rfl⟩ | ⟨t, _, _, rfl, rfl⟩
    · exact .own C
    · exact .ty t
  have pz : PE X (.Name c p2) (tC v) := by
    rcases hv with ⟨C, h1, rfl, rfl⟩ | ⟨t, h1, h2, rfl, rfl⟩
    · exact pe_glob g1 (by rw [ok.eM]; exact h1) rfl d1
    · exact pe_bltn g1 (by rw [ok.eM]; exact h1) h2 rfl d3 d1
  have pa : PA X [a, .Name c p2] (tCons (TX K mg (run G n) W ta) (tCons (tC v) tNil)) := pa_cons ha (pa_cons pz pa_nil) (star_of hpl)
  have call : CallR X (.builtin "isinstance") (fun xs H Q => (rIsi X.K xs H Q) ∨ ∃ (y : Addr) (D : Addr) (oe : Obj) (b : Bool), xs = [.ref y, v] ∧ (y, oe) ∈ X.pn ∧ ExcC X.K D ∧ Zc (.ref D) none oe ∧ (∃ vs, oe.data = .fields vs) ∧ PySem.W.kitOne X.K (.ref D) cv = some b ∧ Q (.bl b) H) := by
    intro pins s σ H xs us Q I rr h
    rcases h with h | ⟨y, D, oe, b, rfl, h1, h2, h3, h4, h5, h6⟩
    · exact call_isi pins s σ H xs us Q I rr h
    · exact call_isH h1 h2 h3 h4 I rr cl h5 h6
  refine pe_w (pe_callB (X := X) call (gl_of ok hg).1 (blt_of ok (by decide)) boot_isi pa (by decide) (by decide) (star_of hpl)) fun σ H Q ⟨r, δ, m, R, Sl, q⟩ => ?_
  rw [ev] at q
  refine TX.one R Sl q fun d u r1 H1 m1 e1 R1 S1 rv q => ?_
  unfold isxF at q
  split at q
  · have rv : RepB r1 H1 .none u := rv
    rw [RepB] at rv
    subst rv
    exact .inl ⟨.non, v, .type "NoneType", cv, false, rfl, cl, .base .non, by rw [ok.eK]; exact hn, q r1 H1 (.refl _ _) R1 _ (by show RepB _ _ _ _; rw [RepB])⟩
  · rename_i x
    split at q
    · rename_i b hb
      obtain ⟨y, rfl, hX⟩ := rv
      obtain ⟨oe, o1, o2, o3⟩ := ok.exq hx y x hX
      obtain ⟨D, k1, k2, k3⟩ := htab x b hb
      have ed : clsV mg x = .ref D := by unfold clsV; rw [k1]; rfl
      rw [ed] at o2
      exact .inr ⟨y, D, oe, b, rfl, o1, by rw [ok.eK]; exact k2, o2, o3, by rw [ok.eK]; exact k3, q r1 H1 (.refl _ _) R1 _ (by show RepB _ _ _ _; rw [RepB])⟩
    · exact q.elim
  · exact q.elim
/-! ### raise C('..') -/
theorem st_raise {x : Str} {m0 : Str} {j : Nat} {p p2 p3 pos : Pos} (ok : XOk P w K mg base gi G n S W X) (hg : S.gl x = true) (hx : x ∈ gi.excs) : PS X (.Raise (some (.Call (.Name x p) [.Constant (.str m0) j p2] [] p3)) none pos) (fun _ σ H => W (clsV mg x) none σ H) := by
  obtain ⟨C, B, newId, initId, bmB, h1, h2, h3, h4, h5, h6, h7⟩ := ok.gok.excs x hx
  have e : clsV mg x = .ref C := by unfold clsV; rw [h1]; rfl
  obtain ⟨g1, g2⟩ := gl_of ok hg
  rw [e]
  exact ps_raise ok.calm ok.tk (pmk_own h3 (by rw [ok.eK]; exact h4) (by rw [ok.eM]; exact h1) (by rw [ok.eK]; exact h2) (raises_own (by rw [ok.eK]; exact h5) (by rw [ok.eK]; exact h6)) g1 (okNm_of g2).1)
/-! ### g(lambda: body) -/
theorem lam_ok (ok : XOk P w K mg base gi G n S W X) {scp : Scope} {A : Around} {o : List PySem.Env} {s : Shared} {H : Hp} {E : XK} {f c' : Addr} (gd : A.guards = some []) (room : Room (3 * n) (A.deeper (LamX.lamEnv X scp s.heap.objs.size f c'))) :
    XOk P w K mg base gi G n (S.lamb scp) (fun c d _ H' => E c d H') (LamX.lamCx X A o s H E scp f c') where
  eP := ok.eP
  eW := ok.eW
  eK := ok.eK
  eM := ok.eM
  eB := ok.eB
  eN := ok.eN
  eS := rfl
  nd := ok.nd
  calm := rfl
  eF := rfl
  tk := takes_of rfl rfl rfl rfl
  own := passes_of rfl
  room := room
  gok := ok.gok
  rl := fun z => nomatch (show false = true from z)
  exq := fun z => nomatch (show false = true from z)
  gd := gd
  blt := ok.blt
  gint := ok.gint
  fns := ok.fns
omit [TabC] in
theorem lam_bind {pars : Arguments} (h : lamPB pars = true) (q : Str) (cl : List (Str × Addr)) (body : Expr) (scp : Scope) (pm cv ctv : Value) : bindArgs (PySem.W.kla_fn "<lambda>" q pars body scp cl pm cv ctv) ⟨[], []⟩ = pure [] := by
  unfold lamPB at h
  split at h
  · rfl
  · cases h
omit [TabC] in
theorem lam_def {pars : Arguments} (h : lamPB pars = true) (env : PySem.Env) : defaultsOf pars env = ([], []) := by
  unfold lamPB at h
  split at h
  · rfl
  · cases h
omit [TabC] in
theorem repBs_ints {r : List Addr} {H : Hp} : ∀ ns : List Int, RepBs r H (ns.map .int) (ns.map V.int)
  | [] => by rw [List.map_nil, List.map_nil, RepBs]
  | n :: ns => by
    rw [List.map_cons, List.map_cons, RepBs]
    exact ⟨_, _, rfl, by rw [RepB], repBs_ints ns⟩
theorem c_said {g : Str} {b : E} {tab : List (Str × Ans)} {pars : Arguments} {body : Expr} {scp : Scope} {p lpos pos : Pos} (ok : XOk P w K mg base gi G n S W X) (hg : S.gl g = true) (hl : S.lam = true) (hs : gi.saids.lookup g = some tab) (hL : LamX.lamSB S.sc scp = true) (hp : lamPB pars = true)
    (hb : ∀ {W' : WX} {X' : Cx}, XOk P w K mg base gi G n (S.lamb scp) W' X' → PE X' body (TX K mg (run G n) W' b)) :
    PE X (.Call (.Name g p) [.Lambda pars body scp lpos] [] pos) (TX K mg (run G n) W (.said g b tab)) := by
  obtain ⟨g1, g2⟩ := gl_of ok hg
  obtain ⟨ga, oc, od, pg, bg, sg, dV, kV, doc, pm, cdv, ct, an, osl, Ng, a, k1, k2, k3, k4, k5, k6, k7, k8, k9, k10⟩ := ok.gok.saids g tab hs
  obtain ⟨room, c, Pt, t1, t2, t3, t4⟩ := ok.rl hl
  obtain ⟨n1, n2, n3⟩ := okNm_of k9
  have L : LamX.LamS X.env.scope scp := by rw [ok.eS]; exact LamX.lamS_by hL
  have pc := pe_lamG (X := X) (TT := TTz mg tab) (t := fun E => TX K mg (run G n) (fun c d _ H' => E c d H') b) (p := p) (lpos := lpos) (pos := pos) (k := 3 * n) ok.gd g1 (by rw [ok.eM]; exact k1) (by rw [ok.eK]; exact k2) (by rw [ok.eK]; exact k3) (by rw [ok.eK]; exact k4) (by rw [ok.eK]; exact k5) k6 k7 k8
    (by rw [ok.eP, ok.eW, ok.eK, ok.eM, ok.eB]; exact k10) (by rw [ok.eM, ok.eB]; exact t2) t1 t3 t4 room L (lam_def hp _) (fun q cl pm cv ctv => lam_bind hp q cl body scp pm cv ctv)
    (fun A o s H E f c' gd rm => hb (lam_ok ok gd rm)) (okNm_of g2).1 n1 n2
  refine pe_w pc fun σ H Q ⟨r, δ, m, R, Sl, q⟩ => ⟨R.tab, fun H1 eN hT => ?_⟩
  have e1 := extN eN (fun _ => hT)
  have E1 : Ext r H r H1 := Z.ext0 e1
  rw [ev] at q
  intro Q' hQ
  refine ⟨r, δ, m, R.ext0 e1, Sl.ext E1, ?_⟩
  unfold saidF at q
  cases hv : ev (run G n) b δ m with
  | bad => simp only [hv] at q; exact q.elim
  | ok d m1 =>
    simp only [hv] at q
    intro r' H' e' R' v rv
    refine hQ v H' R'.tab fun H'' e'' => ?_
    have et : r'.take m.length = r := by rw [← R.len]; exact prefix_take e'.pre
    have Rt : Rel r H' (m1.take m.length) := by have := R'.take m.length; rw [et] at this; exact this
    exact q r H'' ((E1.trans e'.take).trans (Z.ext0 e'')) (Rt.ext0 e'') .non (by show RepB _ _ _ _; rw [RepB])
  | ex x m1 =>
    simp only [hv] at q
    intro r' H' e' R'
    have et : r'.take m.length = r := by rw [← R.len]; exact prefix_take e'.pre
    have Rt : Rel r H' (m1.take m.length) := by have := R'.take m.length; rw [et] at this; exact this
    split at q
    · rename_i d hd
      refine ⟨rfl, R'.tab, x, d, rfl, hd, ?_⟩
      cases d with
      | s t => exact fun H'' e'' => q r H'' ((E1.trans e'.take).trans (Z.ext0 e'')) (Rt.ext0 e'') _ (by show RepB _ _ _ _; rw [Ans.d, RepB])
      | l ns =>
        intro H'' p' e'' hn hp'
        refine q r H'' ((E1.trans e'.take).trans (Z.ext0 e'')) (Rt.ext0 e'') _ ?_
        show RepB _ _ _ _
        rw [Ans.d, RepB]
        refine ⟨p', _, rfl, hp', fun hr => ?_, repBs_ints ns⟩
        obtain ⟨vs, hvs⟩ := Rt.obj hr
        exact hn vs hvs
    · exact q.elim
end
end Z

/-! ZV: lists of lists that are changed: their making. -/
namespace Z
open PySem PySem.Spec PyProof.Rows L2
variable [TabC]
section
variable {r r' : List Addr} {H H' : Hp} {m m' : Mem}
mutual
theorem RepB.wr {D : Addr} {o : HO} {us : List V} (hD : D ∈ r) (h : H D = some (.lst us)) : ∀ (x : PyData) {v : V}, RepB r H x v → RepB r (upd H D o) x v
  | .none, _, h => h
  | .bool _, _, h => h
  | .int _, _, h => h
  | .str _, _, h => h
  | .tuple xs, v, q => by
    rw [RepB] at q ⊢
    obtain ⟨a, vs, ev, ha, q⟩ := q
    exact ⟨a, vs, ev, by rw [upd_ne fun z => by rw [z, h] at ha; cases ha]; exact ha, RepBs.wr hD h xs q⟩
  | .list xs, v, q => by
    rw [RepB] at q ⊢
    obtain ⟨a, vs, ev, ha, hn, q⟩ := q
    exact ⟨a, vs, ev, by rw [upd_ne fun z => hn (by rw [z]; exact hD)]; exact ha, hn, RepBs.wr hD h xs q⟩
  | .dict _, v, q => by
    rw [RepB] at q ⊢
    obtain ⟨a, u, ev, ha, hn⟩ := q
    exact ⟨a, u, ev, by rw [upd_ne fun z => hn (by rw [z]; exact hD)]; exact ha, hn⟩
theorem RepBs.wr {D : Addr} {o : HO} {us : List V} (hD : D ∈ r) (h : H D = some (.lst us)) : ∀ (xs : List PyData) {vs : List V}, RepBs r H xs vs → RepBs r (upd H D o) xs vs
  | [], _, q => by rw [RepBs] at q ⊢; exact q
  | x :: xs, _, q => by
    rw [RepBs] at q ⊢
    obtain ⟨v, ws, ev, h1, h2⟩ := q
    exact ⟨v, ws, ev, RepB.wr hD h x h1, RepBs.wr hD h xs h2⟩
end
/-- a list that began empty is written -/
theorem Ext.wr {D : Addr} {o : HO} {us : List V} (e : Ext r H r' H') (hD : D ∈ r) (h0 : H D = some (.lst [])) (h1 : H' D = some (.lst us)) : Ext r H r' (upd H' D o) := by
  refine ⟨e.pre, e.fresh, fun b o' q n t => ?_, fun b ws q => ?_, fun b o' u q => ?_, fun t x hx => tab_write h1 (e.tabs t x hx), fun b ws q z => ?_⟩
  · rw [upd_ne fun z => n (by rw [z]; exact hD)]; exact e.keep b o' q n t
  · rw [upd_ne fun z => by rw [z, h0] at q; cases q]; exact e.tups b ws q
  · rw [upd_ne fun z => by rw [z, h0] at q; cases q]; exact e.frzs b o' u q
  · obtain ⟨c, z1, z2⟩ := z
    rw [upd_ne fun z => by rw [z, h0] at q; cases q; cases z2]
    exact e.rows b ws q ⟨c, z1, z2⟩
/-- a list of ours, of which nothing is told -/
theorem Rel.any (R : Rel r H m) {k : Nat} {D : Addr} {us vs : List V} (hk : r[k]? = some D) (h1 : H D = some (.lst us)) : Rel r (upd H D (.lst vs)) (m.set k .any) := by
  have hD := List.mem_of_getElem? hk
  refine ⟨by rw [List.length_set]; exact R.len, R.nd, fun n b o h2 h3 => ?_, fun x hx => tab_write h1 (R.tab x hx), fun n ks hn => ?_⟩
  · by_cases e : n = k
    · subst e
      rw [h2] at hk; cases hk
      have hl : n < m.length := by rw [← R.len]; exact (List.getElem?_eq_some_iff.mp h2).1
      rw [List.getElem?_set_self hl] at h3
      cases h3
      exact ⟨vs, upd_same⟩
    · rw [List.getElem?_set_ne (Ne.symm e)] at h3
      have nD : b ≠ D := fun z => e (R.inj (h2.trans (by rw [z])) hk)
      have q := R.at_ n b o h2 h3
      cases o with
      | lst ys =>
        obtain ⟨ws, h4, h5⟩ := q
        exact ⟨ws, by rw [upd_ne nD]; exact h4, h5.wr hD h1⟩
      | any =>
        obtain ⟨ws, h4⟩ := q
        exact ⟨ws, by rw [upd_ne nD]; exact h4⟩
      | rows ks =>
        obtain ⟨ws, h4, h5⟩ := q
        exact ⟨ws, by rw [upd_ne nD]; exact h4, h5⟩
  · by_cases e : n = k
    · subst e
      have hl : n < m.length := by
        have := (List.getElem?_eq_some_iff.mp hn).1
        rwa [List.length_set] at this
      rw [List.getElem?_set_self hl] at hn
      cases hn
    · rw [List.getElem?_set_ne (Ne.symm e)] at hn
      exact R.low n ks hn
theorem Ext.perm (e : Ext r H r' H') {r'' : List Addr} (p : r <+: r'') (k : ∀ a, a ∈ r'' → a ∈ r') : Ext r H r'' H' :=
  ⟨p, fun a ha => e.fresh a (k a ha), e.keep, e.tups, e.frzs, e.tabs, e.rows⟩
/-- places put in order: the inner lists first, the outer one last -/
theorem Rel.move {r1 rs : List Addr} {D : Addr} {m1 ms : Mem} {o : MO} {ks : List Nat} {vs : List V} (R : Rel (r1 ++ D :: rs) H (m1 ++ o :: ms)) (hl : r1.length = m1.length) (hm : ∀ x ∈ ms, ∃ xs, x = MO.lst xs) (hD : H D = some (.lst vs))
    (hk : ∀ k ∈ ks, r1.length < k) (hp : Paired (fun k v => ∃ b, (r1 ++ D :: rs)[k]? = some b ∧ v = V.ref b) ks vs) : Rel (r1 ++ (rs ++ [D])) H (m1 ++ (ms ++ [.rows (ks.map fun k => k - 1)])) := by
  have hls : rs.length = ms.length := by
    have := R.len
    simp only [List.length_append, List.length_cons] at this
    omega
  have sub : ∀ a, a ∈ r1 ++ (rs ++ [D]) → a ∈ r1 ++ D :: rs := fun a ha => by
    simp only [List.mem_append, List.mem_cons, List.not_mem_nil, or_false] at ha ⊢
    rcases ha with h | h | h
    · exact .inl h
    · exact .inr (.inr h)
    · exact .inr (.inl h)
  have key : ∀ k b, r1.length < k → (r1 ++ D :: rs)[k]? = some b → (r1 ++ (rs ++ [D]))[k - 1]? = some b := fun k b h q => by
    rw [List.getElem?_append_right (by omega)] at q ⊢
    obtain ⟨j, rfl⟩ : ∃ j, k = r1.length + (j + 1) := ⟨k - r1.length - 1, by omega⟩
    rw [show r1.length + (j + 1) - r1.length = j + 1 by omega, List.getElem?_cons_succ] at q
    rw [show r1.length + (j + 1) - 1 - r1.length = j by omega, List.getElem?_append_left (List.getElem?_eq_some_iff.mp q).1]
    exact q
  refine ⟨by simp only [List.length_append, List.length_cons, List.length_nil]; omega, ?_, fun n a o' h1 h2 => ?_, R.tab, fun n ks' h2 => ?_⟩
  · have nd := R.nd
    have pm : (r1 ++ (rs ++ [D])).Perm (r1 ++ D :: rs) := List.Perm.append_left r1 (List.perm_append_comm (l₁ := rs) (l₂ := [D]))
    exact pm.nodup_iff.mpr nd
  · by_cases hn : n < r1.length
    · rw [List.getElem?_append_left hn] at h1
      rw [List.getElem?_append_left (by omega)] at h2
      have q := R.at_ n a o' (by rw [List.getElem?_append_left hn]; exact h1) (by rw [List.getElem?_append_left (by omega)]; exact h2)
      cases o' with
      | lst ys =>
        obtain ⟨ws, h4, h5⟩ := q
        exact ⟨ws, h4, h5.less sub ys⟩
      | any => exact q
      | rows ls =>
        obtain ⟨ws, h4, h5⟩ := q
        refine ⟨ws, h4, pr_imp h5 fun x v hx z => ?_⟩
        obtain ⟨b, z1, z2⟩ := z
        have hlt := R.low n ls (by rw [List.getElem?_append_left (by omega)]; exact h2) x hx
        rw [List.getElem?_append_left (by omega)] at z1
        exact ⟨b, by rw [List.getElem?_append_left (by omega)]; exact z1, z2⟩
    · rw [List.getElem?_append_right (by omega)] at h1 h2
      by_cases hn2 : n - r1.length < rs.length
      · rw [List.getElem?_append_left hn2] at h1
        rw [List.getElem?_append_left (by omega)] at h2
        obtain ⟨xs, rfl⟩ := hm o' (List.mem_of_getElem? h2)
        have e1 : (r1 ++ D :: rs)[n + 1]? = some a := by
          rw [List.getElem?_append_right (by omega), show n + 1 - r1.length = (n - r1.length) + 1 by omega, List.getElem?_cons_succ]; exact h1
        have e2 : (m1 ++ o :: ms)[n + 1]? = some (.lst xs) := by
          rw [List.getElem?_append_right (by omega), show n + 1 - m1.length = (n - m1.length) + 1 by omega, List.getElem?_cons_succ]; exact h2
        obtain ⟨ws, h4, h5⟩ := R.at_ _ _ _ e1 e2
        exact ⟨ws, h4, h5.less sub xs⟩
      · rw [List.getElem?_append_right (by omega)] at h1 h2
        have e0 : n - r1.length - rs.length = 0 := by
          have := (List.getElem?_eq_some_iff.mp h1).1
          simp only [List.length_cons, List.length_nil] at this; omega
        rw [e0] at h1
        rw [show n - m1.length - ms.length = 0 by omega] at h2
        cases h1
        cases h2
        refine ⟨vs, hD, ?_⟩
        have : ∀ {ls : List Nat} {ws : List V}, Paired (fun k v => ∃ b, (r1 ++ D :: rs)[k]? = some b ∧ v = V.ref b) ls ws → (∀ k ∈ ls, r1.length < k) → Paired (fun k v => ∃ b, (r1 ++ (rs ++ [D]))[k]? = some b ∧ v = V.ref b) (ls.map fun k => k - 1) ws := by
          intro ls ws q
          induction q with
          | nil => exact fun _ => .nil
          | cons a _ ih =>
            intro hh
            obtain ⟨b, z1, z2⟩ := a
            exact .cons ⟨b, key _ _ (hh _ (List.mem_cons_self ..)) z1, z2⟩ (ih fun k hk => hh k (List.mem_cons_of_mem _ hk))
        exact this hp hk
  · by_cases hn : n < m1.length
    · rw [List.getElem?_append_left hn] at h2
      exact R.low n ks' (by rw [List.getElem?_append_left hn]; exact h2)
    · rw [List.getElem?_append_right (by omega)] at h2
      by_cases hn2 : n - m1.length < ms.length
      · rw [List.getElem?_append_left hn2] at h2
        obtain ⟨xs, e⟩ := hm _ (List.mem_of_getElem? h2)
        cases e
      · rw [List.getElem?_append_right (by omega)] at h2
        have e0 : n - m1.length - ms.length = 0 := by
          have := (List.getElem?_eq_some_iff.mp h2).1
          simp only [List.length_cons, List.length_nil] at this; omega
        rw [e0] at h2
        cases h2
        intro k hk'
        obtain ⟨j, hj, rfl⟩ := List.mem_map.mp hk'
        have h3 := hk j hj
        obtain ⟨i, hi⟩ := List.mem_iff_getElem?.mp hj
        obtain ⟨v, _, b, hb, _⟩ := pr_get hp hi
        have := (List.getElem?_eq_some_iff.mp hb).1
        simp only [List.length_append, List.length_cons] at this
        omega
end
section
variable {P : Program} {w : World} {K : PySem.W.Frag} {mg : Str → Option Value} {base : Heap} {gi : GI} {G : Tab} {n : Nat} {S : SX} {W : WX} {X : Cx}
theorem held_nil {r : List Addr} {H : Hp} {m : Mem} {k : Nat} {D : Addr} (R : Rel r H m) (hk : r[k]? = some D) (h : heldAt [] m[k]? = true) : H D = some (.lst []) := by
  cases q : m[k]? with
  | none => rw [q] at h; cases h
  | some o =>
    rw [q] at h
    cases o with
    | lst xs =>
      cases xs with
      | nil =>
        obtain ⟨vs, h3, h4⟩ := R.at_ k D _ hk q
        rw [RepBs] at h4
        rw [h4] at h3
        exact h3
      | cons _ _ => cases h
    | any => cases h
    | rows _ => cases h
/-- a comprehension that makes lists of the memory -/
theorem rows_tx {it : It} {tg : Tg} {e : E} {tt : TT} {σ : L2.St} {H : Hp} {Q : VK} {r : List Addr} {δ : Env} {m : Mem} (R : Rel r H m) (Sl : RepS K mg r H δ σ)
    (ht : ∀ (σ : L2.St) (H : Hp) (Q : Bool → Hp → Prop), Q true H → tt σ H Q)
    (h : OkR mg W σ r H ((evI (run G n) it δ m).bind fun a m => (rowsL (fun δ m => ev (run G n) e δ m) tg δ a.g m.length a.xs [] (m ++ [.lst []])).bind fun ks m' => rowsE m.length ks m') (PV K mg Q)) :
    tLc (TXi K mg (run G n) W it) (gTg K tg) tt (TX K mg (run G n) W0 e) tg.slots σ H Q := by
  refine TXi.one R Sl h fun a r1 H1 m1 e1 R1 S1 hg h1 J hJ D hD => ?_
  have R2 : Rel (r1 ++ [D]) (upd H1 D (.lst [])) (m1 ++ [.lst []]) := R1.alloc hD (by rw [RepBs])
  have E2 : Ext r1 H1 (r1 ++ [D]) (upd H1 D (.lst [])) := .alloc hD
  have rD : (r1 ++ [D])[m1.length]? = some D := by
    rw [List.getElem?_append_right (by rw [R1.len]; exact Nat.le_refl _), R1.len, Nat.sub_self]; rfl
  have D0 : (upd H1 D (.lst []) : Hp) D = some (.lst []) := upd_same
  let Inv' : Nat → Hp → Prop := fun i H => ∃ r3 m3 ks vs, Ext (r1 ++ [D]) (upd H1 D (.lst [])) r3 H ∧ Rel r3 H m3 ∧ H D = some (.lst vs) ∧ Paired (fun k v => ∃ b, r3[k]? = some b ∧ v = V.ref b) ks vs ∧ heldAt ks m3[m1.length]? = true ∧ ks.length ≤ lim ∧
    OkR mg W σ r1 H1 ((rowsL (fun δ m => ev (run G n) e δ m) tg δ a.g m1.length (a.xs.drop i) ks m3).bind fun ks m' => rowsE m1.length ks m') (PV K mg Q)
  refine ⟨fun i k H => k = a.xs.length - i ∧ i ≤ a.xs.length ∧ Inv' i H, ⟨_, rfl, Nat.zero_le _, _, _, [], [], .refl _ _, R2, D0, .nil, ?_, Nat.zero_le _, h1⟩, ?_⟩
  · rw [List.getElem?_append_right (Nat.le_refl _), Nat.sub_self]; rfl
  rintro i k H3 ⟨rfl, hi, r3, m3, ks, vs, E3, R3, hDv, hp, hh, hkl, h3⟩
  have D3 := E3.at_ rD
  by_cases hlt : i < a.xs.length
  · have hd : a.xs.drop i = a.xs[i] :: a.xs.drop (i + 1) := List.drop_eq_getElem_cons hlt
    have hx : a.xs[i]? = some a.xs[i] := List.getElem?_eq_getElem hlt
    rw [hd, rowsL] at h3
    by_cases hg3 : gOk a.g m3
    case neg => rw [if_neg hg3] at h3; exact h3.elim
    rw [if_pos hg3] at h3
    have hgo := hJ.go i _ _ _ hlt (E2.trans E3) R3 hg3
    refine .inr ⟨hgo, Inv' (i + 1), fun H' q => ⟨a.xs.length - (i + 1), by omega, rfl, hlt, q⟩, fun x H' y => ?_⟩
    obtain ⟨E4, k4, rx⟩ := hJ.yld i _ _ _ x H' _ hx (E2.trans E3) R3 hg3 y
    have R4 := R3.same E4 k4
    cases q : asgn tg a.xs[i] (clear δ tg.slots) with
    | none => simp only [q] at h3; exact h3.elim
    | some δ1 =>
      simp only [q] at h3
      have S4 : RepS K mg r3 H' (clear δ tg.slots) (wipe σ tg.slots) := ((S1.ext (E2.trans (E3.trans E4))).wipe _)
      refine asgn_ok S4 rx q fun σ1 S5 hl hw => ⟨hw.trans (wipe_wipe _ _), ?_⟩
      refine ht σ1 H' _ ?_
      simp only [if_true]
      refine ⟨r3, δ1, m3, R4, S5, ?_⟩
      cases qe : ev (run G n) e δ1 m3 with
      | ex c m6 => simp only [qe] at h3; exact h3.elim
      | bad => simp only [qe] at h3; exact h3.elim
      | ok d m6 =>
        simp only [qe] at h3
        intro r6 H6 E6 R6 v rv
        cases d with
        | ref j =>
          simp only at h3
          by_cases hz : m1.length < j ∧ ks.length < lim ∧ heldAt ks m6[m1.length]? = true
          case neg => rw [if_neg hz] at h3; exact h3.elim
          rw [if_pos hz] at h3
          obtain ⟨z1, z2, z3⟩ := hz
          obtain ⟨b, hb, rfl⟩ := rv
          have E36 : Ext (r1 ++ [D]) (upd H1 D (.lst [])) r6 H6 := E3.trans (E4.trans E6)
          have D6 := E36.at_ rD
          have hD6 : H6 D = some (.lst vs) := by
            cases ks with
            | nil => rw [pr_nil hp]; exact held_nil R6 D6 z3
            | cons k0 ks0 =>
              have hp' := hp
              cases hp' with
              | cons h7 h8 =>
                obtain ⟨c, c1, c2⟩ := h7
                exact (E4.trans E6).rows D _ hDv ⟨c, List.mem_of_getElem? c1, by rw [c2]; exact List.mem_cons_self ..⟩
          have hlen := Paired.length hp
          refine ⟨vs, hD6, by rw [← hlen, ← lim_eq]; exact z2, r6, m6.set m1.length .any, ks ++ [j], vs ++ [V.ref b], E36.wr (List.mem_of_getElem? rD) D0 hD6, R6.any D6 hD6, upd_same, ?_, ?_, ?_, h3⟩
          · exact pr_append (pr_imp hp fun x v _ z => by
              obtain ⟨c, c1, c2⟩ := z
              exact ⟨c, (E4.trans E6).at_ c1, c2⟩) (.cons ⟨b, hb, rfl⟩ .nil)
          · have hl6 : m1.length < m6.length := by rw [← R6.len]; exact (List.getElem?_eq_some_iff.mp D6).1
            rw [List.getElem?_set_self hl6]
            cases ks <;> rfl
          · rw [List.length_append]; show _ + 1 ≤ _; omega
        | _ => simp only at h3; exact h3.elim
  · have ei : i = a.xs.length := by omega
    subst ei
    rw [List.drop_length, rowsL] at h3
    by_cases hg3 : gOk a.g m3
    case neg => rw [if_neg hg3] at h3; exact h3.elim
    rw [if_pos hg3] at h3
    refine .inl ⟨hJ.stop _ _ _ (E2.trans E3) R3 hg3, ?_⟩
    have h3 : OkR mg W σ r1 H1 (rowsE m1.length ks m3) (PV K mg Q) := h3
    unfold rowsE at h3
    split at h3
    · rename_i hc
      simp only [Bool.and_eq_true, List.all_eq_true, decide_eq_true_eq] at hc
      obtain ⟨⟨c1, c2⟩, c3⟩ := hc
      have hl3 : m1.length < m3.length := by rw [← R3.len]; exact (List.getElem?_eq_some_iff.mp D3).1
      -- the shape of r3 and m3
      obtain ⟨rs, ers⟩ := E3.pre
      have er : r3 = r1 ++ D :: rs := by rw [← ers, List.append_assoc]; rfl
      have em : m3 = m3.take m1.length ++ m3[m1.length] :: m3.drop (m1.length + 1) := by
        rw [← List.drop_eq_getElem_cons hl3, List.take_append_drop]
      have hlt : r1.length = (m3.take m1.length).length := by rw [List.length_take, R1.len]; omega
      have R7 : Rel (r1 ++ D :: rs) H3 (m3.take m1.length ++ m3[m1.length] :: m3.drop (m1.length + 1)) := by rw [← er, ← em]; exact R3
      have Rm := R7.move hlt (fun x hx => by
        have := c2 x hx
        cases x with
        | lst xs => exact ⟨xs, rfl⟩
        | any => cases this
        | rows _ => cases this) hDv (fun k hk => by rw [R1.len]; exact c3 k hk) (by rw [← er]; exact hp)
      have Em : Ext r1 H1 (r1 ++ (rs ++ [D])) H3 := (E2.trans E3).perm (List.prefix_append ..) fun x hx => by
        rw [er]
        simp only [List.mem_append, List.mem_cons, List.not_mem_nil, or_false] at hx ⊢
        rcases hx with h | h | h
        · exact .inl h
        · exact .inr (.inr h)
        · exact .inr (.inl h)
      refine h3 _ H3 Em Rm _ ⟨D, ?_, rfl⟩
      have l3 : m3.length = r1.length + rs.length + 1 := by rw [← R3.len, er]; simp only [List.length_append, List.length_cons]; omega
      rw [l3, ← List.append_assoc, List.getElem?_append_right (by rw [List.length_append]; omega), List.length_append]
      rw [show r1.length + rs.length + 1 - 1 - (r1.length + rs.length) = 0 by omega]
      rfl
    · exact h3.elim
theorem i_rows {l tg : Expr} {t : E} (hK : X.K = K) (hl : PE X l (TX K mg (run G n) W t)) : PI X tg l (fun σ H R => TX K mg (run G n) W t σ H fun v H1 => ∃ p, v = .ref p ∧ (∃ vs, SqL K H1 p vs) ∧ R (Itl K p) H1) := by
  have h := pi_seq (tg := tg) hl
  refine ⟨fun pins s σ H R I hq => h.run pins s σ H R I ?_⟩
  obtain ⟨r, δ, m, Rl, Sl, q⟩ := hq
  refine ⟨r, δ, m, Rl, Sl, q.mono fun a r' H' m' e R' pv v rv => ?_⟩
  obtain ⟨p, e, h1, h2⟩ := pv v rv
  rw [hK]
  exact ⟨p, e, .inl ⟨h1, h2⟩⟩
/-- a comprehension over a list of lists -/
theorem rc_tx {x e : E} {i : Nat} {tt : TT} {σ : L2.St} {H : Hp} {Q : VK} {r : List Addr} {δ : Env} {m : Mem} (R : Rel r H m) (Sl : RepS K mg r H δ σ)
    (ht : ∀ (σ : L2.St) (H : Hp) (Q : Bool → Hp → Prop), Q true H → tt σ H Q)
    (h : OkR mg W σ r H ((ev (run G n) x δ m).bind fun d m => match rowsOf d m with
      | some p => (rcL (fun δ m => ev (run G n) e δ m) i δ p.1 p.2 m.length p.2 (m ++ [.lst []])).bind fun _ m' => leave false m.length (.ref m.length) m'
      | Option.none => .bad) (PV K mg Q)) :
    tLc (fun σ H R => TX K mg (run G n) W x σ H fun v H1 => ∃ p, v = .ref p ∧ (∃ vs, SqL K H1 p vs) ∧ R (Itl K p) H1) (gTg K (.one i)) tt (TX K mg (run G n) W0 e) [i] σ H Q := by
  refine TX.one R Sl h fun d v r1 H1 m1 e1 R1 S1 rv h1 => ?_
  cases d with
  | ref nn =>
    obtain ⟨p, hp, rfl⟩ := rv
    cases ho : m1[nn]? with
    | none => simp only [rowsOf, ho] at h1; exact h1.elim
    | some o =>
      cases o with
      | lst _ => simp only [rowsOf, ho] at h1; exact h1.elim
      | any => simp only [rowsOf, ho] at h1; exact h1.elim
      | rows all =>
        simp only [rowsOf, ho] at h1
        obtain ⟨vs0, hv0, hq0⟩ := R1.at_ nn p _ hp ho
        refine ⟨p, rfl, ⟨vs0, .of hv0⟩, fun D hD => ?_⟩
        have R2 : Rel (r1 ++ [D]) (upd H1 D (.lst [])) (m1 ++ [.lst []]) := R1.alloc hD (by rw [RepBs])
        have E2 : Ext r1 H1 (r1 ++ [D]) (upd H1 D (.lst [])) := .alloc hD
        have rl : (r1 ++ [D]).length = m1.length + 1 := by rw [List.length_append, R1.len]; rfl
        have rD : (r1 ++ [D])[m1.length]? = some D := by
          rw [List.getElem?_append_right (by rw [R1.len]; exact Nat.le_refl _), R1.len, Nat.sub_self]; rfl
        have hpD : (r1 ++ [D])[nn]? = some p := E2.at_ hp
        let Inv' : Nat → Hp → Prop := fun j H => ∃ m, Ext (r1 ++ [D]) (upd H1 D (.lst [])) (r1 ++ [D]) H ∧ Rel (r1 ++ [D]) H m ∧
          OkR mg W σ r1 H1 ((rcL (fun δ m => ev (run G n) e δ m) i δ nn all m1.length (all.drop j) m).bind fun _ m' => leave false m1.length (.ref m1.length) m') (PV K mg Q)
        refine ⟨fun j k H => k = all.length - j ∧ j ≤ all.length ∧ Inv' j H, ⟨_, rfl, Nat.zero_le _, _, .refl _ _, R2, h1⟩, ?_⟩
        rintro j k H3 ⟨rfl, hj, m3, E3, R3, h3⟩
        by_cases hlt : j < all.length
        · have hd : all.drop j = all[j] :: all.drop (j + 1) := List.drop_eq_getElem_cons hlt
          have hx : all[j]? = some all[j] := List.getElem?_eq_getElem hlt
          rw [hd, rcL] at h3
          by_cases hg3 : m3[nn]? = some (.rows all)
          case neg => rw [if_neg hg3] at h3; exact h3.elim
          rw [if_pos hg3] at h3
          obtain ⟨vs, hv, hq⟩ := R3.at_ nn p _ hpD hg3
          obtain ⟨w, hw, b, hb, rfl⟩ := pr_get hq hx
          refine .inr ⟨⟨vs, _, .of hv, hw⟩, Inv' (j + 1), fun H' q => ⟨all.length - (j + 1), by omega, rfl, hlt, q⟩, fun y H' hy => ?_⟩
          obtain ⟨eH, hy⟩ := hy
          subst eH
          have hy := hy vs (.of hv)
          rw [hw] at hy
          cases hy
          have S4 : RepS K mg (r1 ++ [D]) H' (clear δ [i]) (wipe σ [i]) := ((S1.ext (E2.trans E3)).wipe _)
          have S5 := S4.set i (d := .ref all[j]) (v := V.ref b) ⟨b, hb, rfl⟩
          refine ⟨by simp [L2.wipe, List.set_set], ht _ H' _ ?_⟩
          simp only [if_true]
          refine ⟨r1 ++ [D], _, m3, R3, S5, ?_⟩
          have back : ∀ {r' : List Addr} {Ha Hb : Hp} {m' : Mem}, Ext (r1 ++ [D]) Ha r' Hb → Rel r' Hb m' → Rel (r1 ++ [D]) Hb (m'.take (m1.length + 1)) := fun E R => by
            have := R.take (m1.length + 1)
            have et := prefix_take E.pre
            rw [rl] at et
            rw [et] at this
            exact this
          cases qe : ev (run G n) e ((clear δ [i]).set i (some (.ref all[j]))) m3 with
          | ex c m6 => simp only [qe] at h3; exact h3.elim
          | bad => simp only [qe] at h3; exact h3.elim
          | ok d m6 =>
            simp only [qe] at h3
            intro r6 H6 E6 R6 v rv
            cases d with
            | b x' =>
              simp only [own] at h3
              cases qm : m6[m1.length]? with
              | none => simp only [qm] at h3; exact h3.elim
              | some o =>
                cases o with
                | lst zs =>
                  simp only [qm] at h3
                  by_cases hz : zs.length < lim
                  case neg => rw [if_neg hz] at h3; exact h3.elim
                  rw [if_pos hz] at h3
                  obtain ⟨us, g1, g2⟩ := R6.at_ _ D _ (E6.at_ rD) qm
                  have sub : ∀ c, c ∈ r1 ++ [D] → c ∈ r6 := fun c hc => E6.sub hc
                  have nr : ∀ b, b ∈ r1 ++ [D] → V.ref b ∉ us := fun b hb => RepBs.noref R6 g2 b (sub b hb)
                  refine ⟨us, g1, by rw [← repBs_length g2, ← lim_eq]; exact hz, (m6.take (m1.length + 1)).set m1.length (.lst (zs ++ [x'])), ?_, ?_, h3⟩
                  · exact E3.trans (E6.take.trans (.write (List.mem_of_getElem? rD) g1 nr))
                  · refine (back E6 R6).write rD g1 nr ?_
                    have g3 : RepBs (r1 ++ [D]) H6 zs us := g2.less sub zs
                    have g4 : RepB (r1 ++ [D]) H6 x' v := RepB.less sub x' rv
                    exact RepBs.pair.mpr (pr_append (RepBs.pair.mp g3) (.cons g4 .nil))
                | any => simp only [qm] at h3; exact h3.elim
                | rows ks => simp only [qm] at h3; exact h3.elim
            | _ => simp only [own] at h3; exact h3.elim
        · have ei : j = all.length := by omega
          subst ei
          rw [List.drop_length, rcL] at h3
          by_cases hg3 : m3[nn]? = some (.rows all)
          case neg => rw [if_neg hg3] at h3; exact h3.elim
          rw [if_pos hg3] at h3
          obtain ⟨vs, hv, hq⟩ := R3.at_ nn p _ hpD hg3
          exact .inl ⟨⟨vs, .of hv, by rw [← Paired.length hq]; exact Nat.le_refl _⟩, leave_ok (K := K) (mg := mg) (d := .ref m1.length) R1 (E2.trans E3) R3 ⟨D, rD, rfl⟩ h3⟩
  | _ => simp only [rowsOf] at h1; exact h1.elim
end
end Z

/-! Z11: iterables, comprehensions; the whole of the expressions. -/
namespace Z
open PySem PySem.Spec PyProof.Rows L2
variable [TabC]
section
variable {P : Program} {w : World} {K : PySem.W.Frag} {mg : Str → Option Value} {base : Heap} {gi : GI} {G : Tab} {n : Nat} {S : SX} {W : WX} {X : Cx}
/-- what may be walked -/
theorem itSeq_inv {x : D} {v : V} {r : List Addr} {H : Hp} {m : Mem} {a : Items} {m' : Mem} (R : Rel r H m) (rv : RepD K mg r H x v) (h : itSeq x m = .ok a m') : m' = m ∧ gOk a.g m ∧ ∃ p, v = .ref p ∧
    ((∀ r' H' m', Ext r H r' H' → Rel r' H' m' → gOk a.g m' → ∃ vs, H' p = some (.lst vs) ∧ RepBs r' H' a.xs vs) ∨ (a.g = none ∧ ∃ vs, H p = some (.tup vs) ∧ RepBs r H a.xs vs)) := by
  unfold itSeq at h
  split at h
  · rename_i xs
    cases h
    have rv : RepB r H (.list xs) v := rv
    refine ⟨rfl, trivial, ?_⟩
    obtain ⟨p, vs, e, _⟩ := (by rw [RepB] at rv; exact rv : ∃ a vs, v = .ref a ∧ _)
    refine ⟨p, e, .inl fun r' H' m' ex R' _ => ?_⟩
    have rv' := RepB.ext ex _ rv
    rw [RepB] at rv'
    obtain ⟨p', vs', e', h1, h2, h3⟩ := rv'
    rw [e] at e'
    cases e'
    exact ⟨vs', h1, h3⟩
  · rename_i xs
    cases h
    have rv : RepB r H (.tuple xs) v := rv
    rw [RepB] at rv
    obtain ⟨p, vs, e, h1, h2⟩ := rv
    exact ⟨rfl, trivial, p, e, .inr ⟨rfl, vs, h1, h2⟩⟩
  · rename_i k
    obtain ⟨p, h1, e⟩ := rv
    split at h
    · rename_i xs hm
      cases h
      refine ⟨rfl, hm, p, e, .inl fun r' H' m' ex R' hg => ?_⟩
      exact R'.at_ k p _ (ex.at_ h1) hg
    · cases h
  · cases h
omit [TabC] in
theorem itSeq_case (x : D) (m : Mem) : itSeq x m = .bad ∨ ∃ a m', itSeq x m = .ok a m' := by
  unfold itSeq
  repeat' split
  all_goals first | exact .inl rfl | exact .inr ⟨_, _, rfl⟩
theorem i_seq {l tg : Expr} {t : E} (hK : X.K = K) (hl : PE X l (TX K mg (run G n) W t)) : PI X tg l (TXi K mg (run G n) W (.seq t)) := by
  have h := pi_seq (tg := tg) hl
  refine ⟨fun pins s σ H R I hq => h.run pins s σ H R I ?_⟩
  obtain ⟨r, δ, m, Rl, Sl, q⟩ := hq
  rw [evI] at q
  refine TX.one Rl Sl q fun d v r1 H1 m1 e1 R1 S1 rv q => ?_
  rcases itSeq_case d m1 with e | ⟨a, m', e⟩
  · rw [e] at q; exact q.elim
  · rw [e] at q
    obtain ⟨rfl, hg, p, rfl, hh⟩ := itSeq_inv R1 rv e
    refine ⟨p, rfl, ?_⟩
    rw [hK]
    obtain ⟨xs, g⟩ := a
    rcases hh with hh | ⟨hn, vs, h1, h2⟩
    · obtain ⟨vs, h1, h2⟩ := hh r1 H1 m' (.refl _ _) R1 hg
      exact .inl ⟨⟨vs, .of h1⟩, q r1 H1 (.refl _ _) R1 hg _ (Wk.lst hh)⟩
    · cases hn
      exact .inr ⟨⟨vs, .of h1⟩, q r1 H1 (.refl _ _) R1 hg _ (Wk.tup h1 h2)⟩
theorem i_enm {l : Expr} {t : E} {elts : List Expr} {k : Nat} {tpos p pos : Pos} (ok : XOk P w K mg base gi G n S W X) (hg : S.gl "enumerate" = true) (hp : plainX l = true) (hl : PE X l (TX K mg (run G n) W t)) :
    PI X (.Tuple elts k tpos) (.Call (.Name "enumerate" p) [l] [] pos) (TXi K mg (run G n) W (.enm t)) := by
  have h := pi_enm (elts := elts) (kk := k) (tpos := tpos) (p := p) (pos := pos) (gl_of ok hg).1 (blt_of ok (by decide)) (pa_cons hl pa_nil (star_of hp)) (star_of hp)
  refine ⟨fun pins s σ H R I hq => h.run pins s σ H R I ?_⟩
  obtain ⟨r, δ, m, Rl, Sl, q⟩ := hq
  rw [evI] at q
  refine TX.one Rl Sl q fun d v r1 H1 m1 e1 R1 S1 rv q => ?_
  unfold itEnm at q
  rcases itSeq_case d m1 with e | ⟨a, m', e⟩
  · rw [e] at q; exact q.elim
  · rw [e] at q
    obtain ⟨rfl, hg, p, rfl, hh⟩ := itSeq_inv R1 rv e
    refine ⟨p, rfl, ?_⟩
    rw [ok.eK]
    obtain ⟨xs, g⟩ := a
    rcases hh with hh | ⟨hn, vs, h1, h2⟩
    · obtain ⟨vs, h1, h2⟩ := hh r1 H1 m' (.refl _ _) R1 hg
      exact .inl ⟨⟨vs, .of h1⟩, q r1 H1 (.refl _ _) R1 hg _ (Wk.enm hh)⟩
    · cases hn
      exact .inr ⟨⟨vs, .of h1⟩, q r1 H1 (.refl _ _) R1 hg _ (Wk.enmT h1 h2)⟩
omit [TabC] in
theorem itRng_inv {x y : D} {m : Mem} (h : itRng x y m ≠ .bad) : ∃ i j, x = .b (.int i) ∧ y = .b (.int j) ∧ rngOk i j = true ∧ itRng x y m = .ok ⟨rngP i j, none⟩ m := by
  unfold itRng at h ⊢
  split at h
  · rename_i i j
    by_cases q : rngOk i j = true
    · exact ⟨i, j, rfl, rfl, q, by simp [q]⟩
    · rw [if_neg q] at h; exact absurd rfl h
  · exact absurd rfl h
omit [TabC] in
theorem rng_bounds {i j : Int} (h : rngOk i j = true) : -(2 ^ 62) ≤ i ∧ i < 2 ^ 62 ∧ -(2 ^ 62) ≤ j ∧ j < 2 ^ 62 := by
  unfold rngOk at h
  have h := of_decide_eq_true h
  omega
theorem okR_nb {α : Type} {σ : L2.St} {r : List Addr} {H : Hp} {x : R α} {P' : α → List Addr → Hp → Mem → Prop} (h : OkR mg W σ r H x P') : x ≠ .bad := fun e => by rw [e] at h; exact h
theorem i_rng1 {a tg : Expr} {t : E} {p pos : Pos} (ok : XOk P w K mg base gi G n S W X) (hg : S.gl "range" = true) (hp : plainX a = true) (ha : PE X a (TX K mg (run G n) W t)) :
    PI X tg (.Call (.Name "range" p) [a] [] pos) (TXi K mg (run G n) W (.rng1 t)) := by
  have h := pi_range1 (X := X) (tg := tg) (p := p) (pos := pos) (gl_of ok hg).1 (blt_of ok (by decide)) (pa_cons ha pa_nil (star_of hp)) (star_of hp)
  refine ⟨fun pins s σ H R I hq => h.run pins s σ H R I ?_⟩
  obtain ⟨r, δ, m, Rl, Sl, q⟩ := hq
  rw [evI] at q
  refine TX.one Rl Sl q fun d v r1 H1 m1 e1 R1 S1 rv q => ?_
  obtain ⟨i, j, hi, rfl, hk, e⟩ := itRng_inv (okR_nb q)
  rw [e] at q
  cases hi
  have rv : RepB r1 H1 (.int j) v := rv
  rw [RepB] at rv
  obtain ⟨_, _, b1, b2⟩ := rng_bounds hk
  refine ⟨j, by rw [rv], b1, b2, ?_⟩
  have wk : Wk (Itr 0 j.toNat) ⟨rngP 0 j, none⟩ r1 H1 := by
    have := Wk.rng (lo := 0) (n := j.toNat) (r0 := r1) (H0 := H1)
    unfold rngP
    rw [Int.sub_zero]
    exact this
  exact q r1 H1 (.refl _ _) R1 trivial _ wk
theorem i_rng2 {a b tg : Expr} {t u : E} {p pos : Pos} (ok : XOk P w K mg base gi G n S W X) (hg : S.gl "range" = true) (hp : plainX a = true) (hp2 : plainX b = true) (ha : PE X a (TX K mg (run G n) W t)) (hb : PE X b (TX K mg (run G n) W u)) :
    PI X tg (.Call (.Name "range" p) [a, b] [] pos) (TXi K mg (run G n) W (.rng2 t u)) := by
  have s2 : starEach [b] X.env = [(false, eval b X.env)] := star_of hp2
  have s1 : starEach [a, b] X.env = (false, eval a X.env) :: starEach [b] X.env := star_of hp
  have h := pi_range2 (X := X) (tg := tg) (p := p) (pos := pos) (gl_of ok hg).1 (blt_of ok (by decide)) (pa_cons ha (pa_cons hb pa_nil (star_of hp2)) s1) (by rw [s1, s2]) s2
  refine ⟨fun pins s σ H R I hq => h.run pins s σ H R I ?_⟩
  obtain ⟨r, δ, m, Rl, Sl, q⟩ := hq
  rw [evI] at q
  refine TX.two Rl Sl q (Q := fun v u H1 => ∃ i j : Int, [v, u] = [V.int i, V.int j] ∧ (-(2 ^ 62) ≤ i ∧ i < 2 ^ 62 ∧ -(2 ^ 62) ≤ j ∧ j < 2 ^ 62) ∧ R (Itr i (j - i).toNat) H1) fun x y v u r1 H1 m1 e1 R1 S1 rx ry q => ?_
  obtain ⟨i, j, rfl, rfl, hk, e⟩ := itRng_inv (okR_nb q)
  rw [e] at q
  have rx : RepB r1 H1 (.int i) v := rx
  have ry : RepB r1 H1 (.int j) u := ry
  rw [RepB] at rx ry
  exact ⟨i, j, by rw [rx, ry], rng_bounds hk, q r1 H1 (.refl _ _) R1 trivial _ Wk.rng⟩
theorem rep_lst {r : List Addr} {H : Hp} {xs : List PyData} {v : V} (rv : RepB r H (.list xs) v) : ∃ p, v = .ref p ∧ ∀ r' H', Ext r H r' H' → ∃ vs, H' p = some (.lst vs) ∧ RepBs r' H' xs vs := by
  obtain ⟨p, vs, e, _⟩ := (by rw [RepB] at rv; exact rv : ∃ a vs, v = .ref a ∧ _)
  refine ⟨p, e, fun r' H' ex => ?_⟩
  have rv' := RepB.ext ex _ rv
  rw [RepB] at rv'
  obtain ⟨p', vs', e', h1, h2, h3⟩ := rv'
  rw [e] at e'
  cases e'
  exact ⟨vs', h1, h3⟩
theorem i_zip {l l2 : Expr} {t u : E} {elts : List Expr} {k : Nat} {tpos p pos : Pos} (ok : XOk P w K mg base gi G n S W X) (hg : S.gl "zip" = true) (hp : plainX l = true) (hp2 : plainX l2 = true) (hl : PE X l (TX K mg (run G n) W t)) (hl2 : PE X l2 (TX K mg (run G n) W u)) :
    PI X (.Tuple elts k tpos) (.Call (.Name "zip" p) [l, l2] [] pos) (TXi K mg (run G n) W (.zip t u)) := by
  have s2 : starEach [l2] X.env = [(false, eval l2 X.env)] := star_of hp2
  have s1 : starEach [l, l2] X.env = (false, eval l X.env) :: starEach [l2] X.env := star_of hp
  have h := RZ.pi_zipA (X := X) (elts := elts) (kk := k) (tpos := tpos) (p := p) (pos := pos) (gl_of ok hg).1 (blt_of ok (by decide)) (pa_cons hl (pa_cons hl2 pa_nil (star_of hp2)) s1) s1 (by rw [s2]; rfl)
  refine ⟨fun pins s σ H R I hq => h.run pins s σ H R I ?_⟩
  obtain ⟨r, δ, m, Rl, Sl, q⟩ := hq
  rw [evI] at q
  refine TX.two Rl Sl q (Q := fun v u H1 => ∃ a b xs ys, [v, u] = [V.ref a, V.ref b] ∧ ((SqL X.K H1 a xs ∧ SqL X.K H1 b ys ∧ R (Itz X.K a b) H1) ∨ (SqT X.K H1 a xs ∧ SqT X.K H1 b ys ∧ R (RZ.ItzT X.K a b) H1))) fun x y v u r1 H1 m1 e1 R1 S1 rx ry q => ?_
  rw [ok.eK]
  unfold itZip at q
  split at q
  · rename_i xs ys
    obtain ⟨a, rfl, ha⟩ := rep_lst (show RepB r1 H1 (.list xs) v from rx)
    obtain ⟨b, rfl, hb⟩ := rep_lst (show RepB r1 H1 (.list ys) u from ry)
    obtain ⟨vs, h1, h2⟩ := ha r1 H1 (.refl _ _)
    obtain ⟨ws, h3, h4⟩ := hb r1 H1 (.refl _ _)
    exact ⟨a, b, vs, ws, rfl, .inl ⟨.of h1, .of h3, q r1 H1 (.refl _ _) R1 trivial _ (Wk.zip fun r H m e R' _ => ⟨ha r H e, hb r H e⟩)⟩⟩
  · rename_i xs ys
    have rx : RepB r1 H1 (.tuple xs) v := rx
    have ry : RepB r1 H1 (.tuple ys) u := ry
    rw [RepB] at rx ry
    obtain ⟨a, vs, rfl, h1, h2⟩ := rx
    obtain ⟨b, ws, rfl, h3, h4⟩ := ry
    exact ⟨a, b, vs, ws, rfl, .inr ⟨.of h1, .of h3, q r1 H1 (.refl _ _) R1 trivial _ (Wk.zipT h1 h2 h3 h4)⟩⟩
  · rename_i k ys
    obtain ⟨b, rfl, hb⟩ := rep_lst (show RepB r1 H1 (.list ys) u from ry)
    obtain ⟨a, hk, rfl⟩ := rx
    split at q
    · rename_i xs hm
      obtain ⟨vs, h1, h2⟩ := R1.at_ k a _ hk hm
      obtain ⟨ws, h3, h4⟩ := hb r1 H1 (.refl _ _)
      exact ⟨a, b, vs, ws, rfl, .inl ⟨.of h1, .of h3, q r1 H1 (.refl _ _) R1 hm _ (Wk.zip fun r H m e R' hg => ⟨R'.at_ k a _ (e.at_ hk) hg, hb r H e⟩)⟩⟩
    · exact q.elim
  · exact q.elim
theorem i_zip3 {l l2 l3 : Expr} {t u v : E} {elts : List Expr} {k : Nat} {tpos p pos : Pos} (ok : XOk P w K mg base gi G n S W X) (hg : S.gl "zip" = true) (hp : plainX l = true) (hp2 : plainX l2 = true) (hp3 : plainX l3 = true) (hl : PE X l (TX K mg (run G n) W t)) (hl2 : PE X l2 (TX K mg (run G n) W u)) (hl3 : PE X l3 (TX K mg (run G n) W v)) :
    PI X (.Tuple elts k tpos) (.Call (.Name "zip" p) [l, l2, l3] [] pos) (TXi K mg (run G n) W (.zip3 t u v)) := by
  have s3 : starEach [l3] X.env = [(false, eval l3 X.env)] := star_of hp3
  have s2 : starEach [l2, l3] X.env = (false, eval l2 X.env) :: starEach [l3] X.env := star_of hp2
  have s1 : starEach [l, l2, l3] X.env = (false, eval l X.env) :: starEach [l2, l3] X.env := star_of hp
  have h := pi_zip3 (X := X) (elts := elts) (kk := k) (tpos := tpos) (p := p) (pos := pos) (gl_of ok hg).1 (blt_of ok (by decide)) (pa_cons hl (pa_cons hl2 (pa_cons hl3 pa_nil s3) s2) s1) s1 (by rw [s2, s3]; rfl)
  refine ⟨fun pins s σ H R I hq => h.run pins s σ H R I ?_⟩
  obtain ⟨r, δ, m, Rl, Sl, q⟩ := hq
  rw [evI] at q
  refine TX.one Rl Sl q fun x v0 r0 H0 m0 e0 R0 S0 rx q1 => ?_
  refine TX.two R0 S0 q1 (Q := fun v u H1 => ∃ a b c xs ys zs, [v0, v, u] = [V.ref a, V.ref b, V.ref c] ∧ SqL X.K H1 a xs ∧ SqT X.K H1 b ys ∧ SqT X.K H1 c zs ∧ R (It3 X.K a b c) H1) fun y z v2 u2 r1 H1 m1 e1 R1 S1 ry rz q2 => ?_
  rw [ok.eK]
  have rx2 := rx.ext e1
  unfold itZip3 at q2
  split at q2
  · rename_i xs ys zs
    obtain ⟨a, rfl, ha⟩ := rep_lst (show RepB r1 H1 (.list xs) v0 from rx2)
    have ry2 : RepB r1 H1 (.tuple ys) v2 := ry
    have rz2 : RepB r1 H1 (.tuple zs) u2 := rz
    rw [RepB] at ry2 rz2
    obtain ⟨b, vs, rfl, h1, h2⟩ := ry2
    obtain ⟨c, ws, rfl, h3, h4⟩ := rz2
    obtain ⟨us, g1, g2⟩ := ha r1 H1 (.refl _ _)
    exact ⟨a, b, c, us, vs, ws, rfl, .of g1, .of h1, .of h3, q2 r1 H1 (.refl _ _) R1 trivial _ (Wk.zip3 (us := us) ha h1 h2 h3 h4)⟩
  · exact q2.elim
omit [TabC] in
theorem zip_snd {α β : Type} : ∀ {as : List α} {bs : List β}, as.length = bs.length → (as.zip bs).map (·.2) = bs
  | [], [], _ => rfl
  | a :: as, b :: bs, h => by
    rw [List.zip_cons_cons, List.map_cons, zip_snd (by simpa using h)]
theorem c_comp {elt target iter : Expr} {scope : Scope} {tg : Tg} {it : It} {e : E} {b : Bool} {pos : Pos} (ok : XOk P w K mg base gi G n S W X) (hb : blkC S.N S.sc scope ((tgNames target).zip tg.slots) = true) (hl : (tgNames target).length = tg.slots.length)
    (ht : chkTg (S.blk scope) tg target = true) (hp : plainX iter = true) (hi : PI X target iter (TXi K mg (run G n) W it))
    (he : ∀ {X' : Cx}, XOk P w K mg base gi G n (S.blk scope) W0 X' → PE X' elt (TX K mg (run G n) W0 e)) : PE X (.ListComp elt [⟨target, iter, [], 0⟩] scope pos) (TX K mg (run G n) W (.comp b tg it e)) := by
  have bo : BlkOk X.N X.env.scope scope ((tgNames target).zip tg.slots) := by rw [ok.eN, ok.eS]; exact blkOk_by hb
  have h := pe_lc (X := X) (pos := pos) ok.calm (by rw [ok.eN]; exact ok.nd) hi bo (fun s H C cl fp => pg_of (blk_ok ok s H C cl fp) ht) (fun s H C cl fp => pts_nil) (fun s H C cl fp => he (blk_ok ok s H C cl fp)) (set_of hp)
  rw [zip_snd hl] at h
  refine pe_w h fun σ H Q ⟨r, δ, m, R, Sl, q⟩ => ?_
  rw [ev] at q
  exact comp_tx R Sl (fun σ H Q r δ m R Sl ⟨b, m', e, k⟩ => by cases e; exact k r H (.refl _ _) R) q
theorem c_rowc {elt target iter : Expr} {scope : Scope} {tg : Tg} {it : It} {e : E} {pos : Pos} (ok : XOk P w K mg base gi G n S W X) (hb : blkC S.N S.sc scope ((tgNames target).zip tg.slots) = true) (hl : (tgNames target).length = tg.slots.length)
    (ht : chkTg (S.blk scope) tg target = true) (hp : plainX iter = true) (hi : PI X target iter (TXi K mg (run G n) W it))
    (he : ∀ {X' : Cx}, XOk P w K mg base gi G n (S.blk scope) W0 X' → PE X' elt (TX K mg (run G n) W0 e)) : PE X (.ListComp elt [⟨target, iter, [], 0⟩] scope pos) (TX K mg (run G n) W (.rowc tg it e)) := by
  have bo : BlkOk X.N X.env.scope scope ((tgNames target).zip tg.slots) := by rw [ok.eN, ok.eS]; exact blkOk_by hb
  have h := pe_lc (X := X) (pos := pos) ok.calm (by rw [ok.eN]; exact ok.nd) hi bo (fun s H C cl fp => pg_of (blk_ok ok s H C cl fp) ht) (fun s H C cl fp => pts_nil) (fun s H C cl fp => he (blk_ok ok s H C cl fp)) (set_of hp)
  rw [zip_snd hl] at h
  refine pe_w h fun σ H Q ⟨r, δ, m, R, Sl, q⟩ => ?_
  rw [ev] at q
  exact rows_tx R Sl (fun σ H Q q => q) q
theorem c_rcomp {elt target iter : Expr} {scope : Scope} {i : Nat} {x e : E} {pos : Pos} (ok : XOk P w K mg base gi G n S W X) (hb : blkC S.N S.sc scope ((tgNames target).zip [i]) = true) (hl : (tgNames target).length = 1)
    (ht : chkTg (S.blk scope) (.one i) target = true) (hp : plainX iter = true) (hi : PI X target iter (fun σ H R => TX K mg (run G n) W x σ H fun v H1 => ∃ p, v = .ref p ∧ (∃ vs, SqL K H1 p vs) ∧ R (Itl K p) H1))
    (he : ∀ {X' : Cx}, XOk P w K mg base gi G n (S.blk scope) W0 X' → PE X' elt (TX K mg (run G n) W0 e)) : PE X (.ListComp elt [⟨target, iter, [], 0⟩] scope pos) (TX K mg (run G n) W (.rcomp i x e)) := by
  have bo : BlkOk X.N X.env.scope scope ((tgNames target).zip [i]) := by rw [ok.eN, ok.eS]; exact blkOk_by hb
  have h := pe_lc (X := X) (pos := pos) ok.calm (by rw [ok.eN]; exact ok.nd) hi bo (fun s H C cl fp => pg_of (blk_ok ok s H C cl fp) ht) (fun s H C cl fp => pts_nil) (fun s H C cl fp => he (blk_ok ok s H C cl fp)) (set_of hp)
  rw [zip_snd (by simpa using hl)] at h
  refine pe_w h fun σ H Q ⟨r, δ, m, R, Sl, q⟩ => ?_
  rw [ev] at q
  exact rc_tx R Sl (fun σ H Q q => q) q
theorem c_compI {elt target iter c : Expr} {scope : Scope} {tg : Tg} {it : It} {tc e : E} {b : Bool} {pos : Pos} (ok : XOk P w K mg base gi G n S W X) (hb : blkC S.N S.sc scope ((tgNames target).zip tg.slots) = true) (hl : (tgNames target).length = tg.slots.length)
    (ht : chkTg (S.blk scope) tg target = true) (hp : plainX iter = true) (hi : PI X target iter (TXi K mg (run G n) W it))
    (hc : ∀ {X' : Cx}, XOk P w K mg base gi G n (S.blk scope) W0 X' → PT X' c (TXt K mg (run G n) W0 tc))
    (he : ∀ {X' : Cx}, XOk P w K mg base gi G n (S.blk scope) W0 X' → PE X' elt (TX K mg (run G n) W0 e)) : PE X (.ListComp elt [⟨target, iter, [c], 0⟩] scope pos) (TX K mg (run G n) W (.compI b tg it tc e)) := by
  have bo : BlkOk X.N X.env.scope scope ((tgNames target).zip tg.slots) := by rw [ok.eN, ok.eS]; exact blkOk_by hb
  have h := pe_lc (X := X) (pos := pos) ok.calm (by rw [ok.eN]; exact ok.nd) hi bo (fun s H C cl fp => pg_of (blk_ok ok s H C cl fp) ht) (fun s H C cl fp => pts_one (hc (blk_ok ok s H C cl fp))) (fun s H C cl fp => he (blk_ok ok s H C cl fp)) (set_of hp)
  rw [zip_snd hl] at h
  refine pe_w h fun σ H Q ⟨r, δ, m, R, Sl, q⟩ => ?_
  rw [ev] at q
  refine comp_tx R Sl (fun σ H Q r δ m R Sl ⟨b, m', e, k⟩ => ⟨r, δ, m, R, Sl, ?_⟩) q
  have e : (ev (run G n) tc δ m).bind truthD = .ok b m' := e
  rw [e]
  exact k

mutual
theorem sE : ∀ (t : E) {S : SX} {W : WX} {X : Cx} {e : Expr}, XOk P w K mg base gi G n S W X → chkE gi G t S e = true → VE K mg G n W X e t
  | .var i, S, W, X, e, ok, h => by
    unfold chkE at h
    split at h
    · exact ve_of ok.eK (c_var ok h) fun _ => rfl
    · cases h
  | .int i, S, W, X, e, ok, h => by
    unfold chkE at h
    split at h
    · rw [of_decide_eq_true h]
      exact ve_of ok.eK (c_const pe_int (d := .int i) (fun δ m => by rw [ev]) fun r H => by rw [RepB]) fun _ => rfl
    · cases h
  | .bool i, S, W, X, e, ok, h => by
    unfold chkE at h
    split at h
    · rw [of_decide_eq_true h]
      exact ve_of ok.eK (c_const pe_bl (d := .bool i) (fun δ m => by rw [ev]) fun r H => by rw [RepB]) fun _ => rfl
    · cases h
  | .none, S, W, X, e, ok, h => by
    unfold chkE at h
    split at h
    · rw [of_decide_eq_true h]
      exact ve_of ok.eK (c_const pe_non (d := .none) (fun δ m => by rw [ev]) fun r H => by rw [RepB]) fun _ => rfl
    · cases h
  | .str i, S, W, X, e, ok, h => by
    unfold chkE at h
    split at h
    · rw [of_decide_eq_true h]
      exact ve_of ok.eK (c_const pe_str (d := .str i) (fun δ m => by rw [ev]) fun r H => by rw [RepB]) fun _ => rfl
    · cases h
  | .glob x d, S, W, X, e, ok, h => by
    unfold chkE at h
    split at h
    · rename_i y p
      simp only [Bool.and_eq_true] at h
      obtain ⟨⟨h1, h2⟩, h3⟩ := h
      have h1 := of_decide_eq_true h1
      subst h1
      split at h3
      · rename_i i
        obtain ⟨u, hu⟩ := ok.gint y i (of_decide_eq_true h3)
        obtain ⟨g1, g2⟩ := gl_of ok h2
        exact ve_of ok.eK (c_const (pe_glob (v := .int i) g1 (by rw [ok.eM]; exact hu) ⟨u, rfl⟩ (okNm_of g2).1) (d := .int i) (fun δ m => by rw [ev]) fun r H => by rw [RepB]) fun _ => rfl
      · rename_i i
        obtain ⟨u, hu⟩ := ok.gok.txts y i (of_decide_eq_true h3)
        obtain ⟨g1, g2⟩ := gl_of ok h2
        exact ve_of ok.eK (c_const (pe_glob (v := .str i) g1 (by rw [ok.eM]; exact hu) ⟨u, rfl⟩ (okNm_of g2).1) (d := .str i) (fun δ m => by rw [ev]) fun r H => by rw [RepB]) fun _ => rfl
      · cases h3
    · cases h
  | .gfn x, S, W, X, e, ok, h => by rw [chkE] at h; cases h
  | .bin op a b, S, W, X, e, ok, h => by
    unfold chkE at h
    split at h
    · simp only [Bool.and_eq_true] at h
      obtain ⟨⟨h1, h2⟩, h3⟩ := h
      rw [of_decide_eq_true h1]
      exact ve_of ok.eK (c_bin (sE a ok h2).1 (sE b ok h3).1) fun _ => rfl
    · cases h
  | .neg a, S, W, X, e, ok, h => by
    unfold chkE at h
    split at h
    · simp only [Bool.and_eq_true] at h
      obtain ⟨h1, h2⟩ := h
      rw [of_decide_eq_true h1]
      exact ve_of ok.eK (c_neg (sE a ok h2).1) fun _ => rfl
    · cases h
  | .not a, S, W, X, e, ok, h => by
    unfold chkE at h
    split at h
    · simp only [Bool.and_eq_true] at h
      obtain ⟨h1, h2⟩ := h
      rw [of_decide_eq_true h1]
      exact c_not ok.eK (sE a ok h2)
    · cases h
  | .cmp op a b, S, W, X, e, ok, h => by
    unfold chkE at h
    split at h
    · simp only [Bool.and_eq_true] at h
      obtain ⟨⟨⟨h1, h2⟩, h3⟩, h4⟩ := h
      rw [of_decide_eq_true h1]
      exact c_cmp ok h4 (sE a ok h2).1 (sE b ok h3).1
    · cases h
  | .chain o1 o2 a b c, S, W, X, e, ok, h => by
    unfold chkE at h
    split at h
    · simp only [Bool.and_eq_true] at h
      obtain ⟨⟨⟨⟨⟨h1, h2⟩, h3⟩, h4⟩, h5⟩, h6⟩ := h
      rw [of_decide_eq_true h1, of_decide_eq_true h2]
      exact c_chain ok h6 (sE a ok h3).1 (sE b ok h4).1 (sE c ok h5).1
    · cases h
  | .and a b, S, W, X, e, ok, h => by
    unfold chkE at h
    split at h
    · simp only [Bool.and_eq_true] at h
      obtain ⟨⟨h1, h2⟩, h3⟩ := h
      rw [of_decide_eq_true h1]
      split at h3
      · have q := sE b ok h3
        exact c_and (sE a ok h2) (pe_one q.1) (pw_and1 q.2)
      · have q := sE b ok h3
        exact c_and (sE a ok h2) q.1 (pw_ofPT q.2)
    · cases h
  | .or a b, S, W, X, e, ok, h => by
    unfold chkE at h
    split at h
    · simp only [Bool.and_eq_true] at h
      obtain ⟨⟨h1, h2⟩, h3⟩ := h
      rw [of_decide_eq_true h1]
      split at h3
      · have q := sE b ok h3
        exact c_or (sE a ok h2) (pe_one q.1) (pw_or1 q.2)
      · have q := sE b ok h3
        exact c_or (sE a ok h2) q.1 (pw_ofPT q.2)
    · cases h
  | .ife c a b, S, W, X, e, ok, h => by
    unfold chkE at h
    split at h
    · simp only [Bool.and_eq_true] at h
      obtain ⟨⟨h1, h2⟩, h3⟩ := h
      exact c_ife (sE c ok h1) (sE a ok h2) (sE b ok h3)
    · cases h
  | .tup es, S, W, X, e, ok, h => by
    unfold chkE at h
    split at h
    · exact ve_of ok.eK (c_tup (sEs es ok h)) fun _ => rfl
    · cases h
  | .lst r es, S, W, X, e, ok, h => by
    unfold chkE at h
    split at h
    · exact ve_of ok.eK (c_lst (sEs es ok h)) fun _ => rfl
    · cases h
  | .ix a i, S, W, X, e, ok, h => by
    unfold chkE at h
    split at h
    · simp only [Bool.and_eq_true] at h
      obtain ⟨⟨h1, h2⟩, h3⟩ := h
      exact ve_of ok.eK (c_ix ok.eK h1 (sE a ok h2).1 (sE i ok h3).1) fun _ => rfl
    · cases h
  | .ixR a i, S, W, X, e, ok, h => by
    unfold chkE at h
    split at h
    · simp only [Bool.and_eq_true] at h
      obtain ⟨⟨h1, h2⟩, h3⟩ := h
      exact ve_of ok.eK (c_ixR ok.eK h1 (sE a ok h2).1 (sE i ok h3).1) fun _ => rfl
    · cases h
  | .sl0 a, S, W, X, e, ok, h => by
    unfold chkE at h
    split at h
    · exact ve_of ok.eK (c_sl0 (sE a ok h).1) fun _ => rfl
    · cases h
  | .slL a lo, S, W, X, e, ok, h => by
    unfold chkE at h
    split at h
    · simp only [Bool.and_eq_true] at h
      obtain ⟨h1, h2⟩ := h
      exact ve_of ok.eK (c_slL (sE a ok h1).1 (sE lo ok h2).1) fun _ => rfl
    · cases h
  | .slH a hi, S, W, X, e, ok, h => by
    unfold chkE at h
    split at h
    · simp only [Bool.and_eq_true] at h
      obtain ⟨h1, h2⟩ := h
      exact ve_of ok.eK (c_slH (sE a ok h1).1 (sE hi ok h2).1) fun _ => rfl
    · cases h
  | .slB a lo hi, S, W, X, e, ok, h => by
    unfold chkE at h
    split at h
    · simp only [Bool.and_eq_true] at h
      obtain ⟨⟨h1, h2⟩, h3⟩ := h
      exact ve_of ok.eK (c_slB (sE a ok h1).1 (sE lo ok h2).1 (sE hi ok h3).1) fun _ => rfl
    · cases h
  | .bi f b es, S, W, X, e, ok, h => by
    unfold chkE at h
    split at h
    · rename_i x p y ys pos
      simp only [Bool.and_eq_true] at h
      obtain ⟨⟨h1, h2⟩, h3⟩ := h
      have h2 := of_decide_eq_true h2
      subst h2
      split at h3
      · split at h3
        · rename_i z p2 a pos2
          simp only [Bool.and_eq_true] at h3
          obtain ⟨⟨h4, h5⟩, h6⟩ := h3
          have h5 := of_decide_eq_true h5
          subst h5
          cases es with
          | nil => rw [chkEs] at h6; cases h6
          | cons ea er =>
            rw [chkEs] at h6
            simp only [Bool.and_eq_true] at h6
            cases er with
            | nil => exact ve_of ok.eK (c_lrng1 ok h1 h4 h6.1.1 (sE ea ok h6.1.2).1) fun _ => rfl
            | cons _ _ => have := h6.2; rw [chkEs] at this; cases this
        · cases h3
      · split at h3
        · rename_i z p2 a c pos2
          simp only [Bool.and_eq_true] at h3
          obtain ⟨⟨h4, h5⟩, h6⟩ := h3
          have h5 := of_decide_eq_true h5
          subst h5
          cases es with
          | nil => rw [chkEs] at h6; cases h6
          | cons ea er =>
            rw [chkEs] at h6
            simp only [Bool.and_eq_true] at h6
            cases er with
            | nil => have := h6.2; rw [chkEs] at this; cases this
            | cons eb er =>
              have h7 := h6.2
              rw [chkEs] at h7
              simp only [Bool.and_eq_true] at h7
              cases er with
              | nil => exact ve_of ok.eK (c_lrng2 ok h1 h4 h6.1.1 h7.1.1 (sE ea ok h6.1.2).1 (sE eb ok h7.1.2).1) fun _ => rfl
              | cons _ _ => have := h7.2; rw [chkEs] at this; cases this
        · cases h3
      · rename_i f' hf1 hf2
        rw [Bool.and_eq_true] at h3
        obtain ⟨v, hv⟩ := Option.isSome_iff_exists.mp h3.1
        exact ve_of ok.eK (c_bi ok hv h1 rfl (plain_es h3.2) (sEs es ok h3.2)) fun _ => rfl
    · cases h
  | .isi a t, S, W, X, e, ok, h => by
    unfold chkE at h
    split at h
    · simp only [Bool.and_eq_true] at h
      obtain ⟨⟨⟨⟨⟨⟨h1, h2⟩, h3⟩, h4⟩, h5⟩, h6⟩, h7⟩ := h
      have h2 := of_decide_eq_true h2
      subst h2
      exact ve_of ok.eK (c_isi ok h1 h3 (of_decide_eq_true h4) h5 h6 (sE a ok h7).1) fun _ => rfl
    · cases h
  | .me f o es, S, W, X, e, ok, h => by
    unfold chkE at h
    split at h
    · rename_i x nm apos ys cpos
      simp only [Bool.and_eq_true] at h
      obtain ⟨⟨⟨⟨⟨h1, h2⟩, h3⟩, h4⟩, h5⟩, h6⟩ := h
      have h1 := of_decide_eq_true h1
      subst h1
      cases ys with
      | nil =>
        cases es with
        | nil => exact ve_of ok.eK (c_me0 ok.eK h2 h3 (sE o ok h5).1) fun _ => rfl
        | cons _ _ => rw [chkEs] at h6; cases h6
      | cons y ys => exact ve_of ok.eK (c_me1 ok.eK h2 h3 (of_decide_eq_true h4) (plain_es h6) (sE o ok h5).1 (sEs es ok h6)) fun _ => rfl
    · cases h
  | .call b f es, S, W, X, e, ok, h => by
    unfold chkE at h
    split at h
    · simp only [Bool.and_eq_true] at h
      obtain ⟨⟨⟨h1, h2⟩, h3⟩, h4⟩ := h
      have h1 := of_decide_eq_true h1
      subst h1
      exact ve_of ok.eK (call_pe ok h3 h2 (plain_es h4) (sEs es ok h4)) fun _ => rfl
    · cases h
  | .rcomp i x e', S, W, X, e, ok, h => by
    unfold chkE at h
    split at h
    · simp only [Bool.and_eq_true] at h
      obtain ⟨⟨⟨⟨⟨⟨h1, h2⟩, h3⟩, h4⟩, h5⟩, h6⟩, h7⟩ := h
      have h1 := of_decide_eq_true h1
      subst h1
      exact ve_of ok.eK (c_rcomp ok h2 (of_decide_eq_true h3) h4 h5 (i_rows ok.eK (sE x ok h6).1) fun ok' => (sE e' ok' h7).1) fun _ => rfl
    · cases h
  | .rowc tg it e', S, W, X, e, ok, h => by
    unfold chkE at h
    split at h
    · simp only [Bool.and_eq_true] at h
      obtain ⟨⟨⟨⟨⟨⟨h1, h2⟩, h3⟩, h4⟩, h5⟩, h6⟩, h7⟩ := h
      have h1 := of_decide_eq_true h1
      subst h1
      exact ve_of ok.eK (c_rowc ok h2 (of_decide_eq_true h3) h4 h5 (sI it ok h6) fun ok' => (sE e' ok' h7).1) fun _ => rfl
    · cases h
  | .comp b tg it e', S, W, X, e, ok, h => by
    unfold chkE at h
    split at h
    · simp only [Bool.and_eq_true] at h
      obtain ⟨⟨⟨⟨⟨⟨h1, h2⟩, h3⟩, h4⟩, h5⟩, h6⟩, h7⟩ := h
      have h1 := of_decide_eq_true h1
      subst h1
      exact ve_of ok.eK (c_comp ok h2 (of_decide_eq_true h3) h4 h5 (sI it ok h6) fun ok' => (sE e' ok' h7).1) fun _ => rfl
    · cases h
  | .compI b tg it c e', S, W, X, e, ok, h => by
    unfold chkE at h
    split at h
    · simp only [Bool.and_eq_true] at h
      obtain ⟨⟨⟨⟨⟨⟨⟨h1, h2⟩, h3⟩, h4⟩, h5⟩, h6⟩, h7⟩, h8⟩ := h
      have h1 := of_decide_eq_true h1
      subst h1
      exact ve_of ok.eK (c_compI ok h2 (of_decide_eq_true h3) h4 h5 (sI it ok h6) (fun ok' => (sE c ok' h7).2) fun ok' => (sE e' ok' h8).1) fun _ => rfl
    · cases h
  | .sm o b a x, S, W, X, e, ok, h => by
    unfold chkE at h
    split at h
    · simp only [Bool.and_eq_true] at h
      obtain ⟨⟨⟨⟨⟨h1, h2⟩, h3⟩, h4⟩, h5⟩, h6⟩ := h
      split at h1
      · have h1 := of_decide_eq_true h1
        subst h1
        exact ve_of ok.eK (c_join ok h2 h3 h4 (sE a ok h5).1 (sE x ok h6).1) fun _ => rfl
      · have h1 := of_decide_eq_true h1
        subst h1
        exact ve_of ok.eK (c_split ok h2 h3 h4 (sE a ok h5).1 (sE x ok h6).1) fun _ => rfl
      · have h1 := of_decide_eq_true h1
        subst h1
        exact ve_of ok.eK (c_idxS ok h2 h3 h4 (sE a ok h5).1 (sE x ok h6).1) fun _ => rfl
      · cases h1
    · cases h
  | .idx a x, S, W, X, e, ok, h => by
    unfold chkE at h
    split at h
    · simp only [Bool.and_eq_true] at h
      obtain ⟨⟨⟨⟨⟨h1, h2⟩, h3⟩, h4⟩, h5⟩, h6⟩ := h
      have h1 := of_decide_eq_true h1
      subst h1
      exact ve_of ok.eK (c_idx ok h2 h3 h4 (sE a ok h5).1 (sE x ok h6).1) fun _ => rfl
    · cases h
  | .dic kvs, S, W, X, e, ok, h => by
    unfold chkE at h
    split at h
    · simp only [Bool.and_eq_true, decide_eq_true_eq] at h
      exact ve_of ok.eK (c_dic h.1 h.2) fun _ => rfl
    · cases h
  | .op o b es, S, W, X, e, ok, h => by
    unfold chkE at h
    split at h
    · rename_i l hl
      exact op_ve ok hl (sEl es ok h)
    · cases h
  | .said g b tab, S, W, X, e, ok, h => by
    unfold chkE at h
    split at h
    · simp only [Bool.and_eq_true] at h
      obtain ⟨⟨⟨⟨⟨⟨h1, h2⟩, h3⟩, h4⟩, h5⟩, h6⟩, h7⟩ := h
      have h1 := of_decide_eq_true h1
      subst h1
      exact ve_of ok.eK (c_said ok h2 h3 (of_decide_eq_true h4) h5 h6 fun ok' => (sE b ok' h7).1) fun _ => rfl
    · cases h
  | .pick r fs i es, S, W, X, e, ok, h => by
    unfold chkE at h
    split at h
    · simp only [Bool.and_eq_true] at h
      obtain ⟨⟨⟨⟨h1, h2⟩, h3⟩, h4⟩, h5⟩ := h
      exact ve_of ok.eK (c_pick ok h1 (Nat.le_trans (of_decide_eq_true h2) (by decide)) h3 (sE i ok h4).1 (plain_es h5) (sEs es ok h5)) fun _ => rfl
    · cases h
  | .isx a c tab, S, W, X, e, ok, h => by
    unfold chkE at h
    split at h
    · simp only [Bool.and_eq_true] at h
      obtain ⟨⟨⟨⟨⟨⟨⟨h1, h2⟩, h3⟩, h4⟩, h5⟩, h6⟩, h7⟩, h8⟩ := h
      have h2 := of_decide_eq_true h2
      have h4 := of_decide_eq_true h4
      subst h2 h4
      exact ve_of ok.eK (c_isx ok h1 h3 h5 (of_decide_eq_true h7) h6 (sE a ok h8).1) fun _ => rfl
    · cases h
  | .dead, S, W, X, e, ok, h => ⟨⟨fun pins s σ H Q I ⟨r, δ, m, R, Sl, q⟩ => by rw [ev] at q; exact q.elim⟩, ⟨fun pins s σ H Q I ⟨r, δ, m, R, Sl, q⟩ => by rw [ev] at q; exact q.elim⟩⟩
theorem sEs : ∀ (t : Es) {S : SX} {W : WX} {X : Cx} {l : List Expr}, XOk P w K mg base gi G n S W X → chkEs gi G t S l = true → PA X l (TXs K mg (run G n) W t)
  | .nil, S, W, X, l, ok, h => by
    rw [chkEs] at h
    have : l = [] := by simpa using h
    subst this
    exact a_nil
  | .cons e es, S, W, X, l, ok, h => by
    cases l with
    | nil => rw [chkEs] at h; cases h
    | cons x xs =>
      rw [chkEs] at h
      simp only [Bool.and_eq_true] at h
      exact a_cons h.1.1 (sE e ok h.1.2).1 (sEs es ok h.2)
theorem sEl : ∀ (t : Es) {S : SX} {W : WX} {X : Cx} {l : List Expr}, XOk P w K mg base gi G n S W X → chkEs gi G t S l = true → PEL K mg G n W X l t
  | .nil, S, W, X, l, ok, h => by
    rw [chkEs] at h
    have : l = [] := by simpa using h
    subst this
    exact True.intro
  | .cons e es, S, W, X, l, ok, h => by
    cases l with
    | nil => rw [chkEs] at h; cases h
    | cons x xs =>
      rw [chkEs] at h
      simp only [Bool.and_eq_true] at h
      exact ⟨h.1.1, sE e ok h.1.2, sEl es ok h.2⟩
theorem sI : ∀ (t : It) {S : SX} {W : WX} {X : Cx} {e tg : Expr}, XOk P w K mg base gi G n S W X → chkI gi G t S e tg = true → PI X tg e (TXi K mg (run G n) W t)
  | .seq a, S, W, X, e, tg, ok, h => by
    unfold chkI at h
    exact i_seq ok.eK (sE a ok h).1
  | .rng1 a, S, W, X, e, tg, ok, h => by
    unfold chkI at h
    split at h
    · simp only [Bool.and_eq_true] at h
      obtain ⟨⟨⟨h1, h2⟩, h3⟩, h4⟩ := h
      have h2 := of_decide_eq_true h2
      subst h2
      exact i_rng1 ok h1 h3 (sE a ok h4).1
    · cases h
  | .rng2 a b, S, W, X, e, tg, ok, h => by
    unfold chkI at h
    split at h
    · simp only [Bool.and_eq_true] at h
      obtain ⟨⟨⟨⟨⟨h1, h2⟩, h3⟩, h4⟩, h5⟩, h6⟩ := h
      have h2 := of_decide_eq_true h2
      subst h2
      exact i_rng2 ok h1 h3 h4 (sE a ok h5).1 (sE b ok h6).1
    · cases h
  | .enm a, S, W, X, e, tg, ok, h => by
    unfold chkI at h
    split at h
    · simp only [Bool.and_eq_true] at h
      obtain ⟨⟨⟨⟨h1, h2⟩, h3⟩, h4⟩, h5⟩ := h
      have h2 := of_decide_eq_true h2
      subst h2
      split at h5
      · exact i_enm ok h1 h3 (sE a ok h4).1
      · cases h5
    · cases h
  | .zip3 a b c, S, W, X, e, tg, ok, h => by
    unfold chkI at h
    split at h
    · simp only [Bool.and_eq_true] at h
      obtain ⟨⟨⟨⟨⟨⟨⟨⟨h1, h2⟩, h3⟩, h4⟩, h5⟩, h6⟩, h7⟩, h8⟩, h9⟩ := h
      have h2 := of_decide_eq_true h2
      subst h2
      split at h9
      · exact i_zip3 ok h1 h3 h4 h5 (sE a ok h6).1 (sE b ok h7).1 (sE c ok h8).1
      · cases h9
    · cases h
  | .zip a b, S, W, X, e, tg, ok, h => by
    unfold chkI at h
    split at h
    · simp only [Bool.and_eq_true] at h
      obtain ⟨⟨⟨⟨⟨⟨h1, h2⟩, h3⟩, h4⟩, h5⟩, h6⟩, h7⟩ := h
      have h2 := of_decide_eq_true h2
      subst h2
      split at h7
      · exact i_zip ok h1 h3 h4 (sE a ok h5).1 (sE b ok h6).1
      · cases h7
    · cases h
end
end
end Z

/-! Z12: statements, defs. -/
namespace Z
open PySem PySem.Spec PyProof.Rows L2
variable [TabC]
/-! ### the check -/
def eraseLen (l : List Str) : Bool := decide (l.eraseDups.length = l.length)
/-- a comprehension whose list goes straight to the name -/
def swC (S : SX) (x : Str) (px : Pos) (scope : Scope) (vpos : Pos) : Bool := (match S.kind x with
  | some .local => true
  | _ => false) && px.line == vpos.line && !(scope.names.any fun (n, k) => n == x && (k == .local || k == .cell))
def isTup : Expr → Bool
  | .Tuple _ _ _ => true
  | .List _ _ => true
  | _ => false
def isStar : Expr → Bool
  | .Starred _ _ => true
  | _ => false
/-- a target that is no plain local name -/
def notLoc (S : SX) (ts : List Expr) : Bool := ts.any fun e => match e with
  | .Name x _ => !(match S.kind x with
    | some .local => true
    | _ => false)
  | _ => false
omit [TabC] in
theorem notLoc_swap {S : SX} {ts vs : List Expr} {k k2 : Nat} {p p2 : Pos} {env : PySem.Env} (h : notLoc S ts = true) (he : env.scope = S.sc) : swappedStores [.Tuple ts k p] (.Tuple vs k2 p2) env = pure none := by
  have key : ∀ line : Nat, (ts.filterMap fun e => match e with
    | .Name id pos => if env.kindOf id == some .local && pos.line == line then some id else none
    | _ => none).length < ts.length := by
    intro line
    unfold notLoc at h
    induction ts with
    | nil => cases h
    | cons e ts ih =>
      rw [List.any_cons, Bool.or_eq_true] at h
      rw [List.filterMap_cons]
      have le : ∀ f : Expr → Option Str, (ts.filterMap f).length ≤ ts.length := fun f => List.length_filterMap_le f ts
      rcases h with h | h
      · split at h
        · rename_i x p'
          have hk : (env.kindOf x == some NameKind.local) = false := by
            have e2 : env.kindOf x = S.kind x := by show env.scope.names.lookup x = S.sc.names.lookup x; rw [he]
            rw [e2]
            cases q : S.kind x with
            | none => rfl
            | some kd => cases kd <;> first | rfl | (rw [q] at h; cases h)
          simp only [hk, Bool.false_and, Bool.false_eq_true, if_false, List.length_cons]
          exact Nat.lt_succ_of_le (le _)
        · cases h
      · have := ih h
        split
        · exact Nat.lt_succ_of_lt this
        · rw [List.length_cons, List.length_cons]; omega
  simp only [swappedStores]
  have k1 := key ((ts.head?.map (·.pos.line)).getD 0)
  split
  · rfl
  · split
    · rfl
    · split
      · rfl
      · rename_i hno
        exact absurd (by rw [Bool.or_eq_true]; exact .inl (bne_iff_ne.mpr (Nat.ne_of_lt k1))) hno
section
variable (gi : GI) (G : Tab)
mutual
def chkS : Z.S → SX → Stmt → Bool
  | .dead, _, _ => true
  | .set i e, S, s => match s with
    | .Assign [.Name x px] v _ => S.loc i x && chkE gi G e S v && (match v with
      | .ListComp _ _ scope vpos => !swC S x px scope vpos || (decide (S.kind x = some .local))
      | v => notComp v)
    | _ => false
  | .setT is e, S, s => match s with
    | .Assign [.Tuple ts k p] v _ => chkTg S (.many is) (.Tuple ts k p) && chkE gi G e S v && (match v with
      | .Tuple vs _ _ => (vs.all (foldedForSure 8) && vs.all (!isStar ·)) || notLoc S ts
      | .List _ _ => false
      | _ => true)
    | _ => false
  | .setP is es, S, s => match s with
    | .Assign [.Tuple [.Name x px, .Name y py] _ _] (.Tuple vs _ _) _ => (match is with
      | [i, j] => decide (S.N[i]? = some x) && decide (S.N[j]? = some y) && decide (i ≠ j) && decide (x ≠ y)
      | _ => false) && decide (S.kind x = some .local) && decide (S.kind y = some .local) && px.line == py.line && decide (vs.length = 2) && !(vs.all (foldedForSure 8)) && !(vs.all (constantsAlone 8)) && chkEs gi G es S vs
    | _ => false
  | .setI o i e, S, s => match s with
    | .Assign [.Subscript o' i' _] v _ => plainX i' && notComp v && chkE gi G e S v && chkE gi G o S o' && chkE gi G i S i'
    | _ => false
  | .expr e, S, s => match s with
    | .Expr v _ => notComp v && chkE gi G e S v
    | _ => false
  | .ife c a b, S, s => match s with
    | .If c' a' b' _ => chkE gi G c S c' && chkSs a S a' && chkSs b S b'
    | _ => false
  | .whl c b, S, s => match s with
    | .While c' b' [] _ => chkE gi G c S c' && chkSs b S b'
    | _ => false
  | .for tg it b, S, s => match s with
    | .For t it' b' [] _ => chkTg S tg t && chkI gi G it S it' t && plainX it' && chkSs b S b'
    | _ => false
  | .ret e, S, s => match s with
    | .Return (some v) _ => chkE gi G e S v
    | _ => false
  | .retN, _, s => match s with
    | .Return none _ => true
    | _ => false
  | .pass, _, s => match s with
    | .Pass _ => true
    | _ => false
  | .brk, _, s => match s with
    | .Break _ => true
    | _ => false
  | .cont, _, s => match s with
    | .Continue _ => true
    | _ => false
  | .raise x, S, s => match s with
    | .Raise (some (.Call (.Name y _) [.Constant (.str _) _ _] [] _)) none _ => decide (y = x) && S.gl y && gi.excs.contains y
    | _ => false
def chkSs : Ss → SX → List Stmt → Bool
  | .nil, _, l => l.isEmpty
  | .cons s ss, S, l => match l with
    | x :: xs => chkS s S x && chkSs ss S xs
    | [] => false
end
end
section
variable {P : Program} {w : World} {K : PySem.W.Frag} {mg : Str → Option Value} {base : Heap} {gi : GI} {G : Tab} {n : Nat} {S : SX} {W : WX} {X : Cx}
/-! ### readings -/
variable (K mg) in
def OkS (W : WX) (r : List Addr) (H : Hp) (res : RS) (D : Ends) : Prop :=
  match res with
  | .nx δ m => ∀ r' H' σ, Ext r H r' H' → Rel r' H' m → RepS K mg r' H' δ σ → D.nx σ H'
  | .brk δ m => ∀ r' H' σ, Ext r H r' H' → Rel r' H' m → RepS K mg r' H' δ σ → D.bk σ H'
  | .cont δ m => ∀ r' H' σ, Ext r H r' H' → Rel r' H' m → RepS K mg r' H' δ σ → D.ct σ H'
  | .ret d m => ∀ r' H' v, Ext r H r' H' → Rel r' H' m → RepD K mg r' H' d v → D.rt v H'
  | .ex c δ m => ∀ r' H' σ, Ext r H r' H' → Rel r' H' m → RepS K mg r' H' δ σ → W (clsV mg c) none σ H'
  | .bad => False
variable (K mg) in
def TXS (run : Str → List D → Mem → R D) (W : WX) (s : Z.S) : TS := fun D σ H => ∃ r δ m, Rel r H m ∧ RepS K mg r H δ σ ∧ OkS K mg W r H (evS run s δ m) D
variable (K mg) in
def TXSs (run : Str → List D → Mem → R D) (W : WX) (s : Ss) : TS := fun D σ H => ∃ r δ m, Rel r H m ∧ RepS K mg r H δ σ ∧ OkS K mg W r H (evSs run s δ m) D
theorem OkS.ext {r r1 : List Addr} {H H1 : Hp} {res : RS} {D : Ends} (h : OkS K mg W r H res D) (e : Ext r H r1 H1) : OkS K mg W r1 H1 res D := by
  cases res with
  | nx δ m => exact fun r' H' σ e' R S => h r' H' σ (e.trans e') R S
  | brk δ m => exact fun r' H' σ e' R S => h r' H' σ (e.trans e') R S
  | cont δ m => exact fun r' H' σ e' R S => h r' H' σ (e.trans e') R S
  | ret d m => exact fun r' H' v e' R S => h r' H' v (e.trans e') R S
  | ex c δ m => exact fun r' H' σ e' R S => h r' H' σ (e.trans e') R S
  | bad => exact h
/-- an expression, then on -/
theorem OkS.stmt {α : Type} {r : List Addr} {H : Hp} {res : R α} {δ : Env} {σ : L2.St} {f : α → Mem → RS} {D : Ends} (Sl : RepS K mg r H δ σ) (h : OkS K mg W r H (res.stmt δ f) D) : OkR mg W σ r H res fun a r1 H1 m1 => OkS K mg W r1 H1 (f a m1) D := by
  cases res with
  | ok a m => exact fun r' H' e R => OkS.ext h e
  | ex c m => exact fun r' H' e R => h r' H' σ e R (Sl.ext e)
  | bad => exact h
theorem TX.st {e : E} {f : D → Mem → RS} {D : Ends} {Q : VK} {r : List Addr} {H : Hp} {m : Mem} {δ : Env} {σ : L2.St} (R : Rel r H m) (Sl : RepS K mg r H δ σ) (h : OkS K mg W r H ((ev (run G n) e δ m).stmt δ f) D)
    (k : ∀ d v r1 H1 m1, Ext r H r1 H1 → Rel r1 H1 m1 → RepS K mg r1 H1 δ σ → RepD K mg r1 H1 d v → OkS K mg W r1 H1 (f d m1) D → Q v H1) : TX K mg (run G n) W e σ H Q :=
  ⟨r, δ, m, R, Sl, (OkS.stmt Sl h).mono fun d r1 H1 m1 e1 R1 h1 v rv => k d v r1 H1 m1 e1 R1 (Sl.ext e1) rv h1⟩
theorem TXs.st {es : Es} {f : List D → Mem → RS} {D : Ends} {Q : List V → Hp → Prop} {r : List Addr} {H : Hp} {m : Mem} {δ : Env} {σ : L2.St} (R : Rel r H m) (Sl : RepS K mg r H δ σ) (h : OkS K mg W r H ((evs (run G n) es δ m).stmt δ f) D)
    (k : ∀ d v r1 H1 m1, Ext r H r1 H1 → Rel r1 H1 m1 → RepS K mg r1 H1 δ σ → RepDs K mg r1 H1 d v → OkS K mg W r1 H1 (f d m1) D → Q v H1) : TXs K mg (run G n) W es σ H Q :=
  ⟨r, δ, m, R, Sl, (OkS.stmt Sl h).mono fun d r1 H1 m1 e1 R1 h1 v rv => k d v r1 H1 m1 e1 R1 (Sl.ext e1) rv h1⟩
theorem TXt.st {e : E} {f : Bool → Mem → RS} {D : Ends} {Q : Bool → Hp → Prop} {r : List Addr} {H : Hp} {m : Mem} {δ : Env} {σ : L2.St} (R : Rel r H m) (Sl : RepS K mg r H δ σ) (h : OkS K mg W r H (((ev (run G n) e δ m).bind truthD).stmt δ f) D)
    (k : ∀ d r1 H1 m1, Ext r H r1 H1 → Rel r1 H1 m1 → RepS K mg r1 H1 δ σ → OkS K mg W r1 H1 (f d m1) D → Q d H1) : TXt K mg (run G n) W e σ H Q :=
  ⟨r, δ, m, R, Sl, (OkS.stmt Sl h).mono fun d r1 H1 m1 e1 R1 h1 => k d r1 H1 m1 e1 R1 (Sl.ext e1) h1⟩
theorem TXi.st {it : It} {f : Items → Mem → RS} {D : Ends} {Q : L2.It → Hp → Prop} {r : List Addr} {H : Hp} {m : Mem} {δ : Env} {σ : L2.St} (R : Rel r H m) (Sl : RepS K mg r H δ σ) (h : OkS K mg W r H ((evI (run G n) it δ m).stmt δ f) D)
    (k : ∀ a r1 H1 m1, Ext r H r1 H1 → Rel r1 H1 m1 → RepS K mg r1 H1 δ σ → gOk a.g m1 → OkS K mg W r1 H1 (f a m1) D → ∀ J, Wk J a r1 H1 → Q J H1) : TXi K mg (run G n) W it σ H Q :=
  ⟨r, δ, m, R, Sl, (OkS.stmt Sl h).mono fun a r1 H1 m1 e1 R1 h1 hg J hJ => k a r1 H1 m1 e1 R1 (Sl.ext e1) hg h1 J hJ⟩
omit [TabC] in
theorem ps_w {s : Stmt} {t t' : TS} (h : PS X s t) (k : ∀ D σ H, t' D σ H → t D σ H) : PS X s t' := ⟨fun pins st σ H D I hq => h.run pins st σ H D I (k D σ H hq)⟩
omit [TabC] in
theorem pss_w {s : List Stmt} {t t' : TS} (h : PSs X s t) (k : ∀ D σ H, t' D σ H → t D σ H) : PSs X s t' := ⟨fun pins st σ H D I hq => h.run pins st σ H D I (k D σ H hq)⟩

/-! ### assignments -/
theorem set_fin {i : Nat} {e : E} {D : Ends} {σ : L2.St} {H : Hp} (h : TXS K mg (run G n) W (.set i e) D σ H) : tAsg (TX K mg (run G n) W e) (gName i) D σ H := by
  obtain ⟨r, δ, m, R, Sl, q⟩ := h
  rw [evS] at q
  exact TX.st R Sl q fun d v r1 H1 m1 e1 R1 S1 rv q => q r1 H1 _ (.refl _ _) R1 (S1.set i rv)
theorem st_set {i : Nat} {x : Str} {px pos : Pos} {v : Expr} {e : E} (ok : XOk P w K mg base gi G n S W X) (hl : S.loc i x = true) (he : PE X v (TX K mg (run G n) W e)) (hs : swapsWith v (some (.Name x px)) pos.line X.env = pure false) : PS X (.Assign [.Name x px] v pos) (TXS K mg (run G n) W (.set i e)) := by
  obtain ⟨a1, a2, a3⟩ := loc_of ok hl
  exact ps_w (ps_set (by rw [ok.eN]; exact ok.nd) a1 a2 he hs a3) fun D σ H h => set_fin h
omit [TabC] in
theorem swaps_not {v : Expr} {t : Option Expr} {l : Nat} {env : PySem.Env} (h : notComp v = true) : swapsWith v t l env = pure false := by
  cases v <;> first | rfl | cases h
def gTupL (K : PySem.W.Frag) (n : Nat) (t : TGs) : TG := fun v σ H Q => gTup K n t v σ H Q ∨ gUnl K n t v σ H Q
theorem pgT_of (ok : XOk P w K mg base gi G n S W X) {is : List Nat} {ts : List Expr} {k : Nat} {p : Pos} (h : chkTg S (.many is) (.Tuple ts k p) = true) : PG X (.Tuple ts k p) (gTupL K is.length (gSets is)) := by
  unfold chkTg at h
  obtain ⟨i1, i2, i3⟩ := pgs_of ok is ts h
  have p1 := pg_tup (X := X) (k := k) (pos := p) (n := is.length) ok.calm i1 i2 i3
  have p2 := pg_unl (X := X) (k := k) (pos := p) (n := is.length) ok.calm i1 i2 i3
  rw [ok.eK] at p1 p2
  refine ⟨fun pins s σ H v u Q I r hw => ?_⟩
  rcases hw with hw | hw
  · exact p1.run pins s σ H v u Q I r hw
  · exact p2.run pins s σ H v u Q I r hw
omit [TabC] in
theorem swapsT_not {v : Expr} {ts : List Expr} {k : Nat} {p : Pos} {l : Nat} {env : PySem.Env} : swapsWithSole [.Tuple ts k p] v l env = pure false := by
  cases v <;> rfl
theorem st_setT {is : List Nat} {ts : List Expr} {k : Nat} {p pos : Pos} {v : Expr} {e : E} (ok : XOk P w K mg base gi G n S W X) (ht : chkTg S (.many is) (.Tuple ts k p) = true) (he : PE X v (TX K mg (run G n) W e)) (hw : swappedStores [.Tuple ts k p] v X.env = pure none) : PS X (.Assign [.Tuple ts k p] v pos) (TXS K mg (run G n) W (.setT is e)) := by
  refine ps_w (ps_asg he (pgT_of ok ht) swapsT_not hw) fun D σ H ⟨r, δ, m, R, Sl, q⟩ => ?_
  rw [evS] at q
  refine TX.st R Sl q fun d v r1 H1 m1 e1 R1 S1 rv q => ?_
  split at q
  · rename_i x
    split at q
    · rename_i δ' ha
      cases x with
      | tuple xs => exact .inl (asgn_ok (tg := .many is) (x := .tuple xs) (Q := D.nx) S1 (show RepB r1 H1 (.tuple xs) v from rv) ha fun σ' S' _ _ => q r1 H1 σ' (.refl _ _) R1 S')
      | list xs =>
        refine .inr ?_
        have rv : RepB r1 H1 (.list xs) v := rv
        rw [RepB] at rv
        obtain ⟨a, vs, rfl, h1, _, h2⟩ := rv
        obtain ⟨h3, h4⟩ := sets_ok S1 h2 ha
        exact ⟨a, vs, rfl, .of h1, h3.symm, h3, q r1 H1 _ (.refl _ _) R1 h4⟩
      | _ => cases ha
    · exact q.elim
  · exact q.elim
theorem st_setI {o' i' v : Expr} {p pos : Pos} {o i e : E} (ok : XOk P w K mg base gi G n S W X) (hp : plainX i' = true) (hn : notComp v = true) (he : PE X v (TX K mg (run G n) W e)) (ho : PE X o' (TX K mg (run G n) W o)) (hi : PE X i' (TX K mg (run G n) W i)) : PS X (.Assign [.Subscript o' i' p] v pos) (TXS K mg (run G n) W (.setI o i e)) := by
  have ha : ∀ v, assign (.Subscript o' i' p) X.env v = (do
      let ov ← holding [v] (eval o' X.env)
      let iv ← holding [v, ov] (eval i' X.env)
      standAt p
      holding [v, ov, iv] (setItem ov iv v)
      release [v, ov, iv] []) := by
    intro v
    cases i' <;> first | rfl | cases hp
  have hw : swappedStores [.Subscript o' i' p] v X.env = pure none := by cases v <;> rfl
  refine ps_w (ps_asg he (pg_sub ho hi (set_ok (K := K) (mg := mg)) ha) (by cases v <;> first | rfl | cases hn) hw) fun D σ H ⟨r, δ, m, R, Sl, q⟩ => ?_
  rw [evS] at q
  refine TX.st R Sl q fun d v r1 H1 m1 e1 R1 S1 rv q => ?_
  refine TX.st R1 S1 q fun x ov r2 H2 m2 e2 R2 S2 rx q => ?_
  refine TX.st (Q := fun iv H3 => rSet K mg ov iv v H3 fun H4 => D.nx σ H4) R2 S2 q fun y iv r3 H3 m3 e3 R3 S3 ry q => ?_
  cases hs : setF x y d m3 with
  | ok u m4 =>
    rw [hs] at q
    exact ⟨r3, m3, x, y, d, m4, R3, rx.ext e3, ry, rv.ext (e2.trans e3), hs, fun r' H' e R' => q r' H' σ e R' (S3.ext e)⟩
  | bad => rw [hs] at q; exact q.elim
  | ex c m' =>
    unfold setF at hs
    repeat' split at hs
    all_goals cases hs
theorem st_setP {i j : Nat} {x y : Str} {px py pt pt2 pos : Pos} {kt k2 : Nat} {a b : Expr} {es : Es} (ok : XOk P w K mg base gi G n S W X) (hk : X.env.blockKind = .function) (hi : S.N[i]? = some x) (hj : S.N[j]? = some y) (hij : i ≠ j) (hxy : x ≠ y) (hx : S.kind x = some .local) (hy : S.kind y = some .local) (hl : (px.line == py.line) = true)
    (h1 : [a, b].all (foldedForSure 8) = false) (h2 : [a, b].all (constantsAlone 8) = false) (hst : ∀ e ∈ [a, b], plainX e = true) (ha : PA X [a, b] (TXs K mg (run G n) W es)) : PS X (.Assign [.Tuple [.Name x px, .Name y py] kt pt] (.Tuple [a, b] k2 pt2) pos) (TXS K mg (run G n) W (.setP [i, j] es)) := by
  have ex : X.env.kindOf x = some .local := by show X.env.scope.names.lookup x = _; rw [ok.eS]; exact hx
  have ey : X.env.kindOf y = some .local := by show X.env.scope.names.lookup y = _; rw [ok.eS]; exact hy
  have sa := hst a (by simp)
  have sb := hst b (by simp)
  have hw : swappedStores [.Tuple [.Name x px, .Name y py] kt pt] (.Tuple [a, b] k2 pt2) X.env = pure (some [x, y]) := by
    have hl' : py.line = px.line := by rw [beq_iff_eq] at hl; exact hl.symm
    have n1 : ([x, y].eraseDups).length = 2 := by simp [List.eraseDups_cons, hxy, Ne.symm hxy]
    simp only [swappedStores]
    rw [hk]
    simp [List.any_cons, List.filterMap_cons, ex, ey, hl', h1, h2, Expr.pos, n1]
    rintro (h | h)
    · cases a <;> first | (cases h; done) | (cases sa; done)
    · cases b <;> first | (cases h; done) | (cases sb; done)
  refine ps_w (ps_par ok.calm (by rw [ok.eN]; exact ok.nd) (by rw [ok.eN]; exact hi) (by rw [ok.eN]; exact hj) hij ex ey ha hw rfl) fun D σ H ⟨r, δ, m, R, Sl, q⟩ => ?_
  rw [evS] at q
  refine TXs.st R Sl q fun ds vs r1 H1 m1 e1 R1 S1 rv q => ?_
  split at q
  · rename_i δ' hd
    cases rv with
    | nil => cases hd
    | cons r1' rv =>
      cases rv with
      | nil => cases hd
      | cons r2' rv =>
        cases rv with
        | cons _ _ => cases hd
        | nil =>
          cases hd
          exact ⟨_, _, rfl, q r1 H1 _ (.refl _ _) R1 ((S1.set i r1').set j r2')⟩
  · exact q.elim
end
end Z

/-! Z13: statements, defs (2). -/
namespace Z
open PySem PySem.Spec PyProof.Rows L2
variable [TabC]
section
variable {P : Program} {w : World} {K : PySem.W.Frag} {mg : Str → Option Value} {base : Heap} {gi : GI} {G : Tab} {n : Nat} {S : SX} {W : WX} {X : Cx}
theorem st_expr {v : Expr} {e : E} {pos : Pos} (hn : notComp v = true) (he : PE X v (TX K mg (run G n) W e)) : PS X (.Expr v pos) (TXS K mg (run G n) W (.expr e)) := by
  refine ps_w (ps_expr he (swaps_not hn)) fun D σ H ⟨r, δ, m, R, Sl, q⟩ => ?_
  rw [evS] at q
  exact TX.st R Sl q fun d v r1 H1 m1 e1 R1 S1 rv q => q r1 H1 _ (.refl _ _) R1 S1
theorem st_ret {v : Expr} {e : E} {pos : Pos} (he : PE X v (TX K mg (run G n) W e)) : PS X (.Return (some v) pos) (TXS K mg (run G n) W (.ret e)) := by
  refine ps_w (ps_ret he) fun D σ H ⟨r, δ, m, R, Sl, q⟩ => ?_
  rw [evS] at q
  exact TX.st R Sl q fun d v r1 H1 m1 e1 R1 S1 rv q => q r1 H1 v (.refl _ _) R1 rv
theorem st_retN {pos : Pos} : PS X (.Return none pos) (TXS K mg (run G n) W .retN) := by
  refine ps_w ps_retN fun D σ H ⟨r, δ, m, R, Sl, q⟩ => ?_
  rw [evS] at q
  exact q r H _ (.refl _ _) R (by show RepB _ _ _ _; rw [RepB])
theorem st_pass {pos : Pos} : PS X (.Pass pos) (TXS K mg (run G n) W .pass) := by
  refine ps_w ps_pass fun D σ H ⟨r, δ, m, R, Sl, q⟩ => ?_
  rw [evS] at q
  exact q r H σ (.refl _ _) R Sl
theorem st_brk {pos : Pos} : PS X (.Break pos) (TXS K mg (run G n) W .brk) := by
  refine ps_w ps_break fun D σ H ⟨r, δ, m, R, Sl, q⟩ => ?_
  rw [evS] at q
  exact q r H σ (.refl _ _) R Sl
theorem st_cont {pos : Pos} : PS X (.Continue pos) (TXS K mg (run G n) W .cont) := by
  refine ps_w ps_continue fun D σ H ⟨r, δ, m, R, Sl, q⟩ => ?_
  rw [evS] at q
  exact q r H σ (.refl _ _) R Sl
theorem st_ife {c : Expr} {a b : List Stmt} {tc : E} {ta tb : Ss} {pos : Pos} (hc : PT X c (TXt K mg (run G n) W tc)) (ha : PSs X a (TXSs K mg (run G n) W ta)) (hb : PSs X b (TXSs K mg (run G n) W tb)) : PS X (.If c a b pos) (TXS K mg (run G n) W (.ife tc ta tb)) := by
  refine ps_w (ps_if hc ha hb) fun D σ H ⟨r, δ, m, R, Sl, q⟩ => ?_
  rw [evS] at q
  refine TXt.st R Sl q fun b r1 H1 m1 e1 R1 S1 q => ?_
  cases b with
  | true => exact ⟨r1, δ, m1, R1, S1, q⟩
  | false => exact ⟨r1, δ, m1, R1, S1, q⟩
theorem ss_nil : PSs X [] (TXSs K mg (run G n) W .nil) := by
  refine pss_w pss_nil fun D σ H ⟨r, δ, m, R, Sl, q⟩ => ?_
  rw [evSs] at q
  exact q r H σ (.refl _ _) R Sl
theorem ss_cons {s : Stmt} {l : List Stmt} {t : Z.S} {ts : Ss} (h : PS X s (TXS K mg (run G n) W t)) (hr : PSs X l (TXSs K mg (run G n) W ts)) : PSs X (s :: l) (TXSs K mg (run G n) W (.cons t ts)) := by
  refine pss_w (pss_cons h hr) fun D σ H ⟨r, δ, m, R, Sl, q⟩ => ?_
  rw [evSs] at q
  refine ⟨r, δ, m, R, Sl, ?_⟩
  cases he : evS (run G n) t δ m with
  | nx δ' m' =>
    rw [he] at q
    intro r' H' σ' e R' S'
    exact ⟨r', δ', m', R', S', OkS.ext q e⟩
  | brk δ' m' => rw [he] at q; exact q
  | cont δ' m' => rw [he] at q; exact q
  | ret d m' => rw [he] at q; exact q
  | ex c δ' m' => rw [he] at q; exact q
  | bad => rw [he] at q; exact q
/-- behind a turn of a loop -/
theorem turn_ok {r : List Addr} {H : Hp} {res : RS} {D : Ends} {f : Env → Mem → RS} (h : OkS K mg W r H (match res with
    | .nx δ2 m2 => f δ2 m2
    | .cont δ2 m2 => f δ2 m2
    | .brk δ2 m2 => .nx δ2 m2
    | r => r) D) (N : L2.St → Hp → Prop) (hN : ∀ δ2 m2 r' H' σ', Ext r H r' H' → Rel r' H' m2 → RepS K mg r' H' δ2 σ' → OkS K mg W r' H' (f δ2 m2) D → N σ' H') : OkS K mg W r H res { D with nx := N, ct := N, bk := D.nx } := by
  cases res with
  | nx δ m => exact fun r' H' σ' e R' S' => hN δ m r' H' σ' e R' S' (OkS.ext h e)
  | cont δ m => exact fun r' H' σ' e R' S' => hN δ m r' H' σ' e R' S' (OkS.ext h e)
  | brk δ m => exact h
  | ret d m => exact h
  | ex c δ m => exact h
  | bad => exact h
theorem st_whl {c : Expr} {b : List Stmt} {tc : E} {tb : Ss} {pos : Pos} (ok : XOk P w K mg base gi G n S W X) (hc : PT X c (TXt K mg (run G n) W tc)) (hb : PSs X b (TXSs K mg (run G n) W tb)) : PS X (.While c b [] pos) (TXS K mg (run G n) W (.whl tc tb)) := by
  refine ps_w (ps_while ok.own hc hb) fun D σ H ⟨r, δ, m, R, Sl, q⟩ => ?_
  rw [evS] at q
  refine ⟨fun k σ H => ∃ r δ m, Rel r H m ∧ RepS K mg r H δ σ ∧ OkS K mg W r H (whlL (fun δ m => (ev (run G n) tc δ m).bind truthD) (fun δ m => evSs (run G n) tb δ m) k δ m) D, ⟨turns, r, δ, m, R, Sl, q⟩, ?_⟩
  rintro k σ H ⟨r, δ, m, R, Sl, q⟩
  cases k with
  | zero => rw [whlL] at q; exact q.elim
  | succ k =>
    rw [whlL] at q
    refine ⟨r, δ, m, R, Sl, ?_⟩
    cases hv : (ev (run G n) tc δ m).bind truthD with
    | bad => simp only [hv] at q; exact q.elim
    | ex c' m1 =>
      simp only [hv] at q
      exact fun r' H' e R' => q r' H' σ e R' (Sl.ext e)
    | ok t m1 =>
      intro r1 H1 e1 R1
      cases t with
      | false =>
        simp only [hv] at q
        simp only [Bool.false_eq_true, if_false]
        exact q r1 H1 σ e1 R1 (Sl.ext e1)
      | true =>
        simp only [hv] at q
        simp only [if_true]
        refine ⟨fun σ' H' => ∃ r δ m, Rel r H' m ∧ RepS K mg r H' δ σ' ∧ OkS K mg W r H' (whlL (fun δ m => (ev (run G n) tc δ m).bind truthD) (fun δ m => evSs (run G n) tb δ m) k δ m) D, fun σ' H' h => ⟨k, Nat.lt_succ_self k, h⟩, r1, δ, m1, R1, Sl.ext e1, ?_⟩
        refine turn_ok (f := fun δ2 m2 => whlL (fun δ m => (ev (run G n) tc δ m).bind truthD) (fun δ m => evSs (run G n) tb δ m) k δ2 m2) ?_ _ fun δ2 m2 r' H' σ' e R' S' h => ⟨r', δ2, m2, R', S', h⟩
        exact OkS.ext q e1
theorem st_for {t it : Expr} {b : List Stmt} {tg : Tg} {ti : It} {tb : Ss} {pos : Pos} (ok : XOk P w K mg base gi G n S W X) (ht : chkTg S tg t = true) (hp : plainX it = true) (hi : PI X t it (TXi K mg (run G n) W ti)) (hb : PSs X b (TXSs K mg (run G n) W tb)) : PS X (.For t it b [] pos) (TXS K mg (run G n) W (.for tg ti tb)) := by
  refine ps_w (ps_for ok.own ok.calm hi (pg_of ok ht) hb (set_of hp)) fun D σ H ⟨r, δ, m, R, Sl, q⟩ => ?_
  rw [evS] at q
  refine TXi.st R Sl q fun a r1 H1 m1 e1 R1 S1 hg q J hJ => ?_
  let Inv' : Nat → L2.St → Hp → Prop := fun i σ H => ∃ r δ m, Ext r1 H1 r H ∧ Rel r H m ∧ RepS K mg r H δ σ ∧ OkS K mg W r H (forL (fun δ m => evSs (run G n) tb δ m) tg a.g (a.xs.drop i) δ m) D
  refine ⟨fun i k σ H => k = a.xs.length - i ∧ i ≤ a.xs.length ∧ Inv' i σ H, ⟨_, rfl, Nat.zero_le _, r1, δ, m1, .refl _ _, R1, S1, q⟩, ?_⟩
  rintro i k σ H ⟨rfl, hle, r2, δ2, m2, e2, R2, S2, q⟩
  by_cases hlt : i < a.xs.length
  · have hd : a.xs.drop i = a.xs[i] :: a.xs.drop (i + 1) := List.drop_eq_getElem_cons hlt
    have hx : a.xs[i]? = some a.xs[i] := List.getElem?_eq_getElem hlt
    rw [hd, forL] at q
    by_cases hg2 : gOk a.g m2
    case neg => rw [if_neg hg2] at q; exact q.elim
    rw [if_pos hg2] at q
    refine .inr ⟨hJ.go i _ _ _ hlt e2 R2 hg2, Inv' (i + 1), fun σ' H' h => ⟨a.xs.length - (i + 1), by omega, rfl, hlt, h⟩, fun x H' y => ?_⟩
    obtain ⟨e3, k3, rx⟩ := hJ.yld i _ _ _ x H' _ hx e2 R2 hg2 y
    have R3 := R2.same e3 k3
    cases hs : asgn tg a.xs[i] δ2 with
    | none => simp only [hs] at q; exact q.elim
    | some δ3 =>
      simp only [hs] at q
      refine asgn_ok (S2.ext e3) rx hs fun σ3 S3 _ _ => ?_
      refine ⟨r2, δ3, m2, R3, S3, ?_⟩
      refine turn_ok (f := fun δ2 m2 => forL (fun δ m => evSs (run G n) tb δ m) tg a.g (a.xs.drop (i + 1)) δ2 m2) ?_ _ fun δ4 m4 r' H'' σ' e R' S' h => ⟨r', δ4, m4, (e2.trans e3).trans e, R', S', h⟩
      exact OkS.ext q e3
  · have ei : i = a.xs.length := by omega
    subst ei
    rw [List.drop_length, forL] at q
    by_cases hg2 : gOk a.g m2
    case neg => rw [if_neg hg2] at q; exact q.elim
    rw [if_pos hg2] at q
    exact .inl ⟨hJ.stop _ _ _ e2 R2 hg2, q r2 H σ (.refl _ _) R2 S2⟩
theorem swaps_of {x : Str} {px : Pos} {l : Nat} {elt : Expr} {gs : List Comprehension} {scope : Scope} {vpos : Pos} (ok : XOk P w K mg base gi G n S W X) (hk : X.env.blockKind = .function) : swapsWith (.ListComp elt gs scope vpos) (some (.Name x px)) l X.env = pure (swC S x px scope vpos) := by
  have e : X.env.kindOf x = S.kind x := by show X.env.scope.names.lookup x = S.sc.names.lookup x; rw [ok.eS]
  show (pure (X.env.blockKind == .function && X.env.kindOf x == some .local && px.line == vpos.line && !(scope.names.any fun (n, k) => n == x && (k == .local || k == .cell))) : Sem Bool) = _
  rw [hk, e]
  unfold swC
  have : (S.kind x == some NameKind.local) = (match S.kind x with
    | some .local => true
    | _ => false) := by
    cases h : S.kind x with
    | none => rfl
    | some k => cases k <;> rfl
  rw [this]
  rfl
theorem st_setComp {elt target iter : Expr} {scope : Scope} {tg : Tg} {it : It} {e : E} {b : Bool} {i : Nat} {x : Str} {px vpos pos : Pos} (ok : XOk P w K mg base gi G n S W X) (hk : X.env.blockKind = .function) (hx : S.loc i x = true) (hlo : S.kind x = some .local) (hsw : swC S x px scope vpos = true)
    (hb : blkC S.N S.sc scope ((tgNames target).zip tg.slots) = true) (hl : (tgNames target).length = tg.slots.length)
    (ht : chkTg (S.blk scope) tg target = true) (hp : plainX iter = true) (hi : PI X target iter (TXi K mg (run G n) W it))
    (he : ∀ {X' : Cx}, XOk P w K mg base gi G n (S.blk scope) W0 X' → PE X' elt (TX K mg (run G n) W0 e)) : PS X (.Assign [.Name x px] (.ListComp elt [⟨target, iter, [], 0⟩] scope vpos) pos) (TXS K mg (run G n) W (.set i (.comp b tg it e))) := by
  have bo : BlkOk X.N X.env.scope scope ((tgNames target).zip tg.slots) := by rw [ok.eN, ok.eS]; exact blkOk_by hb
  obtain ⟨a1, a2, a3⟩ := loc_of ok hx
  have hy : X.env.scope.names.lookup x = some .local := by rw [ok.eS]; exact hlo
  have h := ps_setLc (X := X) (elt := elt) (tg := target) (iter := iter) (scope := scope) (pos := vpos) (spos := pos) (py := px) ok.calm (by rw [ok.eN]; exact ok.nd) a1 hy (by rw [swaps_of ok hk, hsw]) hi bo (fun s H C cl fp => pg_of (blk_ok ok s H C cl fp) ht) (fun s H C cl fp => pts_nil) (fun s H C cl fp => he (blk_ok ok s H C cl fp)) (set_of hp)
  rw [zip_snd hl] at h
  refine ps_w h fun D σ H h => ?_
  obtain ⟨r, δ, m, R, Sl, q⟩ := set_fin h
  rw [ev] at q
  refine comp_tx R Sl (fun σ H Q r δ m R Sl ⟨b, m', e, k⟩ => by cases e; exact k r H (.refl _ _) R) q
theorem st_setRowc {elt target iter : Expr} {scope : Scope} {tg : Tg} {it : It} {e : E} {i : Nat} {x : Str} {px vpos pos : Pos} (ok : XOk P w K mg base gi G n S W X) (hk : X.env.blockKind = .function) (hx : S.loc i x = true) (hlo : S.kind x = some .local) (hsw : swC S x px scope vpos = true)
    (hb : blkC S.N S.sc scope ((tgNames target).zip tg.slots) = true) (hl : (tgNames target).length = tg.slots.length)
    (ht : chkTg (S.blk scope) tg target = true) (hp : plainX iter = true) (hi : PI X target iter (TXi K mg (run G n) W it))
    (he : ∀ {X' : Cx}, XOk P w K mg base gi G n (S.blk scope) W0 X' → PE X' elt (TX K mg (run G n) W0 e)) : PS X (.Assign [.Name x px] (.ListComp elt [⟨target, iter, [], 0⟩] scope vpos) pos) (TXS K mg (run G n) W (.set i (.rowc tg it e))) := by
  have bo : BlkOk X.N X.env.scope scope ((tgNames target).zip tg.slots) := by rw [ok.eN, ok.eS]; exact blkOk_by hb
  obtain ⟨a1, a2, a3⟩ := loc_of ok hx
  have hy : X.env.scope.names.lookup x = some .local := by rw [ok.eS]; exact hlo
  have h := ps_setLc (X := X) (elt := elt) (tg := target) (iter := iter) (scope := scope) (pos := vpos) (spos := pos) (py := px) ok.calm (by rw [ok.eN]; exact ok.nd) a1 hy (by rw [swaps_of ok hk, hsw]) hi bo (fun s H C cl fp => pg_of (blk_ok ok s H C cl fp) ht) (fun s H C cl fp => pts_nil) (fun s H C cl fp => he (blk_ok ok s H C cl fp)) (set_of hp)
  rw [zip_snd hl] at h
  refine ps_w h fun D σ H h => ?_
  obtain ⟨r, δ, m, R, Sl, q⟩ := set_fin h
  rw [ev] at q
  exact rows_tx R Sl (fun σ H Q q => q) q
theorem st_setRcomp {elt target iter : Expr} {scope : Scope} {i2 : Nat} {x2 e : E} {i : Nat} {x : Str} {px vpos pos : Pos} (ok : XOk P w K mg base gi G n S W X) (hk : X.env.blockKind = .function) (hx : S.loc i x = true) (hlo : S.kind x = some .local) (hsw : swC S x px scope vpos = true)
    (hb : blkC S.N S.sc scope ((tgNames target).zip [i2]) = true) (hl : (tgNames target).length = 1)
    (ht : chkTg (S.blk scope) (.one i2) target = true) (hp : plainX iter = true) (hi : PI X target iter (fun σ H R => TX K mg (run G n) W x2 σ H fun v H1 => ∃ p, v = .ref p ∧ (∃ vs, SqL K H1 p vs) ∧ R (Itl K p) H1))
    (he : ∀ {X' : Cx}, XOk P w K mg base gi G n (S.blk scope) W0 X' → PE X' elt (TX K mg (run G n) W0 e)) : PS X (.Assign [.Name x px] (.ListComp elt [⟨target, iter, [], 0⟩] scope vpos) pos) (TXS K mg (run G n) W (.set i (.rcomp i2 x2 e))) := by
  have bo : BlkOk X.N X.env.scope scope ((tgNames target).zip [i2]) := by rw [ok.eN, ok.eS]; exact blkOk_by hb
  obtain ⟨a1, a2, a3⟩ := loc_of ok hx
  have hy : X.env.scope.names.lookup x = some .local := by rw [ok.eS]; exact hlo
  have h := ps_setLc (X := X) (elt := elt) (tg := target) (iter := iter) (scope := scope) (pos := vpos) (spos := pos) (py := px) ok.calm (by rw [ok.eN]; exact ok.nd) a1 hy (by rw [swaps_of ok hk, hsw]) hi bo (fun s H C cl fp => pg_of (blk_ok ok s H C cl fp) ht) (fun s H C cl fp => pts_nil) (fun s H C cl fp => he (blk_ok ok s H C cl fp)) (set_of hp)
  rw [zip_snd (by simpa using hl)] at h
  refine ps_w h fun D σ H h => ?_
  obtain ⟨r, δ, m, R, Sl, q⟩ := set_fin h
  rw [ev] at q
  exact rc_tx R Sl (fun σ H Q q => q) q
theorem st_setCompI {elt target iter c : Expr} {scope : Scope} {tg : Tg} {it : It} {tc e : E} {b : Bool} {i : Nat} {x : Str} {px vpos pos : Pos} (ok : XOk P w K mg base gi G n S W X) (hk : X.env.blockKind = .function) (hx : S.loc i x = true) (hlo : S.kind x = some .local) (hsw : swC S x px scope vpos = true)
    (hb : blkC S.N S.sc scope ((tgNames target).zip tg.slots) = true) (hl : (tgNames target).length = tg.slots.length)
    (ht : chkTg (S.blk scope) tg target = true) (hp : plainX iter = true) (hi : PI X target iter (TXi K mg (run G n) W it))
    (hc : ∀ {X' : Cx}, XOk P w K mg base gi G n (S.blk scope) W0 X' → PT X' c (TXt K mg (run G n) W0 tc))
    (he : ∀ {X' : Cx}, XOk P w K mg base gi G n (S.blk scope) W0 X' → PE X' elt (TX K mg (run G n) W0 e)) : PS X (.Assign [.Name x px] (.ListComp elt [⟨target, iter, [c], 0⟩] scope vpos) pos) (TXS K mg (run G n) W (.set i (.compI b tg it tc e))) := by
  have bo : BlkOk X.N X.env.scope scope ((tgNames target).zip tg.slots) := by rw [ok.eN, ok.eS]; exact blkOk_by hb
  obtain ⟨a1, a2, a3⟩ := loc_of ok hx
  have hy : X.env.scope.names.lookup x = some .local := by rw [ok.eS]; exact hlo
  have h := ps_setLc (X := X) (elt := elt) (tg := target) (iter := iter) (scope := scope) (pos := vpos) (spos := pos) (py := px) ok.calm (by rw [ok.eN]; exact ok.nd) a1 hy (by rw [swaps_of ok hk, hsw]) hi bo (fun s H C cl fp => pg_of (blk_ok ok s H C cl fp) ht) (fun s H C cl fp => pts_one (hc (blk_ok ok s H C cl fp))) (fun s H C cl fp => he (blk_ok ok s H C cl fp)) (set_of hp)
  rw [zip_snd hl] at h
  refine ps_w h fun D σ H h => ?_
  obtain ⟨r, δ, m, R, Sl, q⟩ := set_fin h
  rw [ev] at q
  refine comp_tx R Sl (fun σ H Q r δ m R Sl ⟨b, m', e, k⟩ => ⟨r, δ, m, R, Sl, by have e : (ev (run G n) tc δ m).bind truthD = .ok b m' := e; rw [e]; exact k⟩) q

mutual
theorem sS : ∀ (t : Z.S) {S : SX} {W : WX} {X : Cx} {s : Stmt}, XOk P w K mg base gi G n S W X → X.env.blockKind = .function → chkS gi G t S s = true → PS X s (TXS K mg (run G n) W t)
  | .dead, S, W, X, s, ok, hk, h => ⟨fun pins s σ H D I ⟨r, δ, m, R, Sl, q⟩ => by rw [evS] at q; exact q.elim⟩
  | .set i e, S, W, X, s, ok, hk, h => by
    unfold chkS at h
    split at h
    · rename_i x px v pos
      simp only [Bool.and_eq_true] at h
      obtain ⟨⟨h1, h2⟩, h3⟩ := h
      split at h3
      · rename_i elt gs scope vpos
        cases hsw : swC S x px scope vpos with
        | false => exact st_set ok h1 (sE e ok h2).1 (by rw [swaps_of ok hk, hsw])
        | true =>
          rw [hsw] at h3
          have hlo : S.kind x = some .local := by simpa using h3
          cases e with
          | comp b tg it e' =>
            unfold chkE at h2
            split at h2
            · simp only [Bool.and_eq_true] at h2
              obtain ⟨⟨⟨⟨⟨⟨k1, k2⟩, k3⟩, k4⟩, k5⟩, k6⟩, k7⟩ := h2
              have k1 := of_decide_eq_true k1
              subst k1
              rename_i heq
              cases heq
              exact st_setComp ok hk h1 hlo hsw k2 (of_decide_eq_true k3) k4 k5 (sI it ok k6) fun ok' => (sE e' ok' k7).1
            · cases h2
          | rcomp i2 x2 e' =>
            unfold chkE at h2
            split at h2
            · simp only [Bool.and_eq_true] at h2
              obtain ⟨⟨⟨⟨⟨⟨k1, k2⟩, k3⟩, k4⟩, k5⟩, k6⟩, k7⟩ := h2
              have k1 := of_decide_eq_true k1
              subst k1
              rename_i heq
              cases heq
              exact st_setRcomp ok hk h1 hlo hsw k2 (of_decide_eq_true k3) k4 k5 (i_rows ok.eK (sE x2 ok k6).1) fun ok' => (sE e' ok' k7).1
            · cases h2
          | rowc tg it e' =>
            unfold chkE at h2
            split at h2
            · simp only [Bool.and_eq_true] at h2
              obtain ⟨⟨⟨⟨⟨⟨k1, k2⟩, k3⟩, k4⟩, k5⟩, k6⟩, k7⟩ := h2
              have k1 := of_decide_eq_true k1
              subst k1
              rename_i heq
              cases heq
              exact st_setRowc ok hk h1 hlo hsw k2 (of_decide_eq_true k3) k4 k5 (sI it ok k6) fun ok' => (sE e' ok' k7).1
            · cases h2
          | compI b tg it c e' =>
            unfold chkE at h2
            split at h2
            · simp only [Bool.and_eq_true] at h2
              obtain ⟨⟨⟨⟨⟨⟨⟨k1, k2⟩, k3⟩, k4⟩, k5⟩, k6⟩, k7⟩, k8⟩ := h2
              have k1 := of_decide_eq_true k1
              subst k1
              rename_i heq
              cases heq
              exact st_setCompI ok hk h1 hlo hsw k2 (of_decide_eq_true k3) k4 k5 (sI it ok k6) (fun ok' => (sE c ok' k7).2) fun ok' => (sE e' ok' k8).1
            · cases h2
          | dead => exact ⟨fun pins s σ H D I ⟨r, δ, m, R, Sl, q⟩ => by rw [evS, ev] at q; exact q.elim⟩
          | op o b es =>
            exfalso
            unfold chkE at h2
            cases o <;> (simp [opSub] at h2; done)
          | _ =>
            exfalso
            unfold chkE at h2
            cases h2
      · exact st_set ok h1 (sE e ok h2).1 (swaps_not h3)
    · cases h
  | .setT is e, S, W, X, s, ok, hk, h => by
    unfold chkS at h
    split at h
    · rename_i ts k p v pos
      simp only [Bool.and_eq_true] at h
      obtain ⟨⟨h1, h2⟩, h4⟩ := h
      refine st_setT ok h1 (sE e ok h2).1 ?_
      split at h4
      · rename_i vs k2 p2
        rw [Bool.or_eq_true] at h4
        rcases h4 with h4 | h4
        case inr => exact notLoc_swap h4 ok.eS
        rw [Bool.and_eq_true] at h4
        have hs : (vs.any fun | .Starred .. => true | _ => false) = false := by
          rw [List.any_eq_false]
          intro e he
          have := List.all_eq_true.mp h4.2 e he
          cases e <;> first | (simp; done) | (cases this; done)
        simp only [swappedStores]
        simp [h4.1]
      · cases h4
      · rename_i hn1 hn2
        cases v <;> first | rfl | exact absurd rfl (hn1 _ _ _) | exact absurd rfl (hn2 _ _)
    · cases h
  | .setP is es, S, W, X, s, ok, hk, h => by
    unfold chkS at h
    split at h
    · rename_i x px y py kt pt vs k2 pt2 pos
      simp only [Bool.and_eq_true] at h
      obtain ⟨⟨⟨⟨⟨⟨⟨h1, h2⟩, h3⟩, h4⟩, h5⟩, h6⟩, h7⟩, h8⟩ := h
      split at h1
      · rename_i i j
        simp only [Bool.and_eq_true] at h1
        obtain ⟨⟨⟨g1, g2⟩, g3⟩, g4⟩ := h1
        match vs, of_decide_eq_true h5 with
        | [a, b], _ =>
          exact st_setP ok hk (of_decide_eq_true g1) (of_decide_eq_true g2) (of_decide_eq_true g3) (of_decide_eq_true g4) (of_decide_eq_true h2) (of_decide_eq_true h3) h4 (by rw [Bool.not_eq_true'] at h6; exact h6) (by rw [Bool.not_eq_true'] at h7; exact h7) (plain_es h8) (sEs es ok h8)
      · cases h1
    · cases h
  | .setI o i e, S, W, X, s, ok, hk, h => by
    unfold chkS at h
    split at h
    · simp only [Bool.and_eq_true] at h
      obtain ⟨⟨⟨⟨h1, h2⟩, h3⟩, h4⟩, h5⟩ := h
      exact st_setI ok h1 h2 (sE e ok h3).1 (sE o ok h4).1 (sE i ok h5).1
    · cases h
  | .expr e, S, W, X, s, ok, hk, h => by
    unfold chkS at h
    split at h
    · simp only [Bool.and_eq_true] at h
      exact st_expr h.1 (sE e ok h.2).1
    · cases h
  | .ife c a b, S, W, X, s, ok, hk, h => by
    unfold chkS at h
    split at h
    · simp only [Bool.and_eq_true] at h
      exact st_ife (sE c ok h.1.1).2 (sSs a ok hk h.1.2) (sSs b ok hk h.2)
    · cases h
  | .whl c b, S, W, X, s, ok, hk, h => by
    unfold chkS at h
    split at h
    · simp only [Bool.and_eq_true] at h
      exact st_whl ok (sE c ok h.1).2 (sSs b ok hk h.2)
    · cases h
  | .for tg it b, S, W, X, s, ok, hk, h => by
    unfold chkS at h
    split at h
    · simp only [Bool.and_eq_true] at h
      obtain ⟨⟨⟨h1, h2⟩, h3⟩, h4⟩ := h
      exact st_for ok h1 h3 (sI it ok h2) (sSs b ok hk h4)
    · cases h
  | .ret e, S, W, X, s, ok, hk, h => by
    unfold chkS at h
    split at h
    · exact st_ret (sE e ok h).1
    · cases h
  | .retN, S, W, X, s, ok, hk, h => by
    unfold chkS at h
    split at h
    · exact st_retN
    · cases h
  | .pass, S, W, X, s, ok, hk, h => by
    unfold chkS at h
    split at h
    · exact st_pass
    · cases h
  | .brk, S, W, X, s, ok, hk, h => by
    unfold chkS at h
    split at h
    · exact st_brk
    · cases h
  | .cont, S, W, X, s, ok, hk, h => by
    unfold chkS at h
    split at h
    · exact st_cont
    · cases h
  | .raise x, S, W, X, s, ok, hk, h => by
    unfold chkS at h
    split at h
    · simp only [Bool.and_eq_true] at h
      obtain ⟨⟨h1, h2⟩, h3⟩ := h
      have h1 := of_decide_eq_true h1
      subst h1
      refine ps_w (st_raise ok h2 (by simpa using h3)) fun D σ H ⟨r, δ, m, R, Sl, q⟩ => ?_
      rw [evS] at q
      exact q r H σ (.refl _ _) R Sl
    · cases h
theorem sSs : ∀ (t : Ss) {S : SX} {W : WX} {X : Cx} {l : List Stmt}, XOk P w K mg base gi G n S W X → X.env.blockKind = .function → chkSs gi G t S l = true → PSs X l (TXSs K mg (run G n) W t)
  | .nil, S, W, X, l, ok, hk, h => by
    rw [chkSs] at h
    have : l = [] := by simpa using h
    subst this
    exact ss_nil
  | .cons s ss, S, W, X, l, ok, hk, h => by
    cases l with
    | nil => rw [chkSs] at h; cases h
    | cons x xs =>
      rw [chkSs] at h
      simp only [Bool.and_eq_true] at h
      exact ss_cons (sS s ok hk h.1) (sSs ss ok hk h.2)
end
end
end Z

/-! Z14: defs, the law's end. -/
namespace Z
open PySem PySem.Spec PyProof.Rows L2
variable [TabC]
section
variable {P : Program} {w : World} {K : PySem.W.Frag} {mg : Str → Option Value} {base : Heap} {gi : GI} {G : Tab} {n : Nat}
theorem start_ok {N : List Str} {k : Nat} {ds : List D} {vs : List V} {r : List Addr} {H : Hp} (hN : N.length = k) (h : RepDs K mg r H ds vs) : RepS K mg r H (startE k ds) (L2.start N vs) := by
  have hl := repDs_length h
  unfold startE L2.start
  refine ⟨by simp [hN, hl], fun i d hd => ?_⟩
  by_cases hi : i < ds.length
  · rw [List.getElem?_append_left (by simpa using hi), List.getElem?_map] at hd
    cases q : ds[i]? with
    | none => rw [q] at hd; cases hd
    | some d' =>
      rw [q] at hd
      cases hd
      obtain ⟨v, h1, h2⟩ := pr_get h q
      refine ⟨v, ?_, h2⟩
      rw [List.getElem?_append_left (by rw [List.length_map, ← hl]; exact hi), List.getElem?_map, h1]
      rfl
  · exfalso
    rw [List.getElem?_append_right (by simpa using hi), List.getElem?_replicate] at hd
    split at hd <;> cases hd
omit [TabC] in
theorem run_succ (f : Str) (ds : List D) (m : Mem) : run G (n + 1) f ds m = match G f with
    | some fd => if ds.length = fd.ps ∧ fd.ps ≤ fd.n then endB (evSs (run G n) fd.body (startE fd.n ds) m) else .bad
    | none => .bad := rfl
theorem end_ok {res : RS} {r : List Addr} {H : Hp} {Q : VK} {E : XK} (h : OkR mg (fun c d _ H' => E c d H') [] r H (endB res) (PV K mg Q)) : OkS K mg (fun c d _ H' => E c d H') r H res { nx := fun _ H' => Q .non H', rt := Q } := by
  cases res with
  | nx δ m => exact fun r' H' σ e R _ => h r' H' e R .non (by show RepB _ _ _ _; rw [RepB])
  | ret d m => exact fun r' H' v e R rv => h r' H' e R v rv
  | ex c δ m => exact fun r' H' σ e R _ => h r' H' e R
  | brk δ m => exact (show False from h).elim
  | cont δ m => exact (show False from h).elim
  | bad => exact h
/-- a def of the text, as the table has it -/
structure Row where
  f : Str
  st : Stmt
  N : List Str
  ps : List Str
  fd : Fd
  lam : Bool
def tabG (rows : List Row) : Tab := fun f => (rows.find? fun r => r.f == f).map (·.fd)
def scopeB (N ps : List Str) (sc : Scope) : Bool := (match sc.kind with
  | .function => true
  | _ => false) && !sc.isCoroutine && !sc.isGenerator && decide N.Nodup && decide (N.take ps.length = ps) && (ps.all fun x => decide (sc.names.lookup x = some .local) || decide (sc.names.lookup x = some .cell)) && (sc.names.all fun y => match y.2 with
  | .free => false
  | _ => true)
omit [TabC] in
theorem scope_of {N ps : List Str} {sc : Scope} (h : scopeB N ps sc = true) : FnScope N ps sc := by
  unfold scopeB at h
  simp only [Bool.and_eq_true, Bool.not_eq_true', decide_eq_true_eq, List.all_eq_true, Bool.or_eq_true] at h
  obtain ⟨⟨⟨⟨⟨⟨h1, h2⟩, h3⟩, h4⟩, h5⟩, h6⟩, h7⟩ := h
  refine ⟨?_, h2, h3, h4, h5, h6, fun y hy e => ?_⟩
  · split at h1
    · assumption
    · cases h1
  · have := h7 y hy
    rw [e] at this
    cases this
def rowB (gi : GI) (G : Tab) (r : Row) : Bool := scopeB r.N r.ps (defScope r.st) && decide (r.ps.length = r.fd.ps) && decide (r.N.length = r.fd.n) && chkSs gi G r.fd.body ⟨r.N, defScope r.st, fun _ => true, r.lam, false⟩ (defBody r.st)
def BindB (r : Row) : Prop := ∀ (kV doc pm : Value) (an : Option Addr) (cdv ct : Value) (us : List Value), us.length = r.ps.length → bindArgs (PySem.W.fnOf r.f r.f (defArgs r.st) (defBody r.st) (defScope r.st) .none kV doc pm an cdv ct) ⟨us, []⟩ = pure (r.ps.zip us)
/-- where the def lies -/
def DefAt (K : PySem.W.Frag) (r : Row) : Prop := ∃ a fd, PySem.W.nsIn K mainGlobals r.f = some (some (.ref a)) ∧ Fun K r.f r.f r.st a fd
omit [TabC] in
theorem defAt_mk {r : Row} {a : Addr} {oc : Value} {od an : Option Addr} {osl : Array (Option Value)} {kV doc pm cdv ct : Value} (h1 : PySem.W.nsIn K mainGlobals r.f = some (some (.ref a))) (l : K.lookup a = some ⟨oc, od, .func (PySem.W.fnOf r.f r.f (defArgs r.st) (defBody r.st) (defScope r.st) .none kV doc pm an cdv ct), osl⟩)
    (c : PySem.W.codeIn K cdv r.f = true) (k : PySem.W.keepIn K (.ref a) = true) : DefAt K r := ⟨a, _, h1, fun_mk l c k⟩
/-- the code objects of the defs that make lambdas, their tables -/
def LamAt (K : PySem.W.Frag) (cs : List (Addr × Addr)) (f : Str) : Prop := ∃ c Pt, PySem.W.tabIn K f = some (c, Pt) ∧ (c, Pt) ∈ cs ∧ (Pt, (f ++ ".<locals>.") ++ "<lambda>") ∈ TabC.T ∧ ∀ p ∈ TabC.T, p.1 = Pt → p.2 = (f ++ ".<locals>.") ++ "<lambda>"
structure RowOk (K : PySem.W.Frag) (cs : List (Addr × Addr)) (gi : GI) (G : Tab) (r : Row) : Prop where
  at_ : DefAt K r
  chk : rowB gi G r = true
  bnd : BindB r
  lam : r.lam = true → LamAt K cs r.f
omit [TabC] in
theorem code_at {f : Str} {a : Addr} {c Pt : Addr} {oc : Value} {od : Option Addr} {osl : Array (Option Value)} {fd : FuncData} (h1 : PySem.W.nsIn K mainGlobals f = some (some (.ref a))) (lk : K.lookup a = some ⟨oc, od, .func fd, osl⟩) (h : PySem.W.tabIn K f = some (c, Pt)) : fd.code = .ref c := by
  unfold PySem.W.tabIn at h
  rw [h1] at h
  simp only [lk] at h
  split at h
  · rename_i c' hc
    split at h
    · split at h
      · cases h; exact hc
      · cases h
    · cases h
  · cases h
theorem row_fn {rows : List Row} {h : Heap} {cs : List (Addr × Addr)} (KX : K.In h) (Gm : h.Ns mainGlobals mg) {r : Row} (ro : RowOk K cs gi (tabG rows) r) (hb : ∀ x ∈ blts, PySem.W.nsIn K mainGlobals x = some none)
    (hg : ∀ x i, gi.nums.lookup x = some i → ∃ t, mg x = some (Value.int i t)) (hgo : GOk P w K mg base gi) (hT : ∀ p ∈ cs, LamX.TabB base mg p.1 p.2) (hf : tabG rows r.f = some r.fd) {a : Addr} {fdat : FuncData} (h1 : PySem.W.nsIn K mainGlobals r.f = some (some (.ref a))) (F : Fun K r.f r.f r.st a fdat) (ih : Fns P w K mg base (tabG rows) n) : FnG P w K mg base (L2.CX P w) (3 * (n + 1)) a fdat r.ps (spF K mg (tabG rows) (n + 1) r.f) := by
  have hc := ro.chk
  unfold rowB at hc
  simp only [Bool.and_eq_true, decide_eq_true_eq] at hc
  obtain ⟨⟨⟨c1, c2⟩, c3⟩, c4⟩ := hc
  have S := scope_of c1
  obtain ⟨oc, od, kV, doc, pm, an, cdv, ct, osl, rfl, lk, hcd⟩ := F.ex
  show FnG P w K mg base (L2.CX P w) (3 * n + 2 + 1) a _ r.ps _
  refine fnG_of lk hcd S (fun vs H Q E ⟨r', m, ds, R, rv, q⟩ => ?_) fun A outer s H vs Q E hgd hro ⟨r', m, ds, R, rv, q⟩ => ?_
  · rw [run_succ, hf] at q
    simp only at q
    split at q
    · rename_i hl
      rw [← repDs_length rv, hl.1, c2]
    · exact q.elim
  · rw [run_succ, hf] at q
    simp only at q
    split at q
    case isFalse => exact q.elim
    have ok : XOk P w K mg base gi (tabG rows) n ⟨r.N, defScope r.st, fun _ => true, r.lam, false⟩ (fun c d _ H' => E c d H') (cxOf (L2.CX P w) P w K mg base r.N r.f (defScope r.st) a cdv A outer s H E) :=
      { eP := rfl, eW := rfl, eK := rfl, eM := rfl, eB := rfl, eN := rfl, eS := rfl, nd := S.nd, calm := rfl, eF := rfl, tk := takes_of rfl rfl rfl rfl, own := passes_of rfl, room := hro.mono (by omega), gd := hgd, gok := hgo,
        rl := fun hl => by
          obtain ⟨c, Pt, t1, t2, t3, t4⟩ := ro.lam hl
          exact ⟨hro, c, Pt, code_at h1 lk t1, hT _ t2, t3, t4⟩
        exq := fun z => absurd (show false = true from z) Bool.false_ne_true,
        blt := fun x hx => PySem.W.mg_none_of KX Gm (hb x hx), gint := hg, fns := ih }
    have hk : (cxOf (L2.CX P w) P w K mg base r.N r.f (defScope r.st) a cdv A outer s H E).env.blockKind = .function := by
      show (if (defScope r.st).kind.isAnnotationScope then ScopeKind.function else (defScope r.st).kind) = _
      rw [S.kind]
      rfl
    exact ⟨_, sSs r.fd.body ok hk c4, r', startE r.fd.n ds, m, R, start_ok c3 rv, end_ok q⟩
theorem fns_all {rows : List Row} {h : Heap} {cs : List (Addr × Addr)} (KX : K.In h) (Gm : h.Ns mainGlobals mg) (hr : ∀ r ∈ rows, RowOk K cs gi (tabG rows) r) (hb : ∀ x ∈ blts, PySem.W.nsIn K mainGlobals x = some none)
    (hg : ∀ x i, gi.nums.lookup x = some i → ∃ t, mg x = some (Value.int i t)) (hgo : GOk P w K mg base gi) (hT : ∀ p ∈ cs, LamX.TabB base mg p.1 p.2) : ∀ n, Fns P w K mg base (tabG rows) n := by
  have row : ∀ f fd, tabG rows f = some fd → ∃ r ∈ rows, r.f = f ∧ r.fd = fd := fun f fd h => by
    unfold tabG at h
    cases q : rows.find? fun r => r.f == f with
    | none => rw [q] at h; cases h
    | some r =>
      rw [q] at h
      have h1 := List.mem_of_find?_eq_some q
      have h2 := List.find?_some q
      exact ⟨r, h1, by simpa using h2, Option.some.inj h⟩
  intro n
  induction n with
  | zero =>
    intro f fd hf
    obtain ⟨r, hm, rfl, rfl⟩ := row f fd hf
    obtain ⟨a, fdat, h1, F⟩ := (hr r hm).at_
    have hc := (hr r hm).chk
    unfold rowB at hc
    simp only [Bool.and_eq_true, decide_eq_true_eq] at hc
    refine ⟨a, fdat, r.ps, PySem.W.mg_of KX Gm h1, F.kp, F.binds (hr r hm).bnd, hc.1.1.2, ⟨fun vs H Q E ⟨r, m, ds, R, rv, q⟩ => q.elim, fun A outer s H args us vs Q E _ _ _ _ _ ⟨r, m, ds, R, rv, q⟩ => q.elim⟩⟩
  | succ n ih =>
    intro f fd hf
    obtain ⟨r, hm, rfl, rfl⟩ := row f fd hf
    obtain ⟨a, fdat, h1, F⟩ := (hr r hm).at_
    have hc := (hr r hm).chk
    have fo := row_fn (P := P) (w := w) (base := base) KX Gm (hr r hm) hb hg hgo hT hf h1 F ih
    unfold rowB at hc
    simp only [Bool.and_eq_true, decide_eq_true_eq] at hc
    exact ⟨a, fdat, r.ps, PySem.W.mg_of KX Gm h1, F.kp, F.binds (hr r hm).bnd, hc.1.1.2, fo⟩
/-- the law's promise -/
def spLaw (cs : List (Addr × Addr)) (K : PySem.W.Frag) : Sp := fun vs H Q _ => ∃ (a : Addr) (ns : List Int), vs = [.ref a] ∧ ns.length ≤ 63 ∧ OnlyT (cs.map (·.2)) H ∧ (∀ p ∈ cs, H p.2 = some (.tbl #[])) ∧ SqL K H a (ns.map V.int) ∧ ∀ H', Q (.bl true) H'
omit [TabC] in
theorem scrAt_of {H : Hp} {a : Addr} {ns : List Int} {ts : List Addr} (ho : OnlyT ts H) (h : SqL K H a (ns.map V.int)) : ScrAt K H a ns := by
  rcases h with (h | ⟨o, h⟩) | h
  · exfalso
    rcases ho a with e | ⟨_, e⟩ | ⟨o, xs, e⟩
    · rw [h] at e; cases e
    · rw [h] at e; cases e
    · rw [h] at e; cases e
  · exact .inl ⟨o, h⟩
  · exact .inr (.inr h)
theorem law_fn {rows : List Row} {h : Heap} {fa : Addr} {x : Str} {cs : List (Addr × Addr)} (KX : K.In h) (Gm : h.Ns mainGlobals mg) (hfa : mg "law" = some (.ref fa)) (hr : ∀ r ∈ rows, RowOk K cs gi (tabG rows) r) (hb : ∀ x ∈ blts, PySem.W.nsIn K mainGlobals x = some none)
    (hg : ∀ x i, gi.nums.lookup x = some i → ∃ t, mg x = some (Value.int i t)) (hgo : ∀ base : Heap, K.In base → base.Ns mainGlobals mg → GOk P w K mg base gi) (hcs : ∀ p ∈ TabC.T, p.1 ∈ cs.map (·.2)) (rl : Row) (hl : rl ∈ rows) (hlf : rl.f = "law") (hlp : rl.ps = [x]) (hG : tabG rows "law" = some rl.fd)
    (law : ∀ ns : List Int, ns.length ≤ 63 → ∃ m, run (tabG rows) (n + 1) "law" [.scr ns] [] = .ok (.b (.bool true)) m) :
    ∃ fd : FuncData, (∀ (s : Shared) (u : Value), BindsTo s fd ⟨[u], []⟩ [(x, u)]) ∧ ∀ base : Heap, K.In base → base.Ns mainGlobals mg → (∀ p ∈ cs, LamX.TabB base mg p.1 p.2) → FnG P w K mg base (L2.CX P w) (3 * (n + 1)) fa fd [x] (spLaw cs K) := by
  obtain ⟨a, fdat, h1, F⟩ := (hr rl hl).at_
  have e := hfa.symm.trans (PySem.W.mg_of KX Gm (by rw [← hlf]; exact h1))
  cases e
  obtain ⟨oc, od, kV, doc, pm, an, cdv, ct, osl, e, lk, hcd⟩ := F.ex
  refine ⟨fdat, fun s u => .of_eq ?_, fun base Kb Nb hT => ?_⟩
  · rw [e]
    exact ((hr rl hl).bnd kV doc pm an cdv ct [u] (by rw [hlp]; rfl)).trans (by rw [hlp]; rfl)
  · have fo := row_fn (P := P) (w := w) (base := base) KX Gm (hr rl hl) hb hg (hgo base Kb Nb) hT (by rw [hlf]; exact hG) h1 F (fns_all KX Gm hr hb hg (hgo base Kb Nb) hT n)
    rw [hlp] at fo
    refine fo.weak fun vs H Q E ⟨a, ns, e, hn, ho, ht, hs, q⟩ => ?_
    subst e
    obtain ⟨m, hm⟩ := law ns hn
    have tabs : LamX.Tabs TabC.T H := fun p hp => by
      obtain ⟨c, hc, ec⟩ := List.mem_map.mp (hcs p hp)
      exact LamX.TabS.nil (by rw [← ec]; exact ht c hc)
    refine ⟨[], [], [.scr ns], ⟨rfl, List.nodup_nil, (fun n a o h _ => by simp at h), tabs, (fun n ks h => by simp at h)⟩, .cons ⟨a, rfl, scrAt_of ho hs⟩ .nil, ?_⟩
    rw [hlf, hm]
    intro r' H' e R v rv
    have rv : RepB r' H' (.bool true) v := rv
    rw [RepB] at rv
    rw [rv]
    exact q H'
end
omit [TabC] in
/-- the end of a law with tables -/
theorem walk_ofGT {l : PySem.W.OpenLaw} {n k : Nat} {q : Program} {loose : List Str} {XP : (Str → Option Value) → Heap → Prop} {YP : World → Heap → Prop} {d : DefRec} {K : Params → PySem.W.Frag} {C : World → CXT} {x : Str}
    (hn : l.most = some n) (hn2 : n ≤ sizeLine) (hn3 : n ≤ 63) (hd : d.params.defaults = []) (room : Room k callerA) (hY : ∀ (w : World) (h : Heap), YP w h → (K w.params).In h)
    (F : ∀ (w : World) (mg : Str → Option Value) (fa : Addr) (h : Heap), YP w h → (K w.params).In h → h.Ns mainGlobals mg → mg d.name = some (.ref fa) →
      ∃ (cs : List (Addr × Addr)) (fd : FuncData), (∀ p ∈ cs, h.get? p.2 = some { cls := .none, data := .fields #[] }) ∧ (∀ p ∈ cs, (K w.params).lookup p.2 = none) ∧ (∀ p ∈ cs, PySem.W.CodeHd h p.1 p.2) ∧ (∀ (s : Shared) (u : Value), BindsTo s fd ⟨[u], []⟩ [(x, u)]) ∧
        ∀ base : Heap, (K w.params).In base → base.Ns mainGlobals mg → (∀ p ∈ cs, LamX.TabB base mg p.1 p.2) → FnG l.prog w (K w.params) mg base (C w) k fa fd [x] (spLaw cs (K w.params)))
    (hC : ∀ (w : World) (H : Hp) (s : Shared) (e : Value) (s' : Shared), C w [] H s (fun _ _ _ => False) e s' → False) :
    PySem.W.WalkO q loose XP YP l.row.toRowW d [] (fun f vs => PySem.call f vs) := by
  refine Att.attach_call hn hd fun w s0 t mg mb fa o pm cd doc a vs ns G Y ho h1 h2 h3 h4 h5 h6 h7 => ?_
  have inn := hY w _ Y
  obtain ⟨cs, fd, c1, c2, c3, c4, c5⟩ := F w mg fa _ Y inn G.T.g h3
  exact law_callGT inn G.T.g G.T.b G.T.builtins G.T.nolimit h7 c1 c2 c3 G.T.bmain h4 h5 (Nat.le_trans h6 hn2) room c5 c4 (fun H hO hT hS => ⟨a, ns, rfl, Nat.le_trans h6 hn3, hO, hT, hS, fun _ => rfl⟩) fun H e s' => hC w H t e s'
end Z

/-! ZS: a def that tells by a text what it caught. -/
namespace Z
open PySem PySem.Spec PyProof.Rows L2
variable [TabC]
section
variable {P : Program} {w : World} {K : PySem.W.Frag} {mg : Str → Option Value} {base : Heap}
/-- c is h's, or not -/
def ExmV (K : PySem.W.Frag) (mg : Str → Option Value) (c h : Str) (b : Bool) : Prop := ∃ C D, mg c = some (.ref C) ∧ mg h = some (.ref D) ∧ PySem.W.exmOne K (.ref C) (.ref D) = some b
def sayHds (scp : Scope) (y : Str) : List ExceptHandler → List (Str × Str) → Bool
  | [], l => l.isEmpty
  | h :: hs, l => match l with
    | q :: l => (match h with
      | .ExceptHandler (some (.Name x _)) none [.Assign [.Name z _] (.Constant (.str t) _ _) _] _ => decide (x = q.1) && decide (t = q.2) && decide (z = y) && decide (scp.names.lookup x = some .globalImplicit) && okNm x
      | _ => false) && sayHds scp y hs l
    | [] => false
/-- found = None; try: call() except ..: found = '..' ..; return found -/
def sayB (scp : Scope) (a y : Str) (l : List (Str × Str)) : List Stmt → Bool
  | [.Assign [.Name y1 _] (.Constant .none _ _) _, .Try [.Expr (.Call (.Name x _) [] [] _) _] (h :: hs) [] [] _, .Return (some (.Name y2 _)) _] => decide (y1 = y) && decide (x = a) && decide (y2 = y) && sayHds scp y (h :: hs) l
  | _ => false
def clsW (mg : Str → Option Value) (l : List (Str × Str)) (t : Str → Addr → Value → Option Addr → TS) : List (Value × (Addr → Value → Option Addr → TS)) := l.map fun q => (clsV mg q.1, t q.2)
omit [TabC] in
theorem sayHds_ok {X : Cx} {scp : Scope} {a y : Str} (hsc : X.env.scope = scp) (hN : X.N = [a, y]) (hM : X.mg = mg) (hnd : a ≠ y) (hy : scp.names.lookup y = some .local) : ∀ (hs : List ExceptHandler) (l : List (Str × Str)), sayHds scp y hs l = true → (∀ q ∈ l, ∃ C, mg q.1 = some (.ref C)) → HdsOk X hs (clsW mg l fun t _ _ _ => tAsg (tC (.str t)) (gName 1))
  | [], l, h, _ => by
    have : l = [] := by simpa [sayHds] using h
    subst this
    exact .nil
  | hd :: hs, [], h, _ => by cases h
  | hd :: hs, q :: l, h, hc => by
    unfold sayHds at h
    rw [Bool.and_eq_true] at h
    obtain ⟨h1, h2⟩ := h
    split at h1
    · rename_i x p1 z p2 t j p3 p4 p5
      simp only [Bool.and_eq_true] at h1
      obtain ⟨⟨⟨⟨k1, k2⟩, k3⟩, k4⟩, k5⟩ := h1
      have k1 := of_decide_eq_true k1
      have k2 := of_decide_eq_true k2
      have k3 := of_decide_eq_true k3
      have k4 := of_decide_eq_true k4
      obtain ⟨C, hC⟩ := hc q (List.mem_cons_self ..)
      refine .cons (c := clsV mg q.1) ⟨?_, (okNm_of k5).1, .inl ?_⟩ (fun b oe cls d pn hz hv => pss_one ?_) (sayHds_ok hsc hN hM hnd hy hs l h2 fun q hq => hc q (List.mem_cons_of_mem _ hq))
      · show X.env.scope.names.lookup x = _
        rw [hsc]; exact k4
      · rw [hM, k1, hC]
        unfold clsV
        rw [hC]
        rfl
      · rw [k3, ← k2]
        have nd : (X.suite b ((b, oe) :: pn)).N.Nodup := by show X.N.Nodup; rw [hN]; simp [hnd]
        have lo : (X.suite b ((b, oe) :: pn)).env.scope.names.lookup y = some .local := by show X.env.scope.names.lookup y = _; rw [hsc]; exact hy
        exact ps_set (i := 1) nd (by show X.N[1]? = _; rw [hN]; rfl) (.inl lo) pe_str rfl (.inr lo)
    · cases h1
omit [TabC] in
theorem say_wish {l0 : List (Str × Str)} {D : Ends} {c : Str} {t : Str} {σ : L2.St} {H : Hp} {Wout : WX} (hx : ∀ q ∈ l0, ExmV K mg c q.1 (decide (c = q.1))) (hl : (l0.map fun q => (q.1, Ans.s q.2)).lookup c = some (Ans.s t)) (hD : ∀ σ', σ' = σ.set 1 (some (.str t)) → D.nx σ' H) :
    wMany K Wout D (clsW mg l0 fun t _ _ _ => tAsg (tC (.str t)) (gName 1)) (clsV mg c) none σ H := by
  induction l0 with
  | nil => cases hl
  | cons q l ih =>
    obtain ⟨C, E, h1, h2, h3⟩ := hx q (List.mem_cons_self ..)
    have e1 : clsV mg c = .ref C := by unfold clsV; rw [h1]; rfl
    have e2 : clsV mg q.1 = .ref E := by unfold clsV; rw [h2]; rfl
    show ∃ b, PySem.W.exmOne K (clsV mg c) (clsV mg q.1) = some b ∧ _
    refine ⟨decide (c = q.1), by rw [e1, e2]; exact h3, fun hb a na => ?_, fun hb => ?_⟩
    · have hb := of_decide_eq_true hb
      rw [List.map_cons, List.lookup_cons] at hl
      rw [show (c == (q.1, Ans.s q.2).1) = true from by simp [hb]] at hl
      cases hl
      exact hD _ rfl
    · have hb := of_decide_eq_false hb
      refine ih (fun q hq => hx q (List.mem_cons_of_mem _ hq)) ?_
      rw [List.map_cons, List.lookup_cons] at hl
      rw [show (c == (q.1, Ans.s q.2).1) = false from by simp [hb]] at hl
      exact hl
theorem say_giv {x a y : Str} {scp : Scope} {g : Addr} {cdv : Value} {bg : List Stmt} {l : List (Str × Str)} (S : FnScope [a, y] [a] scp) (hnd : a ≠ y) (hy : scp.names.lookup y = some .local) (hva : Vis scp a) (hoa : okNm a = true) (hoy : okNm y = true) (hb : sayB scp a y l bg = true) (hl : l ≠ [])
    (hcl : ∀ q ∈ l, ∃ C, mg q.1 = some (.ref C)) (hx : ∀ q ∈ l, ∀ q' ∈ l, ExmV K mg q.1 q'.1 (decide (q.1 = q'.1))) : GivZ P w K mg base [a, y] x scp g cdv bg a (TTz mg (l.map fun q => (q.1, Ans.s q.2))) := by
  intro A st q f c' s H Q tl hgd room act hco h
  unfold sayB at hb
  split at hb
  · rename_i y1 p1 j1 p2 p3 x0 p4 p5 p6 h0 hs p7 y2 p8 p9
    simp only [Bool.and_eq_true] at hb
    obtain ⟨⟨⟨b1, b2⟩, b3⟩, b4⟩ := hb
    have b1 := of_decide_eq_true b1
    have b2 := of_decide_eq_true b2
    have b3 := of_decide_eq_true b3
    subst b1 b2 b3
    obtain ⟨n1, n2, n3⟩ := okNm_of hoy
    let X : Cx := (cxOf C8.CX0 P w K mg base [x0, y2] x scp g cdv A st s H C8.E0).nox
    have hloc : X.env.scope.names.lookup y2 = some .local := hy
    have st1 : PS X (.Assign [.Name y2 p1] (.Constant .none j1 p2) p3) (tAsg (tC .non) (gName 1)) := ps_set (i := 1) (by show ([x0, y2] : List Str).Nodup; simp [hnd]) rfl (.inl hloc) pe_non rfl (.inr hloc)
    have st3 : PS X (.Return (some (.Name y2 p8)) p9) (tRet fun σ H Q => ∃ v, σ[1]? = some (some v) ∧ Q v H) := ps_ret (pe_var (X := X) (i := 1) rfl (.inl hloc) n1 n2)
    have hds := sayHds_ok (mg := mg) (X := X) (scp := scp) rfl rfl rfl hnd hy (h0 :: hs) l b4 hcl
    have st2 := ps_try_many (X := X) (body := [.Expr (.Call (.Name x0 p4) [] [] p5) p6]) (h₀ := h0) (hds := hs) (l := clsW mg l fun t _ _ _ => tAsg (tC (.str t)) (gName 1)) (pos := p7) (Wout := fun _ _ _ _ => False) rfl rfl takes0
      (tb := fun W D σ H => ∃ E : XK, (∀ cls d σ' H', E cls d H' → σ'.length = 2 → W cls d σ' H') ∧ σ[0]? = some (some (.ref f)) ∧ H c' = some (LamX.CodeO c' q) ∧ tl E H fun _ H' => D.nx σ H') (fun W pn xe tk _ => ?_) hds
    · refine ⟨_, pss_cons st1 (pss_cons st2 (pss_one st3)), ?_⟩
      refine ⟨_, ?_, rfl, hco, h _ ?_⟩
      · rintro cls d σ' H' ⟨rfl, _, c, dd, rfl, hd, hq⟩ hl2
        have mem : ∀ l0 : List (Str × Str), (l0.map fun q => (q.1, Ans.s q.2)).lookup c = some dd → ∃ t, dd = .s t ∧ (c, t) ∈ l0 := by
          intro l0
          induction l0 with
          | nil => intro z; cases z
          | cons q l0 ih =>
            intro z
            rw [List.map_cons, List.lookup_cons] at z
            split at z
            · rename_i e
              cases z
              exact ⟨q.2, rfl, by rw [eq_of_beq e]; exact List.mem_cons_self ..⟩
            · obtain ⟨t, e1, e2⟩ := ih z
              exact ⟨t, e1, List.mem_cons_of_mem _ e2⟩
        obtain ⟨t, rfl, ht⟩ := mem l hd
        refine say_wish (fun q hq => hx _ ht q hq) hd ?_
        rintro σ2 rfl
        exact ⟨.str t, List.getElem?_set_self (by rw [hl2]; decide), hq H' (.refl _ _)⟩
      · intro v H' _ hq
        exact ⟨.non, rfl, hq H' (.refl _ _)⟩
    · refine ⟨fun pinsZ sZ σZ HZ DZ IZ hZ => ?_⟩
      obtain ⟨E, hW, z1, z2, z3⟩ := hZ
      have tk' : Takes (X.tr pn xe) (fun cls d σ' H' => σ'.length = 2 → W cls d σ' H') := fun u s' ⟨a, B, sI, pins, σ', H', cls, d, e, I, r⟩ => tk u s' ⟨a, B, sI, pins, σ', H', cls, d, e, I, r.1, r.2.1, r.2.2.1, r.2.2.2.1, r.2.2.2.2.1, r.2.2.2.2.2.1, r.2.2.2.2.2.2 I.len⟩
      have hp := act _ pn xe E p4 p5 tk' hW
      exact (pss_one (ps_expr (pos := p6) hp)).run pinsZ sZ σZ HZ DZ IZ ⟨z1, z2, z3⟩
  · cases hb
def sayR (r : Row) (a y : Str) (l : List (Str × Str)) : Bool := scopeB r.N r.ps (defScope r.st) && decide (r.N = [a, y]) && decide (r.ps = [a]) && decide (a ≠ y) && decide ((defScope r.st).names.lookup y = some .local) && decide ((defScope r.st).names.lookup a = some .local) && okNm a && okNm y && sayB (defScope r.st) a y l (defBody r.st) && !l.isEmpty
theorem said_row {h : Heap} {r : Row} {a y : Str} {l : List (Str × Str)} (KX : K.In h) (Gm : h.Ns mainGlobals mg) (at_ : DefAt K r) (bnd : BindB r) (hr : sayR r a y l = true) (hx : ∀ q ∈ l, ∀ q' ∈ l, ExmV K mg q.1 q'.1 (decide (q.1 = q'.1))) : SaidV P w K mg base r.f (l.map fun q => (q.1, Ans.s q.2)) := by
  unfold sayR at hr
  simp only [Bool.and_eq_true, decide_eq_true_eq] at hr
  obtain ⟨⟨⟨⟨⟨⟨⟨⟨⟨h1, h2⟩, h3⟩, h4⟩, h5⟩, h6⟩, h7⟩, h8⟩, h9⟩, h10⟩ := hr
  have S := scope_of h1
  obtain ⟨ga, fd, g1, F⟩ := at_
  obtain ⟨oc, od, kV, doc, pm, an, cdv, ct, osl, rfl, lk, hcd⟩ := F.ex
  rw [h2, h3] at S
  have b := F.binds bnd
  rw [h3] at b
  refine ⟨ga, oc, od, _, _, _, _, kV, doc, pm, cdv, ct, an, osl, [a, y], a, PySem.W.mg_of KX Gm g1, F.kp, lk, hcd, b, S, rfl, .inl h6, h7, ?_⟩
  refine say_giv S h4 h5 (.inl h6) h7 h8 h9 (fun e => by rw [e] at h10; simp at h10) (fun q hq => ?_) hx
  obtain ⟨C, _, e, _⟩ := hx q hq q hq
  exact ⟨C, e⟩
end
end Z

/-! ZM: facts of the module read off the written part by one truth each. -/
namespace Z
open PySem PySem.Spec PyProof.Rows L2
def veTl : List Value := [.type "ValueError", .type "Exception", .type "BaseException", .type "object"]
def excD (K : PySem.W.Frag) (D : Addr) : Bool :=
  (PySem.W.findIn K (.ref D) "__getattribute__" == some (some (.builtin "BaseException.__getattribute__"))) && (PySem.W.findIn K (.ref D) "__getattr__" == some none) && (PySem.W.subIn K (.ref D) (.type "BaseException") == some true) && PySem.W.hasDictIn K D &&
  (PySem.W.findIn K (.ref D) "__class__" == some (some (.builtin "object.__class__"))) && (PySem.W.specialIn K (.builtin "object.__class__") "__get__" == some (some (.builtin "getset_descriptor.__get__"))) && (PySem.W.takesIn K (.builtin "object.__class__") == some true) && (PySem.W.mroIn K D (.type "object") == some true)
def excB (K : PySem.W.Frag) (c : Str) : Bool :=
  match PySem.W.nsIn K mainGlobals c with
  | some (some (.ref C)) => PySem.W.keepIn K (.ref C) && PySem.W.excIn K C veTl "ValueError.__new__" && (PySem.W.subIn K (.ref C) (.type "BaseException") == some true) && (PySem.W.typeIn K (.ref C) == some (.type "type")) && excD K C
  | _ => false
def exmB (K : PySem.W.Frag) (c h : Str) (b : Bool) : Bool :=
  match PySem.W.nsIn K mainGlobals c, PySem.W.nsIn K mainGlobals h with
  | some (some (.ref C)), some (some (.ref D)) => PySem.W.exmOne K (.ref C) (.ref D) == some b
  | _, _ => false
def subD (K : PySem.W.Frag) (cv : Value) : List (Str × Bool) → Bool
  | [] => true
  | (x, b) :: r => (match PySem.W.nsIn K mainGlobals x with
    | some (some (.ref D)) => excD K D && (PySem.W.kitOne K (.ref D) cv == some b)
    | _ => false) && subD K cv r
def subB (K : PySem.W.Frag) (c : Str) (tab : List (Str × Bool)) : Bool :=
  match PySem.W.nsIn K mainGlobals c with
  | some (some (.ref C)) => (PySem.W.kitOne K (.type "NoneType") (.ref C) == some false) && subD K (.ref C) tab
  | some none => match bootBuiltins c with
    | some (.type t) => (PySem.W.kitOne K (.type "NoneType") (.type t) == some false) && subD K (.type t) tab
    | _ => false
  | _ => false
def lamB (K : PySem.W.Frag) (f : Str) (c Pt : Addr) : Bool := (PySem.W.tabIn K f == some (c, Pt)) && PySem.W.codeHdIn K c Pt && (K.lookup Pt).isNone
section
variable {K : PySem.W.Frag} {h : Heap} {mg : Str → Option Value}
theorem excD_of {D : Addr} (h : excD K D = true) : ExcC K D := by
  unfold excD at h
  simp only [Bool.and_eq_true, beq_iff_eq] at h
  obtain ⟨⟨⟨⟨⟨⟨⟨h1, h2⟩, h3⟩, h4⟩, h5⟩, h6⟩, h7⟩, h8⟩ := h
  exact ⟨h1, h2, h3, h4, h5, h6, h7, h8⟩
theorem excV_of (KX : K.In h) (Gm : h.Ns mainGlobals mg) {c : Str} (q : excB K c = true) : ExcV K mg c := by
  unfold excB at q
  split at q
  · rename_i C hC
    simp only [Bool.and_eq_true, beq_iff_eq] at q
    obtain ⟨⟨⟨⟨h1, h2⟩, h3⟩, h4⟩, h5⟩ := q
    exact ⟨C, _, _, _, _, PySem.W.mg_of KX Gm hC, h1, PySem.F.excBase_ValueError, h2, h3, h4, excD_of h5⟩
  · cases q
theorem exmV_of (KX : K.In h) (Gm : h.Ns mainGlobals mg) {c x : Str} {b : Bool} (q : exmB K c x b = true) : ExmV K mg c x b := by
  unfold exmB at q
  split at q
  · rename_i C D h1 h2
    exact ⟨C, D, PySem.W.mg_of KX Gm h1, PySem.W.mg_of KX Gm h2, by simpa using q⟩
  · cases q
theorem subD_of (KX : K.In h) (Gm : h.Ns mainGlobals mg) {cv : Value} : ∀ {tab : List (Str × Bool)}, subD K cv tab = true → ∀ x b, tab.lookup x = some b → ∃ D, mg x = some (.ref D) ∧ ExcC K D ∧ PySem.W.kitOne K (.ref D) cv = some b
  | [], _, x, b, z => by cases z
  | (y, c) :: r, q, x, b, z => by
    unfold subD at q
    rw [Bool.and_eq_true] at q
    obtain ⟨q1, q2⟩ := q
    rw [List.lookup_cons] at z
    split at z
    · rename_i e
      cases z
      have e := eq_of_beq e
      subst e
      split at q1
      · rename_i D hD
        simp only [Bool.and_eq_true, beq_iff_eq] at q1
        exact ⟨D, PySem.W.mg_of KX Gm hD, excD_of q1.1, q1.2⟩
      · cases q1
    · exact subD_of KX Gm q2 x b z
theorem subV_of (KX : K.In h) (Gm : h.Ns mainGlobals mg) {c : Str} {tab : List (Str × Bool)} (q : subB K c tab = true) : SubV K mg c tab := by
  unfold subB at q
  split at q
  · rename_i C hC
    simp only [Bool.and_eq_true, beq_iff_eq] at q
    exact ⟨_, _, .inl ⟨C, PySem.W.mg_of KX Gm hC, rfl, rfl⟩, q.1, subD_of KX Gm q.2⟩
  · rename_i hC
    split at q
    · rename_i t ht
      simp only [Bool.and_eq_true, beq_iff_eq] at q
      exact ⟨_, _, .inr ⟨t, PySem.W.mg_none_of KX Gm hC, ht, rfl, rfl⟩, q.1, subD_of KX Gm q.2⟩
    · cases q
  · cases q
theorem lamB_of (KX : K.In h) {f : Str} {c Pt : Addr} (q : lamB K f c Pt = true) : PySem.W.tabIn K f = some (c, Pt) ∧ PySem.W.CodeHd h c Pt ∧ K.lookup Pt = none := by
  unfold lamB at q
  simp only [Bool.and_eq_true, beq_iff_eq] at q
  exact ⟨q.1.1, PySem.W.codeHd_of_K KX q.1.2, by simpa using q.2⟩
def dctE : List DictEntry → List (Str × Str) → Bool
  | [], [] => true
  | e :: es, p :: tab => (match e.key with
    | .str x _ => x == p.1
    | _ => false) && (match e.val with
    | .str y _ => y == p.2
    | _ => false) && dctE es tab
  | _, _ => false
theorem dctE_of : ∀ {es : List DictEntry} {tab : List (Str × Str)}, dctE es tab = true → es.any (·.refKey) = false ∧ ∀ z, match tab.lookup z with
    | some y => ∃ e t, es.find? (·.key.isStr z) = some e ∧ e.val = .str y t
    | none => es.find? (·.key.isStr z) = none
  | [], [], _ => ⟨rfl, fun z => rfl⟩
  | e :: es, p :: tab, h => by
    unfold dctE at h
    simp only [Bool.and_eq_true] at h
    obtain ⟨⟨h1, h2⟩, h3⟩ := h
    obtain ⟨i1, i2⟩ := dctE_of h3
    obtain ⟨k, v⟩ := p
    split at h1
    case h_2 => cases h1
    rename_i x t hk
    split at h2
    case h_2 => cases h2
    rename_i y u hv
    have h1' : x = k := eq_of_beq h1
    have h2' : y = v := eq_of_beq h2
    subst h1'; subst h2'
    clear h1 h2
    refine ⟨?_, fun z => ?_⟩
    · rw [List.any_cons, i1, Bool.or_false]
      unfold DictEntry.refKey
      rw [hk]
    · have ek : e.key.isStr z = (x == z) := by rw [hk]; rfl
      rw [List.lookup_cons]
      by_cases q : (z == x) = true
      · have q' := eq_of_beq q
        subst q'
        simp only [q]
        exact ⟨e, u, by rw [List.find?_cons, ek, beq_self_eq_true], hv⟩
      · have q : (z == x) = false := by simpa using q
        have q2 : (x == z) = false := by
          rw [beq_eq_false_iff_ne] at q ⊢
          exact Ne.symm q
        simp only [q]
        have := i2 z
        rw [List.find?_cons, ek, q2]
        exact this
  | [], _ :: _, h => by cases h
  | _ :: _, [], h => by cases h
theorem dctV_of {w : World} (KX : K.In h) (Gm : h.Ns mainGlobals mg) {d : Str} {a : Addr} {es : Array DictEntry} {n : Nat} {tab : List (Str × Str)} (h1 : PySem.W.nsIn K mainGlobals d = some (some (.ref a))) (l : K.lookup a = some ⟨.type "dict", none, .dict es n, #[]⟩) (lit : PySem.W.KeysLit w.params es.toList) (low : (a == sysModules) = false)
    (q : dctE es.toList tab = true) : DctV w K mg d tab := by
  obtain ⟨q1, q2⟩ := dctE_of q
  refine ⟨a, es, n, PySem.W.mg_of KX Gm h1, ⟨l, lit, low⟩, fun z => ?_⟩
  have qz := q2 z
  cases hy : tab.lookup z with
  | some y =>
    rw [hy] at qz
    obtain ⟨e, t, e1, e2⟩ := qz
    refine ⟨t, ?_⟩
    unfold PySem.W.nsIn
    simp only [l, e1, e2]
  | none =>
    rw [hy] at qz
    show PySem.W.nsIn K a z = some none
    unfold PySem.W.nsIn
    simp only [l, qz, q1]
    rfl
end
end Z

/-! ZT: try: body / except C as e: y = e / what follows, which may still look at y. -/
namespace Z
open PySem PySem.Spec PyProof.Rows L2
section
variable {X : Cx} {x n y : Str} {c : Value} {i j : Nat} {body rest : List Stmt} {np p1 p2 p3 p4 pos : Pos} {tb : WX → TS} {t0 : TS} {t1 : Addr → Value → TS}
/-- what the clause wishes of an exception of the body -/
def wHold (K : PySem.W.Frag) (c : Value) (i j : Nat) (t1 : Addr → Value → TS) (D : Ends) : WX := fun cls d σ H =>
  PySem.W.exmOne K cls c = some true ∧ d = none ∧ ∀ a, H a = none → t1 a cls D (((σ.set i (some (.ref a))).set j (some (.ref a))).set i none) H
theorem pss_hold (hs : X.stack = X.env :: X.outer) (hf : X.env.frame = some X.env.locals) (nd : X.N.Nodup) (hi : X.N[i]? = some n) (hj : X.N[j]? = some y) (ln : X.env.scope.names.lookup n = some .local) (ly : X.env.scope.names.lookup y = some .local) (hc : Names X x c) (hdn : (n == ("__debug__" : Str)) = false) (hcn : (n == ("__classdict__" : Str)) = false)
    (hb : ∀ (W : WX) (pn : List (Addr × Obj)) (xe : Value → Shared → Prop), Takes (X.tr pn xe) W → PassesOwn (model X.prog X.w) X.A X.env xe → PSs (X.tr pn xe) body (tb W))
    (h0 : PSs X rest t0) (h1 : ∀ (a : Addr) (oe : Obj) (cls : Value), Zc cls none oe → (∃ vs, oe.data = .fields vs) → PSs (X.tr ((a, oe) :: X.pn) X.xe) rest (t1 a cls)) :
    PSs X (.Try body [.ExceptHandler (some (.Name x np)) (some n) [.Assign [.Name y p1] (.Name n p2) p3] p4] [] [] pos :: rest) (fun D σ H => tb (wHold X.K c i j t1 D) { D with nx := t0 D } σ H) := by
  constructor
  intro pins s σ H D I h
  have ok := I.ok
  have frm : X.A.frames = some (X.env :: X.outer) := by rw [ok.frames, hs]
  refine wpAny_execs_cons (wpAny_Try_except ?_)
  generalize hQ : (fun (f : Flow) (s' : Shared) => match f with
    | .next => wpAny (model X.prog X.w) X.A (execs rest X.env) (SP X pins D) X.xe s'
    | f => SP X pins D f s') = Q
  have step := (hb (wHold X.K c i j t1 D) (X.pn ++ pins) (fun e s1 => wpAny (model X.prog X.w) X.A (noteFrame e X.env) (fun _ s2 => wpAny (model X.prog X.w) X.A (setFlight e none) (fun _ s3 =>
    wpAny (model X.prog X.w) X.A (handleBy e X.env [.ExceptHandler (some (.Name x np)) (some n) [.Assign [.Name y p1] (.Name n p2) p3] p4]) Q X.xe s3) X.xe s2) X.xe s1) (fun u s' air => ?_) PassesOwn.looking).run [] s σ H { D with nx := t0 D } (I.toTry _) h
  · refine wpAny_mono step (fun f s1 q => ?_) fun e s1 z => z
    subst hQ
    match f, q with
    | .next, ⟨σ', H', J, q⟩ => exact wpAny_execs_nil (h0.run pins s1 σ' H' D (J.ofTry ok) q)
    | .brk, ⟨σ', H', J, q⟩ => exact ⟨σ', H', J.ofTry ok, q⟩
    | .cont, ⟨σ', H', J, q⟩ => exact ⟨σ', H', J.ofTry ok, q⟩
    | .ret u, ⟨v, σ', H', J, r, q⟩ => exact ⟨v, σ', H', J.ofTry ok, r, q⟩
  · obtain ⟨a, B, sI, pinsE, σE, HE, cls, d, rfl, JE, grd, up, sky, nE, os, bare, m1, dn, wish⟩ := air
    subst dn
    have J := JE.ofTry ok
    have sky2 : Sky B (X.env :: X.outer) a (Zc cls none) X.env.locals s'.heap := by rw [← hs]; exact sky
    show wpAny (model X.prog X.w) X.A (noteFrame (.ref a) X.env) _ _ _
    refine Sky.land Zc.steady frm hf sky2 fun hh fly up2 => ?_
    have land : ∀ {h' : Heap}, B.StaysIn h' → s'.heap.UpToSlots h' → L2.Inv X pins σE HE { s' with heap := h' } := fun st u => Inv.landed J grd st (up.trans u) os bare
    obtain ⟨oA, vA, gA, zA, dA⟩ := fly.there
    have noFrame : a ∉ frs (X.env :: X.outer) := fun hm => by
      obtain ⟨_, o', e', no⟩ := fly.2.2.1.mem hm
      rw [gA] at e'
      cases e'
      exact no _ dA
    have notL : a ≠ X.env.locals := fun z => noFrame (List.mem_filterMap.mpr ⟨X.env, List.mem_cons_self, by rw [hf, z]⟩)
    have notF : a ∉ X.fs := fun hm => by
      obtain ⟨e, he, q⟩ := List.mem_filterMap.mp hm
      exact noFrame (List.mem_filterMap.mpr ⟨e, List.mem_cons_of_mem _ he, q⟩)
    have S3 := (land fly.1 up2).suite gA dA nE notL notF
    refine wpAny_handleBy_cons (codeAny_handlers_test ?_) (by intro q; cases q)
    have ty : PySem.W.Looks (model X.prog X.w) hh (typeOf (.ref a)) cls := fun A Q E s k q => wpAny_typeOf_ref (k _ _ gA) (by rw [zA.1]; exact q)
    have matches_ := PySem.W.exm_one (M := model X.prog X.w) S3.kIn ty m1
    have nameIt : ∀ {Q : Value → Shared → Prop} {E : Value → Shared → Prop}, Q c { s' with heap := hh } → wpAny (model X.prog X.w) (X.A.mark (some (.ref a))) (eval (.Name x np) X.env) Q E { s' with heap := hh } := fun {Q E} q => by
      obtain ⟨g1, g2, g3 | ⟨g3, g4, g5⟩⟩ := hc
      · exact ld_glob (X := X.suite a ((a, oA) :: (X.pn ++ pins))) S3 g1 g3 q g2
      · exact ld_blt (X := X.suite a ((a, oA) :: (X.pn ++ pins))) S3 g1 g3 g4 q g5 g2
    refine nameIt (matches_.here ?_)
    refine codeAny_handlers_suite_as ?_
    refine HandSPX.lands_againZ fly fun h4 fly4 up4 => ?_
    obtain ⟨oB, vB, gB, zB, dB⟩ := fly4.there
    have S4 := (land fly4.1 (up2.trans up4)).suite gB dB nE notL notF
    refine store_ok (X := X.suite a ((a, oB) :: (X.pn ++ pins))) (v := .ref a) S4 nd hi (.inl ln) rfl (fun s5 S5 => ?_) (.inr ln)
    have lenE : σE.length = X.N.length := J.len
    have hiL : i < σE.length := by rw [lenE]; exact (List.getElem?_eq_some_iff.mp hi).1
    have rd : PE (X.suite a ((a, oB) :: (X.pn ++ pins))) (.Name n p2) (fun σ H Q => ∃ v, σ[i]? = some (some v) ∧ Q v H) := pe_var hi (.inl ln) hdn hcn
    have asg := ps_set (X := X.suite a ((a, oB) :: (X.pn ++ pins))) (i := j) (pos := p3) (pos' := p1) nd hj (.inl ly) rd rfl (.inr ly)
    have run := (pss_one asg).run [] s5 _ HE { nx := fun σ' H' => σ' = (σE.set i (some (.ref a))).set j (some (.ref a)) ∧ H' = HE, rt := fun _ _ => False } S5 ⟨.ref a, List.getElem?_set_self hiL, rfl, rfl⟩
    refine wpAny_mono run (fun f s6 q => ?_) (fun _ _ z => False.elim z)
    cases f with
    | brk => exact (show False from q.elim fun _ z => z.elim fun _ z => z.2).elim
    | cont => exact (show False from q.elim fun _ z => z.elim fun _ z => z.2).elim
    | ret u => exact (show False from q.elim fun _ z => z.elim fun _ z => z.elim fun _ z => z.2.2).elim
    | next =>
      obtain ⟨σ6, H6, S6, q1, q2⟩ := q
      subst q1 q2
      have unp : L2.Inv (X.tr ((a, oB) :: X.pn) X.xe) pins ((σE.set i (some (.ref a))).set j (some (.ref a))) H6 s6 :=
        ⟨ok.toTry _ _, S6.os, S6.bare, S6.base, S6.loc, S6.cell, S6.free, S6.freeC, fun p hp => S6.pin p (by
          have e : ((a, oB) :: X.pn) ++ pins = ((a, oB) :: (X.pn ++ pins)) ++ [] := by simp
          rw [← e]; exact hp), S6.hok, S6.len⟩
      have fin : wpAny (model X.prog X.w) X.A (do bindName X.env n .none; unbindBehindTheSuite X.env n p4) (fun _ s7 => Q .next s7) X.xe s6 := by
        refine gone_ok (X := X.tr ((a, oB) :: X.pn) X.xe) unp nd hi ln fun s7 J7 => ?_
        subst hQ
        have r := (h1 a oB cls zB ⟨_, dB⟩).run pins s7 _ H6 D J7 (wish a nE)
        refine wpAny_mono r (fun f s8 z => ?_) fun e s8 z => z
        have drop : ∀ {σ8 : L2.St} {H8 : Hp}, L2.Inv (X.tr ((a, oB) :: X.pn) X.xe) pins σ8 H8 s8 → L2.Inv X pins σ8 H8 s8 := fun S =>
          ⟨ok, S.os, S.bare, S.base, S.loc, S.cell, S.free, S.freeC, fun p hp => S.pin p (by
            have e : ((a, oB) :: X.pn) ++ pins = (a, oB) :: (X.pn ++ pins) := by simp
            show p ∈ ((a, oB) :: X.pn) ++ pins
            rw [e]; exact List.mem_cons_of_mem _ hp), S.hok, S.len⟩
        match f, z with
        | .next, ⟨σ8, H8, S8, q8⟩ => exact ⟨σ8, H8, drop S8, q8⟩
        | .brk, ⟨σ8, H8, S8, q8⟩ => exact ⟨σ8, H8, drop S8, q8⟩
        | .cont, ⟨σ8, H8, S8, q8⟩ => exact ⟨σ8, H8, drop S8, q8⟩
        | .ret u, ⟨v, σ8, H8, S8, r8, q8⟩ => exact ⟨v, σ8, H8, drop S8, r8, q8⟩
      exact fin
end
end Z

/-! Z15: reasoning about runs: what must hold for an end to be wanted. -/
namespace Z
open PySem
def Ok {α : Type} (x : R α) (Q : α → Mem → Prop) : Prop :=
  match x with
  | .ok a m => Q a m
  | _ => False
structure Ks where
  nx : Env → Mem → Prop
  ret : D → Mem → Prop
  bk : Env → Mem → Prop
  ct : Env → Mem → Prop
def SOk (x : RS) (K : Ks) : Prop :=
  match x with
  | .nx δ m => K.nx δ m
  | .ret d m => K.ret d m
  | .brk δ m => K.bk δ m
  | .cont δ m => K.ct δ m
  | _ => False
section
variable {α β : Type} {run : Str → List D → Mem → R D} {δ : Env} {m : Mem}
theorem Ok.cg {x y : R α} {Q : α → Mem → Prop} (h : x = y) : Ok x Q = Ok y Q := by rw [h]
theorem SOk.cg {x y : RS} {K : Ks} (h : x = y) : SOk x K = SOk y K := by rw [h]
theorem Ok.mono {x : R α} {Q Q' : α → Mem → Prop} (h : Ok x Q) (k : ∀ a m, Q a m → Q' a m) : Ok x Q' := by
  cases x with
  | ok a m => exact k a m h
  | _ => exact h
theorem Ok.out {x : R α} {Q : α → Mem → Prop} (h : Ok x Q) : ∃ a m, x = .ok a m ∧ Q a m := by
  cases x with
  | ok a m => exact ⟨a, m, rfl, h⟩
  | _ => exact h.elim
theorem Ok.bind (x : R α) (f : α → Mem → R β) (Q : β → Mem → Prop) : Ok (x.bind f) Q = Ok x fun a m => Ok (f a m) Q := by cases x <;> rfl
theorem Ok.ok (a : α) (Q : α → Mem → Prop) : Ok (.ok a m) Q = Q a m := rfl
theorem SOk.stmt (x : R α) (f : α → Mem → RS) (K : Ks) : SOk (x.stmt δ f) K = Ok x fun a m => SOk (f a m) K := by cases x <;> rfl
theorem SOk.seq (x : RS) (f : Env → Mem → RS) (K : Ks) : SOk (x.seq f) K = SOk x { K with nx := fun δ m => SOk (f δ m) K } := by cases x <;> rfl
theorem SOk.mono {x : RS} {K K' : Ks} (h : SOk x K) (h1 : ∀ δ m, K.nx δ m → K'.nx δ m) (h2 : ∀ d m, K.ret d m → K'.ret d m) (h3 : ∀ δ m, K.bk δ m → K'.bk δ m) (h4 : ∀ δ m, K.ct δ m → K'.ct δ m) : SOk x K' := by
  cases x with
  | nx δ m => exact h1 _ _ h
  | ret d m => exact h2 _ _ h
  | brk δ m => exact h3 _ _ h
  | cont δ m => exact h4 _ _ h
  | _ => exact h

/-! ### ends that wait: what follows is not looked into -/
structure Tag {α : Sort _} (x : α) : Type where
def Stk {α : Type} (x : R α) (Q : α → Mem → Prop) (_ : Tag Q) : Prop := Ok x Q
def SStk (x : RS) (K : Ks) (_ : Tag K) : Prop := SOk x K
def Br (c : Bool) (P Q : Prop) (_ : Tag P) (_ : Tag Q) : Prop := if c = true then P else Q
theorem stk_call (r : Bool) (f : Str) (xs : List D) (Q : D → Mem → Prop) : Ok (callF run r f xs m) Q = Stk (callF run r f xs m) Q ⟨⟩ := rfl
theorem stk_comp (c : Env → Mem → R Bool) (e : Env → Mem → R D) (tg : Tg) (g : Gd) (k : Nat) (xs : List PyData) (Q : Unit → Mem → Prop) : Ok (compL c e tg δ g k xs m) Q = Stk (compL c e tg δ g k xs m) Q ⟨⟩ := rfl
theorem stk_rows (e : Env → Mem → R D) (tg : Tg) (g : Gd) (k : Nat) (xs : List PyData) (ks : List Nat) (Q : List Nat → Mem → Prop) : Ok (rowsL e tg δ g k xs ks m) Q = Stk (rowsL e tg δ g k xs ks m) Q ⟨⟩ := rfl
theorem stk_rc (e : Env → Mem → R D) (i n : Nat) (al : List Nat) (k : Nat) (js : List Nat) (Q : Unit → Mem → Prop) : Ok (rcL e i δ n al k js m) Q = Stk (rcL e i δ n al k js m) Q ⟨⟩ := rfl
theorem stk_for (b : Env → Mem → RS) (tg : Tg) (g : Gd) (xs : List PyData) (K : Ks) : SOk (forL b tg g xs δ m) K = SStk (forL b tg g xs δ m) K ⟨⟩ := rfl
theorem stk_whl (c : Env → Mem → R Bool) (b : Env → Mem → RS) (k : Nat) (K : Ks) : SOk (whlL c b k δ m) K = SStk (whlL c b k δ m) K ⟨⟩ := rfl
theorem Br.t (P Q : Prop) (h : Tag P) (k : Tag Q) : Br true P Q h k = P := by simp [Br]
theorem Br.f (P Q : Prop) (h : Tag P) (k : Tag Q) : Br false P Q h k = Q := by simp [Br]
theorem Br.d {c P Q : Prop} [Decidable c] {h : Tag P} {k : Tag Q} (q : if c then P else Q) : Br (decide c) P Q h k := by
  unfold Br; by_cases hc : c
  · rw [if_pos (decide_eq_true hc)]; rw [if_pos hc] at q; exact q
  · rw [if_neg (by rw [decide_eq_false hc]; exact Bool.false_ne_true)]; rw [if_neg hc] at q; exact q
theorem Br.nd {c P Q : Prop} [Decidable c] {h : Tag P} {k : Tag Q} (q : if ¬ c then P else Q) : Br (!decide c) P Q h k := by
  unfold Br; by_cases hc : c
  · rw [decide_eq_true hc, if_neg (by decide)]; rw [if_neg (fun z => z hc)] at q; exact q
  · rw [decide_eq_false hc, if_pos (by decide)]; rw [if_pos hc] at q; exact q
theorem Br.nb {c : Bool} {P Q : Prop} {h : Tag P} {k : Tag Q} (q : if c = false then P else Q) : Br (!c) P Q h k := by
  cases c <;> simpa [Br] using q
theorem Br.b {c : Bool} {P Q : Prop} {h : Tag P} {k : Tag Q} (q : if c = true then P else Q) : Br c P Q h k := q
/-! ### primitive ends -/
def Bl (x : D) (P Q : Prop) : Prop :=
  match x with
  | .b (.bool c) => if c = true then P else Q
  | _ => False
theorem Bl.b (c : Bool) (P Q : Prop) : Bl (.b (.bool c)) P Q = Br c P Q ⟨⟩ ⟨⟩ := rfl
def In (x : D) (P : Int → Prop) : Prop :=
  match x with
  | .b (.int i) => P i
  | _ => False
theorem In.i (i : Int) (P : Int → Prop) : In (.b (.int i)) P = P i := rfl
def Snap (m : Mem) (x : D) (P : PyData → Prop) : Prop :=
  match snap m x with
  | some a => P a
  | none => False
theorem Snap.b (a : PyData) (P : PyData → Prop) : Snap m (.b a) P = P a := rfl
theorem Snap.ref {n : Nat} {xs : List PyData} (h : m[n]? = some (.lst xs)) (P : PyData → Prop) : Snap m (.ref n) P = P (.list xs) := by
  unfold Snap Z.snap; simp only [h]
def Rf (x : D) (P : Nat → Prop) : Prop :=
  match x with
  | .ref n => P n
  | _ => False
theorem Rf.r (n : Nat) (P : Nat → Prop) : Rf (.ref n) P = P n := rfl
def Sm {α : Type} (x : Option α) (P : α → Prop) : Prop :=
  match x with
  | some a => P a
  | none => False
theorem Sm.s (a : α) (P : α → Prop) : Sm (some a) P = P a := rfl
theorem Sm.map (x : Option α) (f : α → β) (P : β → Prop) : Sm (x.map f) P = Sm x fun a => P (f a) := by cases x <;> rfl
theorem Sm.ite (c : Prop) [Decidable c] (a : α) (P : α → Prop) : Sm (if c then some a else none) P = (c ∧ P a) := by
  by_cases h : c <;> simp [Sm, h]
theorem p2_w (f : PyData → PyData → Option PyData) (x y : D) (Q : D → Mem → Prop) : Ok (p2 f x y m) Q = Snap m x fun a => Snap m y fun c => Sm (f a c) fun z => Q (.b z) m := by
  unfold p2 Snap
  cases snap m x with
  | none => rfl
  | some a =>
    cases snap m y with
    | none => rfl
    | some c => simp only; cases f a c <;> rfl
theorem p1_w (f : PyData → Option PyData) (x : D) (Q : D → Mem → Prop) : Ok (p1 f x m) Q = Snap m x fun a => Sm (f a) fun z => Q (.b z) m := by
  unfold p1 Snap
  cases snap m x with
  | none => rfl
  | some a => simp only; cases f a <;> rfl
theorem truthD_w (x : D) (Q : Bool → Mem → Prop) : Ok (truthD x m) Q = Snap m x fun a => Sm (truth a) fun z => Q z m := by
  unfold truthD Snap
  cases snap m x with
  | none => rfl
  | some a => simp only; cases truth a <;> rfl
theorem mk_f (d : PyData) (Q : D → Mem → Prop) : Ok (mk false d m) Q = Q (.b d) m := rfl
theorem mk_t (d : List PyData) (Q : D → Mem → Prop) : Ok (mk true (.list d) m) Q = Q (.ref m.length) (m ++ [.lst d]) := rfl

theorem Sm.cg {α : Type} {x y : Option α} {P : α → Prop} (h : x = y) : Sm x P = Sm y P := by rw [h]
theorem Snap.cg {m m' : Mem} {x y : D} {P : PyData → Prop} (h0 : m = m') (h : x = y) : Snap m x P = Snap m' y P := by rw [h, h0]
theorem In.cg {x y : D} {P : Int → Prop} (h : x = y) : In x P = In y P := by rw [h]
theorem Rf.cg {x y : D} {P : Nat → Prop} (h : x = y) : Rf x P = Rf y P := by rw [h]
theorem Bl.cg {x y : D} {P Q : Prop} (h : x = y) : Bl x P Q = Bl y P Q := by rw [h]
theorem if_cg {c c' : Prop} {P Q : Prop} [Decidable c] [Decidable c'] (h : c = c') : (if c then P else Q) = (if c' then P else Q) := by subst h; congr
theorem Snap.set {n : Nat} {xs : List PyData} (hn : n < m.length) (P : PyData → Prop) : Snap (m.set n (.lst xs)) (.ref n) P = P (.list xs) := Snap.ref (List.getElem?_set_self hn) P
/-! ### expressions -/
theorem w_var (i : Nat) (Q : D → Mem → Prop) : Ok (ev run (.var i) δ m) Q = Sm δ[i]? fun o => Sm o fun d => Q d m := by
  rw [ev]
  cases δ[i]? with
  | none => rfl
  | some o => cases o <;> rfl
theorem w_int (i : Int) (Q : D → Mem → Prop) : Ok (ev run (.int i) δ m) Q = Q (.b (.int i)) m := by rw [ev]; rfl
theorem w_bool (i : Bool) (Q : D → Mem → Prop) : Ok (ev run (.bool i) δ m) Q = Q (.b (.bool i)) m := by rw [ev]; rfl
theorem w_none (Q : D → Mem → Prop) : Ok (ev run .none δ m) Q = Q (.b .none) m := by rw [ev]; rfl
theorem w_str (i : Str) (Q : D → Mem → Prop) : Ok (ev run (.str i) δ m) Q = Q (.b (.str i)) m := by rw [ev]; rfl
theorem w_glob (x : Str) (d : PyData) (Q : D → Mem → Prop) : Ok (ev run (.glob x d) δ m) Q = Q (.b d) m := by rw [ev]; rfl
theorem w_bin (op : Operator) (a b : E) (Q : D → Mem → Prop) : Ok (ev run (.bin op a b) δ m) Q = Ok (ev run a δ m) fun x m => Ok (ev run b δ m) fun y m => Snap m x fun a => Snap m y fun c => Sm (binP op a c) fun z => Q (.b z) m := by
  rw [ev, Ok.bind]
  simp only [Ok.bind, p2_w]
theorem w_neg (a : E) (Q : D → Mem → Prop) : Ok (ev run (.neg a) δ m) Q = Ok (ev run a δ m) fun x m => In x fun i => Q (.b (.int (-i))) m := by
  rw [ev, Ok.bind]
  congr 1; funext x m
  unfold In
  cases x with
  | b x => cases x <;> rfl
  | _ => rfl
theorem w_not (a : E) (Q : D → Mem → Prop) : Ok (ev run (.not a) δ m) Q = Ok (ev run a δ m) fun x m => Snap m x fun a => Sm (truth a) fun z => Q (.b (.bool (!z))) m := by
  rw [ev, Ok.bind, Ok.bind]
  simp only [truthD_w]; rfl
theorem w_cmp (op : CmpOp) (a b : E) (Q : D → Mem → Prop) : Ok (ev run (.cmp op a b) δ m) Q = Ok (ev run a δ m) fun x m => Ok (ev run b δ m) fun y m => Snap m x fun a => Snap m y fun c => Sm (cmpP op a c) fun z => Q (.b (.bool z)) m := by
  rw [ev, Ok.bind]
  simp only [Ok.bind, p2_w, Sm.map]
theorem w_chain (op op' : CmpOp) (a b c : E) (Q : D → Mem → Prop) : Ok (ev run (.chain op op' a b c) δ m) Q = Ok (ev run a δ m) fun x m => Ok (ev run b δ m) fun y m => Snap m x fun a => Snap m y fun b => Sm (cmpP op a b) fun z => Br z (Ok (ev run c δ m) fun w m => Snap m y fun b => Snap m w fun c => Sm (cmpP op' b c) fun z => Q (.b (.bool z)) m) (Q (.b (.bool false)) m) ⟨⟩ ⟨⟩ := by
  rw [ev, Ok.bind]
  simp only [Ok.bind, p2_w, Sm.map]
  congr 1; funext x m; congr 1; funext y m
  congr 1; funext a; congr 1; funext b; congr 1; funext z
  cases z with
  | true => simp only [Ok.bind, p2_w, Sm.map, Br.t]
  | false => rw [Br.f]; rfl
theorem w_and (a b : E) (Q : D → Mem → Prop) : Ok (ev run (.and a b) δ m) Q = Ok (ev run a δ m) fun x m => Bl x (Ok (ev run b δ m) Q) (Q (.b (.bool false)) m) := by
  rw [ev, Ok.bind]
  congr 1; funext x m
  unfold Bl
  cases x with
  | b x =>
    cases x with
    | bool c => cases c <;> rfl
    | _ => rfl
  | _ => rfl
theorem w_or (a b : E) (Q : D → Mem → Prop) : Ok (ev run (.or a b) δ m) Q = Ok (ev run a δ m) fun x m => Bl x (Q (.b (.bool true)) m) (Ok (ev run b δ m) Q) := by
  rw [ev, Ok.bind]
  congr 1; funext x m
  unfold Bl
  cases x with
  | b x =>
    cases x with
    | bool c => cases c <;> rfl
    | _ => rfl
  | _ => rfl
theorem w_ife (c a b : E) (Q : D → Mem → Prop) : Ok (ev run (.ife c a b) δ m) Q = Ok (ev run c δ m) fun x m => Snap m x fun x => Sm (truth x) fun t => Br t (Ok (ev run a δ m) Q) (Ok (ev run b δ m) Q) ⟨⟩ ⟨⟩ := by
  rw [ev, Ok.bind, Ok.bind]
  congr 1; funext x m
  rw [truthD_w]
  congr 1; funext x; congr 1; funext t
  cases t <;> simp only [Br.t, Br.f] <;> rfl
theorem w_tup (es : Es) (Q : D → Mem → Prop) : Ok (ev run (.tup es) δ m) Q = Ok (evs run es δ m) fun xs m => Sm (owns xs) fun ys => ys.length ≤ lim ∧ Q (.b (.tuple ys)) m := by
  rw [ev, Ok.bind]
  congr 1; funext xs m
  cases owns xs with
  | none => rfl
  | some ys =>
    show Ok (if ys.length ≤ lim then R.ok (.b (.tuple ys)) m else .bad) Q = _
    by_cases h : ys.length ≤ lim <;> simp [h, Ok, Sm]
theorem w_lst (r : Bool) (es : Es) (Q : D → Mem → Prop) : Ok (ev run (.lst r es) δ m) Q = Ok (evs run es δ m) fun xs m => Sm (owns xs) fun ys => ys.length ≤ lim ∧ Ok (mk r (.list ys) m) Q := by
  rw [ev, Ok.bind]
  congr 1; funext xs m
  cases owns xs with
  | none => rfl
  | some ys =>
    show Ok (if ys.length ≤ lim then mk r (.list ys) m else .bad) Q = _
    by_cases h : ys.length ≤ lim <;> simp [h, Ok, Sm]
theorem w_ix (a i : E) (Q : D → Mem → Prop) : Ok (ev run (.ix a i) δ m) Q = Ok (ev run a δ m) fun x m => Ok (ev run i δ m) fun y m => Ok (ixF x y m) Q := by
  rw [ev, Ok.bind]
  simp only [Ok.bind]
theorem w_ixR (a i : E) (Q : D → Mem → Prop) : Ok (ev run (.ixR a i) δ m) Q = Ok (ev run a δ m) fun x m => Ok (ev run i δ m) fun y m => Ok (ixRF x y m) Q := by
  rw [ev, Ok.bind]
  simp only [Ok.bind]
theorem w_rowc (tg : Tg) (it : It) (e : E) (Q : D → Mem → Prop) : Ok (ev run (.rowc tg it e) δ m) Q = Ok (evI run it δ m) fun a m => Ok (rowsL (fun δ m => ev run e δ m) tg δ a.g m.length a.xs [] (m ++ [.lst []])) fun ks m' => Ok (rowsE m.length ks m') Q := by
  rw [ev, Ok.bind]
  simp only [Ok.bind]
theorem w_rcomp (i : Nat) (x e : E) (Q : D → Mem → Prop) : Ok (ev run (.rcomp i x e) δ m) Q = Ok (ev run x δ m) fun d m => Sm (rowsOf d m) fun p => Ok (rcL (fun δ m => ev run e δ m) i δ p.1 p.2 m.length p.2 (m ++ [.lst []])) fun _ m' => Ok (leave false m.length (.ref m.length) m') Q := by
  rw [ev, Ok.bind]
  congr 1; funext d m
  cases rowsOf d m with
  | none => rfl
  | some p => simp only [Sm, Ok.bind]
theorem ixF_b (x : PyData) (y : D) (Q : D → Mem → Prop) : Ok (ixF (.b x) y m) Q = Snap m y fun c => Sm (ixP x c) fun z => Q (.b z) m := by
  show Ok (p2 ixP (.b x) y m) Q = _
  rw [p2_w]; rfl
theorem ixF_r (x : Nat) (y : D) (Q : D → Mem → Prop) : Ok (ixF (.ref x) y m) Q = Snap m (.ref x) fun a => Snap m y fun c => Sm (ixP a c) fun z => Q (.b z) m := by
  show Ok (p2 ixP (.ref x) y m) Q = _
  rw [p2_w]
theorem ixF_s (ns : List Int) (i : Int) (Q : D → Mem → Prop) : Ok (ixF (.scr ns) (.b (.int i)) m) Q = Sm (atP ns i) fun k => Q (.b (.int k)) m := by
  show Ok (match atP ns i with
    | some k => R.ok (.b (.int k)) m
    | none => .bad) Q = _
  cases atP ns i <;> rfl
theorem w_sl0 (a : E) (Q : D → Mem → Prop) : Ok (ev run (.sl0 a) δ m) Q = Ok (ev run a δ m) fun x m => Snap m x fun a => Sm (slP a none none) fun z => Q (.b z) m := by
  rw [ev, Ok.bind]; simp only [p1_w]
theorem w_slL (a lo : E) (Q : D → Mem → Prop) : Ok (ev run (.slL a lo) δ m) Q = Ok (ev run a δ m) fun x m => Ok (ev run lo δ m) fun y m => In y fun i => Snap m x fun a => Sm (slP a (some i) none) fun z => Q (.b z) m := by
  rw [ev, Ok.bind]; simp only [Ok.bind]
  congr 1; funext x m; congr 1; funext y m
  unfold In
  cases y with
  | b y =>
    cases y with
    | int i => simp only [p1_w]
    | _ => rfl
  | _ => rfl
theorem w_slH (a hi : E) (Q : D → Mem → Prop) : Ok (ev run (.slH a hi) δ m) Q = Ok (ev run a δ m) fun x m => Ok (ev run hi δ m) fun y m => In y fun i => Snap m x fun a => Sm (slP a none (some i)) fun z => Q (.b z) m := by
  rw [ev, Ok.bind]; simp only [Ok.bind]
  congr 1; funext x m; congr 1; funext y m
  unfold In
  cases y with
  | b y =>
    cases y with
    | int i => simp only [p1_w]
    | _ => rfl
  | _ => rfl
theorem w_slB (a lo hi : E) (Q : D → Mem → Prop) : Ok (ev run (.slB a lo hi) δ m) Q = Ok (ev run a δ m) fun x m => Ok (ev run lo δ m) fun y m => In y fun i => Ok (ev run hi δ m) fun z m => In z fun j => Snap m x fun a => Sm (slP a (some i) (some j)) fun z => Q (.b z) m := by
  rw [ev, Ok.bind]; simp only [Ok.bind]
  congr 1; funext x m; congr 1; funext y m
  unfold In
  cases y with
  | b y =>
    cases y with
    | int i =>
      simp only [Ok.bind]
      congr 1; funext z m
      cases z with
      | b z =>
        cases z with
        | int j => simp only [p1_w]
        | _ => rfl
      | _ => rfl
    | _ => rfl
  | _ => rfl
theorem w_bi (f : Bi) (r : Bool) (es : Es) (Q : D → Mem → Prop) : Ok (ev run (.bi f r es) δ m) Q = Ok (evs run es δ m) fun xs m => Ok (biF f r xs m) Q := by rw [ev, Ok.bind]
def Snaps (m : Mem) : List D → (List PyData → Prop) → Prop
  | [], P => P []
  | x :: xs, P => Snap m x fun a => Snaps m xs fun as => P (a :: as)
theorem snaps_w : ∀ (xs : List D) (P : List PyData → Prop), Sm (snaps m xs) P = Snaps m xs P
  | [], P => rfl
  | x :: xs, P => by
    unfold Z.snaps Snaps Snap
    cases snap m x with
    | none => rfl
    | some a => simp only; rw [Sm.map, snaps_w xs]
theorem biF_len (ns : List Int) (r : Bool) (Q : D → Mem → Prop) : Ok (biF .len r [.scr ns] m) Q = Q (.b (.int ns.length)) m := rfl
theorem biF_w0 (f : Bi) (r : Bool) (xs : List D) (Q : D → Mem → Prop) (h : f ≠ .len ∨ ∀ ns, xs ≠ [.scr ns]) : Ok (biF f r xs m) Q = Snaps m xs fun ys => Sm (biP f ys) fun d => Ok (mk r d m) Q := by
  have : biF f r xs m = match snaps m xs with
    | some ys => match biP f ys with
      | some d => mk r d m
      | none => .bad
    | none => .bad := by
    unfold biF
    split
    · rename_i ns
      rcases h with h | h
      · exact absurd rfl h
      · exact absurd rfl (h ns)
    · rfl
  rw [this, ← snaps_w]
  cases snaps m xs with
  | none => rfl
  | some ys => simp only [Sm]; cases biP f ys <;> rfl
theorem biF_b (f : Bi) (r : Bool) (x : PyData) (xs : List D) (Q : D → Mem → Prop) : Ok (biF f r (.b x :: xs) m) Q = Snaps m (.b x :: xs) fun ys => Sm (biP f ys) fun d => Ok (mk r d m) Q := biF_w0 f r _ Q (.inr fun ns e => by cases e)
theorem biF_r (f : Bi) (r : Bool) (x : Nat) (xs : List D) (Q : D → Mem → Prop) : Ok (biF f r (.ref x :: xs) m) Q = Snaps m (.ref x :: xs) fun ys => Sm (biP f ys) fun d => Ok (mk r d m) Q := biF_w0 f r _ Q (.inr fun ns e => by cases e)
theorem opF_w (o : Op) (r : Bool) (xs : List D) (Q : D → Mem → Prop) : Ok (opF o r xs m) Q = Snaps m xs fun ys => Sm (opP o ys) fun d => Ok (mk r d m) Q := by
  rw [← snaps_w]
  unfold opF
  cases snaps m xs with
  | none => rfl
  | some ys => simp only [Sm]; cases opP o ys <;> rfl
theorem w_op (o : Op) (r : Bool) (es : Es) (Q : D → Mem → Prop) : Ok (ev run (.op o r es) δ m) Q = Ok (evs run es δ m) fun xs m => Ok (opF o r xs m) Q := by rw [ev, Ok.bind]
theorem w_dic (kvs : List (Int × Int)) (Q : D → Mem → Prop) : Ok (ev run (.dic kvs) δ m) Q = Q (.b (.dict (kvs.map fun p => (.int p.1, .int p.2)))) m := by rw [ev]; rfl
theorem w_idx (a x : E) (Q : D → Mem → Prop) : Ok (ev run (.idx a x) δ m) Q = Ok (ev run a δ m) fun d m => (isL d = true ∧ Ok (ev run x δ m) fun y m => Ok (opF .idx false [d, y] m) Q) := by
  rw [ev, Ok.bind]
  congr 1; funext d m
  by_cases h : isL d = true
  · rw [if_pos h, Ok.bind]; simp [h]
  · rw [if_neg h]; simp [h, Ok]
theorem w_sm (o : Op) (r : Bool) (a x : E) (Q : D → Mem → Prop) : Ok (ev run (.sm o r a x) δ m) Q = Ok (ev run a δ m) fun d m => (isS d = true ∧ Ok (ev run x δ m) fun y m => Ok (opF o r [d, y] m) Q) := by
  rw [ev, Ok.bind]
  congr 1; funext d m
  by_cases h : isS d = true
  · rw [if_pos h, Ok.bind]; simp [h]
  · rw [if_neg h]; simp [h, Ok]
theorem isS_s (x : Str) : isS (.b (.str x)) = true := rfl
theorem isL_b (xs : List PyData) : isL (.b (.list xs)) = true := rfl
theorem isL_r (i : Nat) : isL (.ref i) = true := rfl
theorem w_isi (a : E) (t : String) (Q : D → Mem → Prop) : Ok (ev run (.isi a t) δ m) Q = Ok (ev run a δ m) fun x m => Snap m x fun a => Sm (isiP a t) fun z => Q (.b (.bool z)) m := by
  rw [ev, Ok.bind]; simp only [p1_w, Sm.map]
theorem w_me (f : Me) (o : E) (es : Es) (Q : D → Mem → Prop) : Ok (ev run (.me f o es) δ m) Q = Ok (ev run o δ m) fun x m => Rf x fun n => Ok (evs run es δ m) fun xs m => Ok (meF f (.ref n) xs m) Q := by
  rw [ev, Ok.bind]
  congr 1; funext x m
  cases x with
  | ref n => simp only [Ok.bind]; rfl
  | _ => rfl
theorem meF_w {f : Me} {n : Nat} {zs : List PyData} {xs : List D} (h : m[n]? = some (.lst zs)) (Q : D → Mem → Prop) : Ok (meF f (.ref n) xs m) Q = Sm (meA f m xs) fun ys => Sm (meL f zs ys) fun p => Q (.b p.1) (m.set n (.lst p.2)) := by
  unfold meF
  simp only [h]
  cases meA f m xs with
  | none => rfl
  | some ys =>
    simp only [Sm]
    cases meL f zs ys with
    | none => rfl
    | some p => rfl
theorem w_call (r : Bool) (f : Str) (es : Es) (Q : D → Mem → Prop) : Ok (ev run (.call r f es) δ m) Q = Ok (evs run es δ m) fun xs m => Ok (callF run r f xs m) Q := by rw [ev, Ok.bind]
theorem callF_w (r : Bool) (f : Str) (xs : List D) (Q : D → Mem → Prop) : Ok (callF run r f xs m) Q = Ok (run f xs m) fun d m' => Ok (leave r m.length d m') Q := by
  unfold callF
  cases run f xs m <;> rfl
theorem w_comp (r : Bool) (tg : Tg) (it : It) (e : E) (Q : D → Mem → Prop) : Ok (ev run (.comp r tg it e) δ m) Q = Ok (evI run it δ m) fun a m => Ok (compL (fun _ m => .ok true m) (fun δ m => ev run e δ m) tg δ a.g m.length a.xs (m ++ [.lst []])) fun _ m' => Ok (leave r m.length (.ref m.length) m') Q := by
  rw [ev, Ok.bind]; simp only [Ok.bind]
theorem w_compI (r : Bool) (tg : Tg) (it : It) (c e : E) (Q : D → Mem → Prop) : Ok (ev run (.compI r tg it c e) δ m) Q = Ok (evI run it δ m) fun a m => Ok (compL (fun δ m => (ev run c δ m).bind truthD) (fun δ m => ev run e δ m) tg δ a.g m.length a.xs (m ++ [.lst []])) fun _ m' => Ok (leave r m.length (.ref m.length) m') Q := by
  rw [ev, Ok.bind]; simp only [Ok.bind]
theorem w_nil (Q : List D → Mem → Prop) : Ok (evs run .nil δ m) Q = Q [] m := by rw [evs]; rfl
theorem w_cons (e : E) (es : Es) (Q : List D → Mem → Prop) : Ok (evs run (.cons e es) δ m) Q = Ok (ev run e δ m) fun x m => Ok (evs run es δ m) fun xs m => Q (x :: xs) m := by
  rw [evs, Ok.bind]; simp only [Ok.bind]; rfl
theorem w_seq (e : E) (Q : Items → Mem → Prop) : Ok (evI run (.seq e) δ m) Q = Ok (ev run e δ m) fun x m => Ok (itSeq x m) Q := by rw [evI, Ok.bind]
theorem itSeq_l (xs : List PyData) (Q : Items → Mem → Prop) : Ok (itSeq (.b (.list xs)) m) Q = Q ⟨xs, none⟩ m := rfl
theorem itSeq_t (xs : List PyData) (Q : Items → Mem → Prop) : Ok (itSeq (.b (.tuple xs)) m) Q = Q ⟨xs, none⟩ m := rfl
theorem itSeq_r {n : Nat} {xs : List PyData} (h : m[n]? = some (.lst xs)) (Q : Items → Mem → Prop) : Ok (itSeq (.ref n) m) Q = Q ⟨xs, some (n, xs)⟩ m := by unfold itSeq; simp only [h]; rfl
theorem w_rng1 (e : E) (Q : Items → Mem → Prop) : Ok (evI run (.rng1 e) δ m) Q = Ok (ev run e δ m) fun x m => In x fun j => rngOk 0 j = true ∧ Q ⟨rngP 0 j, none⟩ m := by
  rw [evI, Ok.bind]
  congr 1; funext x m
  unfold In itRng
  cases x with
  | b x =>
    cases x with
    | int j =>
      simp only
      by_cases h : rngOk 0 j = true <;> simp [h, Ok]
    | _ => rfl
  | _ => rfl
theorem w_rng2 (e e2 : E) (Q : Items → Mem → Prop) : Ok (evI run (.rng2 e e2) δ m) Q = Ok (ev run e δ m) fun x m => Ok (ev run e2 δ m) fun y m => In x fun i => In y fun j => rngOk i j = true ∧ Q ⟨rngP i j, none⟩ m := by
  rw [evI, Ok.bind]; simp only [Ok.bind]
  congr 1; funext x m; congr 1; funext y m
  unfold In itRng
  cases x with
  | b x =>
    cases x with
    | int i =>
      cases y with
      | b y =>
        cases y with
        | int j =>
          simp only
          by_cases h : rngOk i j = true <;> simp [h, Ok]
        | _ => rfl
      | _ => rfl
    | _ => rfl
  | _ => rfl
theorem w_enm (e : E) (Q : Items → Mem → Prop) : Ok (evI run (.enm e) δ m) Q = Ok (ev run e δ m) fun x m => Ok (itSeq x m) fun a m => Q ⟨pairs (rngP 0 a.xs.length) a.xs, a.g⟩ m := by
  rw [evI, Ok.bind]; simp only [itEnm, Ok.bind]; rfl
theorem w_zip (e e2 : E) (Q : Items → Mem → Prop) : Ok (evI run (.zip e e2) δ m) Q = Ok (ev run e δ m) fun x m => Ok (ev run e2 δ m) fun y m => Ok (itZip x y m) Q := by
  rw [evI, Ok.bind]; simp only [Ok.bind]
theorem w_zip3 (e e2 e3 : E) (Q : Items → Mem → Prop) : Ok (evI run (.zip3 e e2 e3) δ m) Q = Ok (ev run e δ m) fun x m => Ok (ev run e2 δ m) fun y m => Ok (ev run e3 δ m) fun z m => Ok (itZip3 x y z m) Q := by
  rw [evI, Ok.bind]; simp only [Ok.bind]
theorem itZip3_w (xs ys zs : List PyData) (Q : Items → Mem → Prop) : Ok (itZip3 (.b (.list xs)) (.b (.tuple ys)) (.b (.tuple zs)) m) Q = Q ⟨triples xs ys zs, none⟩ m := rfl
theorem itZip_l (xs ys : List PyData) (Q : Items → Mem → Prop) : Ok (itZip (.b (.list xs)) (.b (.list ys)) m) Q = Q ⟨pairs xs ys, none⟩ m := rfl
theorem itZip_t (xs ys : List PyData) (Q : Items → Mem → Prop) : Ok (itZip (.b (.tuple xs)) (.b (.tuple ys)) m) Q = Q ⟨pairs xs ys, none⟩ m := rfl

/-! ### statements -/
theorem s_nil (K : Ks) : SOk (evSs run .nil δ m) K = K.nx δ m := by rw [evSs]; rfl
theorem s_cons (s : S) (ss : Ss) (K : Ks) : SOk (evSs run (.cons s ss) δ m) K = SOk (evS run s δ m) ⟨fun δ m => SOk (evSs run ss δ m) K, K.ret, K.bk, K.ct⟩ := by rw [evSs, SOk.seq]
theorem s_set (i : Nat) (e : E) (K : Ks) : SOk (evS run (.set i e) δ m) K = Ok (ev run e δ m) fun x m => K.nx (δ.set i (some x)) m := by rw [evS, SOk.stmt]; rfl
theorem s_setT (is : List Nat) (e : E) (K : Ks) : SOk (evS run (.setT is e) δ m) K = Ok (ev run e δ m) fun x m => Sm (own x) fun d => Sm (asgnT is d δ) fun δ => K.nx δ m := by
  rw [evS, SOk.stmt]
  congr 1; funext x m
  cases x with
  | b d => simp only [own, Sm]; cases asgnT is d δ <;> rfl
  | _ => rfl
theorem s_setP (is : List Nat) (es : Es) (K : Ks) : SOk (evS run (.setP is es) δ m) K = Ok (evs run es δ m) fun xs m => Sm (setsD is xs δ) fun δ => K.nx δ m := by
  rw [evS, SOk.stmt]
  congr 1; funext x m
  cases setsD is x δ <;> rfl
theorem s_setI (o i e : E) (K : Ks) : SOk (evS run (.setI o i e) δ m) K = Ok (ev run e δ m) fun v m => Ok (ev run o δ m) fun x m => Ok (ev run i δ m) fun y m => Ok (setF x y v m) fun _ m => K.nx δ m := by
  rw [evS, SOk.stmt]; simp only [SOk.stmt]; rfl
theorem setF_w {n : Nat} {zs : List PyData} (h : m[n]? = some (.lst zs)) (k y : PyData) (Q : Unit → Mem → Prop) : Ok (setF (.ref n) (.b k) (.b y) m) Q = Sm (setL zs k y) fun zs' => Q () (m.set n (.lst zs')) := by
  unfold setF
  simp only [h, owns, own, Option.map]
  cases setL zs k y <;> rfl
theorem setF_set {n : Nat} {zs : List PyData} (hn : n < m.length) (k y : PyData) (Q : Unit → Mem → Prop) : Ok (setF (.ref n) (.b k) (.b y) (m.set n (.lst zs))) Q = Sm (setL zs k y) fun zs' => Q () (m.set n (.lst zs')) := by
  rw [setF_w (List.getElem?_set_self hn)]
  simp only [List.set_set]
theorem s_expr (e : E) (K : Ks) : SOk (evS run (.expr e) δ m) K = Ok (ev run e δ m) fun _ m => K.nx δ m := by rw [evS, SOk.stmt]; rfl
theorem s_ife (c : E) (a b : Ss) (K : Ks) : SOk (evS run (.ife c a b) δ m) K = Ok (ev run c δ m) fun x m => Snap m x fun x => Sm (truth x) fun t => Br t (SOk (evSs run a δ m) K) (SOk (evSs run b δ m) K) ⟨⟩ ⟨⟩ := by
  rw [evS, SOk.stmt, Ok.bind]
  congr 1; funext x m
  rw [truthD_w]
  congr 1; funext x; congr 1; funext t
  cases t <;> simp only [Br.t, Br.f] <;> rfl
theorem s_whl (c : E) (b : Ss) (K : Ks) : SOk (evS run (.whl c b) δ m) K = SOk (whlL (fun δ m => (ev run c δ m).bind truthD) (fun δ m => evSs run b δ m) turns δ m) K := by rw [evS]
theorem s_for (tg : Tg) (it : It) (b : Ss) (K : Ks) : SOk (evS run (.for tg it b) δ m) K = Ok (evI run it δ m) fun a m => SOk (forL (fun δ m => evSs run b δ m) tg a.g a.xs δ m) K := by rw [evS, SOk.stmt]
theorem s_ret (e : E) (K : Ks) : SOk (evS run (.ret e) δ m) K = Ok (ev run e δ m) fun x m => K.ret x m := by rw [evS, SOk.stmt]; rfl
theorem s_retN (K : Ks) : SOk (evS run .retN δ m) K = K.ret (.b .none) m := by rw [evS]; rfl
theorem s_pass (K : Ks) : SOk (evS run .pass δ m) K = K.nx δ m := by rw [evS]; rfl
theorem s_brk (K : Ks) : SOk (evS run .brk δ m) K = K.bk δ m := by rw [evS]; rfl
theorem s_cont (K : Ks) : SOk (evS run .cont δ m) K = K.ct δ m := by rw [evS]; rfl

/-! ### loops, calls -/
theorem for_ok {b : Env → Mem → RS} {tg : Tg} {g : Gd} {K : Ks} (I : Nat → Env → Mem → Prop) {xs : List PyData} (h0 : I 0 δ m)
    (hs : ∀ i x δ m, xs[i]? = some x → I i δ m → gOk g m ∧ Sm (asgn tg x δ) fun δ1 => SOk (b δ1 m) ⟨I (i + 1), K.ret, K.nx, I (i + 1)⟩) (he : ∀ δ m, I xs.length δ m → gOk g m ∧ K.nx δ m) : SOk (forL b tg g xs δ m) K := by
  have main : ∀ (ys : List PyData) (i : Nat) (δ : Env) (m : Mem), xs.drop i = ys → i ≤ xs.length → I i δ m → SOk (forL b tg g ys δ m) K := by
    intro ys
    induction ys with
    | nil =>
      intro i δ m hd hi h
      have : i = xs.length := by
        have := congrArg List.length hd
        rw [List.length_drop] at this
        simp at this; omega
      subst this
      obtain ⟨h1, h2⟩ := he δ m h
      rw [forL, if_pos h1]
      exact h2
    | cons x ys ih =>
      intro i δ m hd hi h
      have hx : xs[i]? = some x := by
        have := congrArg List.head? hd
        rw [List.head?_drop] at this
        exact this
      have hlt : i < xs.length := (List.getElem?_eq_some_iff.mp hx).1
      have hd2 : xs.drop (i + 1) = ys := by
        have := List.drop_eq_getElem_cons hlt
        rw [hd] at this
        exact (List.cons.inj this).2.symm
      obtain ⟨h1, h2⟩ := hs i x δ m hx h
      rw [forL, if_pos h1]
      cases q : asgn tg x δ with
      | none => rw [q] at h2; exact h2.elim
      | some δ1 =>
        rw [q] at h2
        simp only [Sm] at h2 ⊢
        cases q2 : b δ1 m with
        | nx δ2 m2 => rw [q2] at h2; exact ih (i + 1) δ2 m2 hd2 hlt h2
        | cont δ2 m2 => rw [q2] at h2; exact ih (i + 1) δ2 m2 hd2 hlt h2
        | brk δ2 m2 => rw [q2] at h2; exact h2
        | ret d m2 => rw [q2] at h2; exact h2
        | ex c δ2 m2 => rw [q2] at h2; exact h2
        | bad => rw [q2] at h2; exact h2
  exact main xs 0 δ m rfl (Nat.zero_le _) h0
/-- a list comprehension: I of the turns that are done, the base memory and the list so far -/
theorem comp_ok {c : Env → Mem → R Bool} {e : Env → Mem → R D} {tg : Tg} {g : Gd} {r : Bool} {Q : D → Mem → Prop} (I : Nat → Mem → List PyData → Prop) {xs : List PyData} (h0 : I 0 m [])
    (hl : ∀ i m' ys, I i m' ys → m'.length = m.length ∧ gOk g (m' ++ [.lst ys]))
    (hs : ∀ i x m' ys, xs[i]? = some x → I i m' ys → Sm (asgn tg x (clear δ tg.slots)) fun δ1 => Ok (c δ1 (m' ++ [.lst ys])) fun t m1 => if t = true then Ok (e δ1 m1) fun d m2 => Sm (own d) fun y => ∃ m3, m2.take (m.length + 1) = m3 ++ [.lst ys] ∧ m3.length = m.length ∧ ys.length < lim ∧ I (i + 1) m3 (ys ++ [y])
      else ∃ m3, m1.take (m.length + 1) = m3 ++ [.lst ys] ∧ m3.length = m.length ∧ I (i + 1) m3 ys)
    (he : ∀ m' ys, I xs.length m' ys → Ok (leave r m.length (.ref m.length) (m' ++ [.lst ys])) Q) :
    Ok (compL c e tg δ g m.length xs (m ++ [.lst []])) fun _ m' => Ok (leave r m.length (.ref m.length) m') Q := by
  have main : ∀ (zs : List PyData) (i : Nat) (m' : Mem) (ys : List PyData), xs.drop i = zs → i ≤ xs.length → I i m' ys → Ok (compL c e tg δ g m.length zs (m' ++ [.lst ys])) fun _ m' => Ok (leave r m.length (.ref m.length) m') Q := by
    intro zs
    induction zs with
    | nil =>
      intro i m' ys hd hi h
      have : i = xs.length := by
        have := congrArg List.length hd
        rw [List.length_drop] at this
        simp at this; omega
      subst this
      rw [compL, if_pos (hl _ _ _ h).2]
      exact he m' ys h
    | cons x zs ih =>
      intro i m' ys hd hi h
      have hx : xs[i]? = some x := by
        have := congrArg List.head? hd
        rw [List.head?_drop] at this
        exact this
      have hlt : i < xs.length := (List.getElem?_eq_some_iff.mp hx).1
      have hd2 : xs.drop (i + 1) = zs := by
        have := List.drop_eq_getElem_cons hlt
        rw [hd] at this
        exact (List.cons.inj this).2.symm
      have h2 := hs i x m' ys hx h
      rw [compL, if_pos (hl _ _ _ h).2]
      cases q : asgn tg x (clear δ tg.slots) with
      | none => rw [q] at h2; exact h2.elim
      | some δ1 =>
        rw [q] at h2
        simp only [Sm] at h2 ⊢
        obtain ⟨t, m1, q1, h2⟩ := h2.out
        rw [q1]
        cases t with
        | false =>
          simp only [Bool.false_eq_true, if_false] at h2 ⊢
          obtain ⟨m3, e3, l3, h3⟩ := h2
          rw [e3]
          exact ih (i + 1) m3 ys hd2 hlt h3
        | true =>
          simp only [if_true] at h2 ⊢
          obtain ⟨d, m2, q2, h2⟩ := h2.out
          rw [q2]
          cases qo : own d with
          | none => rw [qo] at h2; exact h2.elim
          | some y =>
            rw [qo] at h2
            obtain ⟨m3, e3, l3, hz, h3⟩ := h2
            have hm : m2[m.length]? = some (.lst ys) := by
              have : (m2.take (m.length + 1))[m.length]? = m2[m.length]? := List.getElem?_take_of_lt (Nat.lt_succ_self _)
              rw [← this, e3, ← l3, List.getElem?_append_right (Nat.le_refl _), Nat.sub_self]
              rfl
            simp only [qo, hm]
            rw [if_pos hz, e3]
            have : (m3 ++ [MO.lst ys]).set m.length (MO.lst (ys ++ [y])) = m3 ++ [MO.lst (ys ++ [y])] := by
              rw [← l3, List.set_append_right _ _ (Nat.le_refl _), Nat.sub_self]
              rfl
            rw [this]
            exact ih (i + 1) m3 (ys ++ [y]) hd2 hlt h3
  exact main xs 0 m [] rfl (Nat.zero_le _) h0
theorem leave_new (r : Bool) (m m' : Mem) (ys : List PyData) (h : m'.length = m.length) (Q : D → Mem → Prop) : Ok (leave r m.length (.ref m.length) (m' ++ [.lst ys])) Q = if r = true then Q (.ref m.length) (m' ++ [.lst ys]) else Q (.b (.list ys)) m' := by
  unfold leave
  simp only
  rw [if_neg (Nat.lt_irrefl _)]
  have : (m' ++ [MO.lst ys])[m.length]? = some (.lst ys) := by
    rw [← h, List.getElem?_append_right (Nat.le_refl _), Nat.sub_self]; rfl
  simp only [this]
  have t : (m' ++ [MO.lst ys]).take m.length = m' := by rw [← h]; exact List.take_left
  cases r with
  | true => simp only [if_true, t]; rfl
  | false => simp only [Bool.false_eq_true, if_false, t]; rfl
theorem run_ok {G : Tab} {n : Nat} {f : Str} {fd : Fd} {xs : List D} {Q : D → Mem → Prop} (hG : G f = some fd) (hl : xs.length = fd.ps ∧ fd.ps ≤ fd.n)
    (h : SOk (evSs (Z.run G n) fd.body (startE fd.n xs) m) ⟨fun _ m => Q (.b .none) m, Q, fun _ _ => False, fun _ _ => False⟩) : Ok (Z.run G (n + 1) f xs m) Q := by
  show Ok (match G f with
    | some fd => if xs.length = fd.ps ∧ fd.ps ≤ fd.n then endB (evSs (Z.run G n) fd.body (startE fd.n xs) m) else .bad
    | none => .bad) Q
  rw [hG]
  simp only
  rw [if_pos hl]
  cases q : evSs (Z.run G n) fd.body (startE fd.n xs) m with
  | nx δ m' => rw [q] at h; exact h
  | ret d m' => rw [q] at h; exact h
  | brk δ m' => rw [q] at h; exact h.elim
  | cont δ m' => rw [q] at h; exact h.elim
  | ex c δ m' => rw [q] at h; exact h.elim
  | bad => rw [q] at h; exact h.elim
/-- a call whose value is no list -/
def notL : PyData → Bool
  | .list _ => false
  | _ => true
theorem call_b {r : Bool} {f : Str} {xs : List D} {Q : D → Mem → Prop} (h : Ok (run f xs m) fun d m' => ∃ x, d = .b x ∧ (r = true → notL x = true) ∧ Q (.b x) (m'.take m.length)) : Ok (callF run r f xs m) Q := by
  rw [callF_w]
  refine h.mono fun d m' ⟨x, e, hr, q⟩ => ?_
  subst e
  unfold leave
  cases x with
  | list ys =>
    simp only
    cases r with
    | true => exact absurd (hr rfl) (by simp [notL])
    | false => exact q
  | _ => exact q
/-! ### what is raised -/
def XR {α : Type} (x : R α) (c : Str) (P : Mem → Prop) : Prop :=
  match x with
  | .ex c' m => c' = c ∧ P m
  | _ => False
def SRx (x : RS) (c : Str) (P : Mem → Prop) : Prop :=
  match x with
  | .ex c' _ m => c' = c ∧ P m
  | _ => False
theorem XR.out {x : R α} {c : Str} {P : Mem → Prop} (h : XR x c P) : ∃ m, x = .ex c m ∧ P m := by
  cases x with
  | ex c' m => obtain ⟨rfl, h⟩ := h; exact ⟨m, rfl, h⟩
  | _ => exact h.elim
theorem XR.mono {x : R α} {c : Str} {P P' : Mem → Prop} (h : XR x c P) (k : ∀ m, P m → P' m) : XR x c P' := by
  obtain ⟨m, rfl, h2⟩ := h.out
  exact ⟨rfl, k m h2⟩
theorem xr_l {x : R α} {f : α → Mem → R β} {c : Str} {P : Mem → Prop} (h : XR x c P) : XR (x.bind f) c P := by
  obtain ⟨m, rfl, h2⟩ := h.out
  exact ⟨rfl, h2⟩
theorem xr_r {x : R α} {f : α → Mem → R β} {c : Str} {P : Mem → Prop} (h : Ok x fun a m => XR (f a m) c P) : XR (x.bind f) c P := by
  obtain ⟨a, m, rfl, h2⟩ := h.out
  exact h2
theorem sx_raise {c : Str} {P : Mem → Prop} (h : P m) : SRx (evS run (.raise c) δ m) c P := by
  rw [evS]; exact ⟨rfl, h⟩
theorem sx_l {s : S} {ss : Ss} {c : Str} {P : Mem → Prop} (h : SRx (evS run s δ m) c P) : SRx (evSs run (.cons s ss) δ m) c P := by
  rw [evSs]
  cases q : evS run s δ m with
  | ex c' δ' m' => rw [q] at h; exact h
  | _ => rw [q] at h; exact h.elim
theorem sx_r {s : S} {ss : Ss} {c : Str} {P : Mem → Prop} (h : SOk (evS run s δ m) ⟨fun δ m => SRx (evSs run ss δ m) c P, fun _ _ => False, fun _ _ => False, fun _ _ => False⟩) : SRx (evSs run (.cons s ss) δ m) c P := by
  rw [evSs]
  cases q : evS run s δ m with
  | nx δ' m' => rw [q] at h; exact h
  | _ => rw [q] at h; exact h.elim
theorem sx_stmt {x : R α} {f : α → Mem → RS} {c : Str} {P : Mem → Prop} (h : XR x c P) : SRx (x.stmt δ f) c P := by
  obtain ⟨m, rfl, h2⟩ := h.out
  exact ⟨rfl, h2⟩
theorem sx_set {i : Nat} {e : E} {c : Str} {P : Mem → Prop} (h : XR (ev run e δ m) c P) : SRx (evS run (.set i e) δ m) c P := by rw [evS]; exact sx_stmt h
theorem sx_expr {e : E} {c : Str} {P : Mem → Prop} (h : XR (ev run e δ m) c P) : SRx (evS run (.expr e) δ m) c P := by rw [evS]; exact sx_stmt h
theorem sx_ret {e : E} {c : Str} {P : Mem → Prop} (h : XR (ev run e δ m) c P) : SRx (evS run (.ret e) δ m) c P := by rw [evS]; exact sx_stmt h
theorem sx_ife {ce : E} {a b : Ss} {c : Str} {P : Mem → Prop} (h : Ok (ev run ce δ m) fun x m => Snap m x fun x => Sm (truth x) fun t => Br t (SRx (evSs run a δ m) c P) (SRx (evSs run b δ m) c P) ⟨⟩ ⟨⟩) : SRx (evS run (.ife ce a b) δ m) c P := by
  rw [evS]
  obtain ⟨x, m1, q, h⟩ := h.out
  rw [q]
  unfold Snap at h
  show SRx ((truthD x m1).stmt δ _) c P
  unfold truthD
  cases hs : snap m1 x with
  | none => rw [hs] at h; exact h.elim
  | some y =>
    rw [hs] at h
    simp only at h ⊢
    unfold Sm at h
    cases ht : truth y with
    | none => rw [ht] at h; exact h.elim
    | some t =>
      rw [ht] at h
      simp only at h ⊢
      cases t with
      | true => exact h
      | false => exact h
theorem sx_for {tg : Tg} {it : It} {b : Ss} {c : Str} {P : Mem → Prop} (h : Ok (evI run it δ m) fun a m => SRx (forL (fun δ m => evSs run b δ m) tg a.g a.xs δ m) c P) : SRx (evS run (.for tg it b) δ m) c P := by
  rw [evS]
  obtain ⟨a, m1, q, h⟩ := h.out
  rw [q]
  exact h
theorem sx_now {b : Env → Mem → RS} {tg : Tg} {g : Gd} {x : PyData} {xs : List PyData} {δ1 : Env} {c : Str} {P : Mem → Prop} (hg : gOk g m) (ha : asgn tg x δ = some δ1) (h : SRx (b δ1 m) c P) : SRx (forL b tg g (x :: xs) δ m) c P := by
  rw [forL, if_pos hg]
  simp only [ha]
  cases q : b δ1 m with
  | ex c' δ' m' => rw [q] at h; exact h
  | _ => rw [q] at h; exact h.elim
theorem sx_on {b : Env → Mem → RS} {tg : Tg} {g : Gd} {x : PyData} {xs : List PyData} {δ1 : Env} {c : Str} {P : Mem → Prop} (hg : gOk g m) (ha : asgn tg x δ = some δ1) (h : SOk (b δ1 m) ⟨fun δ m => SRx (forL b tg g xs δ m) c P, fun _ _ => False, fun _ _ => False, fun δ m => SRx (forL b tg g xs δ m) c P⟩) : SRx (forL b tg g (x :: xs) δ m) c P := by
  rw [forL, if_pos hg]
  simp only [ha]
  cases q : b δ1 m with
  | nx δ' m' => rw [q] at h; exact h
  | cont δ' m' => rw [q] at h; exact h
  | _ => rw [q] at h; exact h.elim
theorem xr_call {r : Bool} {f : Str} {es : Es} {c : Str} {P : Mem → Prop} (h : Ok (evs run es δ m) fun xs m => XR (callF run r f xs m) c P) : XR (ev run (.call r f es) δ m) c P := by rw [ev]; exact xr_r h
theorem xr_callF {r : Bool} {f : Str} {xs : List D} {c : Str} {P : Mem → Prop} (h : XR (run f xs m) c fun m' => P (m'.take m.length)) : XR (callF run r f xs m) c P := by
  obtain ⟨m', q, h⟩ := h.out
  unfold callF
  rw [q]
  exact ⟨rfl, h⟩
theorem xr_run {G : Tab} {n : Nat} {f : Str} {fd : Fd} {xs : List D} {c : Str} {P : Mem → Prop} (hG : G f = some fd) (hl : xs.length = fd.ps ∧ fd.ps ≤ fd.n) (h : SRx (evSs (Z.run G n) fd.body (startE fd.n xs) m) c P) : XR (Z.run G (n + 1) f xs m) c P := by
  show XR (match G f with
    | some fd => if xs.length = fd.ps ∧ fd.ps ≤ fd.n then endB (evSs (Z.run G n) fd.body (startE fd.n xs) m) else .bad
    | none => .bad) c P
  rw [hG]
  simp only
  rw [if_pos hl]
  cases q : evSs (Z.run G n) fd.body (startE fd.n xs) m with
  | ex c' δ m' => rw [q] at h; exact h
  | _ => rw [q] at h; exact h.elim
theorem stk_said (g : Str) (b : E) (tab : List (Str × Ans)) (Q : D → Mem → Prop) : Ok (ev run (.said g b tab) δ m) Q = Stk (ev run (.said g b tab) δ m) Q ⟨⟩ := rfl
theorem said_ok {g : Str} {b : E} {tab : List (Str × Ans)} {Q : D → Mem → Prop} (h : Ok (ev run b δ m) fun _ m' => Q (.b .none) (m'.take m.length)) : Stk (ev run (.said g b tab) δ m) Q ⟨⟩ := by
  unfold Stk
  rw [ev]
  obtain ⟨d, m', q, h⟩ := h.out
  rw [q]
  exact h
theorem said_ex {g : Str} {b : E} {tab : List (Str × Ans)} {Q : D → Mem → Prop} {c : Str} {a : Ans} (hl : tab.lookup c = some a) (h : XR (ev run b δ m) c fun m' => Q (.b a.d) (m'.take m.length)) : Stk (ev run (.said g b tab) δ m) Q ⟨⟩ := by
  unfold Stk
  rw [ev]
  obtain ⟨m', q, h⟩ := h.out
  rw [q]
  unfold saidF
  simp only [hl]
  exact h
theorem w_pick (r : Bool) (fs : List Str) (i : E) (es : Es) (Q : D → Mem → Prop) : Ok (ev run (.pick r fs i es) δ m) Q = Ok (ev run i δ m) fun x m => Sm (pickF fs x) fun f => Ok (evs run es δ m) fun xs m => Ok (callF run r f xs m) Q := by
  rw [ev, Ok.bind]
  congr 1; funext x m
  cases pickF fs x with
  | none => rfl
  | some f => simp only [Sm, Ok.bind]
theorem pickF_w (fs : List Str) (i : Int) (P : Str → Prop) : Sm (pickF fs (.b (.int i))) P = Sm (atP fs i) P := rfl
theorem xr_pick {r : Bool} {fs : List Str} {i : E} {es : Es} {c : Str} {P : Mem → Prop} (h : Ok (ev run i δ m) fun x m => Sm (pickF fs x) fun f => Ok (evs run es δ m) fun xs m => XR (callF run r f xs m) c P) : XR (ev run (.pick r fs i es) δ m) c P := by
  rw [ev]
  refine xr_r (h.mono fun x m h => ?_)
  cases q : pickF fs x with
  | none => rw [q] at h; exact h.elim
  | some f => rw [q] at h; exact xr_r (show Ok _ _ from h)
theorem w_isx (a : E) (c : Str) (tab : List (Str × Bool)) (Q : D → Mem → Prop) : Ok (ev run (.isx a c tab) δ m) Q = Ok (ev run a δ m) fun x m => Ok (isxF tab x m) Q := by rw [ev, Ok.bind]
theorem isxF_n (tab : List (Str × Bool)) (Q : D → Mem → Prop) : Ok (isxF tab (.b .none) m) Q = Q (.b (.bool false)) m := rfl
theorem isxF_e (tab : List (Str × Bool)) (c : Str) (Q : D → Mem → Prop) : Ok (isxF tab (.exc c) m) Q = Sm (tab.lookup c) fun b => Q (.b (.bool b)) m := by
  unfold isxF
  simp only
  cases tab.lookup c <;> rfl
end
end Z

/-! Z16: running by simp; what every law's generator does. -/
namespace Z
open PySem
/-! ### small evaluations -/
theorem at_nat {α : Type} {xs : List α} {j : Nat} {v : α} (h : xs[j]? = some v) : atP xs (j : Int) = some v := L2.atI_nat h
theorem at_0 {α : Type} (x : α) (xs : List α) : atP (x :: xs) 0 = some x := at_nat (j := 0) rfl
theorem at_1 {α : Type} (x y : α) (xs : List α) : atP (x :: y :: xs) 1 = some y := at_nat (j := 1) rfl
theorem at_2 {α : Type} (x y z : α) (xs : List α) : atP (x :: y :: z :: xs) 2 = some z := at_nat (j := 2) rfl
theorem at_3 {α : Type} (x y z u : α) (xs : List α) : atP (x :: y :: z :: u :: xs) 3 = some u := at_nat (j := 3) rfl
theorem at_4 {α : Type} (x y z u t : α) (xs : List α) : atP (x :: y :: z :: u :: t :: xs) 4 = some t := at_nat (j := 4) rfl
theorem at_int {α : Type} {xs : List α} {i : Int} (h0 : 0 ≤ i) (h1 : i < xs.length) : ∃ v, atP xs i = some v ∧ xs[i.toNat]? = some v := by
  have : i.toNat < xs.length := by omega
  have e : ((i.toNat : Nat) : Int) = i := by omega
  have q := at_nat (List.getElem?_eq_getElem this)
  rw [e] at q
  exact ⟨_, q, List.getElem?_eq_getElem this⟩
theorem set_0 (x y : PyData) (xs : List PyData) : setL (x :: xs) (.int 0) y = some (y :: xs) := by
  unfold setL
  have : L2.ixN (x :: xs).length 0 = some 0 := by
    unfold L2.ixN
    rw [if_pos (by omega), if_pos (by simp)]
    rfl
  simp only [this]
  rfl
theorem len0 : ∀ n : Nat, n ≤ 16777216 → n ≤ lim := fun _ h => h
theorem cmp_lt (i j : Int) : cmpP .Lt (.int i) (.int j) = some (decide (i < j)) := rfl
theorem cmp_le (i j : Int) : cmpP .LtE (.int i) (.int j) = some (decide (i ≤ j)) := rfl
theorem cmp_gt (i j : Int) : cmpP .Gt (.int i) (.int j) = some (decide (j < i)) := rfl
theorem cmp_ge (i j : Int) : cmpP .GtE (.int i) (.int j) = some (decide (j ≤ i)) := rfl
theorem eqv_ii (i j : Int) : PyData.eqv (.int i) (.int j) = decide (i = j) := by rw [PyData.eqv]; rfl
theorem eqv_bb (i j : Bool) : PyData.eqv (.bool i) (.bool j) = decide (i = j) := by rw [PyData.eqv]; cases i <;> cases j <;> rfl
theorem cmp_eqP {x y : PyData} (h : eqOk x y = true) : cmpP .Eq x y = some (PyData.eqv x y) := by show (if eqOk x y then some (PyData.eqv x y) else none) = _; rw [if_pos h]
theorem cmp_neP {x y : PyData} (h : eqOk x y = true) : cmpP .NotEq x y = some (!PyData.eqv x y) := by show (if eqOk x y then some (!PyData.eqv x y) else none) = _; rw [if_pos h]
theorem ok_ii (i j : Int) : eqOk (.int i) (.int j) = true := by simp [eqOk, PyData.canLay0, PyData.depth]
theorem ok_bb (i j : Bool) : eqOk (.bool i) (.bool j) = true := by simp [eqOk, PyData.canLay0, PyData.depth]
theorem cmp_eqi (i j : Int) : cmpP .Eq (.int i) (.int j) = some (decide (i = j)) := by rw [cmp_eqP (ok_ii i j), eqv_ii]
theorem cmp_nei (i j : Int) : cmpP .NotEq (.int i) (.int j) = some (!decide (i = j)) := by rw [cmp_neP (ok_ii i j), eqv_ii]
theorem cmp_eqb (i j : Bool) : cmpP .Eq (.bool i) (.bool j) = some (decide (i = j)) := by rw [cmp_eqP (ok_bb i j), eqv_bb]
theorem cmp_neb (i j : Bool) : cmpP .NotEq (.bool i) (.bool j) = some (!decide (i = j)) := by rw [cmp_neP (ok_bb i j), eqv_bb]
theorem cmp_is (i j : Bool) : cmpP .Is (.bool i) (.bool j) = some (decide (i = j)) := rfl
theorem cmp_isnot (i j : Bool) : cmpP .IsNot (.bool i) (.bool j) = some (!decide (i = j)) := rfl
theorem cmp_isn (x : PyData) : cmpP .Is x .none = some (isNoneD x) := rfl
theorem cmp_isnotn (x : PyData) : cmpP .IsNot x .none = some (!isNoneD x) := rfl
def isI : PyData → Bool
  | .int _ => true
  | .bool _ => true
  | _ => false
def isBo : PyData → Bool
  | .bool _ => true
  | _ => false
def isTu : PyData → Bool
  | .tuple _ => true
  | _ => false
def isLi : PyData → Bool
  | .list _ => true
  | _ => false
def isSt : PyData → Bool
  | .str _ => true
  | _ => false
theorem isi_int (x : PyData) : isiP x "int" = some (isI x) := by cases x <;> simp only [isiP, tyP, isI] <;> decide +kernel
theorem isi_bool (x : PyData) : isiP x "bool" = some (isBo x) := by cases x <;> simp only [isiP, tyP, isBo] <;> decide +kernel
theorem isi_tup (x : PyData) : isiP x "tuple" = some (isTu x) := by cases x <;> simp only [isiP, tyP, isTu] <;> decide +kernel
theorem isi_lst (x : PyData) : isiP x "list" = some (isLi x) := by cases x <;> simp only [isiP, tyP, isLi] <;> decide +kernel
theorem isi_str (x : PyData) : isiP x "str" = some (isSt x) := by cases x <;> simp only [isiP, tyP, isSt] <;> decide +kernel
def stO (a : Int) (b : Bool) : MO := .lst [.int a, .bool b]
/-- the generator's state lies at n -/
def StOk (m : Mem) (n : Nat) : Prop := ∃ a b, m[n]? = some (.lst [.int a, .bool b]) ∧ 0 ≤ a ∧ (b = false → a < 2147483648)
structure Upd (n : Nat) (m m' : Mem) : Prop where
  ok : StOk m' n
  len : m'.length = m.length
  keep : ∀ k, k ≠ n → m'[k]? = m[k]?
theorem StOk.lt {m : Mem} {n : Nat} (h : StOk m n) : n < m.length := by
  obtain ⟨a, b, h, _⟩ := h
  exact (List.getElem?_eq_some_iff.mp h).1
theorem Upd.refl {n : Nat} {m : Mem} (h : StOk m n) : Upd n m m := ⟨h, rfl, fun _ _ => rfl⟩
theorem Upd.trans {n : Nat} {m m1 m2 : Mem} (h : Upd n m m1) (k : Upd n m1 m2) : Upd n m m2 := ⟨k.ok, k.len.trans h.len, fun i hi => (k.keep i hi).trans (h.keep i hi)⟩
theorem Upd.set {n : Nat} {m : Mem} {a : Int} {b : Bool} (hn : n < m.length) (h0 : 0 ≤ a) (h1 : b = false → a < 2147483648) : Upd n m (m.set n (.lst [.int a, .bool b])) :=
  ⟨⟨a, b, List.getElem?_set_self hn, h0, h1⟩, List.length_set .., fun k hk => List.getElem?_set_ne (Ne.symm hk)⟩
theorem StOk.app {n : Nat} {m t : Mem} (h : StOk m n) : StOk (m ++ t) n := by
  obtain ⟨a, b, h1, h2⟩ := h
  exact ⟨a, b, by rw [List.getElem?_append_left (List.getElem?_eq_some_iff.mp h1).1]; exact h1, h2⟩
/-- what lies behind stays -/
theorem Upd.split {n : Nat} {m t mm : Mem} (h : Upd n (m ++ t) mm) (hn : n < m.length) : ∃ m', mm = m' ++ t ∧ Upd n m m' := by
  refine ⟨mm.take m.length, ?_, ?_⟩
  · apply List.ext_getElem?
    intro k
    by_cases hk : k < m.length
    · rw [List.getElem?_append_left (by rw [List.length_take, h.len, List.length_append]; omega), List.getElem?_take_of_lt hk]
    · have l : (mm.take m.length).length = m.length := by rw [List.length_take, h.len, List.length_append]; omega
      rw [h.keep k (by omega), List.getElem?_append_right (by omega), List.getElem?_append_right (by omega), l]
  · obtain ⟨a, b, h1, h2⟩ := h.ok
    refine ⟨⟨a, b, by rw [List.getElem?_take_of_lt hn]; exact h1, h2⟩, by rw [List.length_take, h.len, List.length_append]; omega, fun k hk => ?_⟩
    by_cases hl : k < m.length
    · rw [List.getElem?_take_of_lt hl, h.keep k hk, List.getElem?_append_left hl]
    · rw [List.getElem?_eq_none (by rw [List.length_take, h.len, List.length_append]; omega), List.getElem?_eq_none (by omega)]
theorem Upd.take {n : Nat} {m mm : Mem} (h : Upd n m mm) : mm.take m.length = mm := by rw [← h.len]; exact List.take_length
/-! ### the generator's defs -/
def b_cell : Fd := ⟨2, 2, (.cons (.ife (.cmp .Lt (.var 1) (.bi .len false (.cons (.var 0) .nil))) (.cons (.ret (.ix (.var 0) (.var 1))) .nil) .nil) (.cons (.ret (.int 0)) .nil))⟩
def b_state : Fd := ⟨2, 3, (.cons (.set 2 (.call false "_law_cell_at" (.cons (.var 0) (.cons (.var 1) .nil)))) (.cons (.ife (.cmp .GtE (.var 2) (.bin .Pow (.int 10) (.int 18))) (.cons (.ret (.lst true (.cons (.bin .Sub (.var 2) (.bin .Pow (.int 10) (.int 18))) (.cons (.bool true) .nil)))) .nil) .nil) (.cons (.ret (.lst true (.cons (.bin .Mod (.var 2) (.int 2147483647)) (.cons (.bool false) .nil)))) .nil)))⟩
def b_take : Fd := ⟨2, 4, (.cons (.ife (.ix (.var 0) (.int 1)) (.cons (.set 3 (.bin .Mod (.ix (.var 0) (.int 0)) (.var 1))) (.cons (.setI (.var 0) (.int 0) (.bin .FloorDiv (.ix (.var 0) (.int 0)) (.var 1))) (.cons (.ret (.var 3)) .nil))) .nil) (.cons (.setI (.var 0) (.int 0) (.bin .Mod (.bin .Add (.bin .Mult (.ix (.var 0) (.int 0)) (.int 48271)) (.int 29)) (.int 2147483647))) (.cons (.set 2 (.bin .Mod (.bin .Add (.bin .Add (.bin .Mult (.ix (.var 0) (.int 0)) (.ix (.var 0) (.int 0))) (.bin .Mult (.int 39373) (.ix (.var 0) (.int 0)))) (.int 7)) (.int 2147483629))) (.cons (.set 2 (.bin .Mod (.bin .Add (.bin .Mult (.var 2) (.var 2)) (.bin .Mult (.int 16807) (.var 2))) (.int 2147483587))) (.cons (.ret (.bin .Mod (.bin .FloorDiv (.var 2) (.int 8)) (.var 1))) .nil)))))⟩
def b_ends : Fd := ⟨2, 5, (.cons (.set 2 (.bin .Add (.bin .Add (.lst false (.cons (.int 0) .nil)) (.bi .lrng2 false (.cons (.int 2) (.cons (.var 1) .nil)))) (.lst false (.cons (.int 1) .nil)))) (.cons (.set 3 (.call false "_law_take" (.cons (.var 0) (.cons (.bin .Sub (.var 1) (.int 1)) .nil)))) (.cons (.set 4 (.bin .Add (.var 3) (.int 1))) (.cons (.ife (.cmp .Eq (.call false "_law_take" (.cons (.var 0) (.cons (.int 3) .nil))) (.int 0)) (.cons (.set 4 (.bin .Add (.bin .Add (.var 3) (.int 1)) (.call false "_law_take" (.cons (.var 0) (.cons (.bin .Sub (.bin .Sub (.var 1) (.int 1)) (.var 3)) .nil))))) .nil) .nil) (.cons (.ret (.tup (.cons (.bi .min2 false (.cons (.ix (.var 2) (.var 3)) (.cons (.ix (.var 2) (.var 4)) .nil))) (.cons (.bi .max2 false (.cons (.ix (.var 2) (.var 3)) (.cons (.ix (.var 2) (.var 4)) .nil))) .nil)))) .nil)))))⟩
def net_rest2 : Ss := (.cons (.set 9 (.lst true .nil)) (.cons (.for (.one 10) (.seq (.var 6)) (.cons (.expr (.me .insert (.var 9) (.cons (.call false "_law_take" (.cons (.var 0) (.cons (.bin .Add (.bi .len false (.cons (.var 9) .nil)) (.int 1)) .nil))) (.cons (.var 10) .nil)))) .nil)) (.cons (.ret (.tup (.cons (.var 4) (.cons (.var 5) (.cons (.bi .tuple false (.cons (.var 9) .nil)) .nil))))) .nil)))
def net_rest1 : Ss := (.cons (.for (.one 8) (.rng1 (.call false "_law_take" (.cons (.var 0) (.cons (.bin .Add (.bin .Sub (.var 3) (.bi .len false (.cons (.var 6) .nil))) (.int 1)) .nil)))) (.cons (.expr (.me .append (.var 6) (.cons (.bin .Add (.call false "_law_ends" (.cons (.var 0) (.cons (.var 5) .nil))) (.tup (.cons (.call false "_law_take" (.cons (.var 0) (.cons (.var 4) .nil))) (.cons (.call false "_law_take" (.cons (.var 0) (.cons (.int 2) .nil))) .nil)))) .nil))) .nil)) net_rest2)
def b_net : Fd := ⟨4, 13, (.cons (.set 4 (.bin .Add (.int 1) (.call false "_law_take" (.cons (.var 0) (.cons (.var 1) .nil))))) (.cons (.set 5 (.bin .Add (.int 2) (.call false "_law_take" (.cons (.var 0) (.cons (.bin .Sub (.var 2) (.int 1)) .nil))))) (.cons (.set 6 (.lst true .nil)) (.cons (.set 7 (.bin .Add (.bin .Add (.lst false (.cons (.int 0) .nil)) (.bi .lrng2 false (.cons (.int 2) (.cons (.var 5) .nil)))) (.lst false (.cons (.int 1) .nil)))) (.cons (.ife (.and (.cmp .Eq (.call false "_law_take" (.cons (.var 0) (.cons (.int 2) .nil))) (.int 0)) (.cmp .LtE (.bin .Sub (.var 5) (.int 1)) (.var 3))) (.cons (.for (.many [11, 12]) (.zip (.var 7) (.slL (.var 7) (.int 1))) (.cons (.expr (.me .append (.var 6) (.cons (.tup (.cons (.bi .min2 false (.cons (.var 11) (.cons (.var 12) .nil))) (.cons (.bi .max2 false (.cons (.var 11) (.cons (.var 12) .nil))) (.cons (.call false "_law_take" (.cons (.var 0) (.cons (.var 4) .nil))) (.cons (.call false "_law_take" (.cons (.var 0) (.cons (.int 2) .nil))) .nil))))) .nil))) .nil)) .nil) .nil) net_rest1)))))⟩
def b_whole : Fd := ⟨3, 3, (.cons (.ret (.and (.isi (.var 0) "int") (.and (.not (.isi (.var 0) "bool")) (.chain .LtE .Lt (.var 1) (.var 0) (.var 2))))) .nil)⟩
theorem get_end {m t : Mem} {o : MO} {L : Nat} (h : m.length = L) : (m ++ o :: t)[L]? = some o := by
  subst h; rw [List.getElem?_append_right (Nat.le_refl _), Nat.sub_self]; rfl
theorem get_end1 {m t : Mem} {a o : MO} {L : Nat} (h : m.length = L) : (m ++ a :: o :: t)[L + 1]? = some o := by
  subst h; rw [List.getElem?_append_right (Nat.le_add_right _ 1), Nat.add_sub_cancel_left]; rfl
theorem set_end {m t : Mem} {o o' : MO} {L : Nat} (h : m.length = L) : (m ++ o :: t).set L o' = m ++ o' :: t := by
  subst h; rw [List.set_append_right _ _ (Nat.le_refl _), Nat.sub_self]; rfl
theorem set_end1 {m t : Mem} {a o o' : MO} {L : Nat} (h : m.length = L) : (m ++ a :: o :: t).set (L + 1) o' = m ++ a :: o' :: t := by
  subst h; rw [List.set_append_right _ _ (Nat.le_add_right _ 1), Nat.add_sub_cancel_left]; rfl
theorem take_end {m t : Mem} {L : Nat} (h : m.length = L) : (m ++ t).take L = m := by subst h; exact List.take_left
section
variable {G : Tab} {k : Nat} {m : Mem} {n : Nat} {r : Bool}
theorem mod_lt {a b : Int} (h : 0 < b) : 0 ≤ a % b ∧ a % b < b := ⟨Int.emod_nonneg _ (by omega), Int.emod_lt_of_pos _ h⟩
theorem take_run {many : Int} (hG : G "_law_take" = some b_take) (hs : StOk m n) (h1 : 1 ≤ many) (h2 : many < 1073741824) :
    Ok (run G (k + 1) "_law_take" [.ref n, .b (.int many)] m) fun d m' => ∃ v, d = .b (.int v) ∧ 0 ≤ v ∧ v < many ∧ Upd n m m' := by
  obtain ⟨a, b, hm, ha, hb⟩ := hs
  have hn : n < m.length := (List.getElem?_eq_some_iff.mp hm).1
  refine run_ok hG ⟨rfl, by decide⟩ ?_
  rw [show startE b_take.n [.ref n, .b (.int many)] = [some (.ref n), some (.b (.int many)), none, none] from rfl]
  unfold b_take
  (simp only [↓stk_call, ↓stk_comp, ↓stk_rows, ↓stk_rc, ↓stk_for, ↓stk_whl, ↓stk_said, ↓Br.t, ↓Br.f, Br.t, Br.f, ↓w_var, ↓w_int, ↓w_bool, ↓w_none, ↓w_str, ↓w_glob, ↓w_bin, ↓w_neg, ↓w_not, ↓w_cmp, ↓w_chain, ↓w_and, ↓w_or, ↓w_ife, ↓w_tup, ↓w_lst, ↓w_ix, ↓w_ixR, ↓w_rowc, ↓w_rcomp, ↓w_sl0, ↓w_slL, ↓w_slH, ↓w_slB, ↓w_bi, ↓w_isi, ↓w_op, ↓w_idx, ↓w_sm, isS_s, ↓w_dic, ↓w_me, ↓w_call, ↓w_pick, ↓w_isx, ↓w_comp, ↓w_compI, ↓w_nil, ↓w_cons, ↓w_seq, ↓w_rng1, ↓w_rng2, ↓w_enm, ↓w_zip, ↓w_zip3, ↓s_nil, ↓s_cons, ↓s_set, ↓s_setT, ↓s_setP, ↓s_setI, ↓s_expr, ↓s_ife, ↓s_whl, ↓s_for, ↓s_ret, ↓s_retN, ↓s_pass, ↓s_brk, ↓s_cont, ↓Ok.ok, ↓Ok.bind, Sm.s, Sm.map, Sm.ite, Snap.b, In.i, Bl.b, Rf.r, mk_f, mk_t, ixF_b, ixF_r, ixF_s, pickF_w, isxF_n, isxF_e, biF_len, biF_b, biF_r, opF_w, isL_b, isL_r, Snaps, itSeq_l, itSeq_t, itZip_l, itZip_t, itZip3_w, binP, intBin, cmp_lt, cmp_le, cmp_gt, cmp_ge, cmp_eqi, cmp_nei, cmp_eqb, cmp_neb, cmp_is, cmp_isnot, cmp_isn, cmp_isnotn, isi_int, isi_bool, isi_tup, isi_lst, isi_str, isI, isBo, isTu, isLi, isSt, truth, ixP, slP, biP, owns, own, at_0, at_1, at_2, at_3, set_0, setsD, asgn, asgnT, sets, List.getElem?_cons_zero, List.getElem?_cons_succ, List.set_cons_zero, List.set_cons_succ, List.length_cons, List.length_nil, decide_eq_true_eq, Bool.not_true, Bool.not_false, Bool.not_eq_true', decide_eq_false_iff_not, Bool.true_eq_false, Bool.false_eq_true, if_true, if_false, true_and, Snap.ref hm]; try (first | refine Br.d ?_ | refine Br.nd ?_ | refine Br.nb ?_ | refine Br.b ?_))
  have hp : 0 < many := by omega
  cases b with
  | true =>
    simp only [if_true]
    (simp only [↓stk_call, ↓stk_comp, ↓stk_rows, ↓stk_rc, ↓stk_for, ↓stk_whl, ↓stk_said, ↓Br.t, ↓Br.f, Br.t, Br.f, ↓w_var, ↓w_int, ↓w_bool, ↓w_none, ↓w_str, ↓w_glob, ↓w_bin, ↓w_neg, ↓w_not, ↓w_cmp, ↓w_chain, ↓w_and, ↓w_or, ↓w_ife, ↓w_tup, ↓w_lst, ↓w_ix, ↓w_ixR, ↓w_rowc, ↓w_rcomp, ↓w_sl0, ↓w_slL, ↓w_slH, ↓w_slB, ↓w_bi, ↓w_isi, ↓w_op, ↓w_idx, ↓w_sm, isS_s, ↓w_dic, ↓w_me, ↓w_call, ↓w_pick, ↓w_isx, ↓w_comp, ↓w_compI, ↓w_nil, ↓w_cons, ↓w_seq, ↓w_rng1, ↓w_rng2, ↓w_enm, ↓w_zip, ↓w_zip3, ↓s_nil, ↓s_cons, ↓s_set, ↓s_setT, ↓s_setP, ↓s_setI, ↓s_expr, ↓s_ife, ↓s_whl, ↓s_for, ↓s_ret, ↓s_retN, ↓s_pass, ↓s_brk, ↓s_cont, ↓Ok.ok, ↓Ok.bind, Sm.s, Sm.map, Sm.ite, Snap.b, In.i, Bl.b, Rf.r, mk_f, mk_t, ixF_b, ixF_r, ixF_s, pickF_w, isxF_n, isxF_e, biF_len, biF_b, biF_r, opF_w, isL_b, isL_r, Snaps, itSeq_l, itSeq_t, itZip_l, itZip_t, itZip3_w, binP, intBin, cmp_lt, cmp_le, cmp_gt, cmp_ge, cmp_eqi, cmp_nei, cmp_eqb, cmp_neb, cmp_is, cmp_isnot, cmp_isn, cmp_isnotn, isi_int, isi_bool, isi_tup, isi_lst, isi_str, isI, isBo, isTu, isLi, isSt, truth, ixP, slP, biP, owns, own, at_0, at_1, at_2, at_3, set_0, setsD, asgn, asgnT, sets, List.getElem?_cons_zero, List.getElem?_cons_succ, List.set_cons_zero, List.set_cons_succ, List.length_cons, List.length_nil, decide_eq_true_eq, Bool.not_true, Bool.not_false, Bool.not_eq_true', decide_eq_false_iff_not, Bool.true_eq_false, Bool.false_eq_true, if_true, if_false, true_and, Snap.ref hm, setF_w hm, Snap.set hn, setF_set hn]; try (first | refine Br.d ?_ | refine Br.nd ?_ | refine Br.nb ?_ | refine Br.b ?_))
    refine ⟨hp, ⟨hp, h2⟩, _, rfl, (mod_lt hp).1, (mod_lt hp).2, Upd.set hn (Int.ediv_nonneg ha (by omega)) fun z => by cases z⟩
  | false =>
    (simp only [↓stk_call, ↓stk_comp, ↓stk_rows, ↓stk_rc, ↓stk_for, ↓stk_whl, ↓stk_said, ↓Br.t, ↓Br.f, Br.t, Br.f, ↓w_var, ↓w_int, ↓w_bool, ↓w_none, ↓w_str, ↓w_glob, ↓w_bin, ↓w_neg, ↓w_not, ↓w_cmp, ↓w_chain, ↓w_and, ↓w_or, ↓w_ife, ↓w_tup, ↓w_lst, ↓w_ix, ↓w_ixR, ↓w_rowc, ↓w_rcomp, ↓w_sl0, ↓w_slL, ↓w_slH, ↓w_slB, ↓w_bi, ↓w_isi, ↓w_op, ↓w_idx, ↓w_sm, isS_s, ↓w_dic, ↓w_me, ↓w_call, ↓w_pick, ↓w_isx, ↓w_comp, ↓w_compI, ↓w_nil, ↓w_cons, ↓w_seq, ↓w_rng1, ↓w_rng2, ↓w_enm, ↓w_zip, ↓w_zip3, ↓s_nil, ↓s_cons, ↓s_set, ↓s_setT, ↓s_setP, ↓s_setI, ↓s_expr, ↓s_ife, ↓s_whl, ↓s_for, ↓s_ret, ↓s_retN, ↓s_pass, ↓s_brk, ↓s_cont, ↓Ok.ok, ↓Ok.bind, Sm.s, Sm.map, Sm.ite, Snap.b, In.i, Bl.b, Rf.r, mk_f, mk_t, ixF_b, ixF_r, ixF_s, pickF_w, isxF_n, isxF_e, biF_len, biF_b, biF_r, opF_w, isL_b, isL_r, Snaps, itSeq_l, itSeq_t, itZip_l, itZip_t, itZip3_w, binP, intBin, cmp_lt, cmp_le, cmp_gt, cmp_ge, cmp_eqi, cmp_nei, cmp_eqb, cmp_neb, cmp_is, cmp_isnot, cmp_isn, cmp_isnotn, isi_int, isi_bool, isi_tup, isi_lst, isi_str, isI, isBo, isTu, isLi, isSt, truth, ixP, slP, biP, owns, own, at_0, at_1, at_2, at_3, set_0, setsD, asgn, asgnT, sets, List.getElem?_cons_zero, List.getElem?_cons_succ, List.set_cons_zero, List.set_cons_succ, List.length_cons, List.length_nil, decide_eq_true_eq, Bool.not_true, Bool.not_false, Bool.not_eq_true', decide_eq_false_iff_not, Bool.true_eq_false, Bool.false_eq_true, if_true, if_false, true_and, Snap.ref hm, setF_w hm, Snap.set hn, setF_set hn]; try (first | refine Br.d ?_ | refine Br.nd ?_ | refine Br.nb ?_ | refine Br.b ?_))
    generalize e1 : (a * 48271 + 29) % 2147483647 = s
    have hs := mod_lt (a := a * 48271 + 29) (b := 2147483647) (by decide)
    rw [e1] at hs
    generalize e2 : (s * s + 39373 * s + 7) % 2147483629 = t
    have ht := mod_lt (a := s * s + 39373 * s + 7) (b := 2147483629) (by decide)
    rw [e2] at ht
    generalize e3 : (t * t + 16807 * t) % 2147483587 = u
    refine ⟨by omega, by omega, by omega, by omega, by omega, by omega, by omega, by omega, by omega, by omega, _, rfl, (mod_lt hp).1, (mod_lt hp).2, Upd.set hn hs.1 fun _ => by omega⟩
theorem take_call {many : Int} (hG : G "_law_take" = some b_take) (hs : StOk m n) (h1 : 1 ≤ many) (h2 : many < 1073741824) :
    Ok (callF (run G (k + 1)) r "_law_take" [.ref n, .b (.int many)] m) fun d m' => ∃ v, d = .b (.int v) ∧ 0 ≤ v ∧ v < many ∧ Upd n m m' := by
  refine call_b ((take_run hG hs h1 h2).mono ?_)
  rintro _ m1 ⟨v, rfl, h⟩
  exact ⟨_, rfl, fun _ => rfl, v, rfl, h.1, h.2.1, by rw [h.2.2.take]; exact h.2.2⟩
theorem cell_run {ns : List Int} {i : Int} (hG : G "_law_cell_at" = some b_cell) (h0 : 0 ≤ i) : Ok (run G (k + 1) "_law_cell_at" [.scr ns, .b (.int i)] m) fun d m' => m' = m ∧ ∃ v, d = .b (.int v) := by
  refine run_ok hG ⟨rfl, by decide⟩ ?_
  rw [show startE b_cell.n [.scr ns, .b (.int i)] = [some (.scr ns), some (.b (.int i))] from rfl]
  unfold b_cell
  (simp only [↓stk_call, ↓stk_comp, ↓stk_rows, ↓stk_rc, ↓stk_for, ↓stk_whl, ↓stk_said, ↓Br.t, ↓Br.f, Br.t, Br.f, ↓w_var, ↓w_int, ↓w_bool, ↓w_none, ↓w_str, ↓w_glob, ↓w_bin, ↓w_neg, ↓w_not, ↓w_cmp, ↓w_chain, ↓w_and, ↓w_or, ↓w_ife, ↓w_tup, ↓w_lst, ↓w_ix, ↓w_ixR, ↓w_rowc, ↓w_rcomp, ↓w_sl0, ↓w_slL, ↓w_slH, ↓w_slB, ↓w_bi, ↓w_isi, ↓w_op, ↓w_idx, ↓w_sm, isS_s, ↓w_dic, ↓w_me, ↓w_call, ↓w_pick, ↓w_isx, ↓w_comp, ↓w_compI, ↓w_nil, ↓w_cons, ↓w_seq, ↓w_rng1, ↓w_rng2, ↓w_enm, ↓w_zip, ↓w_zip3, ↓s_nil, ↓s_cons, ↓s_set, ↓s_setT, ↓s_setP, ↓s_setI, ↓s_expr, ↓s_ife, ↓s_whl, ↓s_for, ↓s_ret, ↓s_retN, ↓s_pass, ↓s_brk, ↓s_cont, ↓Ok.ok, ↓Ok.bind, Sm.s, Sm.map, Sm.ite, Snap.b, In.i, Bl.b, Rf.r, mk_f, mk_t, ixF_b, ixF_r, ixF_s, pickF_w, isxF_n, isxF_e, biF_len, biF_b, biF_r, opF_w, isL_b, isL_r, Snaps, itSeq_l, itSeq_t, itZip_l, itZip_t, itZip3_w, binP, intBin, cmp_lt, cmp_le, cmp_gt, cmp_ge, cmp_eqi, cmp_nei, cmp_eqb, cmp_neb, cmp_is, cmp_isnot, cmp_isn, cmp_isnotn, isi_int, isi_bool, isi_tup, isi_lst, isi_str, isI, isBo, isTu, isLi, isSt, truth, ixP, slP, biP, owns, own, at_0, at_1, at_2, at_3, set_0, setsD, asgn, asgnT, sets, List.getElem?_cons_zero, List.getElem?_cons_succ, List.set_cons_zero, List.set_cons_succ, List.length_cons, List.length_nil, decide_eq_true_eq, Bool.not_true, Bool.not_false, Bool.not_eq_true', decide_eq_false_iff_not, Bool.true_eq_false, Bool.false_eq_true, if_true, if_false, true_and]; try (first | refine Br.d ?_ | refine Br.nd ?_ | refine Br.nb ?_ | refine Br.b ?_))
  split
  · rename_i h
    obtain ⟨v, e, _⟩ := at_int h0 h
    (simp only [↓stk_call, ↓stk_comp, ↓stk_rows, ↓stk_rc, ↓stk_for, ↓stk_whl, ↓stk_said, ↓Br.t, ↓Br.f, Br.t, Br.f, ↓w_var, ↓w_int, ↓w_bool, ↓w_none, ↓w_str, ↓w_glob, ↓w_bin, ↓w_neg, ↓w_not, ↓w_cmp, ↓w_chain, ↓w_and, ↓w_or, ↓w_ife, ↓w_tup, ↓w_lst, ↓w_ix, ↓w_ixR, ↓w_rowc, ↓w_rcomp, ↓w_sl0, ↓w_slL, ↓w_slH, ↓w_slB, ↓w_bi, ↓w_isi, ↓w_op, ↓w_idx, ↓w_sm, isS_s, ↓w_dic, ↓w_me, ↓w_call, ↓w_pick, ↓w_isx, ↓w_comp, ↓w_compI, ↓w_nil, ↓w_cons, ↓w_seq, ↓w_rng1, ↓w_rng2, ↓w_enm, ↓w_zip, ↓w_zip3, ↓s_nil, ↓s_cons, ↓s_set, ↓s_setT, ↓s_setP, ↓s_setI, ↓s_expr, ↓s_ife, ↓s_whl, ↓s_for, ↓s_ret, ↓s_retN, ↓s_pass, ↓s_brk, ↓s_cont, ↓Ok.ok, ↓Ok.bind, Sm.s, Sm.map, Sm.ite, Snap.b, In.i, Bl.b, Rf.r, mk_f, mk_t, ixF_b, ixF_r, ixF_s, pickF_w, isxF_n, isxF_e, biF_len, biF_b, biF_r, opF_w, isL_b, isL_r, Snaps, itSeq_l, itSeq_t, itZip_l, itZip_t, itZip3_w, binP, intBin, cmp_lt, cmp_le, cmp_gt, cmp_ge, cmp_eqi, cmp_nei, cmp_eqb, cmp_neb, cmp_is, cmp_isnot, cmp_isn, cmp_isnotn, isi_int, isi_bool, isi_tup, isi_lst, isi_str, isI, isBo, isTu, isLi, isSt, truth, ixP, slP, biP, owns, own, at_0, at_1, at_2, at_3, set_0, setsD, asgn, asgnT, sets, List.getElem?_cons_zero, List.getElem?_cons_succ, List.set_cons_zero, List.set_cons_succ, List.length_cons, List.length_nil, decide_eq_true_eq, Bool.not_true, Bool.not_false, Bool.not_eq_true', decide_eq_false_iff_not, Bool.true_eq_false, Bool.false_eq_true, if_true, if_false, true_and, e]; try (first | refine Br.d ?_ | refine Br.nd ?_ | refine Br.nb ?_ | refine Br.b ?_))
    exact ⟨_, rfl⟩
  · (simp only [↓stk_call, ↓stk_comp, ↓stk_rows, ↓stk_rc, ↓stk_for, ↓stk_whl, ↓stk_said, ↓Br.t, ↓Br.f, Br.t, Br.f, ↓w_var, ↓w_int, ↓w_bool, ↓w_none, ↓w_str, ↓w_glob, ↓w_bin, ↓w_neg, ↓w_not, ↓w_cmp, ↓w_chain, ↓w_and, ↓w_or, ↓w_ife, ↓w_tup, ↓w_lst, ↓w_ix, ↓w_ixR, ↓w_rowc, ↓w_rcomp, ↓w_sl0, ↓w_slL, ↓w_slH, ↓w_slB, ↓w_bi, ↓w_isi, ↓w_op, ↓w_idx, ↓w_sm, isS_s, ↓w_dic, ↓w_me, ↓w_call, ↓w_pick, ↓w_isx, ↓w_comp, ↓w_compI, ↓w_nil, ↓w_cons, ↓w_seq, ↓w_rng1, ↓w_rng2, ↓w_enm, ↓w_zip, ↓w_zip3, ↓s_nil, ↓s_cons, ↓s_set, ↓s_setT, ↓s_setP, ↓s_setI, ↓s_expr, ↓s_ife, ↓s_whl, ↓s_for, ↓s_ret, ↓s_retN, ↓s_pass, ↓s_brk, ↓s_cont, ↓Ok.ok, ↓Ok.bind, Sm.s, Sm.map, Sm.ite, Snap.b, In.i, Bl.b, Rf.r, mk_f, mk_t, ixF_b, ixF_r, ixF_s, pickF_w, isxF_n, isxF_e, biF_len, biF_b, biF_r, opF_w, isL_b, isL_r, Snaps, itSeq_l, itSeq_t, itZip_l, itZip_t, itZip3_w, binP, intBin, cmp_lt, cmp_le, cmp_gt, cmp_ge, cmp_eqi, cmp_nei, cmp_eqb, cmp_neb, cmp_is, cmp_isnot, cmp_isn, cmp_isnotn, isi_int, isi_bool, isi_tup, isi_lst, isi_str, isI, isBo, isTu, isLi, isSt, truth, ixP, slP, biP, owns, own, at_0, at_1, at_2, at_3, set_0, setsD, asgn, asgnT, sets, List.getElem?_cons_zero, List.getElem?_cons_succ, List.set_cons_zero, List.set_cons_succ, List.length_cons, List.length_nil, decide_eq_true_eq, Bool.not_true, Bool.not_false, Bool.not_eq_true', decide_eq_false_iff_not, Bool.true_eq_false, Bool.false_eq_true, if_true, if_false, true_and]; try (first | refine Br.d ?_ | refine Br.nd ?_ | refine Br.nb ?_ | refine Br.b ?_))
    exact ⟨_, rfl⟩
theorem state_run {ns : List Int} {i : Int} (hG : G "_law_state" = some b_state) (hG2 : G "_law_cell_at" = some b_cell) (h0 : 0 ≤ i) :
    Ok (run G (k + 2) "_law_state" [.scr ns, .b (.int i)] m) fun d m' => d = .ref m.length ∧ ∃ a b, m' = m ++ [.lst [.int a, .bool b]] ∧ 0 ≤ a ∧ (b = false → a < 2147483648) := by
  refine run_ok hG ⟨rfl, by decide⟩ ?_
  rw [show startE b_state.n [.scr ns, .b (.int i)] = [some (.scr ns), some (.b (.int i)), none] from rfl]
  unfold b_state
  (simp only [↓stk_call, ↓stk_comp, ↓stk_rows, ↓stk_rc, ↓stk_for, ↓stk_whl, ↓stk_said, ↓Br.t, ↓Br.f, Br.t, Br.f, ↓w_var, ↓w_int, ↓w_bool, ↓w_none, ↓w_str, ↓w_glob, ↓w_bin, ↓w_neg, ↓w_not, ↓w_cmp, ↓w_chain, ↓w_and, ↓w_or, ↓w_ife, ↓w_tup, ↓w_lst, ↓w_ix, ↓w_ixR, ↓w_rowc, ↓w_rcomp, ↓w_sl0, ↓w_slL, ↓w_slH, ↓w_slB, ↓w_bi, ↓w_isi, ↓w_op, ↓w_idx, ↓w_sm, isS_s, ↓w_dic, ↓w_me, ↓w_call, ↓w_pick, ↓w_isx, ↓w_comp, ↓w_compI, ↓w_nil, ↓w_cons, ↓w_seq, ↓w_rng1, ↓w_rng2, ↓w_enm, ↓w_zip, ↓w_zip3, ↓s_nil, ↓s_cons, ↓s_set, ↓s_setT, ↓s_setP, ↓s_setI, ↓s_expr, ↓s_ife, ↓s_whl, ↓s_for, ↓s_ret, ↓s_retN, ↓s_pass, ↓s_brk, ↓s_cont, ↓Ok.ok, ↓Ok.bind, Sm.s, Sm.map, Sm.ite, Snap.b, In.i, Bl.b, Rf.r, mk_f, mk_t, ixF_b, ixF_r, ixF_s, pickF_w, isxF_n, isxF_e, biF_len, biF_b, biF_r, opF_w, isL_b, isL_r, Snaps, itSeq_l, itSeq_t, itZip_l, itZip_t, itZip3_w, binP, intBin, cmp_lt, cmp_le, cmp_gt, cmp_ge, cmp_eqi, cmp_nei, cmp_eqb, cmp_neb, cmp_is, cmp_isnot, cmp_isn, cmp_isnotn, isi_int, isi_bool, isi_tup, isi_lst, isi_str, isI, isBo, isTu, isLi, isSt, truth, ixP, slP, biP, owns, own, at_0, at_1, at_2, at_3, set_0, setsD, asgn, asgnT, sets, List.getElem?_cons_zero, List.getElem?_cons_succ, List.set_cons_zero, List.set_cons_succ, List.length_cons, List.length_nil, decide_eq_true_eq, Bool.not_true, Bool.not_false, Bool.not_eq_true', decide_eq_false_iff_not, Bool.true_eq_false, Bool.false_eq_true, if_true, if_false, true_and]; try (first | refine Br.d ?_ | refine Br.nd ?_ | refine Br.nb ?_ | refine Br.b ?_))
  refine call_b ((cell_run hG2 h0).mono ?_)
  rintro _ m1 ⟨rfl, v, rfl⟩
  refine ⟨_, rfl, fun _ => rfl, ?_⟩
  rw [List.take_length]
  (simp only [↓stk_call, ↓stk_comp, ↓stk_rows, ↓stk_rc, ↓stk_for, ↓stk_whl, ↓stk_said, ↓Br.t, ↓Br.f, Br.t, Br.f, ↓w_var, ↓w_int, ↓w_bool, ↓w_none, ↓w_str, ↓w_glob, ↓w_bin, ↓w_neg, ↓w_not, ↓w_cmp, ↓w_chain, ↓w_and, ↓w_or, ↓w_ife, ↓w_tup, ↓w_lst, ↓w_ix, ↓w_ixR, ↓w_rowc, ↓w_rcomp, ↓w_sl0, ↓w_slL, ↓w_slH, ↓w_slB, ↓w_bi, ↓w_isi, ↓w_op, ↓w_idx, ↓w_sm, isS_s, ↓w_dic, ↓w_me, ↓w_call, ↓w_pick, ↓w_isx, ↓w_comp, ↓w_compI, ↓w_nil, ↓w_cons, ↓w_seq, ↓w_rng1, ↓w_rng2, ↓w_enm, ↓w_zip, ↓w_zip3, ↓s_nil, ↓s_cons, ↓s_set, ↓s_setT, ↓s_setP, ↓s_setI, ↓s_expr, ↓s_ife, ↓s_whl, ↓s_for, ↓s_ret, ↓s_retN, ↓s_pass, ↓s_brk, ↓s_cont, ↓Ok.ok, ↓Ok.bind, Sm.s, Sm.map, Sm.ite, Snap.b, In.i, Bl.b, Rf.r, mk_f, mk_t, ixF_b, ixF_r, ixF_s, pickF_w, isxF_n, isxF_e, biF_len, biF_b, biF_r, opF_w, isL_b, isL_r, Snaps, itSeq_l, itSeq_t, itZip_l, itZip_t, itZip3_w, binP, intBin, cmp_lt, cmp_le, cmp_gt, cmp_ge, cmp_eqi, cmp_nei, cmp_eqb, cmp_neb, cmp_is, cmp_isnot, cmp_isn, cmp_isnotn, isi_int, isi_bool, isi_tup, isi_lst, isi_str, isI, isBo, isTu, isLi, isSt, truth, ixP, slP, biP, owns, own, at_0, at_1, at_2, at_3, set_0, setsD, asgn, asgnT, sets, List.getElem?_cons_zero, List.getElem?_cons_succ, List.set_cons_zero, List.set_cons_succ, List.length_cons, List.length_nil, decide_eq_true_eq, Bool.not_true, Bool.not_false, Bool.not_eq_true', decide_eq_false_iff_not, Bool.true_eq_false, Bool.false_eq_true, if_true, if_false, true_and]; try (first | refine Br.d ?_ | refine Br.nd ?_ | refine Br.nb ?_ | refine Br.b ?_))
  refine ⟨by decide, Br.d ?_⟩
  split
  · rename_i h
    have h : (10 : Int) ^ (18 : Int).toNat ≤ v := h
    (simp only [↓stk_call, ↓stk_comp, ↓stk_rows, ↓stk_rc, ↓stk_for, ↓stk_whl, ↓stk_said, ↓Br.t, ↓Br.f, Br.t, Br.f, ↓w_var, ↓w_int, ↓w_bool, ↓w_none, ↓w_str, ↓w_glob, ↓w_bin, ↓w_neg, ↓w_not, ↓w_cmp, ↓w_chain, ↓w_and, ↓w_or, ↓w_ife, ↓w_tup, ↓w_lst, ↓w_ix, ↓w_ixR, ↓w_rowc, ↓w_rcomp, ↓w_sl0, ↓w_slL, ↓w_slH, ↓w_slB, ↓w_bi, ↓w_isi, ↓w_op, ↓w_idx, ↓w_sm, isS_s, ↓w_dic, ↓w_me, ↓w_call, ↓w_pick, ↓w_isx, ↓w_comp, ↓w_compI, ↓w_nil, ↓w_cons, ↓w_seq, ↓w_rng1, ↓w_rng2, ↓w_enm, ↓w_zip, ↓w_zip3, ↓s_nil, ↓s_cons, ↓s_set, ↓s_setT, ↓s_setP, ↓s_setI, ↓s_expr, ↓s_ife, ↓s_whl, ↓s_for, ↓s_ret, ↓s_retN, ↓s_pass, ↓s_brk, ↓s_cont, ↓Ok.ok, ↓Ok.bind, Sm.s, Sm.map, Sm.ite, Snap.b, In.i, Bl.b, Rf.r, mk_f, mk_t, ixF_b, ixF_r, ixF_s, pickF_w, isxF_n, isxF_e, biF_len, biF_b, biF_r, opF_w, isL_b, isL_r, Snaps, itSeq_l, itSeq_t, itZip_l, itZip_t, itZip3_w, binP, intBin, cmp_lt, cmp_le, cmp_gt, cmp_ge, cmp_eqi, cmp_nei, cmp_eqb, cmp_neb, cmp_is, cmp_isnot, cmp_isn, cmp_isnotn, isi_int, isi_bool, isi_tup, isi_lst, isi_str, isI, isBo, isTu, isLi, isSt, truth, ixP, slP, biP, owns, own, at_0, at_1, at_2, at_3, set_0, setsD, asgn, asgnT, sets, List.getElem?_cons_zero, List.getElem?_cons_succ, List.set_cons_zero, List.set_cons_succ, List.length_cons, List.length_nil, decide_eq_true_eq, Bool.not_true, Bool.not_false, Bool.not_eq_true', decide_eq_false_iff_not, Bool.true_eq_false, Bool.false_eq_true, if_true, if_false, true_and]; try (first | refine Br.d ?_ | refine Br.nd ?_ | refine Br.nb ?_ | refine Br.b ?_))
    refine ⟨by decide, by decide, _, _, rfl, by omega, fun z => by cases z⟩
  · have := mod_lt (a := v) (b := 2147483647) (by decide)
    (simp only [↓stk_call, ↓stk_comp, ↓stk_rows, ↓stk_rc, ↓stk_for, ↓stk_whl, ↓stk_said, ↓Br.t, ↓Br.f, Br.t, Br.f, ↓w_var, ↓w_int, ↓w_bool, ↓w_none, ↓w_str, ↓w_glob, ↓w_bin, ↓w_neg, ↓w_not, ↓w_cmp, ↓w_chain, ↓w_and, ↓w_or, ↓w_ife, ↓w_tup, ↓w_lst, ↓w_ix, ↓w_ixR, ↓w_rowc, ↓w_rcomp, ↓w_sl0, ↓w_slL, ↓w_slH, ↓w_slB, ↓w_bi, ↓w_isi, ↓w_op, ↓w_idx, ↓w_sm, isS_s, ↓w_dic, ↓w_me, ↓w_call, ↓w_pick, ↓w_isx, ↓w_comp, ↓w_compI, ↓w_nil, ↓w_cons, ↓w_seq, ↓w_rng1, ↓w_rng2, ↓w_enm, ↓w_zip, ↓w_zip3, ↓s_nil, ↓s_cons, ↓s_set, ↓s_setT, ↓s_setP, ↓s_setI, ↓s_expr, ↓s_ife, ↓s_whl, ↓s_for, ↓s_ret, ↓s_retN, ↓s_pass, ↓s_brk, ↓s_cont, ↓Ok.ok, ↓Ok.bind, Sm.s, Sm.map, Sm.ite, Snap.b, In.i, Bl.b, Rf.r, mk_f, mk_t, ixF_b, ixF_r, ixF_s, pickF_w, isxF_n, isxF_e, biF_len, biF_b, biF_r, opF_w, isL_b, isL_r, Snaps, itSeq_l, itSeq_t, itZip_l, itZip_t, itZip3_w, binP, intBin, cmp_lt, cmp_le, cmp_gt, cmp_ge, cmp_eqi, cmp_nei, cmp_eqb, cmp_neb, cmp_is, cmp_isnot, cmp_isn, cmp_isnotn, isi_int, isi_bool, isi_tup, isi_lst, isi_str, isI, isBo, isTu, isLi, isSt, truth, ixP, slP, biP, owns, own, at_0, at_1, at_2, at_3, set_0, setsD, asgn, asgnT, sets, List.getElem?_cons_zero, List.getElem?_cons_succ, List.set_cons_zero, List.set_cons_succ, List.length_cons, List.length_nil, decide_eq_true_eq, Bool.not_true, Bool.not_false, Bool.not_eq_true', decide_eq_false_iff_not, Bool.true_eq_false, Bool.false_eq_true, if_true, if_false, true_and]; try (first | refine Br.d ?_ | refine Br.nd ?_ | refine Br.nb ?_ | refine Br.b ?_))
    exact ⟨by decide, by decide, _, _, rfl, this.1, fun _ => by omega⟩
theorem state_call {ns : List Int} {i : Int} (hG : G "_law_state" = some b_state) (hG2 : G "_law_cell_at" = some b_cell) (h0 : 0 ≤ i) :
    Ok (callF (run G (k + 2)) true "_law_state" [.scr ns, .b (.int i)] m) fun d m' => d = .ref m.length ∧ StOk m' m.length ∧ ∃ a b, m' = m ++ [.lst [.int a, .bool b]] := by
  rw [callF_w]
  refine (state_run hG hG2 h0).mono ?_
  rintro _ m1 ⟨rfl, a, b, rfl, ha, hb⟩
  have := leave_new true m m [.int a, .bool b] rfl (fun d m' => d = .ref m.length ∧ StOk m' m.length ∧ ∃ a b, m' = m ++ [.lst [.int a, .bool b]])
  rw [this]
  exact ⟨rfl, ⟨a, b, get_end rfl, ha, hb⟩, a, b, rfl⟩
end
end Z

/-! Z17: what every law's generator does (2): ends, nets. -/
namespace Z
open PySem
def rowL (p : Int) : List PyData := [.int 0] ++ rngP 2 p ++ [.int 1]
def rowV (p i : Int) : Int := if i = 0 then 0 else if i = p - 1 then 1 else i + 1
theorem rngL (a b : Int) : (rngP a b).length = (b - a).toNat := by unfold rngP; rw [List.length_map, List.length_range]
theorem rowL_len {p : Int} (h : 2 ≤ p) : ((rowL p).length : Int) = p := by
  unfold rowL
  simp only [List.length_append, List.length_cons, List.length_nil, rngL]
  omega
theorem row_at {p i : Int} (h : 2 ≤ p) (h0 : 0 ≤ i) (h1 : i < p) : atP (rowL p) i = some (.int (rowV p i)) := by
  have e : ((i.toNat : Nat) : Int) = i := by omega
  have key : (rowL p)[i.toNat]? = some (.int (rowV p i)) := by
    unfold rowL rowV
    by_cases z : i = 0
    · subst z; rfl
    · rw [if_neg z]
      by_cases l : i = p - 1
      · rw [if_pos l, List.getElem?_append_right (by simp [rngL]; omega)]
        have : i.toNat - ([PyData.int 0] ++ rngP 2 p).length = 0 := by simp [rngL]; omega
        rw [this]; rfl
      · rw [if_neg l, List.getElem?_append_left (by simp [rngL]; omega), List.getElem?_append_right (by simp; omega)]
        unfold rngP
        rw [List.getElem?_map, List.getElem?_range (by simp; omega)]
        simp
        omega
  have := at_nat key
  rw [e] at this
  exact this
theorem rowV_ne {p i j : Int} (h : 2 ≤ p) (hi : 0 ≤ i) (hij : i < j) (hj : j < p) : rowV p i ≠ rowV p j := by
  unfold rowV
  split <;> split <;> (try split) <;> (try split) <;> omega
theorem rowV_in {p i : Int} (h : 2 ≤ p) (hi : 0 ≤ i) (hj : i < p) : 0 ≤ rowV p i ∧ rowV p i < p := by
  unfold rowV
  split <;> (try split) <;> omega
theorem min_max {a b p : Int} (h : a ≠ b) (ha : 0 ≤ a ∧ a < p) (hb : 0 ≤ b ∧ b < p) : 0 ≤ (if b < a then b else a) ∧ (if b < a then b else a) < (if b > a then b else a) ∧ (if b > a then b else a) < p := by
  split <;> split <;> omega
section
variable {G : Tab} {k : Nat} {m : Mem} {n : Nat} {r : Bool}
theorem ends_run {p : Int} (hG : G "_law_ends" = some b_ends) (hT : G "_law_take" = some b_take) (hs : StOk m n) (h1 : 2 ≤ p) (h2 : p ≤ 1000) :
    Ok (run G (k + 2) "_law_ends" [.ref n, .b (.int p)] m) fun d m' => ∃ a b, d = .b (.tuple [.int a, .int b]) ∧ 0 ≤ a ∧ a < b ∧ b < p ∧ Upd n m m' := by
  refine run_ok hG ⟨rfl, by decide⟩ ?_
  rw [show startE b_ends.n [.ref n, .b (.int p)] = [some (.ref n), some (.b (.int p)), none, none, none] from rfl]
  unfold b_ends
  have er : [PyData.int 0] ++ rngP 2 p ++ [PyData.int 1] = rowL p := rfl
  (simp only [↓stk_call, ↓stk_comp, ↓stk_rows, ↓stk_rc, ↓stk_for, ↓stk_whl, ↓stk_said, ↓Br.t, ↓Br.f, Br.t, Br.f, ↓w_var, ↓w_int, ↓w_bool, ↓w_none, ↓w_str, ↓w_glob, ↓w_bin, ↓w_neg, ↓w_not, ↓w_cmp, ↓w_chain, ↓w_and, ↓w_or, ↓w_ife, ↓w_tup, ↓w_lst, ↓w_ix, ↓w_ixR, ↓w_rowc, ↓w_rcomp, ↓w_sl0, ↓w_slL, ↓w_slH, ↓w_slB, ↓w_bi, ↓w_isi, ↓w_op, ↓w_idx, ↓w_sm, isS_s, ↓w_dic, ↓w_me, ↓w_call, ↓w_pick, ↓w_isx, ↓w_comp, ↓w_compI, ↓w_nil, ↓w_cons, ↓w_seq, ↓w_rng1, ↓w_rng2, ↓w_enm, ↓w_zip, ↓w_zip3, ↓s_nil, ↓s_cons, ↓s_set, ↓s_setT, ↓s_setP, ↓s_setI, ↓s_expr, ↓s_ife, ↓s_whl, ↓s_for, ↓s_ret, ↓s_retN, ↓s_pass, ↓s_brk, ↓s_cont, ↓Ok.ok, ↓Ok.bind, Sm.s, Sm.map, Sm.ite, Snap.b, In.i, Bl.b, Rf.r, mk_f, mk_t, ixF_b, ixF_r, ixF_s, pickF_w, isxF_n, isxF_e, biF_len, biF_b, biF_r, opF_w, isL_b, isL_r, Snaps, itSeq_l, itSeq_t, itZip_l, itZip_t, itZip3_w, binP, intBin, cmp_lt, cmp_le, cmp_gt, cmp_ge, cmp_eqi, cmp_nei, cmp_eqb, cmp_neb, cmp_is, cmp_isnot, cmp_isn, cmp_isnotn, isi_int, isi_bool, isi_tup, isi_lst, isi_str, isI, isBo, isTu, isLi, isSt, truth, ixP, slP, biP, owns, own, at_0, at_1, at_2, at_3, set_0, setsD, asgn, asgnT, sets, List.getElem?_cons_zero, List.getElem?_cons_succ, List.set_cons_zero, List.set_cons_succ, List.length_cons, List.length_nil, decide_eq_true_eq, Bool.not_true, Bool.not_false, Bool.not_eq_true', decide_eq_false_iff_not, Bool.true_eq_false, Bool.false_eq_true, if_true, if_false, true_and, er]; try (first | refine Br.d ?_ | refine Br.nd ?_ | refine Br.nb ?_ | refine Br.b ?_))
  have hr : rngOk 2 p = true := by unfold rngOk; exact decide_eq_true (by omega)
  refine ⟨len0 _ (by decide), hr, len0 _ (by simp [rngL]; omega), len0 _ (by decide), len0 _ (by simp [rngL]; omega), ?_⟩
  refine (take_call hT hs (by omega) (by omega)).mono ?_
  rintro _ m1 ⟨v, rfl, v0, v1, u1⟩
  (simp only [↓stk_call, ↓stk_comp, ↓stk_rows, ↓stk_rc, ↓stk_for, ↓stk_whl, ↓stk_said, ↓Br.t, ↓Br.f, Br.t, Br.f, ↓w_var, ↓w_int, ↓w_bool, ↓w_none, ↓w_str, ↓w_glob, ↓w_bin, ↓w_neg, ↓w_not, ↓w_cmp, ↓w_chain, ↓w_and, ↓w_or, ↓w_ife, ↓w_tup, ↓w_lst, ↓w_ix, ↓w_ixR, ↓w_rowc, ↓w_rcomp, ↓w_sl0, ↓w_slL, ↓w_slH, ↓w_slB, ↓w_bi, ↓w_isi, ↓w_op, ↓w_idx, ↓w_sm, isS_s, ↓w_dic, ↓w_me, ↓w_call, ↓w_pick, ↓w_isx, ↓w_comp, ↓w_compI, ↓w_nil, ↓w_cons, ↓w_seq, ↓w_rng1, ↓w_rng2, ↓w_enm, ↓w_zip, ↓w_zip3, ↓s_nil, ↓s_cons, ↓s_set, ↓s_setT, ↓s_setP, ↓s_setI, ↓s_expr, ↓s_ife, ↓s_whl, ↓s_for, ↓s_ret, ↓s_retN, ↓s_pass, ↓s_brk, ↓s_cont, ↓Ok.ok, ↓Ok.bind, Sm.s, Sm.map, Sm.ite, Snap.b, In.i, Bl.b, Rf.r, mk_f, mk_t, ixF_b, ixF_r, ixF_s, pickF_w, isxF_n, isxF_e, biF_len, biF_b, biF_r, opF_w, isL_b, isL_r, Snaps, itSeq_l, itSeq_t, itZip_l, itZip_t, itZip3_w, binP, intBin, cmp_lt, cmp_le, cmp_gt, cmp_ge, cmp_eqi, cmp_nei, cmp_eqb, cmp_neb, cmp_is, cmp_isnot, cmp_isn, cmp_isnotn, isi_int, isi_bool, isi_tup, isi_lst, isi_str, isI, isBo, isTu, isLi, isSt, truth, ixP, slP, biP, owns, own, at_0, at_1, at_2, at_3, set_0, setsD, asgn, asgnT, sets, List.getElem?_cons_zero, List.getElem?_cons_succ, List.set_cons_zero, List.set_cons_succ, List.length_cons, List.length_nil, decide_eq_true_eq, Bool.not_true, Bool.not_false, Bool.not_eq_true', decide_eq_false_iff_not, Bool.true_eq_false, Bool.false_eq_true, if_true, if_false, true_and]; try (first | refine Br.d ?_ | refine Br.nd ?_ | refine Br.nb ?_ | refine Br.b ?_))
  refine (take_call hT u1.ok (by omega) (by omega)).mono ?_
  rintro _ m2 ⟨w, rfl, w0, w1, u2⟩
  (simp only [↓stk_call, ↓stk_comp, ↓stk_rows, ↓stk_rc, ↓stk_for, ↓stk_whl, ↓stk_said, ↓Br.t, ↓Br.f, Br.t, Br.f, ↓w_var, ↓w_int, ↓w_bool, ↓w_none, ↓w_str, ↓w_glob, ↓w_bin, ↓w_neg, ↓w_not, ↓w_cmp, ↓w_chain, ↓w_and, ↓w_or, ↓w_ife, ↓w_tup, ↓w_lst, ↓w_ix, ↓w_ixR, ↓w_rowc, ↓w_rcomp, ↓w_sl0, ↓w_slL, ↓w_slH, ↓w_slB, ↓w_bi, ↓w_isi, ↓w_op, ↓w_idx, ↓w_sm, isS_s, ↓w_dic, ↓w_me, ↓w_call, ↓w_pick, ↓w_isx, ↓w_comp, ↓w_compI, ↓w_nil, ↓w_cons, ↓w_seq, ↓w_rng1, ↓w_rng2, ↓w_enm, ↓w_zip, ↓w_zip3, ↓s_nil, ↓s_cons, ↓s_set, ↓s_setT, ↓s_setP, ↓s_setI, ↓s_expr, ↓s_ife, ↓s_whl, ↓s_for, ↓s_ret, ↓s_retN, ↓s_pass, ↓s_brk, ↓s_cont, ↓Ok.ok, ↓Ok.bind, Sm.s, Sm.map, Sm.ite, Snap.b, In.i, Bl.b, Rf.r, mk_f, mk_t, ixF_b, ixF_r, ixF_s, pickF_w, isxF_n, isxF_e, biF_len, biF_b, biF_r, opF_w, isL_b, isL_r, Snaps, itSeq_l, itSeq_t, itZip_l, itZip_t, itZip3_w, binP, intBin, cmp_lt, cmp_le, cmp_gt, cmp_ge, cmp_eqi, cmp_nei, cmp_eqb, cmp_neb, cmp_is, cmp_isnot, cmp_isn, cmp_isnotn, isi_int, isi_bool, isi_tup, isi_lst, isi_str, isI, isBo, isTu, isLi, isSt, truth, ixP, slP, biP, owns, own, at_0, at_1, at_2, at_3, set_0, setsD, asgn, asgnT, sets, List.getElem?_cons_zero, List.getElem?_cons_succ, List.set_cons_zero, List.set_cons_succ, List.length_cons, List.length_nil, decide_eq_true_eq, Bool.not_true, Bool.not_false, Bool.not_eq_true', decide_eq_false_iff_not, Bool.true_eq_false, Bool.false_eq_true, if_true, if_false, true_and, er, row_at h1 v0 (show v < p by omega), row_at h1 (show 0 ≤ v + 1 by omega) (show v + 1 < p by omega)]; try (first | refine Br.d ?_ | refine Br.nd ?_ | refine Br.nb ?_ | refine Br.b ?_))
  split
  · (simp only [↓stk_call, ↓stk_comp, ↓stk_rows, ↓stk_rc, ↓stk_for, ↓stk_whl, ↓stk_said, ↓Br.t, ↓Br.f, Br.t, Br.f, ↓w_var, ↓w_int, ↓w_bool, ↓w_none, ↓w_str, ↓w_glob, ↓w_bin, ↓w_neg, ↓w_not, ↓w_cmp, ↓w_chain, ↓w_and, ↓w_or, ↓w_ife, ↓w_tup, ↓w_lst, ↓w_ix, ↓w_ixR, ↓w_rowc, ↓w_rcomp, ↓w_sl0, ↓w_slL, ↓w_slH, ↓w_slB, ↓w_bi, ↓w_isi, ↓w_op, ↓w_idx, ↓w_sm, isS_s, ↓w_dic, ↓w_me, ↓w_call, ↓w_pick, ↓w_isx, ↓w_comp, ↓w_compI, ↓w_nil, ↓w_cons, ↓w_seq, ↓w_rng1, ↓w_rng2, ↓w_enm, ↓w_zip, ↓w_zip3, ↓s_nil, ↓s_cons, ↓s_set, ↓s_setT, ↓s_setP, ↓s_setI, ↓s_expr, ↓s_ife, ↓s_whl, ↓s_for, ↓s_ret, ↓s_retN, ↓s_pass, ↓s_brk, ↓s_cont, ↓Ok.ok, ↓Ok.bind, Sm.s, Sm.map, Sm.ite, Snap.b, In.i, Bl.b, Rf.r, mk_f, mk_t, ixF_b, ixF_r, ixF_s, pickF_w, isxF_n, isxF_e, biF_len, biF_b, biF_r, opF_w, isL_b, isL_r, Snaps, itSeq_l, itSeq_t, itZip_l, itZip_t, itZip3_w, binP, intBin, cmp_lt, cmp_le, cmp_gt, cmp_ge, cmp_eqi, cmp_nei, cmp_eqb, cmp_neb, cmp_is, cmp_isnot, cmp_isn, cmp_isnotn, isi_int, isi_bool, isi_tup, isi_lst, isi_str, isI, isBo, isTu, isLi, isSt, truth, ixP, slP, biP, owns, own, at_0, at_1, at_2, at_3, set_0, setsD, asgn, asgnT, sets, List.getElem?_cons_zero, List.getElem?_cons_succ, List.set_cons_zero, List.set_cons_succ, List.length_cons, List.length_nil, decide_eq_true_eq, Bool.not_true, Bool.not_false, Bool.not_eq_true', decide_eq_false_iff_not, Bool.true_eq_false, Bool.false_eq_true, if_true, if_false, true_and]; try (first | refine Br.d ?_ | refine Br.nd ?_ | refine Br.nb ?_ | refine Br.b ?_))
    refine (take_call hT u2.ok (by omega) (by omega)).mono ?_
    rintro _ m3 ⟨x, rfl, x0, x1, u3⟩
    (simp only [↓stk_call, ↓stk_comp, ↓stk_rows, ↓stk_rc, ↓stk_for, ↓stk_whl, ↓stk_said, ↓Br.t, ↓Br.f, Br.t, Br.f, ↓w_var, ↓w_int, ↓w_bool, ↓w_none, ↓w_str, ↓w_glob, ↓w_bin, ↓w_neg, ↓w_not, ↓w_cmp, ↓w_chain, ↓w_and, ↓w_or, ↓w_ife, ↓w_tup, ↓w_lst, ↓w_ix, ↓w_ixR, ↓w_rowc, ↓w_rcomp, ↓w_sl0, ↓w_slL, ↓w_slH, ↓w_slB, ↓w_bi, ↓w_isi, ↓w_op, ↓w_idx, ↓w_sm, isS_s, ↓w_dic, ↓w_me, ↓w_call, ↓w_pick, ↓w_isx, ↓w_comp, ↓w_compI, ↓w_nil, ↓w_cons, ↓w_seq, ↓w_rng1, ↓w_rng2, ↓w_enm, ↓w_zip, ↓w_zip3, ↓s_nil, ↓s_cons, ↓s_set, ↓s_setT, ↓s_setP, ↓s_setI, ↓s_expr, ↓s_ife, ↓s_whl, ↓s_for, ↓s_ret, ↓s_retN, ↓s_pass, ↓s_brk, ↓s_cont, ↓Ok.ok, ↓Ok.bind, Sm.s, Sm.map, Sm.ite, Snap.b, In.i, Bl.b, Rf.r, mk_f, mk_t, ixF_b, ixF_r, ixF_s, pickF_w, isxF_n, isxF_e, biF_len, biF_b, biF_r, opF_w, isL_b, isL_r, Snaps, itSeq_l, itSeq_t, itZip_l, itZip_t, itZip3_w, binP, intBin, cmp_lt, cmp_le, cmp_gt, cmp_ge, cmp_eqi, cmp_nei, cmp_eqb, cmp_neb, cmp_is, cmp_isnot, cmp_isn, cmp_isnotn, isi_int, isi_bool, isi_tup, isi_lst, isi_str, isI, isBo, isTu, isLi, isSt, truth, ixP, slP, biP, owns, own, at_0, at_1, at_2, at_3, set_0, setsD, asgn, asgnT, sets, List.getElem?_cons_zero, List.getElem?_cons_succ, List.set_cons_zero, List.set_cons_succ, List.length_cons, List.length_nil, decide_eq_true_eq, Bool.not_true, Bool.not_false, Bool.not_eq_true', decide_eq_false_iff_not, Bool.true_eq_false, Bool.false_eq_true, if_true, if_false, true_and, er, row_at h1 v0 (show v < p by omega), row_at h1 (show 0 ≤ v + 1 + x by omega) (show v + 1 + x < p by omega)]; try (first | refine Br.d ?_ | refine Br.nd ?_ | refine Br.nb ?_ | refine Br.b ?_))
    have q := min_max (rowV_ne (j := v + 1 + x) h1 v0 (by omega) (by omega)) (rowV_in h1 v0 (by omega)) (rowV_in h1 (by omega) (by omega))
    exact ⟨len0 _ (by decide), _, _, rfl, q.1, q.2.1, q.2.2, u1.trans (u2.trans u3)⟩
  · have q := min_max (rowV_ne (j := v + 1) h1 v0 (by omega) (by omega)) (rowV_in h1 v0 (by omega)) (rowV_in h1 (by omega) (by omega))
    (simp only [↓stk_call, ↓stk_comp, ↓stk_rows, ↓stk_rc, ↓stk_for, ↓stk_whl, ↓stk_said, ↓Br.t, ↓Br.f, Br.t, Br.f, ↓w_var, ↓w_int, ↓w_bool, ↓w_none, ↓w_str, ↓w_glob, ↓w_bin, ↓w_neg, ↓w_not, ↓w_cmp, ↓w_chain, ↓w_and, ↓w_or, ↓w_ife, ↓w_tup, ↓w_lst, ↓w_ix, ↓w_ixR, ↓w_rowc, ↓w_rcomp, ↓w_sl0, ↓w_slL, ↓w_slH, ↓w_slB, ↓w_bi, ↓w_isi, ↓w_op, ↓w_idx, ↓w_sm, isS_s, ↓w_dic, ↓w_me, ↓w_call, ↓w_pick, ↓w_isx, ↓w_comp, ↓w_compI, ↓w_nil, ↓w_cons, ↓w_seq, ↓w_rng1, ↓w_rng2, ↓w_enm, ↓w_zip, ↓w_zip3, ↓s_nil, ↓s_cons, ↓s_set, ↓s_setT, ↓s_setP, ↓s_setI, ↓s_expr, ↓s_ife, ↓s_whl, ↓s_for, ↓s_ret, ↓s_retN, ↓s_pass, ↓s_brk, ↓s_cont, ↓Ok.ok, ↓Ok.bind, Sm.s, Sm.map, Sm.ite, Snap.b, In.i, Bl.b, Rf.r, mk_f, mk_t, ixF_b, ixF_r, ixF_s, pickF_w, isxF_n, isxF_e, biF_len, biF_b, biF_r, opF_w, isL_b, isL_r, Snaps, itSeq_l, itSeq_t, itZip_l, itZip_t, itZip3_w, binP, intBin, cmp_lt, cmp_le, cmp_gt, cmp_ge, cmp_eqi, cmp_nei, cmp_eqb, cmp_neb, cmp_is, cmp_isnot, cmp_isn, cmp_isnotn, isi_int, isi_bool, isi_tup, isi_lst, isi_str, isI, isBo, isTu, isLi, isSt, truth, ixP, slP, biP, owns, own, at_0, at_1, at_2, at_3, set_0, setsD, asgn, asgnT, sets, List.getElem?_cons_zero, List.getElem?_cons_succ, List.set_cons_zero, List.set_cons_succ, List.length_cons, List.length_nil, decide_eq_true_eq, Bool.not_true, Bool.not_false, Bool.not_eq_true', decide_eq_false_iff_not, Bool.true_eq_false, Bool.false_eq_true, if_true, if_false, true_and, er, row_at h1 v0 (show v < p by omega), row_at h1 (show 0 ≤ v + 1 by omega) (show v + 1 < p by omega)]; try (first | refine Br.d ?_ | refine Br.nd ?_ | refine Br.nb ?_ | refine Br.b ?_))
    exact ⟨len0 _ (by decide), _, _, rfl, q.1, q.2.1, q.2.2, u1.trans u2⟩
end
end Z

/-! Z18: what every law's generator does (3): nets. -/
namespace Z
open PySem
theorem cut_lo {α : Type} (xs : List α) (j : Nat) : cutP xs (some (j : Int)) none = xs.drop j := by
  unfold cutP
  rw [show HT.sIx xs.length 0 (some (j : Int)) = min j xs.length from HT.sIx_nat xs.length 0 j, HT.sIx_none]
  by_cases h : j ≤ xs.length
  · rw [Nat.min_eq_left h, List.take_of_length_le (by rw [List.length_drop]; omega)]
  · rw [Nat.min_eq_right (by omega), List.drop_eq_nil_of_le (Nat.le_refl _), List.take_nil, List.drop_eq_nil_of_le (by omega)]
theorem cut_hi {α : Type} (xs : List α) (j : Nat) : cutP xs none (some (j : Int)) = xs.take j := by
  unfold cutP
  rw [show HT.sIx xs.length xs.length (some (j : Int)) = min j xs.length from HT.sIx_nat xs.length xs.length j, HT.sIx_none]
  by_cases h : j ≤ xs.length
  · rw [Nat.min_eq_left h]; rfl
  · rw [Nat.min_eq_right (by omega), List.take_of_length_le (by simp), List.take_of_length_le (by omega)]; rfl
theorem row_get {p : Int} {i : Nat} (h : 2 ≤ p) (h1 : (i : Int) < p) : (rowL p)[i]? = some (.int (rowV p i)) := by
  have hl := rowL_len h
  have q := row_at h (Int.natCast_nonneg i) h1
  have hi : i < (rowL p).length := by omega
  have := (at_nat (List.getElem?_eq_getElem hi)).symm.trans q
  rw [List.getElem?_eq_getElem hi, this]
def GoodC (s p : Int) (c : PyData) : Prop := ∃ a b w o : Int, c = .tuple [.int a, .int b, .int w, .int o] ∧ 0 ≤ a ∧ a < b ∧ b < p ∧ 0 ≤ w ∧ w < s ∧ 0 ≤ o ∧ o < 2
section
variable {G : Tab} {k : Nat} {m : Mem} {n : Nat} {r : Bool}
theorem ends_call {p : Int} (hG : G "_law_ends" = some b_ends) (hT : G "_law_take" = some b_take) (hs : StOk m n) (h1 : 2 ≤ p) (h2 : p ≤ 1000) :
    Ok (callF (run G (k + 2)) r "_law_ends" [.ref n, .b (.int p)] m) fun d m' => ∃ a b, d = .b (.tuple [.int a, .int b]) ∧ 0 ≤ a ∧ a < b ∧ b < p ∧ Upd n m m' := by
  refine call_b ((ends_run hG hT hs h1 h2).mono ?_)
  rintro _ m1 ⟨a, b, rfl, h⟩
  exact ⟨_, rfl, fun _ => rfl, a, b, rfl, h.1, h.2.1, h.2.2.1, by rw [h.2.2.2.take]; exact h.2.2.2⟩
def NetP (ms mp mc : Int) (d : PyData) : Prop := ∃ s p cs, d = .tuple [.int s, .int p, .tuple cs] ∧ 1 ≤ s ∧ s ≤ ms ∧ 2 ≤ p ∧ p ≤ mp ∧ (cs.length : Int) ≤ mc ∧ ∀ c ∈ cs, GoodC s p c
abbrev KR (n : Nat) (m : Mem) (ms mp mc : Int) : Ks := ⟨fun _ m' => ∃ x m1 t, D.b .none = .b x ∧ NetP ms mp mc x ∧ m' = m1 ++ t ∧ Upd n m m1, fun d m' => ∃ x m1 t, d = .b x ∧ NetP ms mp mc x ∧ m' = m1 ++ t ∧ Upd n m m1, fun _ _ => False, fun _ _ => False⟩
/-- the contacts mixed -/
theorem net_r2 {ms mp mc s p : Int} {o1 o2 o3 o4 o5 : Option D} {o7 : D} {m1 : Mem} {rows : List PyData} (hT : G "_law_take" = some b_take) (u : Upd n m m1) (hn : n < m.length) (hs1 : 1 ≤ s) (hs2 : s ≤ ms) (hp1 : 2 ≤ p) (hp2 : p ≤ mp) (hc : (rows.length : Int) ≤ mc) (hmc : mc ≤ 1000) (hr : ∀ c ∈ rows, GoodC s p c) :
    SOk (evSs (run G (k + 1)) net_rest2 [some (.ref n), some (.b (.int ms)), some (.b (.int mp)), some (.b (.int mc)), some (.b (.int s)), some (.b (.int p)), some (.ref m.length), some o7, o1, o2, o3, o4, o5] (m1 ++ [.lst rows])) (KR n m ms mp mc) := by
  unfold net_rest2
  (simp only [↓stk_call, ↓stk_comp, ↓stk_rows, ↓stk_rc, ↓stk_for, ↓stk_whl, ↓stk_said, ↓Br.t, ↓Br.f, Br.t, Br.f, ↓w_var, ↓w_int, ↓w_bool, ↓w_none, ↓w_str, ↓w_glob, ↓w_bin, ↓w_neg, ↓w_not, ↓w_cmp, ↓w_chain, ↓w_and, ↓w_or, ↓w_ife, ↓w_tup, ↓w_lst, ↓w_ix, ↓w_ixR, ↓w_rowc, ↓w_rcomp, ↓w_sl0, ↓w_slL, ↓w_slH, ↓w_slB, ↓w_bi, ↓w_isi, ↓w_op, ↓w_idx, ↓w_sm, isS_s, ↓w_dic, ↓w_me, ↓w_call, ↓w_pick, ↓w_isx, ↓w_comp, ↓w_compI, ↓w_nil, ↓w_cons, ↓w_seq, ↓w_rng1, ↓w_rng2, ↓w_enm, ↓w_zip, ↓w_zip3, ↓s_nil, ↓s_cons, ↓s_set, ↓s_setT, ↓s_setP, ↓s_setI, ↓s_expr, ↓s_ife, ↓s_whl, ↓s_for, ↓s_ret, ↓s_retN, ↓s_pass, ↓s_brk, ↓s_cont, ↓Ok.ok, ↓Ok.bind, Sm.s, Sm.map, Sm.ite, Snap.b, In.i, Bl.b, Rf.r, mk_f, mk_t, ixF_b, ixF_r, ixF_s, pickF_w, isxF_n, isxF_e, biF_len, biF_b, biF_r, opF_w, isL_b, isL_r, Snaps, itSeq_l, itSeq_t, itZip_l, itZip_t, itZip3_w, binP, intBin, cmp_lt, cmp_le, cmp_gt, cmp_ge, cmp_eqi, cmp_nei, cmp_eqb, cmp_neb, cmp_is, cmp_isnot, cmp_isn, cmp_isnotn, isi_int, isi_bool, isi_tup, isi_lst, isi_str, isI, isBo, isTu, isLi, isSt, truth, ixP, slP, biP, owns, own, at_0, at_1, at_2, at_3, set_0, setsD, asgn, asgnT, sets, List.getElem?_cons_zero, List.getElem?_cons_succ, List.set_cons_zero, List.set_cons_succ, List.length_cons, List.length_nil, decide_eq_true_eq, Bool.not_true, Bool.not_false, Bool.not_eq_true', decide_eq_false_iff_not, Bool.true_eq_false, Bool.false_eq_true, if_true, if_false, true_and]; try (first | refine Br.d ?_ | refine Br.nd ?_ | refine Br.nb ?_ | refine Br.b ?_))
  refine ⟨len0 _ (by decide), ?_⟩
  have e1 : (m1 ++ [MO.lst rows]).length = m.length + 1 := by rw [List.length_append, u.len]; rfl
  rw [e1, List.append_assoc]
  (simp only [↓stk_call, ↓stk_comp, ↓stk_rows, ↓stk_rc, ↓stk_for, ↓stk_whl, ↓stk_said, ↓Br.t, ↓Br.f, Br.t, Br.f, ↓w_var, ↓w_int, ↓w_bool, ↓w_none, ↓w_str, ↓w_glob, ↓w_bin, ↓w_neg, ↓w_not, ↓w_cmp, ↓w_chain, ↓w_and, ↓w_or, ↓w_ife, ↓w_tup, ↓w_lst, ↓w_ix, ↓w_ixR, ↓w_rowc, ↓w_rcomp, ↓w_sl0, ↓w_slL, ↓w_slH, ↓w_slB, ↓w_bi, ↓w_isi, ↓w_op, ↓w_idx, ↓w_sm, isS_s, ↓w_dic, ↓w_me, ↓w_call, ↓w_pick, ↓w_isx, ↓w_comp, ↓w_compI, ↓w_nil, ↓w_cons, ↓w_seq, ↓w_rng1, ↓w_rng2, ↓w_enm, ↓w_zip, ↓w_zip3, ↓s_nil, ↓s_cons, ↓s_set, ↓s_setT, ↓s_setP, ↓s_setI, ↓s_expr, ↓s_ife, ↓s_whl, ↓s_for, ↓s_ret, ↓s_retN, ↓s_pass, ↓s_brk, ↓s_cont, ↓Ok.ok, ↓Ok.bind, Sm.s, Sm.map, Sm.ite, Snap.b, In.i, Bl.b, Rf.r, mk_f, mk_t, ixF_b, ixF_r, ixF_s, pickF_w, isxF_n, isxF_e, biF_len, biF_b, biF_r, opF_w, isL_b, isL_r, Snaps, itSeq_l, itSeq_t, itZip_l, itZip_t, itZip3_w, binP, intBin, cmp_lt, cmp_le, cmp_gt, cmp_ge, cmp_eqi, cmp_nei, cmp_eqb, cmp_neb, cmp_is, cmp_isnot, cmp_isn, cmp_isnotn, isi_int, isi_bool, isi_tup, isi_lst, isi_str, isI, isBo, isTu, isLi, isSt, truth, ixP, slP, biP, owns, own, at_0, at_1, at_2, at_3, set_0, setsD, asgn, asgnT, sets, List.getElem?_cons_zero, List.getElem?_cons_succ, List.set_cons_zero, List.set_cons_succ, List.length_cons, List.length_nil, decide_eq_true_eq, Bool.not_true, Bool.not_false, Bool.not_eq_true', decide_eq_false_iff_not, Bool.true_eq_false, Bool.false_eq_true, if_true, if_false, true_and, List.singleton_append, itSeq_r (get_end (t := [.lst []]) (o := .lst rows) u.len)]; try (first | refine Br.d ?_ | refine Br.nd ?_ | refine Br.nb ?_ | refine Br.b ?_))
  refine for_ok (fun i δ mm => ∃ oc m2 mixed, δ = [some (.ref n), some (.b (.int ms)), some (.b (.int mp)), some (.b (.int mc)), some (.b (.int s)), some (.b (.int p)), some (.ref m.length), some o7, o1, some (.ref (m.length + 1)), oc, o4, o5] ∧ mm = m2 ++ [.lst rows, .lst mixed] ∧ Upd n m m2 ∧ mixed.length = i ∧ ∀ c ∈ mixed, GoodC s p c) ?_ ?_ ?_
  · exact ⟨_, m1, [], rfl, rfl, u, rfl, fun c h => nomatch h⟩
  · rintro i x δ mm hx ⟨oc, m2, mixed, rfl, rfl, u2, hl, hm⟩
    have hi : i < rows.length := (List.getElem?_eq_some_iff.mp hx).1
    refine ⟨get_end u2.len, ?_⟩
    (simp only [↓stk_call, ↓stk_comp, ↓stk_rows, ↓stk_rc, ↓stk_for, ↓stk_whl, ↓stk_said, ↓Br.t, ↓Br.f, Br.t, Br.f, ↓w_var, ↓w_int, ↓w_bool, ↓w_none, ↓w_str, ↓w_glob, ↓w_bin, ↓w_neg, ↓w_not, ↓w_cmp, ↓w_chain, ↓w_and, ↓w_or, ↓w_ife, ↓w_tup, ↓w_lst, ↓w_ix, ↓w_ixR, ↓w_rowc, ↓w_rcomp, ↓w_sl0, ↓w_slL, ↓w_slH, ↓w_slB, ↓w_bi, ↓w_isi, ↓w_op, ↓w_idx, ↓w_sm, isS_s, ↓w_dic, ↓w_me, ↓w_call, ↓w_pick, ↓w_isx, ↓w_comp, ↓w_compI, ↓w_nil, ↓w_cons, ↓w_seq, ↓w_rng1, ↓w_rng2, ↓w_enm, ↓w_zip, ↓w_zip3, ↓s_nil, ↓s_cons, ↓s_set, ↓s_setT, ↓s_setP, ↓s_setI, ↓s_expr, ↓s_ife, ↓s_whl, ↓s_for, ↓s_ret, ↓s_retN, ↓s_pass, ↓s_brk, ↓s_cont, ↓Ok.ok, ↓Ok.bind, Sm.s, Sm.map, Sm.ite, Snap.b, In.i, Bl.b, Rf.r, mk_f, mk_t, ixF_b, ixF_r, ixF_s, pickF_w, isxF_n, isxF_e, biF_len, biF_b, biF_r, opF_w, isL_b, isL_r, Snaps, itSeq_l, itSeq_t, itZip_l, itZip_t, itZip3_w, binP, intBin, cmp_lt, cmp_le, cmp_gt, cmp_ge, cmp_eqi, cmp_nei, cmp_eqb, cmp_neb, cmp_is, cmp_isnot, cmp_isn, cmp_isnotn, isi_int, isi_bool, isi_tup, isi_lst, isi_str, isI, isBo, isTu, isLi, isSt, truth, ixP, slP, biP, owns, own, at_0, at_1, at_2, at_3, set_0, setsD, asgn, asgnT, sets, List.getElem?_cons_zero, List.getElem?_cons_succ, List.set_cons_zero, List.set_cons_succ, List.length_cons, List.length_nil, decide_eq_true_eq, Bool.not_true, Bool.not_false, Bool.not_eq_true', decide_eq_false_iff_not, Bool.true_eq_false, Bool.false_eq_true, if_true, if_false, true_and, biF_r, Snap.ref (get_end1 (t := []) (a := .lst rows) (o := .lst mixed) u2.len)]; try (first | refine Br.d ?_ | refine Br.nd ?_ | refine Br.nb ?_ | refine Br.b ?_))
    refine (take_call hT u2.ok.app (by omega) (by omega)).mono ?_
    rintro _ mm2 ⟨v, rfl, v0, v1, u3⟩
    obtain ⟨m3, rfl, u3'⟩ := u3.split (by rw [u2.len]; exact hn)
    have u4 := u2.trans u3'
    (simp only [↓stk_call, ↓stk_comp, ↓stk_rows, ↓stk_rc, ↓stk_for, ↓stk_whl, ↓stk_said, ↓Br.t, ↓Br.f, Br.t, Br.f, ↓w_var, ↓w_int, ↓w_bool, ↓w_none, ↓w_str, ↓w_glob, ↓w_bin, ↓w_neg, ↓w_not, ↓w_cmp, ↓w_chain, ↓w_and, ↓w_or, ↓w_ife, ↓w_tup, ↓w_lst, ↓w_ix, ↓w_ixR, ↓w_rowc, ↓w_rcomp, ↓w_sl0, ↓w_slL, ↓w_slH, ↓w_slB, ↓w_bi, ↓w_isi, ↓w_op, ↓w_idx, ↓w_sm, isS_s, ↓w_dic, ↓w_me, ↓w_call, ↓w_pick, ↓w_isx, ↓w_comp, ↓w_compI, ↓w_nil, ↓w_cons, ↓w_seq, ↓w_rng1, ↓w_rng2, ↓w_enm, ↓w_zip, ↓w_zip3, ↓s_nil, ↓s_cons, ↓s_set, ↓s_setT, ↓s_setP, ↓s_setI, ↓s_expr, ↓s_ife, ↓s_whl, ↓s_for, ↓s_ret, ↓s_retN, ↓s_pass, ↓s_brk, ↓s_cont, ↓Ok.ok, ↓Ok.bind, Sm.s, Sm.map, Sm.ite, Snap.b, In.i, Bl.b, Rf.r, mk_f, mk_t, ixF_b, ixF_r, ixF_s, pickF_w, isxF_n, isxF_e, biF_len, biF_b, biF_r, opF_w, isL_b, isL_r, Snaps, itSeq_l, itSeq_t, itZip_l, itZip_t, itZip3_w, binP, intBin, cmp_lt, cmp_le, cmp_gt, cmp_ge, cmp_eqi, cmp_nei, cmp_eqb, cmp_neb, cmp_is, cmp_isnot, cmp_isn, cmp_isnotn, isi_int, isi_bool, isi_tup, isi_lst, isi_str, isI, isBo, isTu, isLi, isSt, truth, ixP, slP, biP, owns, own, at_0, at_1, at_2, at_3, set_0, setsD, asgn, asgnT, sets, List.getElem?_cons_zero, List.getElem?_cons_succ, List.set_cons_zero, List.set_cons_succ, List.length_cons, List.length_nil, decide_eq_true_eq, Bool.not_true, Bool.not_false, Bool.not_eq_true', decide_eq_false_iff_not, Bool.true_eq_false, Bool.false_eq_true, if_true, if_false, true_and, meF_w (get_end1 (t := []) (a := .lst rows) (o := .lst mixed) u4.len), meA, meL, set_end1 u4.len]; try (first | refine Br.d ?_ | refine Br.nd ?_ | refine Br.nb ?_ | refine Br.b ?_))
    refine ⟨⟨len0 _ (by omega), v0, by omega⟩, _, m3, _, rfl, rfl, u4, ?_, ?_⟩
    · simp only [List.length_append, List.length_take, List.length_drop, List.length_cons, List.length_nil]
      omega
    · intro c hc
      simp only [List.mem_append, List.mem_singleton] at hc
      rcases hc with (hc | hc) | hc
      · exact hm c (List.mem_of_mem_take hc)
      · subst hc; exact hr c (List.mem_of_getElem? hx)
      · exact hm c (List.mem_of_mem_drop hc)
  · rintro δ mm ⟨oc, m2, mixed, rfl, rfl, u2, hl, hm⟩
    have hl : mixed.length = rows.length := hl
    refine ⟨get_end u2.len, ?_⟩
    (simp only [↓stk_call, ↓stk_comp, ↓stk_rows, ↓stk_rc, ↓stk_for, ↓stk_whl, ↓stk_said, ↓Br.t, ↓Br.f, Br.t, Br.f, ↓w_var, ↓w_int, ↓w_bool, ↓w_none, ↓w_str, ↓w_glob, ↓w_bin, ↓w_neg, ↓w_not, ↓w_cmp, ↓w_chain, ↓w_and, ↓w_or, ↓w_ife, ↓w_tup, ↓w_lst, ↓w_ix, ↓w_ixR, ↓w_rowc, ↓w_rcomp, ↓w_sl0, ↓w_slL, ↓w_slH, ↓w_slB, ↓w_bi, ↓w_isi, ↓w_op, ↓w_idx, ↓w_sm, isS_s, ↓w_dic, ↓w_me, ↓w_call, ↓w_pick, ↓w_isx, ↓w_comp, ↓w_compI, ↓w_nil, ↓w_cons, ↓w_seq, ↓w_rng1, ↓w_rng2, ↓w_enm, ↓w_zip, ↓w_zip3, ↓s_nil, ↓s_cons, ↓s_set, ↓s_setT, ↓s_setP, ↓s_setI, ↓s_expr, ↓s_ife, ↓s_whl, ↓s_for, ↓s_ret, ↓s_retN, ↓s_pass, ↓s_brk, ↓s_cont, ↓Ok.ok, ↓Ok.bind, Sm.s, Sm.map, Sm.ite, Snap.b, In.i, Bl.b, Rf.r, mk_f, mk_t, ixF_b, ixF_r, ixF_s, pickF_w, isxF_n, isxF_e, biF_len, biF_b, biF_r, opF_w, isL_b, isL_r, Snaps, itSeq_l, itSeq_t, itZip_l, itZip_t, itZip3_w, binP, intBin, cmp_lt, cmp_le, cmp_gt, cmp_ge, cmp_eqi, cmp_nei, cmp_eqb, cmp_neb, cmp_is, cmp_isnot, cmp_isn, cmp_isnotn, isi_int, isi_bool, isi_tup, isi_lst, isi_str, isI, isBo, isTu, isLi, isSt, truth, ixP, slP, biP, owns, own, at_0, at_1, at_2, at_3, set_0, setsD, asgn, asgnT, sets, List.getElem?_cons_zero, List.getElem?_cons_succ, List.set_cons_zero, List.set_cons_succ, List.length_cons, List.length_nil, decide_eq_true_eq, Bool.not_true, Bool.not_false, Bool.not_eq_true', decide_eq_false_iff_not, Bool.true_eq_false, Bool.false_eq_true, if_true, if_false, true_and, biF_r, Snap.ref (get_end1 (t := []) (a := .lst rows) (o := .lst mixed) u2.len)]; try (first | refine Br.d ?_ | refine Br.nd ?_ | refine Br.nb ?_ | refine Br.b ?_))
    exact ⟨len0 _ (by decide), _, m2, _, rfl, ⟨s, p, mixed, rfl, hs1, hs2, hp1, hp2, by omega, hm⟩, rfl, u2⟩
theorem net_r1 {ms mp mc s p : Int} {o1 o2 o3 o4 o5 : Option D} {o7 : D} {m1 : Mem} {rows : List PyData} (hT : G "_law_take" = some b_take) (hE : G "_law_ends" = some b_ends) (u : Upd n m m1) (hn : n < m.length) (hs1 : 1 ≤ s) (hs2 : s ≤ ms) (hp1 : 2 ≤ p) (hp2 : p ≤ mp) (hms : ms ≤ 1000) (hmp : mp ≤ 1000) (hc : (rows.length : Int) ≤ mc) (hmc : mc ≤ 1000) (hr : ∀ c ∈ rows, GoodC s p c) :
    SOk (evSs (run G (k + 2)) net_rest1 [some (.ref n), some (.b (.int ms)), some (.b (.int mp)), some (.b (.int mc)), some (.b (.int s)), some (.b (.int p)), some (.ref m.length), some o7, o1, o2, o3, o4, o5] (m1 ++ [.lst rows])) (KR n m ms mp mc) := by
  unfold net_rest1
  (simp only [↓stk_call, ↓stk_comp, ↓stk_rows, ↓stk_rc, ↓stk_for, ↓stk_whl, ↓stk_said, ↓Br.t, ↓Br.f, Br.t, Br.f, ↓w_var, ↓w_int, ↓w_bool, ↓w_none, ↓w_str, ↓w_glob, ↓w_bin, ↓w_neg, ↓w_not, ↓w_cmp, ↓w_chain, ↓w_and, ↓w_or, ↓w_ife, ↓w_tup, ↓w_lst, ↓w_ix, ↓w_ixR, ↓w_rowc, ↓w_rcomp, ↓w_sl0, ↓w_slL, ↓w_slH, ↓w_slB, ↓w_bi, ↓w_isi, ↓w_op, ↓w_idx, ↓w_sm, isS_s, ↓w_dic, ↓w_me, ↓w_call, ↓w_pick, ↓w_isx, ↓w_comp, ↓w_compI, ↓w_nil, ↓w_cons, ↓w_seq, ↓w_rng1, ↓w_rng2, ↓w_enm, ↓w_zip, ↓w_zip3, ↓s_nil, ↓s_cons, ↓s_set, ↓s_setT, ↓s_setP, ↓s_setI, ↓s_expr, ↓s_ife, ↓s_whl, ↓s_for, ↓s_ret, ↓s_retN, ↓s_pass, ↓s_brk, ↓s_cont, ↓Ok.ok, ↓Ok.bind, Sm.s, Sm.map, Sm.ite, Snap.b, In.i, Bl.b, Rf.r, mk_f, mk_t, ixF_b, ixF_r, ixF_s, pickF_w, isxF_n, isxF_e, biF_len, biF_b, biF_r, opF_w, isL_b, isL_r, Snaps, itSeq_l, itSeq_t, itZip_l, itZip_t, itZip3_w, binP, intBin, cmp_lt, cmp_le, cmp_gt, cmp_ge, cmp_eqi, cmp_nei, cmp_eqb, cmp_neb, cmp_is, cmp_isnot, cmp_isn, cmp_isnotn, isi_int, isi_bool, isi_tup, isi_lst, isi_str, isI, isBo, isTu, isLi, isSt, truth, ixP, slP, biP, owns, own, at_0, at_1, at_2, at_3, set_0, setsD, asgn, asgnT, sets, List.getElem?_cons_zero, List.getElem?_cons_succ, List.set_cons_zero, List.set_cons_succ, List.length_cons, List.length_nil, decide_eq_true_eq, Bool.not_true, Bool.not_false, Bool.not_eq_true', decide_eq_false_iff_not, Bool.true_eq_false, Bool.false_eq_true, if_true, if_false, true_and, biF_r, Snap.ref (get_end (t := []) (o := .lst rows) u.len)]; try (first | refine Br.d ?_ | refine Br.nd ?_ | refine Br.nb ?_ | refine Br.b ?_))
  refine (take_call hT u.ok.app (by omega) (by omega)).mono ?_
  rintro _ mm2 ⟨v, rfl, v0, v1, u3⟩
  obtain ⟨m3, rfl, u3'⟩ := u3.split (by rw [u.len]; exact hn)
  have u4 := u.trans u3'
  (simp only [↓stk_call, ↓stk_comp, ↓stk_rows, ↓stk_rc, ↓stk_for, ↓stk_whl, ↓stk_said, ↓Br.t, ↓Br.f, Br.t, Br.f, ↓w_var, ↓w_int, ↓w_bool, ↓w_none, ↓w_str, ↓w_glob, ↓w_bin, ↓w_neg, ↓w_not, ↓w_cmp, ↓w_chain, ↓w_and, ↓w_or, ↓w_ife, ↓w_tup, ↓w_lst, ↓w_ix, ↓w_ixR, ↓w_rowc, ↓w_rcomp, ↓w_sl0, ↓w_slL, ↓w_slH, ↓w_slB, ↓w_bi, ↓w_isi, ↓w_op, ↓w_idx, ↓w_sm, isS_s, ↓w_dic, ↓w_me, ↓w_call, ↓w_pick, ↓w_isx, ↓w_comp, ↓w_compI, ↓w_nil, ↓w_cons, ↓w_seq, ↓w_rng1, ↓w_rng2, ↓w_enm, ↓w_zip, ↓w_zip3, ↓s_nil, ↓s_cons, ↓s_set, ↓s_setT, ↓s_setP, ↓s_setI, ↓s_expr, ↓s_ife, ↓s_whl, ↓s_for, ↓s_ret, ↓s_retN, ↓s_pass, ↓s_brk, ↓s_cont, ↓Ok.ok, ↓Ok.bind, Sm.s, Sm.map, Sm.ite, Snap.b, In.i, Bl.b, Rf.r, mk_f, mk_t, ixF_b, ixF_r, ixF_s, pickF_w, isxF_n, isxF_e, biF_len, biF_b, biF_r, opF_w, isL_b, isL_r, Snaps, itSeq_l, itSeq_t, itZip_l, itZip_t, itZip3_w, binP, intBin, cmp_lt, cmp_le, cmp_gt, cmp_ge, cmp_eqi, cmp_nei, cmp_eqb, cmp_neb, cmp_is, cmp_isnot, cmp_isn, cmp_isnotn, isi_int, isi_bool, isi_tup, isi_lst, isi_str, isI, isBo, isTu, isLi, isSt, truth, ixP, slP, biP, owns, own, at_0, at_1, at_2, at_3, set_0, setsD, asgn, asgnT, sets, List.getElem?_cons_zero, List.getElem?_cons_succ, List.set_cons_zero, List.set_cons_succ, List.length_cons, List.length_nil, decide_eq_true_eq, Bool.not_true, Bool.not_false, Bool.not_eq_true', decide_eq_false_iff_not, Bool.true_eq_false, Bool.false_eq_true, if_true, if_false, true_and]; try (first | refine Br.d ?_ | refine Br.nd ?_ | refine Br.nb ?_ | refine Br.b ?_))
  refine ⟨by unfold rngOk; exact decide_eq_true (by omega), ?_⟩
  refine for_ok (fun i δ mm => ∃ oc m2 rows', δ = [some (.ref n), some (.b (.int ms)), some (.b (.int mp)), some (.b (.int mc)), some (.b (.int s)), some (.b (.int p)), some (.ref m.length), some o7, oc, o2, o3, o4, o5] ∧ mm = m2 ++ [.lst rows'] ∧ Upd n m m2 ∧ rows'.length = rows.length + i ∧ ∀ c ∈ rows', GoodC s p c) ?_ ?_ ?_
  · exact ⟨_, m3, rows, rfl, rfl, u4, rfl, hr⟩
  · rintro i x δ mm hx ⟨oc, m2, rows', rfl, rfl, u2, hl, hm⟩
    have hi : i < (rngP 0 v).length := (List.getElem?_eq_some_iff.mp hx).1
    rw [rngL] at hi
    refine ⟨trivial, ?_⟩
    (simp only [↓stk_call, ↓stk_comp, ↓stk_rows, ↓stk_rc, ↓stk_for, ↓stk_whl, ↓stk_said, ↓Br.t, ↓Br.f, Br.t, Br.f, ↓w_var, ↓w_int, ↓w_bool, ↓w_none, ↓w_str, ↓w_glob, ↓w_bin, ↓w_neg, ↓w_not, ↓w_cmp, ↓w_chain, ↓w_and, ↓w_or, ↓w_ife, ↓w_tup, ↓w_lst, ↓w_ix, ↓w_ixR, ↓w_rowc, ↓w_rcomp, ↓w_sl0, ↓w_slL, ↓w_slH, ↓w_slB, ↓w_bi, ↓w_isi, ↓w_op, ↓w_idx, ↓w_sm, isS_s, ↓w_dic, ↓w_me, ↓w_call, ↓w_pick, ↓w_isx, ↓w_comp, ↓w_compI, ↓w_nil, ↓w_cons, ↓w_seq, ↓w_rng1, ↓w_rng2, ↓w_enm, ↓w_zip, ↓w_zip3, ↓s_nil, ↓s_cons, ↓s_set, ↓s_setT, ↓s_setP, ↓s_setI, ↓s_expr, ↓s_ife, ↓s_whl, ↓s_for, ↓s_ret, ↓s_retN, ↓s_pass, ↓s_brk, ↓s_cont, ↓Ok.ok, ↓Ok.bind, Sm.s, Sm.map, Sm.ite, Snap.b, In.i, Bl.b, Rf.r, mk_f, mk_t, ixF_b, ixF_r, ixF_s, pickF_w, isxF_n, isxF_e, biF_len, biF_b, biF_r, opF_w, isL_b, isL_r, Snaps, itSeq_l, itSeq_t, itZip_l, itZip_t, itZip3_w, binP, intBin, cmp_lt, cmp_le, cmp_gt, cmp_ge, cmp_eqi, cmp_nei, cmp_eqb, cmp_neb, cmp_is, cmp_isnot, cmp_isn, cmp_isnotn, isi_int, isi_bool, isi_tup, isi_lst, isi_str, isI, isBo, isTu, isLi, isSt, truth, ixP, slP, biP, owns, own, at_0, at_1, at_2, at_3, set_0, setsD, asgn, asgnT, sets, List.getElem?_cons_zero, List.getElem?_cons_succ, List.set_cons_zero, List.set_cons_succ, List.length_cons, List.length_nil, decide_eq_true_eq, Bool.not_true, Bool.not_false, Bool.not_eq_true', decide_eq_false_iff_not, Bool.true_eq_false, Bool.false_eq_true, if_true, if_false, true_and]; try (first | refine Br.d ?_ | refine Br.nd ?_ | refine Br.nb ?_ | refine Br.b ?_))
    refine (ends_call hE hT u2.ok.app (by omega) (by omega)).mono ?_
    rintro _ mm5 ⟨a, b, rfl, a0, ab, bp, u5⟩
    obtain ⟨m5, rfl, u5'⟩ := u5.split (by rw [u2.len]; exact hn)
    (simp only [↓stk_call, ↓stk_comp, ↓stk_rows, ↓stk_rc, ↓stk_for, ↓stk_whl, ↓stk_said, ↓Br.t, ↓Br.f, Br.t, Br.f, ↓w_var, ↓w_int, ↓w_bool, ↓w_none, ↓w_str, ↓w_glob, ↓w_bin, ↓w_neg, ↓w_not, ↓w_cmp, ↓w_chain, ↓w_and, ↓w_or, ↓w_ife, ↓w_tup, ↓w_lst, ↓w_ix, ↓w_ixR, ↓w_rowc, ↓w_rcomp, ↓w_sl0, ↓w_slL, ↓w_slH, ↓w_slB, ↓w_bi, ↓w_isi, ↓w_op, ↓w_idx, ↓w_sm, isS_s, ↓w_dic, ↓w_me, ↓w_call, ↓w_pick, ↓w_isx, ↓w_comp, ↓w_compI, ↓w_nil, ↓w_cons, ↓w_seq, ↓w_rng1, ↓w_rng2, ↓w_enm, ↓w_zip, ↓w_zip3, ↓s_nil, ↓s_cons, ↓s_set, ↓s_setT, ↓s_setP, ↓s_setI, ↓s_expr, ↓s_ife, ↓s_whl, ↓s_for, ↓s_ret, ↓s_retN, ↓s_pass, ↓s_brk, ↓s_cont, ↓Ok.ok, ↓Ok.bind, Sm.s, Sm.map, Sm.ite, Snap.b, In.i, Bl.b, Rf.r, mk_f, mk_t, ixF_b, ixF_r, ixF_s, pickF_w, isxF_n, isxF_e, biF_len, biF_b, biF_r, opF_w, isL_b, isL_r, Snaps, itSeq_l, itSeq_t, itZip_l, itZip_t, itZip3_w, binP, intBin, cmp_lt, cmp_le, cmp_gt, cmp_ge, cmp_eqi, cmp_nei, cmp_eqb, cmp_neb, cmp_is, cmp_isnot, cmp_isn, cmp_isnotn, isi_int, isi_bool, isi_tup, isi_lst, isi_str, isI, isBo, isTu, isLi, isSt, truth, ixP, slP, biP, owns, own, at_0, at_1, at_2, at_3, set_0, setsD, asgn, asgnT, sets, List.getElem?_cons_zero, List.getElem?_cons_succ, List.set_cons_zero, List.set_cons_succ, List.length_cons, List.length_nil, decide_eq_true_eq, Bool.not_true, Bool.not_false, Bool.not_eq_true', decide_eq_false_iff_not, Bool.true_eq_false, Bool.false_eq_true, if_true, if_false, true_and]; try (first | refine Br.d ?_ | refine Br.nd ?_ | refine Br.nb ?_ | refine Br.b ?_))
    refine (take_call hT u5'.ok.app (by omega) (by omega)).mono ?_
    rintro _ mm6 ⟨sw, rfl, sw0, sw1, u6⟩
    obtain ⟨m6, rfl, u6'⟩ := u6.split (by rw [u5'.len, u2.len]; exact hn)
    (simp only [↓stk_call, ↓stk_comp, ↓stk_rows, ↓stk_rc, ↓stk_for, ↓stk_whl, ↓stk_said, ↓Br.t, ↓Br.f, Br.t, Br.f, ↓w_var, ↓w_int, ↓w_bool, ↓w_none, ↓w_str, ↓w_glob, ↓w_bin, ↓w_neg, ↓w_not, ↓w_cmp, ↓w_chain, ↓w_and, ↓w_or, ↓w_ife, ↓w_tup, ↓w_lst, ↓w_ix, ↓w_ixR, ↓w_rowc, ↓w_rcomp, ↓w_sl0, ↓w_slL, ↓w_slH, ↓w_slB, ↓w_bi, ↓w_isi, ↓w_op, ↓w_idx, ↓w_sm, isS_s, ↓w_dic, ↓w_me, ↓w_call, ↓w_pick, ↓w_isx, ↓w_comp, ↓w_compI, ↓w_nil, ↓w_cons, ↓w_seq, ↓w_rng1, ↓w_rng2, ↓w_enm, ↓w_zip, ↓w_zip3, ↓s_nil, ↓s_cons, ↓s_set, ↓s_setT, ↓s_setP, ↓s_setI, ↓s_expr, ↓s_ife, ↓s_whl, ↓s_for, ↓s_ret, ↓s_retN, ↓s_pass, ↓s_brk, ↓s_cont, ↓Ok.ok, ↓Ok.bind, Sm.s, Sm.map, Sm.ite, Snap.b, In.i, Bl.b, Rf.r, mk_f, mk_t, ixF_b, ixF_r, ixF_s, pickF_w, isxF_n, isxF_e, biF_len, biF_b, biF_r, opF_w, isL_b, isL_r, Snaps, itSeq_l, itSeq_t, itZip_l, itZip_t, itZip3_w, binP, intBin, cmp_lt, cmp_le, cmp_gt, cmp_ge, cmp_eqi, cmp_nei, cmp_eqb, cmp_neb, cmp_is, cmp_isnot, cmp_isn, cmp_isnotn, isi_int, isi_bool, isi_tup, isi_lst, isi_str, isI, isBo, isTu, isLi, isSt, truth, ixP, slP, biP, owns, own, at_0, at_1, at_2, at_3, set_0, setsD, asgn, asgnT, sets, List.getElem?_cons_zero, List.getElem?_cons_succ, List.set_cons_zero, List.set_cons_succ, List.length_cons, List.length_nil, decide_eq_true_eq, Bool.not_true, Bool.not_false, Bool.not_eq_true', decide_eq_false_iff_not, Bool.true_eq_false, Bool.false_eq_true, if_true, if_false, true_and]; try (first | refine Br.d ?_ | refine Br.nd ?_ | refine Br.nb ?_ | refine Br.b ?_))
    refine (take_call hT u6'.ok.app (by omega) (by omega)).mono ?_
    rintro _ mm7 ⟨on, rfl, on0, on1, u7⟩
    obtain ⟨m7, rfl, u7'⟩ := u7.split (by rw [u6'.len, u5'.len, u2.len]; exact hn)
    have u8 := u2.trans (u5'.trans (u6'.trans u7'))
    (simp only [↓stk_call, ↓stk_comp, ↓stk_rows, ↓stk_rc, ↓stk_for, ↓stk_whl, ↓stk_said, ↓Br.t, ↓Br.f, Br.t, Br.f, ↓w_var, ↓w_int, ↓w_bool, ↓w_none, ↓w_str, ↓w_glob, ↓w_bin, ↓w_neg, ↓w_not, ↓w_cmp, ↓w_chain, ↓w_and, ↓w_or, ↓w_ife, ↓w_tup, ↓w_lst, ↓w_ix, ↓w_ixR, ↓w_rowc, ↓w_rcomp, ↓w_sl0, ↓w_slL, ↓w_slH, ↓w_slB, ↓w_bi, ↓w_isi, ↓w_op, ↓w_idx, ↓w_sm, isS_s, ↓w_dic, ↓w_me, ↓w_call, ↓w_pick, ↓w_isx, ↓w_comp, ↓w_compI, ↓w_nil, ↓w_cons, ↓w_seq, ↓w_rng1, ↓w_rng2, ↓w_enm, ↓w_zip, ↓w_zip3, ↓s_nil, ↓s_cons, ↓s_set, ↓s_setT, ↓s_setP, ↓s_setI, ↓s_expr, ↓s_ife, ↓s_whl, ↓s_for, ↓s_ret, ↓s_retN, ↓s_pass, ↓s_brk, ↓s_cont, ↓Ok.ok, ↓Ok.bind, Sm.s, Sm.map, Sm.ite, Snap.b, In.i, Bl.b, Rf.r, mk_f, mk_t, ixF_b, ixF_r, ixF_s, pickF_w, isxF_n, isxF_e, biF_len, biF_b, biF_r, opF_w, isL_b, isL_r, Snaps, itSeq_l, itSeq_t, itZip_l, itZip_t, itZip3_w, binP, intBin, cmp_lt, cmp_le, cmp_gt, cmp_ge, cmp_eqi, cmp_nei, cmp_eqb, cmp_neb, cmp_is, cmp_isnot, cmp_isn, cmp_isnotn, isi_int, isi_bool, isi_tup, isi_lst, isi_str, isI, isBo, isTu, isLi, isSt, truth, ixP, slP, biP, owns, own, at_0, at_1, at_2, at_3, set_0, setsD, asgn, asgnT, sets, List.getElem?_cons_zero, List.getElem?_cons_succ, List.set_cons_zero, List.set_cons_succ, List.length_cons, List.length_nil, decide_eq_true_eq, Bool.not_true, Bool.not_false, Bool.not_eq_true', decide_eq_false_iff_not, Bool.true_eq_false, Bool.false_eq_true, if_true, if_false, true_and, meF_w (get_end (t := []) (o := .lst rows') u8.len), meA, meL, set_end u8.len]; try (first | refine Br.d ?_ | refine Br.nd ?_ | refine Br.nb ?_ | refine Br.b ?_))
    refine ⟨len0 _ (by decide), len0 _ (by simp), by show _ < 16777216; omega, _, m7, _, rfl, rfl, u8, by rw [List.length_append, hl]; rfl, ?_⟩
    intro c hc
    rcases List.mem_append.mp hc with hc | hc
    · exact hm c hc
    · rw [List.mem_singleton.mp hc]
      exact ⟨a, b, sw, on, rfl, a0, ab, bp, sw0, sw1, on0, on1⟩
  · rintro δ mm ⟨oc, m2, rows', rfl, rfl, u2, hl, hm⟩
    have hl : rows'.length = rows.length + (rngP 0 v).length := hl
    rw [rngL] at hl
    refine ⟨trivial, ?_⟩
    exact net_r2 (k := k + 1) hT u2 hn hs1 hs2 hp1 hp2 (by omega) hmc hm
theorem net_run {ms mp mc : Int} (hG : G "_law_net" = some b_net) (hT : G "_law_take" = some b_take) (hE : G "_law_ends" = some b_ends) (hs : StOk m n) (h1 : 1 ≤ ms) (h2 : ms ≤ 1000) (h3 : 2 ≤ mp) (h4 : mp ≤ 1000) (h5 : 0 ≤ mc) (h6 : mc ≤ 1000) :
    Ok (run G (k + 3) "_law_net" [.ref n, .b (.int ms), .b (.int mp), .b (.int mc)] m) fun d m' => ∃ x m1 t, d = .b x ∧ NetP ms mp mc x ∧ m' = m1 ++ t ∧ Upd n m m1 := by
  have hn := hs.lt
  refine run_ok hG ⟨rfl, by decide⟩ ?_
  rw [show startE b_net.n [.ref n, .b (.int ms), .b (.int mp), .b (.int mc)] = [some (.ref n), some (.b (.int ms)), some (.b (.int mp)), some (.b (.int mc)), none, none, none, none, none, none, none, none, none] from rfl]
  unfold b_net
  (simp only [↓stk_call, ↓stk_comp, ↓stk_rows, ↓stk_rc, ↓stk_for, ↓stk_whl, ↓stk_said, ↓Br.t, ↓Br.f, Br.t, Br.f, ↓w_var, ↓w_int, ↓w_bool, ↓w_none, ↓w_str, ↓w_glob, ↓w_bin, ↓w_neg, ↓w_not, ↓w_cmp, ↓w_chain, ↓w_and, ↓w_or, ↓w_ife, ↓w_tup, ↓w_lst, ↓w_ix, ↓w_ixR, ↓w_rowc, ↓w_rcomp, ↓w_sl0, ↓w_slL, ↓w_slH, ↓w_slB, ↓w_bi, ↓w_isi, ↓w_op, ↓w_idx, ↓w_sm, isS_s, ↓w_dic, ↓w_me, ↓w_call, ↓w_pick, ↓w_isx, ↓w_comp, ↓w_compI, ↓w_nil, ↓w_cons, ↓w_seq, ↓w_rng1, ↓w_rng2, ↓w_enm, ↓w_zip, ↓w_zip3, ↓s_nil, ↓s_cons, ↓s_set, ↓s_setT, ↓s_setP, ↓s_setI, ↓s_expr, ↓s_ife, ↓s_whl, ↓s_for, ↓s_ret, ↓s_retN, ↓s_pass, ↓s_brk, ↓s_cont, ↓Ok.ok, ↓Ok.bind, Sm.s, Sm.map, Sm.ite, Snap.b, In.i, Bl.b, Rf.r, mk_f, mk_t, ixF_b, ixF_r, ixF_s, pickF_w, isxF_n, isxF_e, biF_len, biF_b, biF_r, opF_w, isL_b, isL_r, Snaps, itSeq_l, itSeq_t, itZip_l, itZip_t, itZip3_w, binP, intBin, cmp_lt, cmp_le, cmp_gt, cmp_ge, cmp_eqi, cmp_nei, cmp_eqb, cmp_neb, cmp_is, cmp_isnot, cmp_isn, cmp_isnotn, isi_int, isi_bool, isi_tup, isi_lst, isi_str, isI, isBo, isTu, isLi, isSt, truth, ixP, slP, biP, owns, own, at_0, at_1, at_2, at_3, set_0, setsD, asgn, asgnT, sets, List.getElem?_cons_zero, List.getElem?_cons_succ, List.set_cons_zero, List.set_cons_succ, List.length_cons, List.length_nil, decide_eq_true_eq, Bool.not_true, Bool.not_false, Bool.not_eq_true', decide_eq_false_iff_not, Bool.true_eq_false, Bool.false_eq_true, if_true, if_false, true_and]; try (first | refine Br.d ?_ | refine Br.nd ?_ | refine Br.nb ?_ | refine Br.b ?_))
  refine (take_call hT hs (by omega) (by omega)).mono ?_
  rintro _ m1 ⟨v, rfl, v0, v1, u1⟩
  (simp only [↓stk_call, ↓stk_comp, ↓stk_rows, ↓stk_rc, ↓stk_for, ↓stk_whl, ↓stk_said, ↓Br.t, ↓Br.f, Br.t, Br.f, ↓w_var, ↓w_int, ↓w_bool, ↓w_none, ↓w_str, ↓w_glob, ↓w_bin, ↓w_neg, ↓w_not, ↓w_cmp, ↓w_chain, ↓w_and, ↓w_or, ↓w_ife, ↓w_tup, ↓w_lst, ↓w_ix, ↓w_ixR, ↓w_rowc, ↓w_rcomp, ↓w_sl0, ↓w_slL, ↓w_slH, ↓w_slB, ↓w_bi, ↓w_isi, ↓w_op, ↓w_idx, ↓w_sm, isS_s, ↓w_dic, ↓w_me, ↓w_call, ↓w_pick, ↓w_isx, ↓w_comp, ↓w_compI, ↓w_nil, ↓w_cons, ↓w_seq, ↓w_rng1, ↓w_rng2, ↓w_enm, ↓w_zip, ↓w_zip3, ↓s_nil, ↓s_cons, ↓s_set, ↓s_setT, ↓s_setP, ↓s_setI, ↓s_expr, ↓s_ife, ↓s_whl, ↓s_for, ↓s_ret, ↓s_retN, ↓s_pass, ↓s_brk, ↓s_cont, ↓Ok.ok, ↓Ok.bind, Sm.s, Sm.map, Sm.ite, Snap.b, In.i, Bl.b, Rf.r, mk_f, mk_t, ixF_b, ixF_r, ixF_s, pickF_w, isxF_n, isxF_e, biF_len, biF_b, biF_r, opF_w, isL_b, isL_r, Snaps, itSeq_l, itSeq_t, itZip_l, itZip_t, itZip3_w, binP, intBin, cmp_lt, cmp_le, cmp_gt, cmp_ge, cmp_eqi, cmp_nei, cmp_eqb, cmp_neb, cmp_is, cmp_isnot, cmp_isn, cmp_isnotn, isi_int, isi_bool, isi_tup, isi_lst, isi_str, isI, isBo, isTu, isLi, isSt, truth, ixP, slP, biP, owns, own, at_0, at_1, at_2, at_3, set_0, setsD, asgn, asgnT, sets, List.getElem?_cons_zero, List.getElem?_cons_succ, List.set_cons_zero, List.set_cons_succ, List.length_cons, List.length_nil, decide_eq_true_eq, Bool.not_true, Bool.not_false, Bool.not_eq_true', decide_eq_false_iff_not, Bool.true_eq_false, Bool.false_eq_true, if_true, if_false, true_and]; try (first | refine Br.d ?_ | refine Br.nd ?_ | refine Br.nb ?_ | refine Br.b ?_))
  refine (take_call hT u1.ok (by omega) (by omega)).mono ?_
  rintro _ m2 ⟨w, rfl, w0, w1, u2⟩
  have u12 := u1.trans u2
  (simp only [↓stk_call, ↓stk_comp, ↓stk_rows, ↓stk_rc, ↓stk_for, ↓stk_whl, ↓stk_said, ↓Br.t, ↓Br.f, Br.t, Br.f, ↓w_var, ↓w_int, ↓w_bool, ↓w_none, ↓w_str, ↓w_glob, ↓w_bin, ↓w_neg, ↓w_not, ↓w_cmp, ↓w_chain, ↓w_and, ↓w_or, ↓w_ife, ↓w_tup, ↓w_lst, ↓w_ix, ↓w_ixR, ↓w_rowc, ↓w_rcomp, ↓w_sl0, ↓w_slL, ↓w_slH, ↓w_slB, ↓w_bi, ↓w_isi, ↓w_op, ↓w_idx, ↓w_sm, isS_s, ↓w_dic, ↓w_me, ↓w_call, ↓w_pick, ↓w_isx, ↓w_comp, ↓w_compI, ↓w_nil, ↓w_cons, ↓w_seq, ↓w_rng1, ↓w_rng2, ↓w_enm, ↓w_zip, ↓w_zip3, ↓s_nil, ↓s_cons, ↓s_set, ↓s_setT, ↓s_setP, ↓s_setI, ↓s_expr, ↓s_ife, ↓s_whl, ↓s_for, ↓s_ret, ↓s_retN, ↓s_pass, ↓s_brk, ↓s_cont, ↓Ok.ok, ↓Ok.bind, Sm.s, Sm.map, Sm.ite, Snap.b, In.i, Bl.b, Rf.r, mk_f, mk_t, ixF_b, ixF_r, ixF_s, pickF_w, isxF_n, isxF_e, biF_len, biF_b, biF_r, opF_w, isL_b, isL_r, Snaps, itSeq_l, itSeq_t, itZip_l, itZip_t, itZip3_w, binP, intBin, cmp_lt, cmp_le, cmp_gt, cmp_ge, cmp_eqi, cmp_nei, cmp_eqb, cmp_neb, cmp_is, cmp_isnot, cmp_isn, cmp_isnotn, isi_int, isi_bool, isi_tup, isi_lst, isi_str, isI, isBo, isTu, isLi, isSt, truth, ixP, slP, biP, owns, own, at_0, at_1, at_2, at_3, set_0, setsD, asgn, asgnT, sets, List.getElem?_cons_zero, List.getElem?_cons_succ, List.set_cons_zero, List.set_cons_succ, List.length_cons, List.length_nil, decide_eq_true_eq, Bool.not_true, Bool.not_false, Bool.not_eq_true', decide_eq_false_iff_not, Bool.true_eq_false, Bool.false_eq_true, if_true, if_false, true_and]; try (first | refine Br.d ?_ | refine Br.nd ?_ | refine Br.nb ?_ | refine Br.b ?_))
  have er : [PyData.int 0] ++ rngP 2 (2 + w) ++ [PyData.int 1] = rowL (2 + w) := rfl
  refine ⟨len0 _ (by decide), len0 _ (by decide), by unfold rngOk; exact decide_eq_true (by omega), len0 _ (by simp [rngL]; omega), len0 _ (by decide), len0 _ (by simp [rngL]; omega), ?_⟩
  rw [u12.len]
  refine (take_call hT u12.ok.app (by omega) (by omega)).mono ?_
  rintro _ mm3 ⟨x, rfl, x0, x1, u3⟩
  obtain ⟨m3, rfl, u3'⟩ := u3.split (by rw [u12.len]; exact hn)
  have u := u12.trans u3'
  (simp only [↓stk_call, ↓stk_comp, ↓stk_rows, ↓stk_rc, ↓stk_for, ↓stk_whl, ↓stk_said, ↓Br.t, ↓Br.f, Br.t, Br.f, ↓w_var, ↓w_int, ↓w_bool, ↓w_none, ↓w_str, ↓w_glob, ↓w_bin, ↓w_neg, ↓w_not, ↓w_cmp, ↓w_chain, ↓w_and, ↓w_or, ↓w_ife, ↓w_tup, ↓w_lst, ↓w_ix, ↓w_ixR, ↓w_rowc, ↓w_rcomp, ↓w_sl0, ↓w_slL, ↓w_slH, ↓w_slB, ↓w_bi, ↓w_isi, ↓w_op, ↓w_idx, ↓w_sm, isS_s, ↓w_dic, ↓w_me, ↓w_call, ↓w_pick, ↓w_isx, ↓w_comp, ↓w_compI, ↓w_nil, ↓w_cons, ↓w_seq, ↓w_rng1, ↓w_rng2, ↓w_enm, ↓w_zip, ↓w_zip3, ↓s_nil, ↓s_cons, ↓s_set, ↓s_setT, ↓s_setP, ↓s_setI, ↓s_expr, ↓s_ife, ↓s_whl, ↓s_for, ↓s_ret, ↓s_retN, ↓s_pass, ↓s_brk, ↓s_cont, ↓Ok.ok, ↓Ok.bind, Sm.s, Sm.map, Sm.ite, Snap.b, In.i, Bl.b, Rf.r, mk_f, mk_t, ixF_b, ixF_r, ixF_s, pickF_w, isxF_n, isxF_e, biF_len, biF_b, biF_r, opF_w, isL_b, isL_r, Snaps, itSeq_l, itSeq_t, itZip_l, itZip_t, itZip3_w, binP, intBin, cmp_lt, cmp_le, cmp_gt, cmp_ge, cmp_eqi, cmp_nei, cmp_eqb, cmp_neb, cmp_is, cmp_isnot, cmp_isn, cmp_isnotn, isi_int, isi_bool, isi_tup, isi_lst, isi_str, isI, isBo, isTu, isLi, isSt, truth, ixP, slP, biP, owns, own, at_0, at_1, at_2, at_3, set_0, setsD, asgn, asgnT, sets, List.getElem?_cons_zero, List.getElem?_cons_succ, List.set_cons_zero, List.set_cons_succ, List.length_cons, List.length_nil, decide_eq_true_eq, Bool.not_true, Bool.not_false, Bool.not_eq_true', decide_eq_false_iff_not, Bool.true_eq_false, Bool.false_eq_true, if_true, if_false, true_and, er]; try (first | refine Br.d ?_ | refine Br.nd ?_ | refine Br.nb ?_ | refine Br.b ?_))
  have rest : ∀ (o1 o2 o3 o4 o5 : Option D) (m1 : Mem) (rows : List PyData), Upd n m m1 → (rows.length : Int) ≤ mc → (∀ c ∈ rows, GoodC (1 + v) (2 + w) c) → SOk (evSs (run G (k + 2)) net_rest1 [some (.ref n), some (.b (.int ms)), some (.b (.int mp)), some (.b (.int mc)), some (.b (.int (1 + v))), some (.b (.int (2 + w))), some (.ref m.length), some (.b (.list (rowL (2 + w)))), o1, o2, o3, o4, o5] (m1 ++ [.lst rows])) (KR n m ms mp mc) :=
    fun o1 o2 o3 o4 o5 m1 rows u hl hr => net_r1 hT hE u hn (by omega) (by omega) (by omega) (by omega) h2 h4 hl h6 hr
  have flat : ∀ o1 o2 o3 o4 o5, SOk (evSs (run G (k + 2)) net_rest1 [some (.ref n), some (.b (.int ms)), some (.b (.int mp)), some (.b (.int mc)), some (.b (.int (1 + v))), some (.b (.int (2 + w))), some (.ref m.length), some (.b (.list (rowL (2 + w)))), o1, o2, o3, o4, o5] (m3 ++ [.lst []])) (KR n m ms mp mc) :=
    fun o1 o2 o3 o4 o5 => rest o1 o2 o3 o4 o5 m3 [] u (by simpa using h5) (fun c h => nomatch h)
  split
  · (simp only [↓stk_call, ↓stk_comp, ↓stk_rows, ↓stk_rc, ↓stk_for, ↓stk_whl, ↓stk_said, ↓Br.t, ↓Br.f, Br.t, Br.f, ↓w_var, ↓w_int, ↓w_bool, ↓w_none, ↓w_str, ↓w_glob, ↓w_bin, ↓w_neg, ↓w_not, ↓w_cmp, ↓w_chain, ↓w_and, ↓w_or, ↓w_ife, ↓w_tup, ↓w_lst, ↓w_ix, ↓w_ixR, ↓w_rowc, ↓w_rcomp, ↓w_sl0, ↓w_slL, ↓w_slH, ↓w_slB, ↓w_bi, ↓w_isi, ↓w_op, ↓w_idx, ↓w_sm, isS_s, ↓w_dic, ↓w_me, ↓w_call, ↓w_pick, ↓w_isx, ↓w_comp, ↓w_compI, ↓w_nil, ↓w_cons, ↓w_seq, ↓w_rng1, ↓w_rng2, ↓w_enm, ↓w_zip, ↓w_zip3, ↓s_nil, ↓s_cons, ↓s_set, ↓s_setT, ↓s_setP, ↓s_setI, ↓s_expr, ↓s_ife, ↓s_whl, ↓s_for, ↓s_ret, ↓s_retN, ↓s_pass, ↓s_brk, ↓s_cont, ↓Ok.ok, ↓Ok.bind, Sm.s, Sm.map, Sm.ite, Snap.b, In.i, Bl.b, Rf.r, mk_f, mk_t, ixF_b, ixF_r, ixF_s, pickF_w, isxF_n, isxF_e, biF_len, biF_b, biF_r, opF_w, isL_b, isL_r, Snaps, itSeq_l, itSeq_t, itZip_l, itZip_t, itZip3_w, binP, intBin, cmp_lt, cmp_le, cmp_gt, cmp_ge, cmp_eqi, cmp_nei, cmp_eqb, cmp_neb, cmp_is, cmp_isnot, cmp_isn, cmp_isnotn, isi_int, isi_bool, isi_tup, isi_lst, isi_str, isI, isBo, isTu, isLi, isSt, truth, ixP, slP, biP, owns, own, at_0, at_1, at_2, at_3, set_0, setsD, asgn, asgnT, sets, List.getElem?_cons_zero, List.getElem?_cons_succ, List.set_cons_zero, List.set_cons_succ, List.length_cons, List.length_nil, decide_eq_true_eq, Bool.not_true, Bool.not_false, Bool.not_eq_true', decide_eq_false_iff_not, Bool.true_eq_false, Bool.false_eq_true, if_true, if_false, true_and, er]; try (first | refine Br.d ?_ | refine Br.nd ?_ | refine Br.nb ?_ | refine Br.b ?_))
    split
    · rename_i hple
      (simp only [↓stk_call, ↓stk_comp, ↓stk_rows, ↓stk_rc, ↓stk_for, ↓stk_whl, ↓stk_said, ↓Br.t, ↓Br.f, Br.t, Br.f, ↓w_var, ↓w_int, ↓w_bool, ↓w_none, ↓w_str, ↓w_glob, ↓w_bin, ↓w_neg, ↓w_not, ↓w_cmp, ↓w_chain, ↓w_and, ↓w_or, ↓w_ife, ↓w_tup, ↓w_lst, ↓w_ix, ↓w_ixR, ↓w_rowc, ↓w_rcomp, ↓w_sl0, ↓w_slL, ↓w_slH, ↓w_slB, ↓w_bi, ↓w_isi, ↓w_op, ↓w_idx, ↓w_sm, isS_s, ↓w_dic, ↓w_me, ↓w_call, ↓w_pick, ↓w_isx, ↓w_comp, ↓w_compI, ↓w_nil, ↓w_cons, ↓w_seq, ↓w_rng1, ↓w_rng2, ↓w_enm, ↓w_zip, ↓w_zip3, ↓s_nil, ↓s_cons, ↓s_set, ↓s_setT, ↓s_setP, ↓s_setI, ↓s_expr, ↓s_ife, ↓s_whl, ↓s_for, ↓s_ret, ↓s_retN, ↓s_pass, ↓s_brk, ↓s_cont, ↓Ok.ok, ↓Ok.bind, Sm.s, Sm.map, Sm.ite, Snap.b, In.i, Bl.b, Rf.r, mk_f, mk_t, ixF_b, ixF_r, ixF_s, pickF_w, isxF_n, isxF_e, biF_len, biF_b, biF_r, opF_w, isL_b, isL_r, Snaps, itSeq_l, itSeq_t, itZip_l, itZip_t, itZip3_w, binP, intBin, cmp_lt, cmp_le, cmp_gt, cmp_ge, cmp_eqi, cmp_nei, cmp_eqb, cmp_neb, cmp_is, cmp_isnot, cmp_isn, cmp_isnotn, isi_int, isi_bool, isi_tup, isi_lst, isi_str, isI, isBo, isTu, isLi, isSt, truth, ixP, slP, biP, owns, own, at_0, at_1, at_2, at_3, set_0, setsD, asgn, asgnT, sets, List.getElem?_cons_zero, List.getElem?_cons_succ, List.set_cons_zero, List.set_cons_succ, List.length_cons, List.length_nil, decide_eq_true_eq, Bool.not_true, Bool.not_false, Bool.not_eq_true', decide_eq_false_iff_not, Bool.true_eq_false, Bool.false_eq_true, if_true, if_false, true_and, er]; try (first | refine Br.d ?_ | refine Br.nd ?_ | refine Br.nb ?_ | refine Br.b ?_))
      have hz : rowL (2 + w) = rowL (2 + w) := rfl
      have ec : cutP (rowL (2 + w)) (some 1) none = (rowL (2 + w)).drop 1 := cut_lo _ 1
      rw [ec]
      have hp : (2 : Int) ≤ 2 + w := by omega
      have hl := rowL_len hp
      have item : ∀ (i : Nat) x, (pairs (rowL (2 + w)) ((rowL (2 + w)).drop 1))[i]? = some x → (i : Int) + 1 < 2 + w ∧ x = .tuple [.int (rowV (2 + w) i), .int (rowV (2 + w) (i + 1))] := fun i x hx => by
        obtain ⟨a, b, e1, e2, rfl⟩ := pair_get hx
        rw [List.getElem?_drop, Nat.add_comm] at e2
        have hi := (List.getElem?_eq_some_iff.mp e2).1
        rw [row_get hp (by omega)] at e1 e2
        cases e1
        cases e2
        exact ⟨by omega, rfl⟩
      refine for_ok (fun i δ mm => ∃ o1 o2 m2 rows, δ = [some (.ref n), some (.b (.int ms)), some (.b (.int mp)), some (.b (.int mc)), some (.b (.int (1 + v))), some (.b (.int (2 + w))), some (.ref m.length), some (.b (.list (rowL (2 + w)))), none, none, none, o1, o2] ∧ mm = m2 ++ [.lst rows] ∧ Upd n m m2 ∧ rows.length = i ∧ ∀ c ∈ rows, GoodC (1 + v) (2 + w) c) ?_ ?_ ?_
      · exact ⟨_, _, m3, [], rfl, rfl, u, rfl, fun c h => nomatch h⟩
      · rintro i x δ mm hx ⟨o1, o2, m4, rows, rfl, rfl, u4, hl4, hr⟩
        obtain ⟨hi, rfl⟩ := item i x hx
        refine ⟨trivial, ?_⟩
        (simp only [↓stk_call, ↓stk_comp, ↓stk_rows, ↓stk_rc, ↓stk_for, ↓stk_whl, ↓stk_said, ↓Br.t, ↓Br.f, Br.t, Br.f, ↓w_var, ↓w_int, ↓w_bool, ↓w_none, ↓w_str, ↓w_glob, ↓w_bin, ↓w_neg, ↓w_not, ↓w_cmp, ↓w_chain, ↓w_and, ↓w_or, ↓w_ife, ↓w_tup, ↓w_lst, ↓w_ix, ↓w_ixR, ↓w_rowc, ↓w_rcomp, ↓w_sl0, ↓w_slL, ↓w_slH, ↓w_slB, ↓w_bi, ↓w_isi, ↓w_op, ↓w_idx, ↓w_sm, isS_s, ↓w_dic, ↓w_me, ↓w_call, ↓w_pick, ↓w_isx, ↓w_comp, ↓w_compI, ↓w_nil, ↓w_cons, ↓w_seq, ↓w_rng1, ↓w_rng2, ↓w_enm, ↓w_zip, ↓w_zip3, ↓s_nil, ↓s_cons, ↓s_set, ↓s_setT, ↓s_setP, ↓s_setI, ↓s_expr, ↓s_ife, ↓s_whl, ↓s_for, ↓s_ret, ↓s_retN, ↓s_pass, ↓s_brk, ↓s_cont, ↓Ok.ok, ↓Ok.bind, Sm.s, Sm.map, Sm.ite, Snap.b, In.i, Bl.b, Rf.r, mk_f, mk_t, ixF_b, ixF_r, ixF_s, pickF_w, isxF_n, isxF_e, biF_len, biF_b, biF_r, opF_w, isL_b, isL_r, Snaps, itSeq_l, itSeq_t, itZip_l, itZip_t, itZip3_w, binP, intBin, cmp_lt, cmp_le, cmp_gt, cmp_ge, cmp_eqi, cmp_nei, cmp_eqb, cmp_neb, cmp_is, cmp_isnot, cmp_isn, cmp_isnotn, isi_int, isi_bool, isi_tup, isi_lst, isi_str, isI, isBo, isTu, isLi, isSt, truth, ixP, slP, biP, owns, own, at_0, at_1, at_2, at_3, set_0, setsD, asgn, asgnT, sets, List.getElem?_cons_zero, List.getElem?_cons_succ, List.set_cons_zero, List.set_cons_succ, List.length_cons, List.length_nil, decide_eq_true_eq, Bool.not_true, Bool.not_false, Bool.not_eq_true', decide_eq_false_iff_not, Bool.true_eq_false, Bool.false_eq_true, if_true, if_false, true_and]; try (first | refine Br.d ?_ | refine Br.nd ?_ | refine Br.nb ?_ | refine Br.b ?_))
        refine (take_call hT u4.ok.app (by omega) (by omega)).mono ?_
        rintro _ mm6 ⟨sw, rfl, sw0, sw1, u6⟩
        obtain ⟨m6, rfl, u6'⟩ := u6.split (by rw [u4.len]; exact hn)
        (simp only [↓stk_call, ↓stk_comp, ↓stk_rows, ↓stk_rc, ↓stk_for, ↓stk_whl, ↓stk_said, ↓Br.t, ↓Br.f, Br.t, Br.f, ↓w_var, ↓w_int, ↓w_bool, ↓w_none, ↓w_str, ↓w_glob, ↓w_bin, ↓w_neg, ↓w_not, ↓w_cmp, ↓w_chain, ↓w_and, ↓w_or, ↓w_ife, ↓w_tup, ↓w_lst, ↓w_ix, ↓w_ixR, ↓w_rowc, ↓w_rcomp, ↓w_sl0, ↓w_slL, ↓w_slH, ↓w_slB, ↓w_bi, ↓w_isi, ↓w_op, ↓w_idx, ↓w_sm, isS_s, ↓w_dic, ↓w_me, ↓w_call, ↓w_pick, ↓w_isx, ↓w_comp, ↓w_compI, ↓w_nil, ↓w_cons, ↓w_seq, ↓w_rng1, ↓w_rng2, ↓w_enm, ↓w_zip, ↓w_zip3, ↓s_nil, ↓s_cons, ↓s_set, ↓s_setT, ↓s_setP, ↓s_setI, ↓s_expr, ↓s_ife, ↓s_whl, ↓s_for, ↓s_ret, ↓s_retN, ↓s_pass, ↓s_brk, ↓s_cont, ↓Ok.ok, ↓Ok.bind, Sm.s, Sm.map, Sm.ite, Snap.b, In.i, Bl.b, Rf.r, mk_f, mk_t, ixF_b, ixF_r, ixF_s, pickF_w, isxF_n, isxF_e, biF_len, biF_b, biF_r, opF_w, isL_b, isL_r, Snaps, itSeq_l, itSeq_t, itZip_l, itZip_t, itZip3_w, binP, intBin, cmp_lt, cmp_le, cmp_gt, cmp_ge, cmp_eqi, cmp_nei, cmp_eqb, cmp_neb, cmp_is, cmp_isnot, cmp_isn, cmp_isnotn, isi_int, isi_bool, isi_tup, isi_lst, isi_str, isI, isBo, isTu, isLi, isSt, truth, ixP, slP, biP, owns, own, at_0, at_1, at_2, at_3, set_0, setsD, asgn, asgnT, sets, List.getElem?_cons_zero, List.getElem?_cons_succ, List.set_cons_zero, List.set_cons_succ, List.length_cons, List.length_nil, decide_eq_true_eq, Bool.not_true, Bool.not_false, Bool.not_eq_true', decide_eq_false_iff_not, Bool.true_eq_false, Bool.false_eq_true, if_true, if_false, true_and]; try (first | refine Br.d ?_ | refine Br.nd ?_ | refine Br.nb ?_ | refine Br.b ?_))
        refine (take_call hT u6'.ok.app (by omega) (by omega)).mono ?_
        rintro _ mm7 ⟨on, rfl, on0, on1, u7⟩
        obtain ⟨m7, rfl, u7'⟩ := u7.split (by rw [u6'.len, u4.len]; exact hn)
        have u8 := u4.trans (u6'.trans u7')
        (simp only [↓stk_call, ↓stk_comp, ↓stk_rows, ↓stk_rc, ↓stk_for, ↓stk_whl, ↓stk_said, ↓Br.t, ↓Br.f, Br.t, Br.f, ↓w_var, ↓w_int, ↓w_bool, ↓w_none, ↓w_str, ↓w_glob, ↓w_bin, ↓w_neg, ↓w_not, ↓w_cmp, ↓w_chain, ↓w_and, ↓w_or, ↓w_ife, ↓w_tup, ↓w_lst, ↓w_ix, ↓w_ixR, ↓w_rowc, ↓w_rcomp, ↓w_sl0, ↓w_slL, ↓w_slH, ↓w_slB, ↓w_bi, ↓w_isi, ↓w_op, ↓w_idx, ↓w_sm, isS_s, ↓w_dic, ↓w_me, ↓w_call, ↓w_pick, ↓w_isx, ↓w_comp, ↓w_compI, ↓w_nil, ↓w_cons, ↓w_seq, ↓w_rng1, ↓w_rng2, ↓w_enm, ↓w_zip, ↓w_zip3, ↓s_nil, ↓s_cons, ↓s_set, ↓s_setT, ↓s_setP, ↓s_setI, ↓s_expr, ↓s_ife, ↓s_whl, ↓s_for, ↓s_ret, ↓s_retN, ↓s_pass, ↓s_brk, ↓s_cont, ↓Ok.ok, ↓Ok.bind, Sm.s, Sm.map, Sm.ite, Snap.b, In.i, Bl.b, Rf.r, mk_f, mk_t, ixF_b, ixF_r, ixF_s, pickF_w, isxF_n, isxF_e, biF_len, biF_b, biF_r, opF_w, isL_b, isL_r, Snaps, itSeq_l, itSeq_t, itZip_l, itZip_t, itZip3_w, binP, intBin, cmp_lt, cmp_le, cmp_gt, cmp_ge, cmp_eqi, cmp_nei, cmp_eqb, cmp_neb, cmp_is, cmp_isnot, cmp_isn, cmp_isnotn, isi_int, isi_bool, isi_tup, isi_lst, isi_str, isI, isBo, isTu, isLi, isSt, truth, ixP, slP, biP, owns, own, at_0, at_1, at_2, at_3, set_0, setsD, asgn, asgnT, sets, List.getElem?_cons_zero, List.getElem?_cons_succ, List.set_cons_zero, List.set_cons_succ, List.length_cons, List.length_nil, decide_eq_true_eq, Bool.not_true, Bool.not_false, Bool.not_eq_true', decide_eq_false_iff_not, Bool.true_eq_false, Bool.false_eq_true, if_true, if_false, true_and, meF_w (get_end (t := []) (o := .lst rows) u8.len), meA, meL, set_end u8.len]; try (first | refine Br.d ?_ | refine Br.nd ?_ | refine Br.nb ?_ | refine Br.b ?_))
        have q := min_max (rowV_ne (j := (i : Int) + 1) hp (Int.natCast_nonneg i) (by omega) hi) (rowV_in hp (Int.natCast_nonneg i) (by omega)) (rowV_in hp (by omega) hi)
        refine ⟨len0 _ (by decide), by show _ < 16777216; omega, _, _, m7, _, rfl, rfl, u8, by rw [List.length_append, hl4]; rfl, ?_⟩
        intro c hc
        rcases List.mem_append.mp hc with hc | hc
        · exact hr c hc
        · rw [List.mem_singleton.mp hc]
          exact ⟨_, _, sw, on, rfl, q.1, q.2.1, q.2.2, sw0, sw1, on0, on1⟩
      · rintro δ mm ⟨o1, o2, m4, rows, rfl, rfl, u4, hl4, hr⟩
        have hl4 : rows.length = (pairs (rowL (2 + w)) ((rowL (2 + w)).drop 1)).length := hl4
        rw [pairs_length, List.length_drop] at hl4
        refine ⟨trivial, ?_⟩
        exact rest none none none o1 o2 m4 rows u4 (by omega) hr
    · (simp only [↓stk_call, ↓stk_comp, ↓stk_rows, ↓stk_rc, ↓stk_for, ↓stk_whl, ↓stk_said, ↓Br.t, ↓Br.f, Br.t, Br.f, ↓w_var, ↓w_int, ↓w_bool, ↓w_none, ↓w_str, ↓w_glob, ↓w_bin, ↓w_neg, ↓w_not, ↓w_cmp, ↓w_chain, ↓w_and, ↓w_or, ↓w_ife, ↓w_tup, ↓w_lst, ↓w_ix, ↓w_ixR, ↓w_rowc, ↓w_rcomp, ↓w_sl0, ↓w_slL, ↓w_slH, ↓w_slB, ↓w_bi, ↓w_isi, ↓w_op, ↓w_idx, ↓w_sm, isS_s, ↓w_dic, ↓w_me, ↓w_call, ↓w_pick, ↓w_isx, ↓w_comp, ↓w_compI, ↓w_nil, ↓w_cons, ↓w_seq, ↓w_rng1, ↓w_rng2, ↓w_enm, ↓w_zip, ↓w_zip3, ↓s_nil, ↓s_cons, ↓s_set, ↓s_setT, ↓s_setP, ↓s_setI, ↓s_expr, ↓s_ife, ↓s_whl, ↓s_for, ↓s_ret, ↓s_retN, ↓s_pass, ↓s_brk, ↓s_cont, ↓Ok.ok, ↓Ok.bind, Sm.s, Sm.map, Sm.ite, Snap.b, In.i, Bl.b, Rf.r, mk_f, mk_t, ixF_b, ixF_r, ixF_s, pickF_w, isxF_n, isxF_e, biF_len, biF_b, biF_r, opF_w, isL_b, isL_r, Snaps, itSeq_l, itSeq_t, itZip_l, itZip_t, itZip3_w, binP, intBin, cmp_lt, cmp_le, cmp_gt, cmp_ge, cmp_eqi, cmp_nei, cmp_eqb, cmp_neb, cmp_is, cmp_isnot, cmp_isn, cmp_isnotn, isi_int, isi_bool, isi_tup, isi_lst, isi_str, isI, isBo, isTu, isLi, isSt, truth, ixP, slP, biP, owns, own, at_0, at_1, at_2, at_3, set_0, setsD, asgn, asgnT, sets, List.getElem?_cons_zero, List.getElem?_cons_succ, List.set_cons_zero, List.set_cons_succ, List.length_cons, List.length_nil, decide_eq_true_eq, Bool.not_true, Bool.not_false, Bool.not_eq_true', decide_eq_false_iff_not, Bool.true_eq_false, Bool.false_eq_true, if_true, if_false, true_and, er]; try (first | refine Br.d ?_ | refine Br.nd ?_ | refine Br.nb ?_ | refine Br.b ?_))
      exact flat none none none none none
  · (simp only [↓stk_call, ↓stk_comp, ↓stk_rows, ↓stk_rc, ↓stk_for, ↓stk_whl, ↓stk_said, ↓Br.t, ↓Br.f, Br.t, Br.f, ↓w_var, ↓w_int, ↓w_bool, ↓w_none, ↓w_str, ↓w_glob, ↓w_bin, ↓w_neg, ↓w_not, ↓w_cmp, ↓w_chain, ↓w_and, ↓w_or, ↓w_ife, ↓w_tup, ↓w_lst, ↓w_ix, ↓w_ixR, ↓w_rowc, ↓w_rcomp, ↓w_sl0, ↓w_slL, ↓w_slH, ↓w_slB, ↓w_bi, ↓w_isi, ↓w_op, ↓w_idx, ↓w_sm, isS_s, ↓w_dic, ↓w_me, ↓w_call, ↓w_pick, ↓w_isx, ↓w_comp, ↓w_compI, ↓w_nil, ↓w_cons, ↓w_seq, ↓w_rng1, ↓w_rng2, ↓w_enm, ↓w_zip, ↓w_zip3, ↓s_nil, ↓s_cons, ↓s_set, ↓s_setT, ↓s_setP, ↓s_setI, ↓s_expr, ↓s_ife, ↓s_whl, ↓s_for, ↓s_ret, ↓s_retN, ↓s_pass, ↓s_brk, ↓s_cont, ↓Ok.ok, ↓Ok.bind, Sm.s, Sm.map, Sm.ite, Snap.b, In.i, Bl.b, Rf.r, mk_f, mk_t, ixF_b, ixF_r, ixF_s, pickF_w, isxF_n, isxF_e, biF_len, biF_b, biF_r, opF_w, isL_b, isL_r, Snaps, itSeq_l, itSeq_t, itZip_l, itZip_t, itZip3_w, binP, intBin, cmp_lt, cmp_le, cmp_gt, cmp_ge, cmp_eqi, cmp_nei, cmp_eqb, cmp_neb, cmp_is, cmp_isnot, cmp_isn, cmp_isnotn, isi_int, isi_bool, isi_tup, isi_lst, isi_str, isI, isBo, isTu, isLi, isSt, truth, ixP, slP, biP, owns, own, at_0, at_1, at_2, at_3, set_0, setsD, asgn, asgnT, sets, List.getElem?_cons_zero, List.getElem?_cons_succ, List.set_cons_zero, List.set_cons_succ, List.length_cons, List.length_nil, decide_eq_true_eq, Bool.not_true, Bool.not_false, Bool.not_eq_true', decide_eq_false_iff_not, Bool.true_eq_false, Bool.false_eq_true, if_true, if_false, true_and, er]; try (first | refine Br.d ?_ | refine Br.nd ?_ | refine Br.nb ?_ | refine Br.b ?_))
    exact flat none none none none none
theorem net_call {ms mp mc : Int} (hG : G "_law_net" = some b_net) (hT : G "_law_take" = some b_take) (hE : G "_law_ends" = some b_ends) (hs : StOk m n) (h1 : 1 ≤ ms) (h2 : ms ≤ 1000) (h3 : 2 ≤ mp) (h4 : mp ≤ 1000) (h5 : 0 ≤ mc) (h6 : mc ≤ 1000) :
    Ok (callF (run G (k + 3)) r "_law_net" [.ref n, .b (.int ms), .b (.int mp), .b (.int mc)] m) fun d m' => ∃ x, d = .b x ∧ NetP ms mp mc x ∧ Upd n m m' := by
  refine call_b ((net_run hG hT hE hs h1 h2 h3 h4 h5 h6).mono ?_)
  rintro _ _ ⟨x, m1, t, rfl, hx, rfl, u⟩
  refine ⟨_, rfl, fun _ => ?_, x, rfl, hx, ?_⟩
  · obtain ⟨s, p, cs, rfl, _⟩ := hx; rfl
  · rw [take_end u.len]; exact u
/-- a comprehension whose items come without a change -/
theorem comp_pure {e : Env → Mem → R D} {tg : Tg} {δ : Env} {xs : List PyData} (f : PyData → PyData) {Q : D → Mem → Prop} (hx : xs.length ≤ lim)
    (he : ∀ x ∈ xs, ∀ mm, Sm (asgn tg x (clear δ tg.slots)) fun δ1 => Ok (e δ1 mm) fun d m2 => m2 = mm ∧ d = .b (f x)) (hq : if r = true then Q (.ref m.length) (m ++ [.lst (xs.map f)]) else Q (.b (.list (xs.map f))) m) :
    Ok (compL (fun _ m => .ok true m) e tg δ none m.length xs (m ++ [.lst []])) fun _ m' => Ok (leave r m.length (.ref m.length) m') Q := by
  refine comp_ok (fun i m' ys => m' = m ∧ ys = (xs.take i).map f) ⟨rfl, rfl⟩ (fun i m' ys h => ⟨by rw [h.1], trivial⟩) (fun i x m' ys hx' h => ?_) (fun m' ys h => ?_)
  · obtain ⟨rfl, rfl⟩ := h
    have hi := (List.getElem?_eq_some_iff.mp hx').1
    have h2 := he x (List.mem_of_getElem? hx') (m' ++ [.lst ((xs.take i).map f)])
    cases q : asgn tg x (clear δ tg.slots) with
    | none => rw [q] at h2; exact h2.elim
    | some δ1 =>
      rw [q] at h2
      refine (show Ok _ _ from h2).mono ?_
      rintro d m2 ⟨rfl, rfl⟩
      refine ⟨m', ?_, rfl, ?_, rfl, ?_⟩
      · rw [List.take_of_length_le (by simp)]
      · rw [List.length_map, List.length_take]; omega
      · rw [List.take_add_one, hx', List.map_append]; rfl
  · obtain ⟨rfl, rfl⟩ := h
    rw [leave_new r m' m' _ rfl, List.take_length]
    exact hq
theorem boolsOf_map (l : List PyData) (f : PyData → Bool) : boolsOf (l.map fun x => .bool (f x)) = some (l.map f) := by
  induction l with
  | nil => rfl
  | cons x l ih => rw [List.map_cons, List.map_cons, boolsOf, ih]; rfl
end
end Z

/-! Z19: more rules: filtered comprehensions, while, in. -/
namespace Z
open PySem
section
variable {G : Tab} {k : Nat} {m : Mem} {n : Nat} {r : Bool}
theorem compI_pure {c : Env → Mem → R Bool} {e : Env → Mem → R D} {tg : Tg} {δ : Env} {xs : List PyData} (cf : PyData → Bool) (f : PyData → PyData) {Q : D → Mem → Prop} (hx : xs.length ≤ lim)
    (he : ∀ x ∈ xs, ∀ mm, Sm (asgn tg x (clear δ tg.slots)) fun δ1 => Ok (c δ1 mm) fun t m1 => m1 = mm ∧ t = cf x ∧ (cf x = true → Ok (e δ1 mm) fun d m2 => m2 = mm ∧ d = .b (f x)))
    (hq : if r = true then Q (.ref m.length) (m ++ [.lst ((xs.filter cf).map f)]) else Q (.b (.list ((xs.filter cf).map f))) m) :
    Ok (compL c e tg δ none m.length xs (m ++ [.lst []])) fun _ m' => Ok (leave r m.length (.ref m.length) m') Q := by
  refine comp_ok (fun i m' ys => m' = m ∧ ys = ((xs.take i).filter cf).map f) ⟨rfl, rfl⟩ (fun i m' ys h => ⟨by rw [h.1], trivial⟩) (fun i x m' ys hx' h => ?_) (fun m' ys h => ?_)
  · obtain ⟨rfl, rfl⟩ := h
    have hi := (List.getElem?_eq_some_iff.mp hx').1
    have h2 := he x (List.mem_of_getElem? hx') (m' ++ [.lst (((xs.take i).filter cf).map f)])
    cases q : asgn tg x (clear δ tg.slots) with
    | none => rw [q] at h2; exact h2.elim
    | some δ1 =>
      rw [q] at h2
      refine (show Ok _ _ from h2).mono ?_
      rintro t m1 ⟨rfl, rfl, h3⟩
      have tk : (m' ++ [MO.lst (((xs.take i).filter cf).map f)]).take (m'.length + 1) = m' ++ [.lst (((xs.take i).filter cf).map f)] := List.take_of_length_le (by simp)
      by_cases hc : cf x = true
      · rw [if_pos hc]
        refine (h3 hc).mono ?_
        rintro d m2 ⟨rfl, rfl⟩
        refine ⟨m', tk, rfl, ?_, rfl, ?_⟩
        · rw [List.length_map]
          have := List.length_filter_le cf (xs.take i)
          rw [List.length_take] at this
          omega
        · rw [List.take_add_one, hx', List.filter_append, List.map_append]
          simp [hc]
      · rw [if_neg hc]
        refine ⟨m', tk, rfl, rfl, ?_⟩
        rw [List.take_add_one, hx', List.filter_append, List.map_append]
        simp [hc]
  · obtain ⟨rfl, rfl⟩ := h
    rw [leave_new r m' m' _ rfl, List.take_length]
    exact hq
theorem whl_ok {c : Env → Mem → R Bool} {b : Env → Mem → RS} {K : Ks} (I : Env → Mem → Prop) (μ : Env → Mem → Nat)
    (hs : ∀ δ m, I δ m → Ok (c δ m) fun t m1 => if t = true then SOk (b δ m1) ⟨fun δ' m' => I δ' m' ∧ μ δ' m' < μ δ m, K.ret, K.nx, fun δ' m' => I δ' m' ∧ μ δ' m' < μ δ m⟩ else K.nx δ m1) : ∀ (n : Nat) {δ : Env} {m : Mem}, I δ m → μ δ m < n → SOk (whlL c b n δ m) K
  | 0, δ, m, h, hn => absurd hn (Nat.not_lt_zero _)
  | n + 1, δ, m, h, hn => by
    have h1 := hs δ m h
    obtain ⟨t, m1, e, h2⟩ := h1.out
    rw [whlL, e]
    cases t with
    | false =>
      have h2 : K.nx δ m1 := by simpa using h2
      exact h2
    | true =>
      simp only [if_true] at h2
      cases q : b δ m1 with
      | nx δ2 m2 => rw [q] at h2; simp only [q]; exact whl_ok I μ hs n h2.1 (by have := h2.2; omega)
      | cont δ2 m2 => rw [q] at h2; simp only [q]; exact whl_ok I μ hs n h2.1 (by have := h2.2; omega)
      | brk δ2 m2 => rw [q] at h2; simp only [q]; exact h2
      | ret d m2 => rw [q] at h2; simp only [q]; exact h2
      | ex c δ2 m2 => rw [q] at h2; simp only [q]; exact h2
      | bad => rw [q] at h2; simp only [q]; exact h2
end
/-- a call whose value is a list that it made -/
theorem call_l {run : Str → List D → Mem → R D} {m : Mem} {r : Bool} {f : Str} {xs : List D} {Q : D → Mem → Prop} (h : Ok (run f xs m) fun d m' => ∃ j ys m1, d = .ref j ∧ m.length ≤ j ∧ m'[j]? = some (.lst ys) ∧ m'.take m.length = m1 ∧ (if r = true then Q (.ref m.length) (m1 ++ [.lst ys]) else Q (.b (.list ys)) m1)) : Ok (callF run r f xs m) Q := by
  rw [callF_w]
  refine h.mono fun d m' ⟨j, ys, m1, e, hj, hy, ht, q⟩ => ?_
  subst e
  unfold leave
  simp only
  rw [if_neg (by omega)]
  simp only [hy, ht]
  cases r with
  | true =>
    have q : Q (.ref m.length) (m1 ++ [.lst ys]) := by simpa using q
    exact q
  | false =>
    have q : Q (.b (.list ys)) m1 := by simpa using q
    exact q
/-! ### in -/
theorem canI : ∀ l : List Int, PyData.canLayAll0 (l.map .int) = true
  | [] => rfl
  | i :: l => by rw [List.map_cons, PyData.canLayAll0, canI l]; rfl
theorem any_int (l : List Int) (x : Int) : ((l.map PyData.int).any fun z => PyData.eqv z (.int x)) = decide (x ∈ l) := by
  induction l with
  | nil => simp
  | cons i l ih =>
    rw [List.map_cons, List.any_cons, ih, eqv_ii]
    by_cases h : i = x <;> simp [h, Ne.symm, eq_comm]
theorem in_list (l : List Int) (x : Int) : isIn (.int x) (.list (l.map .int)) = some (decide (x ∈ l)) := by
  show (if eqOk (.int x) (.list (l.map .int)) then some ((l.map PyData.int).any fun z => PyData.eqv z (.int x)) else none) = _
  have : eqOk (.int x) (.list (l.map .int)) = true := by unfold eqOk; rw [PyData.canLay0, PyData.canLay0, canI]; simp [PyData.depth]
  rw [if_pos this, any_int]
theorem in_tuple (l : List Int) (x : Int) : isIn (.int x) (.tuple (l.map .int)) = some (decide (x ∈ l)) := by
  show (if eqOk (.int x) (.tuple (l.map .int)) then some ((l.map PyData.int).any fun z => PyData.eqv z (.int x)) else none) = _
  have : eqOk (.int x) (.tuple (l.map .int)) = true := by unfold eqOk; rw [PyData.canLay0, PyData.canLay0, canI]; simp [PyData.depth]
  rw [if_pos this, any_int]
theorem cmp_inl (l : List Int) (x : Int) : cmpP .In (.int x) (.list (l.map .int)) = some (decide (x ∈ l)) := in_list l x
theorem cmp_int (l : List Int) (x : Int) : cmpP .In (.int x) (.tuple (l.map .int)) = some (decide (x ∈ l)) := in_tuple l x
theorem cmp_ninl (l : List Int) (x : Int) : cmpP .NotIn (.int x) (.list (l.map .int)) = some (!decide (x ∈ l)) := by
  show (isIn (.int x) (.list (l.map .int))).map (!·) = _
  rw [in_list]; rfl
theorem cmp_in2 (a b x : Int) : cmpP .In (.int x) (.tuple [.int a, .int b]) = some (decide (x = a ∨ x = b)) := by
  have := in_tuple [a, b] x
  rw [show cmpP .In (.int x) (.tuple [.int a, .int b]) = isIn (.int x) (.tuple ([a, b].map .int)) from rfl, this]
  simp
theorem intsOf_ints : ∀ l : List Int, intsOf (l.map .int) = some l
  | [] => rfl
  | i :: l => by rw [List.map_cons, intsOf, intsOf_ints l]; rfl
end Z

/-! ZU: a def that tells by a list of numbers of what classes what it caught is. -/
namespace Z
open PySem PySem.Spec PyProof.Rows L2
def askOrder : List Str := ["TooMany", "NoContact", "NoBridge", "NoName", "BadNote", "NoPlace", "NoTable"]
def askTab (c : Str) : List (Str × Bool) := askOrder.map fun x => (x, decide (x = c))
def askAll : List (Str × Bool) := askOrder.map fun x => (x, true)
def askSubs : List (Str × List (Str × Bool)) := askOrder.map (fun c => (c, askTab c)) ++ [(("ValueError" : Str), askAll)]
def askAns : List (Str × Ans) := [("TooMany", .l [0]), ("NoContact", .l [1]), ("NoBridge", .l [2]), ("NoName", .l [3]), ("BadNote", .l [4]), ("NoPlace", .l [5]), ("NoTable", .l [6])]
def askX1 (c : Str) : E := .isx (.var 1) c (askTab c)
def askRest : Ss :=
  .cons (.set 2 (.lst true (.cons (askX1 "TooMany") (.cons (askX1 "NoContact") (.cons (askX1 "NoBridge") .nil)))))
  (.cons (.set 2 (.op .cat true (.cons (.var 2) (.cons (.lst false (.cons (askX1 "NoName") (.cons (askX1 "BadNote") (.cons (askX1 "NoPlace") .nil)))) .nil))))
  (.cons (.expr (.me .append (.var 2) (.cons (askX1 "NoTable") .nil)))
  (.cons (.ife (.not (.isx (.var 1) "ValueError" askAll)) (.cons (.ret .none) .nil) .nil)
  (.cons (.ret (.compI true (.one 3) (.rng1 (.int 7)) (.ix (.var 2) (.var 3)) (.var 3))) .nil))))
def giA : GI := { subs := askSubs }
abbrev G0 : Tab := fun _ => none
/-! ### what follows the try, run -/
def bitF (bs : List Bool) (x : PyData) : Bool :=
  match x with
  | .int i => bs.getD i.toNat false
  | _ => false
theorem opP_catL (xs ys : List PyData) (h : xs.length + ys.length ≤ lim) : opP .cat [.list xs, .list ys] = some (.list (xs ++ ys)) := by
  show (if xs.length + ys.length ≤ lim then some (PyData.list (xs ++ ys)) else Option.none) = _
  rw [if_pos h]
theorem ask_none : ∃ m, evSs (run G0 0) askRest [none, some (.b .none), none, none, none] [] = .ret (.b .none) m := by
  have h : SOk (evSs (run G0 0) askRest [none, some (.b .none), none, none, none] []) ⟨fun _ _ => False, fun d _ => d = .b .none, fun _ _ => False, fun _ _ => False⟩ := by
    unfold askRest askX1
    (simp only [↓stk_call, ↓stk_comp, ↓stk_rows, ↓stk_rc, ↓stk_for, ↓stk_whl, ↓stk_said, ↓Br.t, ↓Br.f, Br.t, Br.f, ↓w_var, ↓w_int, ↓w_bool, ↓w_none, ↓w_str, ↓w_glob, ↓w_bin, ↓w_neg, ↓w_not, ↓w_cmp, ↓w_chain, ↓w_and, ↓w_or, ↓w_ife, ↓w_tup, ↓w_lst, ↓w_ix, ↓w_ixR, ↓w_rowc, ↓w_rcomp, ↓w_sl0, ↓w_slL, ↓w_slH, ↓w_slB, ↓w_bi, ↓w_isi, ↓w_op, ↓w_idx, ↓w_sm, isS_s, ↓w_dic, ↓w_me, ↓w_call, ↓w_pick, ↓w_isx, ↓w_comp, ↓w_compI, ↓w_nil, ↓w_cons, ↓w_seq, ↓w_rng1, ↓w_rng2, ↓w_enm, ↓w_zip, ↓w_zip3, ↓s_nil, ↓s_cons, ↓s_set, ↓s_setT, ↓s_setP, ↓s_setI, ↓s_expr, ↓s_ife, ↓s_whl, ↓s_for, ↓s_ret, ↓s_retN, ↓s_pass, ↓s_brk, ↓s_cont, ↓Ok.ok, ↓Ok.bind, Sm.s, Sm.map, Sm.ite, Snap.b, In.i, Bl.b, Rf.r, mk_f, mk_t, ixF_b, ixF_r, ixF_s, pickF_w, isxF_n, isxF_e, biF_len, biF_b, biF_r, opF_w, isL_b, isL_r, Snaps, itSeq_l, itSeq_t, itZip_l, itZip_t, itZip3_w, binP, intBin, cmp_lt, cmp_le, cmp_gt, cmp_ge, cmp_eqi, cmp_nei, cmp_eqb, cmp_neb, cmp_is, cmp_isnot, cmp_isn, cmp_isnotn, isi_int, isi_bool, isi_tup, isi_lst, isi_str, isI, isBo, isTu, isLi, isSt, truth, ixP, slP, biP, owns, own, at_0, at_1, at_2, at_3, set_0, setsD, asgn, asgnT, sets, List.getElem?_cons_zero, List.getElem?_cons_succ, List.set_cons_zero, List.set_cons_succ, List.length_cons, List.length_nil, decide_eq_true_eq, Bool.not_true, Bool.not_false, Bool.not_eq_true', decide_eq_false_iff_not, Bool.true_eq_false, Bool.false_eq_true, if_true, if_false, true_and]; try (first | refine Br.d ?_ | refine Br.nd ?_ | refine Br.nb ?_ | refine Br.b ?_))
    refine ⟨by decide, by decide, ?_⟩
    (simp only [↓stk_call, ↓stk_comp, ↓stk_rows, ↓stk_rc, ↓stk_for, ↓stk_whl, ↓stk_said, ↓Br.t, ↓Br.f, Br.t, Br.f, ↓w_var, ↓w_int, ↓w_bool, ↓w_none, ↓w_str, ↓w_glob, ↓w_bin, ↓w_neg, ↓w_not, ↓w_cmp, ↓w_chain, ↓w_and, ↓w_or, ↓w_ife, ↓w_tup, ↓w_lst, ↓w_ix, ↓w_ixR, ↓w_rowc, ↓w_rcomp, ↓w_sl0, ↓w_slL, ↓w_slH, ↓w_slB, ↓w_bi, ↓w_isi, ↓w_op, ↓w_idx, ↓w_sm, isS_s, ↓w_dic, ↓w_me, ↓w_call, ↓w_pick, ↓w_isx, ↓w_comp, ↓w_compI, ↓w_nil, ↓w_cons, ↓w_seq, ↓w_rng1, ↓w_rng2, ↓w_enm, ↓w_zip, ↓w_zip3, ↓s_nil, ↓s_cons, ↓s_set, ↓s_setT, ↓s_setP, ↓s_setI, ↓s_expr, ↓s_ife, ↓s_whl, ↓s_for, ↓s_ret, ↓s_retN, ↓s_pass, ↓s_brk, ↓s_cont, ↓Ok.ok, ↓Ok.bind, Sm.s, Sm.map, Sm.ite, Snap.b, In.i, Bl.b, Rf.r, mk_f, mk_t, ixF_b, ixF_r, ixF_s, pickF_w, isxF_n, isxF_e, biF_len, biF_b, biF_r, opF_w, isL_b, isL_r, Snaps, itSeq_l, itSeq_t, itZip_l, itZip_t, itZip3_w, binP, intBin, cmp_lt, cmp_le, cmp_gt, cmp_ge, cmp_eqi, cmp_nei, cmp_eqb, cmp_neb, cmp_is, cmp_isnot, cmp_isn, cmp_isnotn, isi_int, isi_bool, isi_tup, isi_lst, isi_str, isI, isBo, isTu, isLi, isSt, truth, ixP, slP, biP, owns, own, at_0, at_1, at_2, at_3, set_0, setsD, asgn, asgnT, sets, List.getElem?_cons_zero, List.getElem?_cons_succ, List.set_cons_zero, List.set_cons_succ, List.length_cons, List.length_nil, decide_eq_true_eq, Bool.not_true, Bool.not_false, Bool.not_eq_true', decide_eq_false_iff_not, Bool.true_eq_false, Bool.false_eq_true, if_true, if_false, true_and, Snap.ref (m := [] ++ [MO.lst [PyData.bool false, .bool false, .bool false]]) (n := 0) (xs := [PyData.bool false, .bool false, .bool false]) rfl, opP_catL [PyData.bool false, .bool false, .bool false] [PyData.bool false, .bool false, .bool false] (by decide)]; try (first | refine Br.d ?_ | refine Br.nd ?_ | refine Br.nb ?_ | refine Br.b ?_))
    (simp only [↓stk_call, ↓stk_comp, ↓stk_rows, ↓stk_rc, ↓stk_for, ↓stk_whl, ↓stk_said, ↓Br.t, ↓Br.f, Br.t, Br.f, ↓w_var, ↓w_int, ↓w_bool, ↓w_none, ↓w_str, ↓w_glob, ↓w_bin, ↓w_neg, ↓w_not, ↓w_cmp, ↓w_chain, ↓w_and, ↓w_or, ↓w_ife, ↓w_tup, ↓w_lst, ↓w_ix, ↓w_ixR, ↓w_rowc, ↓w_rcomp, ↓w_sl0, ↓w_slL, ↓w_slH, ↓w_slB, ↓w_bi, ↓w_isi, ↓w_op, ↓w_idx, ↓w_sm, isS_s, ↓w_dic, ↓w_me, ↓w_call, ↓w_pick, ↓w_isx, ↓w_comp, ↓w_compI, ↓w_nil, ↓w_cons, ↓w_seq, ↓w_rng1, ↓w_rng2, ↓w_enm, ↓w_zip, ↓w_zip3, ↓s_nil, ↓s_cons, ↓s_set, ↓s_setT, ↓s_setP, ↓s_setI, ↓s_expr, ↓s_ife, ↓s_whl, ↓s_for, ↓s_ret, ↓s_retN, ↓s_pass, ↓s_brk, ↓s_cont, ↓Ok.ok, ↓Ok.bind, Sm.s, Sm.map, Sm.ite, Snap.b, In.i, Bl.b, Rf.r, mk_f, mk_t, ixF_b, ixF_r, ixF_s, pickF_w, isxF_n, isxF_e, biF_len, biF_b, biF_r, opF_w, isL_b, isL_r, Snaps, itSeq_l, itSeq_t, itZip_l, itZip_t, itZip3_w, binP, intBin, cmp_lt, cmp_le, cmp_gt, cmp_ge, cmp_eqi, cmp_nei, cmp_eqb, cmp_neb, cmp_is, cmp_isnot, cmp_isn, cmp_isnotn, isi_int, isi_bool, isi_tup, isi_lst, isi_str, isI, isBo, isTu, isLi, isSt, truth, ixP, slP, biP, owns, own, at_0, at_1, at_2, at_3, set_0, setsD, asgn, asgnT, sets, List.getElem?_cons_zero, List.getElem?_cons_succ, List.set_cons_zero, List.set_cons_succ, List.length_cons, List.length_nil, decide_eq_true_eq, Bool.not_true, Bool.not_false, Bool.not_eq_true', decide_eq_false_iff_not, Bool.true_eq_false, Bool.false_eq_true, if_true, if_false, true_and, meF_w (m := [] ++ [MO.lst [PyData.bool false, .bool false, .bool false]] ++ [MO.lst ([PyData.bool false, .bool false, .bool false] ++ [PyData.bool false, .bool false, .bool false])]) (n := ([] ++ [MO.lst [PyData.bool false, .bool false, .bool false]] : Mem).length) (zs := [PyData.bool false, .bool false, .bool false] ++ [PyData.bool false, .bool false, .bool false]) rfl, meA, meL]; try (first | refine Br.d ?_ | refine Br.nd ?_ | refine Br.nb ?_ | refine Br.b ?_))
    decide
  cases q : evSs (run G0 0) askRest [none, some (.b .none), none, none, none] [] with
  | ret d m => rw [q] at h; cases (show d = .b .none from h); exact ⟨m, rfl⟩
  | _ => rw [q] at h; exact h.elim
theorem ask_gen {c : Str} {b0 b1 b2 b3 b4 b5 b6 : Bool} (h0 : (askTab "TooMany").lookup c = some b0) (h1 : (askTab "NoContact").lookup c = some b1) (h2 : (askTab "NoBridge").lookup c = some b2) (h3 : (askTab "NoName").lookup c = some b3) (h4 : (askTab "BadNote").lookup c = some b4) (h5 : (askTab "NoPlace").lookup c = some b5) (h6 : (askTab "NoTable").lookup c = some b6) (hv : askAll.lookup c = some true) :
    ∃ j m, evSs (run G0 0) askRest [none, some (.exc c), none, none, none] [] = .ret (.ref j) m ∧ m[j]? = some (.lst ((rngP 0 7).filter (bitF [b0, b1, b2, b3, b4, b5, b6]))) := by
  have h : SOk (evSs (run G0 0) askRest [none, some (.exc c), none, none, none] []) ⟨fun _ _ => False, fun d m => ∃ j, d = .ref j ∧ m[j]? = some (.lst ((rngP 0 7).filter (bitF [b0, b1, b2, b3, b4, b5, b6]))), fun _ _ => False, fun _ _ => False⟩ := by
    unfold askRest askX1
    (simp only [↓stk_call, ↓stk_comp, ↓stk_rows, ↓stk_rc, ↓stk_for, ↓stk_whl, ↓stk_said, ↓Br.t, ↓Br.f, Br.t, Br.f, ↓w_var, ↓w_int, ↓w_bool, ↓w_none, ↓w_str, ↓w_glob, ↓w_bin, ↓w_neg, ↓w_not, ↓w_cmp, ↓w_chain, ↓w_and, ↓w_or, ↓w_ife, ↓w_tup, ↓w_lst, ↓w_ix, ↓w_ixR, ↓w_rowc, ↓w_rcomp, ↓w_sl0, ↓w_slL, ↓w_slH, ↓w_slB, ↓w_bi, ↓w_isi, ↓w_op, ↓w_idx, ↓w_sm, isS_s, ↓w_dic, ↓w_me, ↓w_call, ↓w_pick, ↓w_isx, ↓w_comp, ↓w_compI, ↓w_nil, ↓w_cons, ↓w_seq, ↓w_rng1, ↓w_rng2, ↓w_enm, ↓w_zip, ↓w_zip3, ↓s_nil, ↓s_cons, ↓s_set, ↓s_setT, ↓s_setP, ↓s_setI, ↓s_expr, ↓s_ife, ↓s_whl, ↓s_for, ↓s_ret, ↓s_retN, ↓s_pass, ↓s_brk, ↓s_cont, ↓Ok.ok, ↓Ok.bind, Sm.s, Sm.map, Sm.ite, Snap.b, In.i, Bl.b, Rf.r, mk_f, mk_t, ixF_b, ixF_r, ixF_s, pickF_w, isxF_n, isxF_e, biF_len, biF_b, biF_r, opF_w, isL_b, isL_r, Snaps, itSeq_l, itSeq_t, itZip_l, itZip_t, itZip3_w, binP, intBin, cmp_lt, cmp_le, cmp_gt, cmp_ge, cmp_eqi, cmp_nei, cmp_eqb, cmp_neb, cmp_is, cmp_isnot, cmp_isn, cmp_isnotn, isi_int, isi_bool, isi_tup, isi_lst, isi_str, isI, isBo, isTu, isLi, isSt, truth, ixP, slP, biP, owns, own, at_0, at_1, at_2, at_3, set_0, setsD, asgn, asgnT, sets, List.getElem?_cons_zero, List.getElem?_cons_succ, List.set_cons_zero, List.set_cons_succ, List.length_cons, List.length_nil, decide_eq_true_eq, Bool.not_true, Bool.not_false, Bool.not_eq_true', decide_eq_false_iff_not, Bool.true_eq_false, Bool.false_eq_true, if_true, if_false, true_and, h0, h1, h2, h3, h4, h5, h6, hv]; try (first | refine Br.d ?_ | refine Br.nd ?_ | refine Br.nb ?_ | refine Br.b ?_))
    refine ⟨by decide, by decide, ?_⟩
    (simp only [↓stk_call, ↓stk_comp, ↓stk_rows, ↓stk_rc, ↓stk_for, ↓stk_whl, ↓stk_said, ↓Br.t, ↓Br.f, Br.t, Br.f, ↓w_var, ↓w_int, ↓w_bool, ↓w_none, ↓w_str, ↓w_glob, ↓w_bin, ↓w_neg, ↓w_not, ↓w_cmp, ↓w_chain, ↓w_and, ↓w_or, ↓w_ife, ↓w_tup, ↓w_lst, ↓w_ix, ↓w_ixR, ↓w_rowc, ↓w_rcomp, ↓w_sl0, ↓w_slL, ↓w_slH, ↓w_slB, ↓w_bi, ↓w_isi, ↓w_op, ↓w_idx, ↓w_sm, isS_s, ↓w_dic, ↓w_me, ↓w_call, ↓w_pick, ↓w_isx, ↓w_comp, ↓w_compI, ↓w_nil, ↓w_cons, ↓w_seq, ↓w_rng1, ↓w_rng2, ↓w_enm, ↓w_zip, ↓w_zip3, ↓s_nil, ↓s_cons, ↓s_set, ↓s_setT, ↓s_setP, ↓s_setI, ↓s_expr, ↓s_ife, ↓s_whl, ↓s_for, ↓s_ret, ↓s_retN, ↓s_pass, ↓s_brk, ↓s_cont, ↓Ok.ok, ↓Ok.bind, Sm.s, Sm.map, Sm.ite, Snap.b, In.i, Bl.b, Rf.r, mk_f, mk_t, ixF_b, ixF_r, ixF_s, pickF_w, isxF_n, isxF_e, biF_len, biF_b, biF_r, opF_w, isL_b, isL_r, Snaps, itSeq_l, itSeq_t, itZip_l, itZip_t, itZip3_w, binP, intBin, cmp_lt, cmp_le, cmp_gt, cmp_ge, cmp_eqi, cmp_nei, cmp_eqb, cmp_neb, cmp_is, cmp_isnot, cmp_isn, cmp_isnotn, isi_int, isi_bool, isi_tup, isi_lst, isi_str, isI, isBo, isTu, isLi, isSt, truth, ixP, slP, biP, owns, own, at_0, at_1, at_2, at_3, set_0, setsD, asgn, asgnT, sets, List.getElem?_cons_zero, List.getElem?_cons_succ, List.set_cons_zero, List.set_cons_succ, List.length_cons, List.length_nil, decide_eq_true_eq, Bool.not_true, Bool.not_false, Bool.not_eq_true', decide_eq_false_iff_not, Bool.true_eq_false, Bool.false_eq_true, if_true, if_false, true_and, Snap.ref (m := [] ++ [MO.lst [PyData.bool b0, .bool b1, .bool b2]]) (n := 0) (xs := [PyData.bool b0, .bool b1, .bool b2]) rfl, opP_catL [PyData.bool b0, .bool b1, .bool b2] [PyData.bool b3, .bool b4, .bool b5] (by simp [lim])]; try (first | refine Br.d ?_ | refine Br.nd ?_ | refine Br.nb ?_ | refine Br.b ?_))
    (simp only [↓stk_call, ↓stk_comp, ↓stk_rows, ↓stk_rc, ↓stk_for, ↓stk_whl, ↓stk_said, ↓Br.t, ↓Br.f, Br.t, Br.f, ↓w_var, ↓w_int, ↓w_bool, ↓w_none, ↓w_str, ↓w_glob, ↓w_bin, ↓w_neg, ↓w_not, ↓w_cmp, ↓w_chain, ↓w_and, ↓w_or, ↓w_ife, ↓w_tup, ↓w_lst, ↓w_ix, ↓w_ixR, ↓w_rowc, ↓w_rcomp, ↓w_sl0, ↓w_slL, ↓w_slH, ↓w_slB, ↓w_bi, ↓w_isi, ↓w_op, ↓w_idx, ↓w_sm, isS_s, ↓w_dic, ↓w_me, ↓w_call, ↓w_pick, ↓w_isx, ↓w_comp, ↓w_compI, ↓w_nil, ↓w_cons, ↓w_seq, ↓w_rng1, ↓w_rng2, ↓w_enm, ↓w_zip, ↓w_zip3, ↓s_nil, ↓s_cons, ↓s_set, ↓s_setT, ↓s_setP, ↓s_setI, ↓s_expr, ↓s_ife, ↓s_whl, ↓s_for, ↓s_ret, ↓s_retN, ↓s_pass, ↓s_brk, ↓s_cont, ↓Ok.ok, ↓Ok.bind, Sm.s, Sm.map, Sm.ite, Snap.b, In.i, Bl.b, Rf.r, mk_f, mk_t, ixF_b, ixF_r, ixF_s, pickF_w, isxF_n, isxF_e, biF_len, biF_b, biF_r, opF_w, isL_b, isL_r, Snaps, itSeq_l, itSeq_t, itZip_l, itZip_t, itZip3_w, binP, intBin, cmp_lt, cmp_le, cmp_gt, cmp_ge, cmp_eqi, cmp_nei, cmp_eqb, cmp_neb, cmp_is, cmp_isnot, cmp_isn, cmp_isnotn, isi_int, isi_bool, isi_tup, isi_lst, isi_str, isI, isBo, isTu, isLi, isSt, truth, ixP, slP, biP, owns, own, at_0, at_1, at_2, at_3, set_0, setsD, asgn, asgnT, sets, List.getElem?_cons_zero, List.getElem?_cons_succ, List.set_cons_zero, List.set_cons_succ, List.length_cons, List.length_nil, decide_eq_true_eq, Bool.not_true, Bool.not_false, Bool.not_eq_true', decide_eq_false_iff_not, Bool.true_eq_false, Bool.false_eq_true, if_true, if_false, true_and, meF_w (m := [] ++ [MO.lst [PyData.bool b0, .bool b1, .bool b2]] ++ [MO.lst ([PyData.bool b0, .bool b1, .bool b2] ++ [PyData.bool b3, .bool b4, .bool b5])]) (n := ([] ++ [MO.lst [PyData.bool b0, .bool b1, .bool b2]] : Mem).length) (zs := [PyData.bool b0, .bool b1, .bool b2] ++ [PyData.bool b3, .bool b4, .bool b5]) rfl, meA, meL]; try (first | refine Br.d ?_ | refine Br.nd ?_ | refine Br.nb ?_ | refine Br.b ?_))
    refine ⟨by show 6 < 16777216; omega, by decide, ?_⟩
    refine comp_ok (m := [MO.lst [PyData.bool b0, .bool b1, .bool b2], MO.lst [PyData.bool b0, .bool b1, .bool b2, .bool b3, .bool b4, .bool b5, .bool b6]])
      (fun i m' ys => m' = [MO.lst [PyData.bool b0, .bool b1, .bool b2], MO.lst [PyData.bool b0, .bool b1, .bool b2, .bool b3, .bool b4, .bool b5, .bool b6]] ∧ ys = ((rngP 0 7).take i).filter (bitF [b0, b1, b2, b3, b4, b5, b6])) ⟨rfl, rfl⟩ ?_ ?_ ?_
    · rintro i m' ys ⟨rfl, rfl⟩
      exact ⟨rfl, trivial⟩
    · rintro i x m' ys hx ⟨rfl, rfl⟩
      have hi := (List.getElem?_eq_some_iff.mp hx).1
      rw [rngL] at hi
      have ex := rng_get (n := 7) hx
      have hb : atP [PyData.bool b0, .bool b1, .bool b2, .bool b3, .bool b4, .bool b5, .bool b6] (i : Int) = some (.bool ([b0, b1, b2, b3, b4, b5, b6].getD i false)) := by
        refine at_nat ?_
        match i, hi with
        | 0, _ => rfl
        | 1, _ => rfl
        | 2, _ => rfl
        | 3, _ => rfl
        | 4, _ => rfl
        | 5, _ => rfl
        | 6, _ => rfl
        | i + 7, h => exact absurd h (by omega)
      have tk : ((rngP 0 7).take (i + 1)).filter (bitF [b0, b1, b2, b3, b4, b5, b6]) = ((rngP 0 7).take i).filter (bitF [b0, b1, b2, b3, b4, b5, b6]) ++ if [b0, b1, b2, b3, b4, b5, b6].getD i false = true then [x] else [] := by
        rw [List.take_add_one, hx, List.filter_append]
        congr 1
        show [x].filter _ = _
        rw [List.filter_cons, ex]
        rfl
      subst ex
      have hFl : (((rngP 0 7).take i).filter (bitF [b0, b1, b2, b3, b4, b5, b6])).length < lim := by
        have := List.length_filter_le (bitF [b0, b1, b2, b3, b4, b5, b6]) ((rngP 0 7).take i)
        rw [List.length_take, rngL] at this
        show _ < 16777216
        omega
      rw [tk]
      generalize hF : ((rngP 0 7).take i).filter (bitF [b0, b1, b2, b3, b4, b5, b6]) = F at hFl ⊢
      generalize hB : [b0, b1, b2, b3, b4, b5, b6].getD i false = B at hb ⊢
      show Sm (asgn (Tg.one 3) (PyData.int i) (clear [none, some (D.exc c), some (D.ref 1), none, none] (Tg.one 3).slots)) _
      (simp only [↓stk_call, ↓stk_comp, ↓stk_rows, ↓stk_rc, ↓stk_for, ↓stk_whl, ↓stk_said, ↓Br.t, ↓Br.f, Br.t, Br.f, ↓w_var, ↓w_int, ↓w_bool, ↓w_none, ↓w_str, ↓w_glob, ↓w_bin, ↓w_neg, ↓w_not, ↓w_cmp, ↓w_chain, ↓w_and, ↓w_or, ↓w_ife, ↓w_tup, ↓w_lst, ↓w_ix, ↓w_ixR, ↓w_rowc, ↓w_rcomp, ↓w_sl0, ↓w_slL, ↓w_slH, ↓w_slB, ↓w_bi, ↓w_isi, ↓w_op, ↓w_idx, ↓w_sm, isS_s, ↓w_dic, ↓w_me, ↓w_call, ↓w_pick, ↓w_isx, ↓w_comp, ↓w_compI, ↓w_nil, ↓w_cons, ↓w_seq, ↓w_rng1, ↓w_rng2, ↓w_enm, ↓w_zip, ↓w_zip3, ↓s_nil, ↓s_cons, ↓s_set, ↓s_setT, ↓s_setP, ↓s_setI, ↓s_expr, ↓s_ife, ↓s_whl, ↓s_for, ↓s_ret, ↓s_retN, ↓s_pass, ↓s_brk, ↓s_cont, ↓Ok.ok, ↓Ok.bind, Sm.s, Sm.map, Sm.ite, Snap.b, In.i, Bl.b, Rf.r, mk_f, mk_t, ixF_b, ixF_r, ixF_s, pickF_w, isxF_n, isxF_e, biF_len, biF_b, biF_r, opF_w, isL_b, isL_r, Snaps, itSeq_l, itSeq_t, itZip_l, itZip_t, itZip3_w, binP, intBin, cmp_lt, cmp_le, cmp_gt, cmp_ge, cmp_eqi, cmp_nei, cmp_eqb, cmp_neb, cmp_is, cmp_isnot, cmp_isn, cmp_isnotn, isi_int, isi_bool, isi_tup, isi_lst, isi_str, isI, isBo, isTu, isLi, isSt, truth, ixP, slP, biP, owns, own, at_0, at_1, at_2, at_3, set_0, setsD, asgn, asgnT, sets, List.getElem?_cons_zero, List.getElem?_cons_succ, List.set_cons_zero, List.set_cons_succ, List.length_cons, List.length_nil, decide_eq_true_eq, Bool.not_true, Bool.not_false, Bool.not_eq_true', decide_eq_false_iff_not, Bool.true_eq_false, Bool.false_eq_true, if_true, if_false, true_and, clear, Tg.slots, truthD_w, Snap.ref (m := [MO.lst [PyData.bool b0, .bool b1, .bool b2], MO.lst [PyData.bool b0, .bool b1, .bool b2, .bool b3, .bool b4, .bool b5, .bool b6]] ++ [MO.lst F]) (n := 1) (xs := [PyData.bool b0, .bool b1, .bool b2, .bool b3, .bool b4, .bool b5, .bool b6]) rfl, hb]; try (first | refine Br.d ?_ | refine Br.nd ?_ | refine Br.nb ?_ | refine Br.b ?_))
      cases B with
      | true =>
        (simp only [↓stk_call, ↓stk_comp, ↓stk_rows, ↓stk_rc, ↓stk_for, ↓stk_whl, ↓stk_said, ↓Br.t, ↓Br.f, Br.t, Br.f, ↓w_var, ↓w_int, ↓w_bool, ↓w_none, ↓w_str, ↓w_glob, ↓w_bin, ↓w_neg, ↓w_not, ↓w_cmp, ↓w_chain, ↓w_and, ↓w_or, ↓w_ife, ↓w_tup, ↓w_lst, ↓w_ix, ↓w_ixR, ↓w_rowc, ↓w_rcomp, ↓w_sl0, ↓w_slL, ↓w_slH, ↓w_slB, ↓w_bi, ↓w_isi, ↓w_op, ↓w_idx, ↓w_sm, isS_s, ↓w_dic, ↓w_me, ↓w_call, ↓w_pick, ↓w_isx, ↓w_comp, ↓w_compI, ↓w_nil, ↓w_cons, ↓w_seq, ↓w_rng1, ↓w_rng2, ↓w_enm, ↓w_zip, ↓w_zip3, ↓s_nil, ↓s_cons, ↓s_set, ↓s_setT, ↓s_setP, ↓s_setI, ↓s_expr, ↓s_ife, ↓s_whl, ↓s_for, ↓s_ret, ↓s_retN, ↓s_pass, ↓s_brk, ↓s_cont, ↓Ok.ok, ↓Ok.bind, Sm.s, Sm.map, Sm.ite, Snap.b, In.i, Bl.b, Rf.r, mk_f, mk_t, ixF_b, ixF_r, ixF_s, pickF_w, isxF_n, isxF_e, biF_len, biF_b, biF_r, opF_w, isL_b, isL_r, Snaps, itSeq_l, itSeq_t, itZip_l, itZip_t, itZip3_w, binP, intBin, cmp_lt, cmp_le, cmp_gt, cmp_ge, cmp_eqi, cmp_nei, cmp_eqb, cmp_neb, cmp_is, cmp_isnot, cmp_isn, cmp_isnotn, isi_int, isi_bool, isi_tup, isi_lst, isi_str, isI, isBo, isTu, isLi, isSt, truth, ixP, slP, biP, owns, own, at_0, at_1, at_2, at_3, set_0, setsD, asgn, asgnT, sets, List.getElem?_cons_zero, List.getElem?_cons_succ, List.set_cons_zero, List.set_cons_succ, List.length_cons, List.length_nil, decide_eq_true_eq, Bool.not_true, Bool.not_false, Bool.not_eq_true', decide_eq_false_iff_not, Bool.true_eq_false, Bool.false_eq_true, if_true, if_false, true_and]; try (first | refine Br.d ?_ | refine Br.nd ?_ | refine Br.nb ?_ | refine Br.b ?_))
        exact ⟨_, rfl, rfl, hFl, rfl, by simp⟩
      | false =>
        (simp only [↓stk_call, ↓stk_comp, ↓stk_rows, ↓stk_rc, ↓stk_for, ↓stk_whl, ↓stk_said, ↓Br.t, ↓Br.f, Br.t, Br.f, ↓w_var, ↓w_int, ↓w_bool, ↓w_none, ↓w_str, ↓w_glob, ↓w_bin, ↓w_neg, ↓w_not, ↓w_cmp, ↓w_chain, ↓w_and, ↓w_or, ↓w_ife, ↓w_tup, ↓w_lst, ↓w_ix, ↓w_ixR, ↓w_rowc, ↓w_rcomp, ↓w_sl0, ↓w_slL, ↓w_slH, ↓w_slB, ↓w_bi, ↓w_isi, ↓w_op, ↓w_idx, ↓w_sm, isS_s, ↓w_dic, ↓w_me, ↓w_call, ↓w_pick, ↓w_isx, ↓w_comp, ↓w_compI, ↓w_nil, ↓w_cons, ↓w_seq, ↓w_rng1, ↓w_rng2, ↓w_enm, ↓w_zip, ↓w_zip3, ↓s_nil, ↓s_cons, ↓s_set, ↓s_setT, ↓s_setP, ↓s_setI, ↓s_expr, ↓s_ife, ↓s_whl, ↓s_for, ↓s_ret, ↓s_retN, ↓s_pass, ↓s_brk, ↓s_cont, ↓Ok.ok, ↓Ok.bind, Sm.s, Sm.map, Sm.ite, Snap.b, In.i, Bl.b, Rf.r, mk_f, mk_t, ixF_b, ixF_r, ixF_s, pickF_w, isxF_n, isxF_e, biF_len, biF_b, biF_r, opF_w, isL_b, isL_r, Snaps, itSeq_l, itSeq_t, itZip_l, itZip_t, itZip3_w, binP, intBin, cmp_lt, cmp_le, cmp_gt, cmp_ge, cmp_eqi, cmp_nei, cmp_eqb, cmp_neb, cmp_is, cmp_isnot, cmp_isn, cmp_isnotn, isi_int, isi_bool, isi_tup, isi_lst, isi_str, isI, isBo, isTu, isLi, isSt, truth, ixP, slP, biP, owns, own, at_0, at_1, at_2, at_3, set_0, setsD, asgn, asgnT, sets, List.getElem?_cons_zero, List.getElem?_cons_succ, List.set_cons_zero, List.set_cons_succ, List.length_cons, List.length_nil, decide_eq_true_eq, Bool.not_true, Bool.not_false, Bool.not_eq_true', decide_eq_false_iff_not, Bool.true_eq_false, Bool.false_eq_true, if_true, if_false, true_and]; try (first | refine Br.d ?_ | refine Br.nd ?_ | refine Br.nb ?_ | refine Br.b ?_))
        exact ⟨_, rfl, rfl, rfl, by simp⟩
    · rintro m' ys ⟨rfl, rfl⟩
      rw [leave_new true _ _ _ rfl]
      exact ⟨2, rfl, rfl⟩
  cases q : evSs (run G0 0) askRest [none, some (.exc c), none, none, none] [] with
  | ret d m =>
    rw [q] at h
    obtain ⟨j, e, h2⟩ := (show ∃ j, d = .ref j ∧ _ from h)
    cases e
    exact ⟨j, m, rfl, h2⟩
  | _ => rw [q] at h; exact h.elim
/-! ### the def -/
def askN : List Str := ["_law_call", "_law_error", "_law_sorts", "_law_k", "e"]
def askS (scp : Scope) : SX := ⟨askN, scp, fun _ => true, false, true⟩
def askB (scp : Scope) : List Stmt → Bool
  | .Assign [.Name y1 _] (.Constant .none _ _) _ :: .Try [.Expr (.Call (.Name x _) [] [] _) _] [.ExceptHandler (some (.Name en _)) (some n) [.Assign [.Name y2 _] (.Name n2 _) _] _] [] [] _ :: rest =>
    decide (y1 = "_law_error") && decide (x = "_law_call") && decide (en = "NetError") && decide (n = "e") && decide (y2 = "_law_error") && decide (n2 = "e") && chkSs giA G0 askRest (askS scp) rest
  | _ => false
def askR (r : Row) : Bool := scopeB r.N r.ps (defScope r.st) && decide (r.N = askN) && decide (r.ps = (["_law_call"] : List Str)) && decide ((defScope r.st).names.lookup ("_law_call" : Str) = some .local) && decide ((defScope r.st).names.lookup ("_law_error" : Str) = some .local) && decide ((defScope r.st).names.lookup ("e" : Str) = some .local) && decide ((defScope r.st).names.lookup ("NetError" : Str) = some .globalImplicit) && askB (defScope r.st) (defBody r.st)
def askX (K : PySem.W.Frag) : Bool := askOrder.all fun c => exmB K c "NetError" true
section
variable {P : Program} {w : World} {K : PySem.W.Frag} {mg : Str → Option Value} {base : Heap} {h : Heap}
theorem subs_all {gi : GI} (KX : K.In h) (Gm : h.Ns mainGlobals mg) (xs : gi.subs.all (fun q => subB K q.1 q.2) = true) {c : Str} {tab : List (Str × Bool)} (hl : gi.subs.lookup c = some tab) : SubV K mg c tab := by
  have mem : (c, tab) ∈ gi.subs := by
    generalize gi.subs = l at hl
    induction l with
    | nil => cases hl
    | cons q l ih =>
      rw [List.lookup_cons] at hl
      split at hl
      · rename_i e
        cases hl
        rw [eq_of_beq e]
        exact List.mem_cons_self ..
      · exact List.mem_cons_of_mem _ (ih hl)
  exact subV_of KX Gm (List.all_eq_true.mp xs _ mem)
theorem ask_bits : ∀ c d, askAns.lookup c = some d → ∃ k : Int, d = .l [k] ∧ c ∈ askOrder ∧ ∃ b0 b1 b2 b3 b4 b5 b6, (askTab "TooMany").lookup c = some b0 ∧ (askTab "NoContact").lookup c = some b1 ∧ (askTab "NoBridge").lookup c = some b2 ∧ (askTab "NoName").lookup c = some b3 ∧ (askTab "BadNote").lookup c = some b4 ∧ (askTab "NoPlace").lookup c = some b5 ∧ (askTab "NoTable").lookup c = some b6 ∧ askAll.lookup c = some true ∧ (rngP 0 7).filter (bitF [b0, b1, b2, b3, b4, b5, b6]) = [.int k] := by
  intro c d hl
  unfold askAns at hl
  rw [List.lookup_cons] at hl
  split at hl
  · rename_i e
    rw [eq_of_beq e]
    cases hl
    exact ⟨0, rfl, by decide +kernel, true, false, false, false, false, false, false, by decide +kernel, by decide +kernel, by decide +kernel, by decide +kernel, by decide +kernel, by decide +kernel, by decide +kernel, by decide +kernel, rfl⟩
  rw [List.lookup_cons] at hl
  split at hl
  · rename_i e
    rw [eq_of_beq e]
    cases hl
    exact ⟨1, rfl, by decide +kernel, false, true, false, false, false, false, false, by decide +kernel, by decide +kernel, by decide +kernel, by decide +kernel, by decide +kernel, by decide +kernel, by decide +kernel, by decide +kernel, rfl⟩
  rw [List.lookup_cons] at hl
  split at hl
  · rename_i e
    rw [eq_of_beq e]
    cases hl
    exact ⟨2, rfl, by decide +kernel, false, false, true, false, false, false, false, by decide +kernel, by decide +kernel, by decide +kernel, by decide +kernel, by decide +kernel, by decide +kernel, by decide +kernel, by decide +kernel, rfl⟩
  rw [List.lookup_cons] at hl
  split at hl
  · rename_i e
    rw [eq_of_beq e]
    cases hl
    exact ⟨3, rfl, by decide +kernel, false, false, false, true, false, false, false, by decide +kernel, by decide +kernel, by decide +kernel, by decide +kernel, by decide +kernel, by decide +kernel, by decide +kernel, by decide +kernel, rfl⟩
  rw [List.lookup_cons] at hl
  split at hl
  · rename_i e
    rw [eq_of_beq e]
    cases hl
    exact ⟨4, rfl, by decide +kernel, false, false, false, false, true, false, false, by decide +kernel, by decide +kernel, by decide +kernel, by decide +kernel, by decide +kernel, by decide +kernel, by decide +kernel, by decide +kernel, rfl⟩
  rw [List.lookup_cons] at hl
  split at hl
  · rename_i e
    rw [eq_of_beq e]
    cases hl
    exact ⟨5, rfl, by decide +kernel, false, false, false, false, false, true, false, by decide +kernel, by decide +kernel, by decide +kernel, by decide +kernel, by decide +kernel, by decide +kernel, by decide +kernel, by decide +kernel, rfl⟩
  rw [List.lookup_cons] at hl
  split at hl
  · rename_i e
    rw [eq_of_beq e]
    cases hl
    exact ⟨6, rfl, by decide +kernel, false, false, false, false, false, false, true, by decide +kernel, by decide +kernel, by decide +kernel, by decide +kernel, by decide +kernel, by decide +kernel, by decide +kernel, by decide +kernel, rfl⟩
  cases hl
theorem ask_ext {I : TabC} {f : Addr → Str → Prop} {r r' : List Addr} {H H' : Hp} (e : @Ext ⟨I.T, f⟩ r H r' H') : @Ext I r H r' H' :=
  @Ext.mk I r H r' H' (@Ext.pre ⟨I.T, f⟩ _ _ _ _ e) (@Ext.fresh ⟨I.T, f⟩ _ _ _ _ e) (@Ext.keep ⟨I.T, f⟩ _ _ _ _ e) (@Ext.tups ⟨I.T, f⟩ _ _ _ _ e) (@Ext.frzs ⟨I.T, f⟩ _ _ _ _ e) (@Ext.tabs ⟨I.T, f⟩ _ _ _ _ e) (@Ext.rows ⟨I.T, f⟩ _ _ _ _ e)
theorem ask_xok {I : TabC} {f : Addr → Str → Prop} {scp : Scope} {x : Str} {g : Addr} {cdv : Value} {A : Around} {st : List PySem.Env} {s : Shared} {H : Hp} {pn : List (Addr × Obj)} (KX : K.In h) (Gm : h.Ns mainGlobals mg) (hb : ∀ x ∈ blts, PySem.W.nsIn K mainGlobals x = some none) (xs : askSubs.all (fun q => subB K q.1 q.2) = true) (hgd : A.guards = some []) (room : Room 1 A)
    (hpn : ∀ a c, f a c → ∃ oe, (a, oe) ∈ pn ∧ Zc (clsV mg c) none oe ∧ ∃ vs, oe.data = .fields vs) : @XOk ⟨I.T, f⟩ P w K mg base giA G0 0 (askS scp) W0 ((cxOf C8.CX0 P w K mg base askN x scp g cdv A st s H C8.E0).nox.tr pn fun _ _ => False) :=
  letI : TabC := ⟨I.T, f⟩
  { eP := rfl, eW := rfl, eK := rfl, eM := rfl, eB := rfl, eN := rfl, eS := rfl, nd := (by show askN.Nodup; decide +kernel), calm := rfl, eF := rfl, tk := takes0, own := PassesOwn.never, room := (show Room 0 (A.deeper _) from room.deeper _), gd := hgd,
    gok := ⟨(fun d tab hl => nomatch hl), (fun x s hl => nomatch hl), (fun x hx => nomatch hx), (fun c tab hl => subs_all (gi := giA) KX Gm xs hl), (fun g tab hl => nomatch hl)⟩,
    rl := fun z => absurd (show false = true from z) Bool.false_ne_true,
    exq := fun _ a c hX => hpn a c hX,
    blt := fun x hx => PySem.W.mg_none_of KX Gm (hb x hx), gint := (fun x i hl => nomatch hl), fns := (fun f fd hf => nomatch hf) }
theorem ask_row [I : TabC] {r : Row} (KX : K.In h) (Gm : h.Ns mainGlobals mg) (at_ : DefAt K r) (bnd : BindB r) (hr : askR r = true) (xs : askSubs.all (fun q => subB K q.1 q.2) = true) (xm : askX K = true) (hb : ∀ x ∈ blts, PySem.W.nsIn K mainGlobals x = some none) : SaidV P w K mg base r.f askAns := by
  unfold askR at hr
  simp only [Bool.and_eq_true, decide_eq_true_eq] at hr
  obtain ⟨⟨⟨⟨⟨⟨⟨h1, h2⟩, h3⟩, h4⟩, h5⟩, h6⟩, h7⟩, h8⟩ := hr
  have S := scope_of h1
  obtain ⟨ga, fd, g1, F⟩ := at_
  obtain ⟨oc, od, kV, doc, pm, an, cdv, ct, osl, rfl, lk, hcd⟩ := F.ex
  rw [h2, h3] at S
  have b := F.binds bnd
  rw [h3] at b
  refine ⟨ga, oc, od, _, _, _, _, kV, doc, pm, cdv, ct, an, osl, askN, "_law_call", PySem.W.mg_of KX Gm g1, F.kp, lk, hcd, b, S, rfl, .inl h4, by decide +kernel, ?_⟩
  intro A st q f c' s H Q tl hgd room act hco ht
  unfold askB at h8
  split at h8
  case h_2 => cases h8
  rename_i y1 p1 j1 p2 p3 x0 p4 p5 p6 en p7 n y2 p8 n2 p9 p10 p11 p12 rest e0
  simp only [Bool.and_eq_true, decide_eq_true_eq] at h8
  obtain ⟨⟨⟨⟨⟨⟨b1, b2⟩, b3⟩, b4⟩, b5⟩, b6⟩, b7⟩ := h8
  subst b1 b2 b3 b4 b5 b6
  rw [e0]
  let X : Cx := (cxOf C8.CX0 P w K mg base askN r.f (defScope r.st) ga cdv A st s H C8.E0).nox
  have hk : X.env.blockKind = .function := by
    show (if (defScope r.st).kind.isAnnotationScope then ScopeKind.function else (defScope r.st).kind) = _
    rw [S.kind]
    rfl
  have nd : X.N.Nodup := by show askN.Nodup; decide +kernel
  -- the class that the clause names
  have hall := List.all_eq_true.mp xm
  have net : ∃ N, mg "NetError" = some (.ref N) := by
    obtain ⟨C, N, _, e, _⟩ := exmV_of KX Gm (hall "TooMany" (by decide +kernel))
    exact ⟨N, e⟩
  obtain ⟨N, hN⟩ := net
  have st1 : PS X (.Assign [.Name "_law_error" p1] (.Constant .none j1 p2) p3) (tAsg (tC .non) (gName 1)) := ps_set (i := 1) nd rfl (.inl h5) pe_non rfl (.inr h5)
  -- what follows
  have rest0 : PSs X rest (@TXSs ⟨I.T, fun _ _ => False⟩ K mg (run G0 0) W0 askRest) :=
    @sSs ⟨I.T, fun _ _ => False⟩ P w K mg base giA G0 0 askRest (askS (defScope r.st)) W0 X rest (ask_xok (pn := []) KX Gm hb xs hgd room fun a c z => z.elim) hk b7
  have rest1 : ∀ (a : Addr) (oe : Obj) (cls : Value), Zc cls none oe → (∃ vs, oe.data = .fields vs) → PSs (X.tr ((a, oe) :: X.pn) X.xe) rest (fun D σ H => ∃ c, cls = clsV mg c ∧ @TXSs ⟨I.T, fun a' c' => a' = a ∧ c' = c⟩ K mg (run G0 0) W0 askRest D σ H) := by
    intro a oe cls hz hv
    constructor
    rintro pins s σ H D J ⟨c, rfl, q⟩
    exact (@sSs ⟨I.T, fun a' c' => a' = a ∧ c' = c⟩ P w K mg base giA G0 0 askRest (askS (defScope r.st)) W0 (X.tr ((a, oe) :: X.pn) X.xe) rest (ask_xok (pn := [(a, oe)]) KX Gm hb xs hgd room (by
      rintro a' c'' ⟨rfl, rfl⟩
      exact ⟨oe, List.mem_cons_self .., hz, hv⟩)) hk b7).run pins s σ H D J q
  have st2 := pss_hold (X := X) (x := "NetError") (n := "e") (y := "_law_error") (c := .ref N) (i := 4) (j := 1) (body := [.Expr (.Call (.Name "_law_call" p4) [] [] p5) p6]) (np := p7) (p1 := p8) (p2 := p9) (p3 := p10) (p4 := p11) (pos := p12)
    (tb := fun W D σ H => ∃ E : XK, (∀ cls d σ' H', E cls d H' → σ'.length = 5 → W cls d σ' H') ∧ σ[0]? = some (some (.ref f)) ∧ H c' = some (LamX.CodeO c' q) ∧ tl E H fun _ H' => D.nx σ H')
    rfl rfl nd rfl rfl h6 h5 ⟨h7, by decide +kernel, .inl hN⟩ (by decide +kernel) (by decide +kernel) (fun W pn xe tk _ => ?_) rest0 rest1
  · refine ⟨_, pss_cons st1 st2, ?_⟩
    refine ⟨_, ?_, rfl, hco, ht _ ?_⟩
    · rintro cls d σ' H' ⟨rfl, tabs, c, dd, rfl, hd, hq⟩ hl5
      obtain ⟨k, rfl, hm, b0, b1, b2, b3, b4, b5, b6, t0, t1, t2, t3, t4, t5, t6, tv, hf⟩ := ask_bits c dd hd
      obtain ⟨C, N', e1, e2, e3⟩ := exmV_of KX Gm (hall c hm)
      rw [hN] at e2
      cases e2
      refine ⟨by unfold clsV; rw [e1]; exact e3, rfl, fun a na => ⟨c, rfl, ?_⟩⟩
      obtain ⟨j, m, ev1, ev2⟩ := ask_gen t0 t1 t2 t3 t4 t5 t6 tv
      rw [hf] at ev2
      letI : TabC := ⟨I.T, fun a' c' => a' = a ∧ c' = c⟩
      refine ⟨[], [none, some (.exc c), none, none, none], [], ⟨rfl, List.nodup_nil, (fun n a o h _ => by simp at h), tabs, (fun n ks h => by simp at h)⟩, ⟨by simp [hl5], ?_⟩, ?_⟩
      · intro i d hi
        match i, hi with
        | 0, hi => simp at hi
        | 1, hi =>
          cases hi
          refine ⟨.ref a, ?_, a, rfl, rfl, rfl⟩
          rw [List.getElem?_set_ne (by decide), List.getElem?_set_self (by rw [List.length_set, hl5]; decide)]
        | 2, hi => simp at hi
        | 3, hi => simp at hi
        | 4, hi => simp at hi
        | i + 5, hi => simp at hi
      · rw [ev1]
        rintro r2 H2 v e2 R2 ⟨a2, ha2, rfl⟩
        obtain ⟨vs, w1, w2⟩ := R2.at_ j a2 _ ha2 ev2
        have hvs := intsOf_vs (ns := [k]) rfl w2
        subst hvs
        refine hq H2 a2 (ask_ext (I := I) e2.take) (fun vs' z => ?_) w1
        rcases e2.fresh a2 (List.mem_of_getElem? ha2) with z1 | z1 | ⟨q1, z1⟩
        · cases z1
        · rw [z1] at z; cases z
        · rw [z1] at z; cases z
    · intro v H' tabs hq
      obtain ⟨m, ev1⟩ := ask_none
      letI : TabC := ⟨I.T, fun _ _ => False⟩
      refine ⟨[], [none, some (.b .none), none, none, none], [], ⟨rfl, List.nodup_nil, (fun n a o h _ => by simp at h), tabs, (fun n ks h => by simp at h)⟩, ⟨rfl, ?_⟩, ?_⟩
      · intro i d hi
        match i, hi with
        | 0, hi => simp at hi
        | 1, hi => cases hi; exact ⟨.non, rfl, by show RepB _ _ _ _; rw [RepB]⟩
        | 2, hi => simp at hi
        | 3, hi => simp at hi
        | 4, hi => simp at hi
        | i + 5, hi => simp at hi
      · rw [ev1]
        rintro r2 H2 v e2 R2 rv
        have rv : RepB r2 H2 .none v := rv
        rw [RepB] at rv
        subst rv
        exact hq H2 (ask_ext (I := I) e2.take)
  · refine ⟨fun pinsZ sZ σZ HZ DZ IZ hZ => ?_⟩
    obtain ⟨E, hW, z1, z2, z3⟩ := hZ
    have tk' : Takes (X.tr pn xe) (fun cls d σ' H' => σ'.length = 5 → W cls d σ' H') := fun u s' ⟨a, B, sI, pins, σ', H', cls, d, e, I, r⟩ => tk u s' ⟨a, B, sI, pins, σ', H', cls, d, e, I, r.1, r.2.1, r.2.2.1, r.2.2.2.1, r.2.2.2.2.1, r.2.2.2.2.2.1, r.2.2.2.2.2.2 I.len⟩
    have hp := act _ pn xe E p4 p5 tk' hW
    exact (pss_one (ps_expr (pos := p6) hp)).run pinsZ sZ σZ HZ DZ IZ ⟨z1, z2, z3⟩
end
end Z

/-! Z20: what is connected, in plain Lean: the least marks of rounds, a search's places. -/
namespace Z
inductive Cn (E : List (Nat × Nat)) (s : Nat) : Nat → Prop where
  | refl : Cn E s s
  | fwd {x y : Nat} : Cn E s x → (x, y) ∈ E → Cn E s y
  | bwd {x y : Nat} : Cn E s x → (y, x) ∈ E → Cn E s y
theorem Cn.trans {E : List (Nat × Nat)} {s x y : Nat} (h : Cn E s x) (k : Cn E x y) : Cn E s y := by
  induction k with
  | refl => exact h
  | fwd _ e ih => exact .fwd ih e
  | bwd _ e ih => exact .bwd ih e
theorem Cn.symm {E : List (Nat × Nat)} {s x : Nat} (h : Cn E s x) : Cn E x s := by
  induction h with
  | refl => exact .refl
  | fwd _ e ih => exact Cn.trans (.bwd .refl e) ih
  | bwd _ e ih => exact Cn.trans (.fwd .refl e) ih
/-- a mark, at a place -/
def mk1 (M : List Nat) (v : Nat) : Nat := M.getD v 1
def estep (M : List Nat) (e : Nat × Nat) : List Nat := (M.set e.1 (min (mk1 M e.1) (mk1 M e.2))).set e.2 (min (mk1 M e.1) (mk1 M e.2))
def round (E : List (Nat × Nat)) (M : List Nat) : List Nat := E.foldl estep M
def rounds (E : List (Nat × Nat)) : Nat → List Nat → List Nat
  | 0, M => M
  | n + 1, M => rounds E n (round E M)
theorem estep_len (M : List Nat) (e : Nat × Nat) : (estep M e).length = M.length := by unfold estep; rw [List.length_set, List.length_set]
theorem round_len (E : List (Nat × Nat)) : ∀ M : List Nat, (round E M).length = M.length := by
  induction E with
  | nil => intro M; rfl
  | cons e E ih => intro M; show (round E (estep M e)).length = _; rw [ih, estep_len]
theorem estep_at {M : List Nat} {e : Nat × Nat} (h1 : e.1 < M.length) (h2 : e.2 < M.length) (v : Nat) : mk1 (estep M e) v = if v = e.1 ∨ v = e.2 then min (mk1 M e.1) (mk1 M e.2) else mk1 M v := by
  unfold estep mk1
  by_cases b : v = e.2
  · rw [if_pos (.inr b)]
    subst b
    rw [List.getD_eq_getElem?_getD, List.getElem?_set_self (by rw [List.length_set]; exact h2)]
    rfl
  · by_cases a : v = e.1
    · rw [if_pos (.inl a), List.getD_eq_getElem?_getD, List.getElem?_set_ne (fun z => b z.symm)]
      subst a
      rw [List.getElem?_set_self h1]
      rfl
    · rw [if_neg (fun z => z.elim a b), List.getD_eq_getElem?_getD, List.getElem?_set_ne (fun z => b z.symm), List.getElem?_set_ne (fun z => a z.symm), ← List.getD_eq_getElem?_getD]
section
variable {E : List (Nat × Nat)} {P : Nat}
def Wf (E : List (Nat × Nat)) (P : Nat) : Prop := ∀ e ∈ E, e.1 < P ∧ e.2 < P
theorem estep_mono {M : List Nat} {e : Nat × Nat} (h1 : e.1 < M.length) (h2 : e.2 < M.length) {v : Nat} (h : mk1 M v = 0) : mk1 (estep M e) v = 0 := by
  rw [estep_at h1 h2]
  split
  · rename_i hv
    rcases hv with hv | hv <;> (subst hv; rw [h]; simp)
  · exact h
theorem round_mono {L : List (Nat × Nat)} : ∀ {M : List Nat}, (∀ e ∈ L, e.1 < M.length ∧ e.2 < M.length) → ∀ {v : Nat}, mk1 M v = 0 → mk1 (round L M) v = 0 := by
  induction L with
  | nil => intro M _ v h; exact h
  | cons e L ih =>
    intro M hw v h
    have he := hw e (List.mem_cons_self ..)
    exact ih (M := estep M e) (fun x hx => by rw [estep_len]; exact hw x (List.mem_cons_of_mem _ hx)) (estep_mono he.1 he.2 h)
theorem round_after {L : List (Nat × Nat)} : ∀ {M : List Nat}, (∀ e ∈ L, e.1 < M.length ∧ e.2 < M.length) → ∀ e ∈ L, mk1 M e.1 = 0 ∨ mk1 M e.2 = 0 → mk1 (round L M) e.1 = 0 ∧ mk1 (round L M) e.2 = 0 := by
  induction L with
  | nil => intro M _ e h; cases h
  | cons f L ih =>
    intro M hw e he hz
    have hf := hw f (List.mem_cons_self ..)
    have hw' : ∀ e ∈ L, e.1 < (estep M f).length ∧ e.2 < (estep M f).length := fun x hx => by rw [estep_len]; exact hw x (List.mem_cons_of_mem _ hx)
    rcases List.mem_cons.mp he with rfl | he
    · have a : mk1 (estep M e) e.1 = 0 := by
        rw [estep_at hf.1 hf.2, if_pos (.inl rfl)]
        rcases hz with z | z <;> (rw [z]; simp)
      have b : mk1 (estep M e) e.2 = 0 := by
        rw [estep_at hf.1 hf.2, if_pos (.inr rfl)]
        rcases hz with z | z <;> (rw [z]; simp)
      exact ⟨round_mono hw' a, round_mono hw' b⟩
    · exact ih hw' e he (hz.imp (estep_mono hf.1 hf.2) (estep_mono hf.1 hf.2))
def Closed (E : List (Nat × Nat)) (M : List Nat) : Prop := ∀ e ∈ E, mk1 M e.1 = 0 ↔ mk1 M e.2 = 0
theorem estep_same {M : List Nat} {e : Nat × Nat} (h1 : e.1 < M.length) (h2 : e.2 < M.length) (hc : mk1 M e.1 = 0 ↔ mk1 M e.2 = 0) (v : Nat) : mk1 (estep M e) v = 0 ↔ mk1 M v = 0 := by
  rw [estep_at h1 h2]
  split
  · rename_i hv
    rcases hv with hv | hv <;> (subst hv; omega)
  · exact Iff.rfl
theorem round_same {L : List (Nat × Nat)} : ∀ {M : List Nat}, (∀ e ∈ L, e.1 < M.length ∧ e.2 < M.length) → (∀ e ∈ L, mk1 M e.1 = 0 ↔ mk1 M e.2 = 0) → ∀ v, mk1 (round L M) v = 0 ↔ mk1 M v = 0 := by
  induction L with
  | nil => intro M _ _ v; exact Iff.rfl
  | cons f L ih =>
    intro M hw hc v
    have hf := hw f (List.mem_cons_self ..)
    have s := estep_same hf.1 hf.2 (hc f (List.mem_cons_self ..))
    have := ih (M := estep M f) (fun x hx => by rw [estep_len]; exact hw x (List.mem_cons_of_mem _ hx)) (fun e he => by rw [s, s]; exact hc e (List.mem_cons_of_mem _ he)) v
    exact this.trans (s v)
def cnt (P : Nat) (M : List Nat) : Nat := (List.range P).countP fun v => decide (mk1 M v = 0)
theorem countP_le_of {α : Type} {p q : α → Bool} : ∀ {l : List α}, (∀ x ∈ l, p x = true → q x = true) → l.countP p ≤ l.countP q
  | [], _ => Nat.le_refl _
  | x :: l, h => by
    have ih := countP_le_of (l := l) fun y hy => h y (List.mem_cons_of_mem _ hy)
    rw [List.countP_cons, List.countP_cons]
    have := h x (List.mem_cons_self ..)
    by_cases hp : p x = true
    · rw [if_pos hp, if_pos (this hp)]; omega
    · rw [if_neg hp]; split <;> omega
theorem countP_lt_of {α : Type} {p q : α → Bool} : ∀ {l : List α}, (∀ x ∈ l, p x = true → q x = true) → (∃ x ∈ l, q x = true ∧ p x = false) → l.countP p < l.countP q
  | [], _, ⟨x, h, _⟩ => by cases h
  | y :: l, h, ⟨x, hx, hq, hp⟩ => by
    have hl := fun y hy => h y (List.mem_cons_of_mem _ hy)
    rw [List.countP_cons, List.countP_cons]
    rcases List.mem_cons.mp hx with e | hx
    · subst e
      have := countP_le_of hl
      rw [if_neg (by rw [hp]; exact Bool.false_ne_true), if_pos hq]; omega
    · have ih := countP_lt_of hl ⟨x, hx, hq, hp⟩
      have := h y (List.mem_cons_self ..)
      by_cases hpy : p y = true
      · rw [if_pos hpy, if_pos (this hpy)]; omega
      · rw [if_neg hpy]; split <;> omega
theorem grows {M : List Nat} (hl : M.length = P) (hw : Wf E P) (h : ¬ Closed E M) : cnt P M < cnt P (round E M) := by
  have hw' : ∀ e ∈ E, e.1 < M.length ∧ e.2 < M.length := fun e he => by rw [hl]; exact hw e he
  have ⟨e, he, hne⟩ : ∃ e ∈ E, ¬ (mk1 M e.1 = 0 ↔ mk1 M e.2 = 0) := by
    apply Classical.byContradiction
    intro hn
    apply h
    intro e he
    apply Classical.byContradiction
    intro q
    exact hn ⟨e, he, q⟩
  refine countP_lt_of (fun v _ hv => decide_eq_true (round_mono hw' (of_decide_eq_true hv))) ?_
  by_cases a : mk1 M e.1 = 0
  · have b : mk1 M e.2 ≠ 0 := fun b => hne ⟨fun _ => b, fun _ => a⟩
    exact ⟨e.2, List.mem_range.mpr (hw e he).2, decide_eq_true (round_after hw' e he (.inl a)).2, decide_eq_false b⟩
  · have b : mk1 M e.2 = 0 := by
      apply Classical.byContradiction
      intro b
      exact hne ⟨fun z => absurd z a, fun z => absurd z b⟩
    exact ⟨e.1, List.mem_range.mpr (hw e he).1, decide_eq_true (round_after hw' e he (.inr b)).1, decide_eq_false a⟩
theorem closed_keep {M : List Nat} (hl : M.length = P) (hw : Wf E P) (h : Closed E M) : Closed E (round E M) := by
  have s := round_same (L := E) (M := M) (fun e he => by rw [hl]; exact hw e he) h
  intro e he
  rw [s, s]
  exact h e he
theorem rounds_closed (hw : Wf E P) : ∀ (n : Nat) {M : List Nat}, M.length = P → 1 ≤ cnt P M → (Closed E (rounds E n M) ∨ n + cnt P M ≤ cnt P (rounds E n M))
  | 0, M, hl, _ => .inr (by show 0 + cnt P M ≤ cnt P M; omega)
  | n + 1, M, hl, hc => by
    have hl' : (round E M).length = P := by rw [round_len]; exact hl
    by_cases h : Closed E M
    · left
      have : ∀ (n : Nat) {M : List Nat}, M.length = P → Closed E M → Closed E (rounds E n M) := by
        intro n
        induction n with
        | zero => intro M _ h; exact h
        | succ n ih => intro M hl h; exact ih (by rw [round_len]; exact hl) (closed_keep hl hw h)
      exact this (n + 1) hl h
    · have g := grows hl hw h
      rcases rounds_closed hw n hl' (by omega) with q | q
      · exact .inl q
      · right
        show n + 1 + cnt P M ≤ cnt P (rounds E n (round E M))
        omega
theorem rounds_len : ∀ (n : Nat) (M : List Nat), (rounds E n M).length = M.length
  | 0, M => rfl
  | n + 1, M => by show (rounds E n (round E M)).length = _; rw [rounds_len n, round_len]
theorem rounds_mono (hw : Wf E P) : ∀ (n : Nat) {M : List Nat}, M.length = P → ∀ {v}, mk1 M v = 0 → mk1 (rounds E n M) v = 0
  | 0, M, _, v, h => h
  | n + 1, M, hl, v, h => rounds_mono hw n (M := round E M) (by rw [round_len]; exact hl) (round_mono (fun e he => by rw [hl]; exact hw e he) h)
def Sound (E : List (Nat × Nat)) (P : Nat) (M : List Nat) : Prop := ∀ v, v < P → Cn E (mk1 M v) v
theorem round_sound {L : List (Nat × Nat)} (hs : ∀ e ∈ L, e ∈ E) (hw : Wf E P) : ∀ {M : List Nat}, M.length = P → Sound E P M → Sound E P (round L M) := by
  induction L with
  | nil => intro M _ h; exact h
  | cons f L ih =>
    intro M hl h
    have hf := hw f (hs f (List.mem_cons_self ..))
    refine ih (fun e he => hs e (List.mem_cons_of_mem _ he)) (M := estep M f) (by rw [estep_len]; exact hl) fun v hv => ?_
    rw [estep_at (by rw [hl]; exact hf.1) (by rw [hl]; exact hf.2)]
    split
    · rename_i hv
      have hm : (f.1, f.2) ∈ E := hs f (List.mem_cons_self ..)
      have c1 := h f.1 hf.1
      have c2 := h f.2 hf.2
      have e12 : Cn E f.1 f.2 := .fwd .refl hm
      rcases Nat.le_total (mk1 M f.1) (mk1 M f.2) with q | q
      · rw [Nat.min_eq_left q]
        rcases hv with hv | hv <;> subst hv
        · exact c1
        · exact c1.trans e12
      · rw [Nat.min_eq_right q]
        rcases hv with hv | hv <;> subst hv
        · exact c2.trans e12.symm
        · exact c2
    · exact h v hv
theorem rounds_sound (hw : Wf E P) : ∀ (n : Nat) {M : List Nat}, M.length = P → Sound E P M → Sound E P (rounds E n M)
  | 0, M, _, h => h
  | n + 1, M, hl, h => rounds_sound hw n (M := round E M) (by rw [round_len]; exact hl) (round_sound (fun _ h => h) hw hl h)
/-- the marks behind P rounds: 0 just where it is connected with 0 -/
theorem marks_ok (hP : 0 < P) (hw : Wf E P) {v : Nat} (hv : v < P) : mk1 (rounds E P (List.range P)) v = 0 ↔ Cn E 0 v := by
  have at_ : ∀ v, v < P → mk1 (List.range P) v = v := fun v hv => by
    unfold mk1
    rw [List.getD_eq_getElem?_getD, List.getElem?_range hv]
    rfl
  have hl : (List.range P).length = P := List.length_range
  have s0 : Sound E P (List.range P) := fun v hv => by rw [at_ v hv]; exact .refl
  have z0 : mk1 (List.range P) 0 = 0 := at_ 0 hP
  have c0 : 1 ≤ cnt P (List.range P) := List.countP_pos_iff.mpr ⟨0, List.mem_range.mpr hP, decide_eq_true z0⟩
  have cl : Closed E (rounds E P (List.range P)) := by
    rcases rounds_closed hw P hl c0 with q | q
    · exact q
    · have : cnt P (rounds E P (List.range P)) ≤ P := by
        unfold cnt
        exact Nat.le_trans List.countP_le_length (by rw [List.length_range]; exact Nat.le_refl _)
      omega
  constructor
  · intro h
    have := rounds_sound hw P hl s0 v hv
    rw [h] at this
    exact this
  · intro h
    have z := rounds_mono hw P hl z0
    induction h with
    | refl => exact z
    | fwd _ e ih => exact (cl _ e).mp (ih (hw _ e).1)
    | bwd _ e ih => exact (cl _ e).mpr (ih (hw _ e).2)
/-- a search's places -/
theorem found_ok {F : List Nat} {s : Nat} (h0 : s ∈ F) (h1 : ∀ x ∈ F, Cn E s x) (h2 : ∀ x ∈ F, ∀ e ∈ E, (e.1 = x → e.2 ∈ F) ∧ (e.2 = x → e.1 ∈ F)) (v : Nat) : v ∈ F ↔ Cn E s v := by
  constructor
  · exact h1 v
  · intro h
    induction h with
    | refl => exact h0
    | fwd _ e ih => exact (h2 _ ih _ e).1 rfl
    | bwd _ e ih => exact (h2 _ ih _ e).2 rfl
end
end Z

/-! Z21: settings, shut contacts, the search, the marks: what most laws call (from the law k12). -/
namespace Z
open PySem
def b_settings : Fd := ⟨1, 6, (.cons (.set 1 (.lst true (.cons (.tup .nil) .nil))) (.cons (.for (.one 2) (.rng1 (.var 0)) (.cons (.set 3 (.lst true .nil)) (.cons (.for (.one 4) (.seq (.var 1)) (.cons (.expr (.me .extend (.var 3) (.cons (.comp false (.one 5) (.seq (.tup (.cons (.int 0) (.cons (.int 1) .nil)))) (.bin .Add (.var 4) (.tup (.cons (.var 5) .nil)))) .nil))) .nil)) (.cons (.set 1 (.var 3)) .nil)))) (.cons (.ret (.var 1)) .nil)))⟩
def b_shut_at : Fd := ⟨2, 4, (.cons (.ret (.bi .tuple false (.cons (.compI false (.many [2, 3]) (.enm (.ix (.var 0) (.int 2))) (.cmp .Eq (.ix (.var 1) (.ix (.var 3) (.int 2))) (.ix (.var 3) (.int 3))) (.var 2)) .nil))) .nil)⟩
def b_reached : Fd := ⟨3, 8, (.cons (.set 3 (.lst true (.cons (.var 2) .nil))) (.cons (.set 4 (.int 0)) (.cons (.whl (.cmp .Lt (.var 4) (.bi .len false (.cons (.var 3) .nil))) (.cons (.for (.one 5) (.seq (.var 1)) (.cons (.set 6 (.slH (.ix (.ix (.var 0) (.int 2)) (.var 5)) (.int 2))) (.cons (.ife (.cmp .In (.ix (.var 3) (.var 4)) (.var 6)) (.cons (.set 7 (.bin .Sub (.bin .Add (.ix (.var 6) (.int 0)) (.ix (.var 6) (.int 1))) (.ix (.var 3) (.var 4)))) (.cons (.ife (.cmp .NotIn (.var 7) (.var 3)) (.cons (.expr (.me .append (.var 3) (.cons (.var 7) .nil))) .nil) .nil) .nil)) .nil) .nil))) (.cons (.set 4 (.bin .Add (.var 4) (.int 1))) .nil))) (.cons (.ret (.bi .sorted false (.cons (.var 3) .nil))) .nil))))⟩
def b_lets : Fd := ⟨2, 2, (.cons (.ret (.cmp .In (.int 1) (.call false "reached" (.cons (.var 0) (.cons (.call false "shut_at" (.cons (.var 0) (.cons (.var 1) .nil))) (.cons (.int 0) .nil)))))) .nil)⟩
def b_law_settings : Fd := ⟨1, 4, (.cons (.set 1 (.lst true .nil)) (.cons (.for (.one 2) (.rng1 (.bin .LShift (.int 1) (.var 0))) (.cons (.expr (.me .append (.var 1) (.cons (.bi .tuple false (.cons (.comp false (.one 3) (.rng1 (.var 0)) (.bin .BitAnd (.bin .RShift (.var 2) (.bin .Sub (.bin .Sub (.var 0) (.int 1)) (.var 3))) (.int 1))) .nil)) .nil))) .nil)) (.cons (.ret (.var 1)) .nil)))⟩
def b_law_shut : Fd := ⟨2, 4, (.cons (.ret (.compI false (.many [2, 3]) (.enm (.ix (.var 0) (.int 2))) (.cmp .Eq (.ix (.var 1) (.ix (.var 3) (.int 2))) (.ix (.var 3) (.int 3))) (.var 2))) .nil)⟩
def b_law_marks : Fd := ⟨2, 8, (.cons (.set 2 (.bi .lrng1 true (.cons (.ix (.var 0) (.int 1)) .nil))) (.cons (.for (.one 3) (.rng1 (.ix (.var 0) (.int 1))) (.cons (.for (.one 4) (.seq (.var 1)) (.cons (.setT [6, 7] (.slH (.ix (.ix (.var 0) (.int 2)) (.var 4)) (.int 2))) (.cons (.set 5 (.bi .min2 false (.cons (.ix (.var 2) (.var 6)) (.cons (.ix (.var 2) (.var 7)) .nil)))) (.cons (.setI (.var 2) (.var 6) (.var 5)) (.cons (.setI (.var 2) (.var 7) (.var 5)) .nil))))) .nil)) (.cons (.ret (.var 2)) .nil)))⟩
def b_law_lets : Fd := ⟨2, 2, (.cons (.ret (.cmp .Eq (.ix (.call false "_law_marks" (.cons (.var 0) (.cons (.call false "_law_shut" (.cons (.var 0) (.cons (.var 1) .nil))) .nil))) (.int 1)) (.int 0))) .nil)⟩
section
variable {G : Tab}
/-! ### settings, shut contacts -/
def SetP (s : Int) (t : List PyData) : Prop := (t.length : Int) = s ∧ ∀ x ∈ t, ∃ b : Int, x = .int b
theorem SetP.at {s : Int} {t : List PyData} (h : SetP s t) {w : Int} (h0 : 0 ≤ w) (h1 : w < s) : ∃ b : Int, atP t w = some (.int b) := by
  obtain ⟨x, e, e2⟩ := at_int (xs := t) h0 (by rw [h.1]; exact h1)
  obtain ⟨b, rfl⟩ := h.2 x (List.mem_of_getElem? e2)
  exact ⟨b, e⟩
/-- is this numbered contact shut -/
def shC (t : List PyData) (x : PyData) : Bool :=
  match x with
  | .tuple [_, .tuple [_, _, .int w, .int o]] => (match atP t w with
    | some (.int b) => decide (b = o)
    | _ => false)
  | _ => false
def fstD (x : PyData) : PyData :=
  match x with
  | .tuple (a :: _) => a
  | _ => .none
def shutL (cs t : List PyData) : List PyData := ((pairs (rngP 0 cs.length) cs).filter (shC t)).map fstD
theorem shut_comp {k : Nat} {m : Mem} {s p : Int} {cs t : List PyData} {rr : Bool} {Q : D → Mem → Prop} {δ0 δ1 : Option D} (hc : cs.length ≤ 16) (hg : ∀ c ∈ cs, GoodC s p c) (ht : SetP s t)
    (hq : if rr = true then Q (.ref m.length) (m ++ [.lst (shutL cs t)]) else Q (.b (.list (shutL cs t))) m) :
    Ok (compL (fun δ m => (ev (run G k) (.cmp .Eq (.ix (.var 1) (.ix (.var 3) (.int 2))) (.ix (.var 3) (.int 3))) δ m).bind truthD) (fun δ m => ev (run G k) (.var 2) δ m) (.many [2, 3])
      [some (.b (.tuple [.int s, .int p, .tuple cs])), some (.b (.tuple t)), δ0, δ1] none m.length (pairs (rngP 0 cs.length) cs) (m ++ [.lst []])) fun _ m' => Ok (leave rr m.length (.ref m.length) m') Q := by
  refine compI_pure (shC t) fstD (by rw [pairs_length]; show _ ≤ 16777216; omega) (fun x hx mm => ?_) hq
  obtain ⟨i, hi⟩ := List.mem_iff_getElem?.mp hx
  obtain ⟨a, c, e1, e2, rfl⟩ := pair_get hi
  obtain ⟨ca, cb, w, o, rfl, a0, ab, bp, w0, w1, o0, o1⟩ := hg c (List.mem_of_getElem? e2)
  obtain ⟨b, hb⟩ := ht.at w0 w1
  (simp only [↓stk_call, ↓stk_comp, ↓stk_rows, ↓stk_rc, ↓stk_for, ↓stk_whl, ↓stk_said, ↓Br.t, ↓Br.f, Br.t, Br.f, ↓w_var, ↓w_int, ↓w_bool, ↓w_none, ↓w_str, ↓w_glob, ↓w_bin, ↓w_neg, ↓w_not, ↓w_cmp, ↓w_chain, ↓w_and, ↓w_or, ↓w_ife, ↓w_tup, ↓w_lst, ↓w_ix, ↓w_ixR, ↓w_rowc, ↓w_rcomp, ↓w_sl0, ↓w_slL, ↓w_slH, ↓w_slB, ↓w_bi, ↓w_isi, ↓w_op, ↓w_idx, ↓w_sm, isS_s, ↓w_dic, ↓w_me, ↓w_call, ↓w_pick, ↓w_isx, ↓w_comp, ↓w_compI, ↓w_nil, ↓w_cons, ↓w_seq, ↓w_rng1, ↓w_rng2, ↓w_enm, ↓w_zip, ↓w_zip3, ↓s_nil, ↓s_cons, ↓s_set, ↓s_setT, ↓s_setP, ↓s_setI, ↓s_expr, ↓s_ife, ↓s_whl, ↓s_for, ↓s_ret, ↓s_retN, ↓s_pass, ↓s_brk, ↓s_cont, ↓Ok.ok, ↓Ok.bind, Sm.s, Sm.map, Sm.ite, Snap.b, In.i, Bl.b, Rf.r, mk_f, mk_t, ixF_b, ixF_r, ixF_s, pickF_w, isxF_n, isxF_e, biF_len, biF_b, biF_r, opF_w, isL_b, isL_r, Snaps, itSeq_l, itSeq_t, itZip_l, itZip_t, itZip3_w, binP, intBin, cmp_lt, cmp_le, cmp_gt, cmp_ge, cmp_eqi, cmp_nei, cmp_eqb, cmp_neb, cmp_is, cmp_isnot, cmp_isn, cmp_isnotn, isi_int, isi_bool, isi_tup, isi_lst, isi_str, isI, isBo, isTu, isLi, isSt, truth, ixP, slP, biP, owns, own, at_0, at_1, at_2, at_3, set_0, setsD, asgn, asgnT, sets, List.getElem?_cons_zero, List.getElem?_cons_succ, List.set_cons_zero, List.set_cons_succ, List.length_cons, List.length_nil, decide_eq_true_eq, Bool.not_true, Bool.not_false, Bool.not_eq_true', decide_eq_false_iff_not, Bool.true_eq_false, Bool.false_eq_true, if_true, if_false, true_and, clear, Tg.slots, truthD_w, hb]; try (first | refine Br.d ?_ | refine Br.nd ?_ | refine Br.nb ?_ | refine Br.b ?_))
  refine ⟨?_, fun _ => rfl⟩
  show _ = (match atP t w with
    | some (.int b) => decide (b = o)
    | _ => false)
  rw [hb]
theorem shutat_call (g_shut_at : G "shut_at" = some b_shut_at) {k : Nat} {m : Mem} {s p : Int} {cs t : List PyData} {r : Bool} (hc : cs.length ≤ 16) (hg : ∀ c ∈ cs, GoodC s p c) (ht : SetP s t) :
    Ok (callF (run G (k + 1)) r "shut_at" [.b (.tuple [.int s, .int p, .tuple cs]), .b (.tuple t)] m) fun d m' => m' = m ∧ d = .b (.tuple (shutL cs t)) := by
  refine call_b (run_ok g_shut_at ⟨rfl, by decide⟩ ?_)
  rw [show startE b_shut_at.n [.b (.tuple [.int s, .int p, .tuple cs]), .b (.tuple t)] = [some (.b (.tuple [.int s, .int p, .tuple cs])), some (.b (.tuple t)), none, none] from rfl]
  unfold b_shut_at
  (simp only [↓stk_call, ↓stk_comp, ↓stk_rows, ↓stk_rc, ↓stk_for, ↓stk_whl, ↓stk_said, ↓Br.t, ↓Br.f, Br.t, Br.f, ↓w_var, ↓w_int, ↓w_bool, ↓w_none, ↓w_str, ↓w_glob, ↓w_bin, ↓w_neg, ↓w_not, ↓w_cmp, ↓w_chain, ↓w_and, ↓w_or, ↓w_ife, ↓w_tup, ↓w_lst, ↓w_ix, ↓w_ixR, ↓w_rowc, ↓w_rcomp, ↓w_sl0, ↓w_slL, ↓w_slH, ↓w_slB, ↓w_bi, ↓w_isi, ↓w_op, ↓w_idx, ↓w_sm, isS_s, ↓w_dic, ↓w_me, ↓w_call, ↓w_pick, ↓w_isx, ↓w_comp, ↓w_compI, ↓w_nil, ↓w_cons, ↓w_seq, ↓w_rng1, ↓w_rng2, ↓w_enm, ↓w_zip, ↓w_zip3, ↓s_nil, ↓s_cons, ↓s_set, ↓s_setT, ↓s_setP, ↓s_setI, ↓s_expr, ↓s_ife, ↓s_whl, ↓s_for, ↓s_ret, ↓s_retN, ↓s_pass, ↓s_brk, ↓s_cont, ↓Ok.ok, ↓Ok.bind, Sm.s, Sm.map, Sm.ite, Snap.b, In.i, Bl.b, Rf.r, mk_f, mk_t, ixF_b, ixF_r, ixF_s, pickF_w, isxF_n, isxF_e, biF_len, biF_b, biF_r, opF_w, isL_b, isL_r, Snaps, itSeq_l, itSeq_t, itZip_l, itZip_t, itZip3_w, binP, intBin, cmp_lt, cmp_le, cmp_gt, cmp_ge, cmp_eqi, cmp_nei, cmp_eqb, cmp_neb, cmp_is, cmp_isnot, cmp_isn, cmp_isnotn, isi_int, isi_bool, isi_tup, isi_lst, isi_str, isI, isBo, isTu, isLi, isSt, truth, ixP, slP, biP, owns, own, at_0, at_1, at_2, at_3, set_0, setsD, asgn, asgnT, sets, List.getElem?_cons_zero, List.getElem?_cons_succ, List.set_cons_zero, List.set_cons_succ, List.length_cons, List.length_nil, decide_eq_true_eq, Bool.not_true, Bool.not_false, Bool.not_eq_true', decide_eq_false_iff_not, Bool.true_eq_false, Bool.false_eq_true, if_true, if_false, true_and]; try (first | refine Br.d ?_ | refine Br.nd ?_ | refine Br.nb ?_ | refine Br.b ?_))
  refine shut_comp hc hg ht ?_
  (simp only [↓stk_call, ↓stk_comp, ↓stk_rows, ↓stk_rc, ↓stk_for, ↓stk_whl, ↓stk_said, ↓Br.t, ↓Br.f, Br.t, Br.f, ↓w_var, ↓w_int, ↓w_bool, ↓w_none, ↓w_str, ↓w_glob, ↓w_bin, ↓w_neg, ↓w_not, ↓w_cmp, ↓w_chain, ↓w_and, ↓w_or, ↓w_ife, ↓w_tup, ↓w_lst, ↓w_ix, ↓w_ixR, ↓w_rowc, ↓w_rcomp, ↓w_sl0, ↓w_slL, ↓w_slH, ↓w_slB, ↓w_bi, ↓w_isi, ↓w_op, ↓w_idx, ↓w_sm, isS_s, ↓w_dic, ↓w_me, ↓w_call, ↓w_pick, ↓w_isx, ↓w_comp, ↓w_compI, ↓w_nil, ↓w_cons, ↓w_seq, ↓w_rng1, ↓w_rng2, ↓w_enm, ↓w_zip, ↓w_zip3, ↓s_nil, ↓s_cons, ↓s_set, ↓s_setT, ↓s_setP, ↓s_setI, ↓s_expr, ↓s_ife, ↓s_whl, ↓s_for, ↓s_ret, ↓s_retN, ↓s_pass, ↓s_brk, ↓s_cont, ↓Ok.ok, ↓Ok.bind, Sm.s, Sm.map, Sm.ite, Snap.b, In.i, Bl.b, Rf.r, mk_f, mk_t, ixF_b, ixF_r, ixF_s, pickF_w, isxF_n, isxF_e, biF_len, biF_b, biF_r, opF_w, isL_b, isL_r, Snaps, itSeq_l, itSeq_t, itZip_l, itZip_t, itZip3_w, binP, intBin, cmp_lt, cmp_le, cmp_gt, cmp_ge, cmp_eqi, cmp_nei, cmp_eqb, cmp_neb, cmp_is, cmp_isnot, cmp_isn, cmp_isnotn, isi_int, isi_bool, isi_tup, isi_lst, isi_str, isI, isBo, isTu, isLi, isSt, truth, ixP, slP, biP, owns, own, at_0, at_1, at_2, at_3, set_0, setsD, asgn, asgnT, sets, List.getElem?_cons_zero, List.getElem?_cons_succ, List.set_cons_zero, List.set_cons_succ, List.length_cons, List.length_nil, decide_eq_true_eq, Bool.not_true, Bool.not_false, Bool.not_eq_true', decide_eq_false_iff_not, Bool.true_eq_false, Bool.false_eq_true, if_true, if_false, true_and]; try (first | refine Br.d ?_ | refine Br.nd ?_ | refine Br.nb ?_ | refine Br.b ?_))
  exact ⟨_, rfl, fun _ => rfl, by rw [List.take_length], rfl⟩
theorem lshut_call (g_law_shut : G "_law_shut" = some b_law_shut) {k : Nat} {m : Mem} {s p : Int} {cs t : List PyData} (hc : cs.length ≤ 16) (hg : ∀ c ∈ cs, GoodC s p c) (ht : SetP s t) :
    Ok (callF (run G (k + 1)) false "_law_shut" [.b (.tuple [.int s, .int p, .tuple cs]), .b (.tuple t)] m) fun d m' => m' = m ∧ d = .b (.list (shutL cs t)) := by
  refine call_b (run_ok g_law_shut ⟨rfl, by decide⟩ ?_)
  rw [show startE b_law_shut.n [.b (.tuple [.int s, .int p, .tuple cs]), .b (.tuple t)] = [some (.b (.tuple [.int s, .int p, .tuple cs])), some (.b (.tuple t)), none, none] from rfl]
  unfold b_law_shut
  (simp only [↓stk_call, ↓stk_comp, ↓stk_rows, ↓stk_rc, ↓stk_for, ↓stk_whl, ↓stk_said, ↓Br.t, ↓Br.f, Br.t, Br.f, ↓w_var, ↓w_int, ↓w_bool, ↓w_none, ↓w_str, ↓w_glob, ↓w_bin, ↓w_neg, ↓w_not, ↓w_cmp, ↓w_chain, ↓w_and, ↓w_or, ↓w_ife, ↓w_tup, ↓w_lst, ↓w_ix, ↓w_ixR, ↓w_rowc, ↓w_rcomp, ↓w_sl0, ↓w_slL, ↓w_slH, ↓w_slB, ↓w_bi, ↓w_isi, ↓w_op, ↓w_idx, ↓w_sm, isS_s, ↓w_dic, ↓w_me, ↓w_call, ↓w_pick, ↓w_isx, ↓w_comp, ↓w_compI, ↓w_nil, ↓w_cons, ↓w_seq, ↓w_rng1, ↓w_rng2, ↓w_enm, ↓w_zip, ↓w_zip3, ↓s_nil, ↓s_cons, ↓s_set, ↓s_setT, ↓s_setP, ↓s_setI, ↓s_expr, ↓s_ife, ↓s_whl, ↓s_for, ↓s_ret, ↓s_retN, ↓s_pass, ↓s_brk, ↓s_cont, ↓Ok.ok, ↓Ok.bind, Sm.s, Sm.map, Sm.ite, Snap.b, In.i, Bl.b, Rf.r, mk_f, mk_t, ixF_b, ixF_r, ixF_s, pickF_w, isxF_n, isxF_e, biF_len, biF_b, biF_r, opF_w, isL_b, isL_r, Snaps, itSeq_l, itSeq_t, itZip_l, itZip_t, itZip3_w, binP, intBin, cmp_lt, cmp_le, cmp_gt, cmp_ge, cmp_eqi, cmp_nei, cmp_eqb, cmp_neb, cmp_is, cmp_isnot, cmp_isn, cmp_isnotn, isi_int, isi_bool, isi_tup, isi_lst, isi_str, isI, isBo, isTu, isLi, isSt, truth, ixP, slP, biP, owns, own, at_0, at_1, at_2, at_3, set_0, setsD, asgn, asgnT, sets, List.getElem?_cons_zero, List.getElem?_cons_succ, List.set_cons_zero, List.set_cons_succ, List.length_cons, List.length_nil, decide_eq_true_eq, Bool.not_true, Bool.not_false, Bool.not_eq_true', decide_eq_false_iff_not, Bool.true_eq_false, Bool.false_eq_true, if_true, if_false, true_and]; try (first | refine Br.d ?_ | refine Br.nd ?_ | refine Br.nb ?_ | refine Br.b ?_))
  refine shut_comp hc hg ht ?_
  (simp only [↓stk_call, ↓stk_comp, ↓stk_rows, ↓stk_rc, ↓stk_for, ↓stk_whl, ↓stk_said, ↓Br.t, ↓Br.f, Br.t, Br.f, ↓w_var, ↓w_int, ↓w_bool, ↓w_none, ↓w_str, ↓w_glob, ↓w_bin, ↓w_neg, ↓w_not, ↓w_cmp, ↓w_chain, ↓w_and, ↓w_or, ↓w_ife, ↓w_tup, ↓w_lst, ↓w_ix, ↓w_ixR, ↓w_rowc, ↓w_rcomp, ↓w_sl0, ↓w_slL, ↓w_slH, ↓w_slB, ↓w_bi, ↓w_isi, ↓w_op, ↓w_idx, ↓w_sm, isS_s, ↓w_dic, ↓w_me, ↓w_call, ↓w_pick, ↓w_isx, ↓w_comp, ↓w_compI, ↓w_nil, ↓w_cons, ↓w_seq, ↓w_rng1, ↓w_rng2, ↓w_enm, ↓w_zip, ↓w_zip3, ↓s_nil, ↓s_cons, ↓s_set, ↓s_setT, ↓s_setP, ↓s_setI, ↓s_expr, ↓s_ife, ↓s_whl, ↓s_for, ↓s_ret, ↓s_retN, ↓s_pass, ↓s_brk, ↓s_cont, ↓Ok.ok, ↓Ok.bind, Sm.s, Sm.map, Sm.ite, Snap.b, In.i, Bl.b, Rf.r, mk_f, mk_t, ixF_b, ixF_r, ixF_s, pickF_w, isxF_n, isxF_e, biF_len, biF_b, biF_r, opF_w, isL_b, isL_r, Snaps, itSeq_l, itSeq_t, itZip_l, itZip_t, itZip3_w, binP, intBin, cmp_lt, cmp_le, cmp_gt, cmp_ge, cmp_eqi, cmp_nei, cmp_eqb, cmp_neb, cmp_is, cmp_isnot, cmp_isn, cmp_isnotn, isi_int, isi_bool, isi_tup, isi_lst, isi_str, isI, isBo, isTu, isLi, isSt, truth, ixP, slP, biP, owns, own, at_0, at_1, at_2, at_3, set_0, setsD, asgn, asgnT, sets, List.getElem?_cons_zero, List.getElem?_cons_succ, List.set_cons_zero, List.set_cons_succ, List.length_cons, List.length_nil, decide_eq_true_eq, Bool.not_true, Bool.not_false, Bool.not_eq_true', decide_eq_false_iff_not, Bool.true_eq_false, Bool.false_eq_true, if_true, if_false, true_and]; try (first | refine Br.d ?_ | refine Br.nd ?_ | refine Br.nb ?_ | refine Br.b ?_))
  exact ⟨_, rfl, fun h => (by cases h), by rw [List.take_length], rfl⟩
/-! ### the search -/
def endsOf (cs : List PyData) (i : Nat) : Nat × Nat :=
  match cs[i]? with
  | some (.tuple [.int a, .int b, _, _]) => (a.toNat, b.toNat)
  | _ => (0, 0)
def edg (cs : List PyData) (ns : List Nat) : List (Nat × Nat) := ns.map (endsOf cs)
def numL (ns : List Nat) : List PyData := (ns.map fun i : Nat => (i : Int)).map PyData.int
theorem nodup_le : ∀ (P : Nat) (F : List Nat), F.Nodup → (∀ x ∈ F, x < P) → F.length ≤ P
  | 0, F, _, h => by
    cases F with
    | nil => exact Nat.le_refl _
    | cons x F => exact absurd (h x (List.mem_cons_self ..)) (Nat.not_lt_zero _)
  | P + 1, F, hd, h => by
    have ih := nodup_le P (F.erase P) (hd.erase P) fun x hx => by
      have h1 := h x (List.mem_of_mem_erase hx)
      have h2 : x ≠ P := fun e => by
        subst e
        exact (List.Nodup.not_mem_erase hd) hx
      omega
    rw [List.length_erase] at ih
    split at ih <;> omega
def atOf (δ : Z.Env) : Nat :=
  match δ[4]? with
  | some (some (D.b (PyData.int a))) => a.toNat
  | _ => 0
theorem numL_len (F : List Nat) : (numL F).length = F.length := by unfold numL; rw [List.length_map, List.length_map]
theorem numL_at {F : List Nat} {i x : Nat} (h : F[i]? = some x) : (numL F)[i]? = some (.int x) := by unfold numL; rw [List.getElem?_map, List.getElem?_map, h]; rfl
theorem numL_get {F : List Nat} {i : Nat} {d : PyData} (h : (numL F)[i]? = some d) : ∃ x : Nat, d = .int x ∧ F[i]? = some x := by
  unfold numL at h
  rw [List.getElem?_map, List.getElem?_map] at h
  cases q : F[i]? with
  | none => rw [q] at h; cases h
  | some x => rw [q] at h; exact ⟨x, (Option.some.inj h).symm, rfl⟩
theorem numL_add (F : List Nat) (x : Nat) : numL F ++ [.int x] = numL (F ++ [x]) := by unfold numL; simp
theorem mem_num (F : List Nat) (x : Int) (h : 0 ≤ x) : (x ∈ F.map fun i : Nat => (i : Int)) ↔ x.toNat ∈ F := by
  rw [List.mem_map]
  constructor
  · rintro ⟨i, hi, e⟩
    have : x.toNat = i := by omega
    rw [this]; exact hi
  · intro hx
    exact ⟨x.toNat, hx, by omega⟩
theorem cmp_ninN (F : List Nat) (x : Int) : cmpP .NotIn (.int x) (.list (numL F)) = some (!decide (x ∈ F.map fun i : Nat => (i : Int))) := cmp_ninl _ _
theorem ints_numL (F : List Nat) : intsOf (numL F) = some (F.map fun i : Nat => (i : Int)) := intsOf_ints _
structure Fnd (E : List (Nat × Nat)) (P v : Nat) (F : List Nat) (a : Nat) : Prop where
  nd : F.Nodup
  ok : ∀ x ∈ F, x < P ∧ Cn E v x
  pl : v ∈ F
  cl : ∀ j, j < a → ∀ x, F[j]? = some x → ∀ e ∈ E, (e.1 = x → e.2 ∈ F) ∧ (e.2 = x → e.1 ∈ F)
theorem ends_of {s p : Int} {cs : List PyData} (hg : ∀ c ∈ cs, GoodC s p c) {i : Nat} (hi : i < cs.length) : ∃ a b w o : Int, cs[i]? = some (.tuple [.int a, .int b, .int w, .int o]) ∧ 0 ≤ a ∧ a < b ∧ b < p ∧ endsOf cs i = (a.toNat, b.toNat) := by
  have e := List.getElem?_eq_getElem hi
  obtain ⟨a, b, w, o, e2, a0, ab, bp, _⟩ := hg _ (List.mem_of_getElem? e)
  rw [e2] at e
  refine ⟨a, b, w, o, e, a0, ab, bp, ?_⟩
  unfold endsOf
  rw [e]
theorem reached_callN (g_reached : G "reached" = some b_reached) {k : Nat} {m : Mem} {s p : Int} {cs : List PyData} {ns : List Nat} {v : Nat} (hc : cs.length ≤ 16) (hp : p ≤ 1000) (hg : ∀ c ∈ cs, GoodC s p c) (hn : ∀ i ∈ ns, i < cs.length) (hv : (v : Int) < p) :
    Ok (callF (run G (k + 1)) false "reached" [.b (.tuple [.int s, .int p, .tuple cs]), .b (.tuple (numL ns)), .b (.int v)] m) fun d m' => m' = m ∧ ∃ F : List Nat, d = .b (.list ((sortI (F.map fun i : Nat => (i : Int))).map .int)) ∧ (∀ x : Nat, x ∈ F ↔ Cn (edg cs ns) v x) ∧ F.Nodup := by
  refine call_b (run_ok g_reached ⟨rfl, by decide⟩ ?_)
  rw [show startE b_reached.n [.b (.tuple [.int s, .int p, .tuple cs]), .b (.tuple (numL ns)), .b (.int v)] = [some (.b (.tuple [.int s, .int p, .tuple cs])), some (.b (.tuple (numL ns))), some (.b (.int v)), none, none, none, none, none] from rfl]
  unfold b_reached
  (simp only [↓stk_call, ↓stk_comp, ↓stk_rows, ↓stk_rc, ↓stk_for, ↓stk_whl, ↓stk_said, ↓Br.t, ↓Br.f, Br.t, Br.f, ↓w_var, ↓w_int, ↓w_bool, ↓w_none, ↓w_str, ↓w_glob, ↓w_bin, ↓w_neg, ↓w_not, ↓w_cmp, ↓w_chain, ↓w_and, ↓w_or, ↓w_ife, ↓w_tup, ↓w_lst, ↓w_ix, ↓w_ixR, ↓w_rowc, ↓w_rcomp, ↓w_sl0, ↓w_slL, ↓w_slH, ↓w_slB, ↓w_bi, ↓w_isi, ↓w_op, ↓w_idx, ↓w_sm, isS_s, ↓w_dic, ↓w_me, ↓w_call, ↓w_pick, ↓w_isx, ↓w_comp, ↓w_compI, ↓w_nil, ↓w_cons, ↓w_seq, ↓w_rng1, ↓w_rng2, ↓w_enm, ↓w_zip, ↓w_zip3, ↓s_nil, ↓s_cons, ↓s_set, ↓s_setT, ↓s_setP, ↓s_setI, ↓s_expr, ↓s_ife, ↓s_whl, ↓s_for, ↓s_ret, ↓s_retN, ↓s_pass, ↓s_brk, ↓s_cont, ↓Ok.ok, ↓Ok.bind, Sm.s, Sm.map, Sm.ite, Snap.b, In.i, Bl.b, Rf.r, mk_f, mk_t, ixF_b, ixF_r, ixF_s, pickF_w, isxF_n, isxF_e, biF_len, biF_b, biF_r, opF_w, isL_b, isL_r, Snaps, itSeq_l, itSeq_t, itZip_l, itZip_t, itZip3_w, binP, intBin, cmp_lt, cmp_le, cmp_gt, cmp_ge, cmp_eqi, cmp_nei, cmp_eqb, cmp_neb, cmp_is, cmp_isnot, cmp_isn, cmp_isnotn, isi_int, isi_bool, isi_tup, isi_lst, isi_str, isI, isBo, isTu, isLi, isSt, truth, ixP, slP, biP, owns, own, at_0, at_1, at_2, at_3, set_0, setsD, asgn, asgnT, sets, List.getElem?_cons_zero, List.getElem?_cons_succ, List.set_cons_zero, List.set_cons_succ, List.length_cons, List.length_nil, decide_eq_true_eq, Bool.not_true, Bool.not_false, Bool.not_eq_true', decide_eq_false_iff_not, Bool.true_eq_false, Bool.false_eq_true, if_true, if_false, true_and]; try (first | refine Br.d ?_ | refine Br.nd ?_ | refine Br.nb ?_ | refine Br.b ?_))
  refine ⟨by decide, ?_⟩
  have Pn : ((p.toNat : Nat) : Int) = p := by omega
  refine whl_ok (fun δ mm => ∃ (F : List Nat) (a : Nat) (o5 o6 o7 : Option D), δ = [some (.b (.tuple [.int s, .int p, .tuple cs])), some (.b (.tuple (numL ns))), some (.b (.int v)), some (.ref m.length), some (.b (.int a)), o5, o6, o7] ∧ mm = m ++ [.lst (numL F)] ∧ a ≤ F.length ∧ Fnd (edg cs ns) p.toNat v F a)
    (fun δ _ => p.toNat - atOf δ) ?_ turns ⟨[v], 0, none, none, none, rfl, rfl, Nat.zero_le _, ⟨by simp, fun x hx => ?_, by simp, fun j hj => absurd hj (Nat.not_lt_zero _)⟩⟩ ?_
  · rintro δ mm ⟨F, a, o5, o6, o7, rfl, rfl, ha, hF⟩
    have hl := nodup_le _ F hF.nd fun x hx => (hF.ok x hx).1
    (simp only [↓stk_call, ↓stk_comp, ↓stk_rows, ↓stk_rc, ↓stk_for, ↓stk_whl, ↓stk_said, ↓Br.t, ↓Br.f, Br.t, Br.f, ↓w_var, ↓w_int, ↓w_bool, ↓w_none, ↓w_str, ↓w_glob, ↓w_bin, ↓w_neg, ↓w_not, ↓w_cmp, ↓w_chain, ↓w_and, ↓w_or, ↓w_ife, ↓w_tup, ↓w_lst, ↓w_ix, ↓w_ixR, ↓w_rowc, ↓w_rcomp, ↓w_sl0, ↓w_slL, ↓w_slH, ↓w_slB, ↓w_bi, ↓w_isi, ↓w_op, ↓w_idx, ↓w_sm, isS_s, ↓w_dic, ↓w_me, ↓w_call, ↓w_pick, ↓w_isx, ↓w_comp, ↓w_compI, ↓w_nil, ↓w_cons, ↓w_seq, ↓w_rng1, ↓w_rng2, ↓w_enm, ↓w_zip, ↓w_zip3, ↓s_nil, ↓s_cons, ↓s_set, ↓s_setT, ↓s_setP, ↓s_setI, ↓s_expr, ↓s_ife, ↓s_whl, ↓s_for, ↓s_ret, ↓s_retN, ↓s_pass, ↓s_brk, ↓s_cont, ↓Ok.ok, ↓Ok.bind, Sm.s, Sm.map, Sm.ite, Snap.b, In.i, Bl.b, Rf.r, mk_f, mk_t, ixF_b, ixF_r, ixF_s, pickF_w, isxF_n, isxF_e, biF_len, biF_b, biF_r, opF_w, isL_b, isL_r, Snaps, itSeq_l, itSeq_t, itZip_l, itZip_t, itZip3_w, binP, intBin, cmp_lt, cmp_le, cmp_gt, cmp_ge, cmp_eqi, cmp_nei, cmp_eqb, cmp_neb, cmp_is, cmp_isnot, cmp_isn, cmp_isnotn, isi_int, isi_bool, isi_tup, isi_lst, isi_str, isI, isBo, isTu, isLi, isSt, truth, ixP, slP, biP, owns, own, at_0, at_1, at_2, at_3, set_0, setsD, asgn, asgnT, sets, List.getElem?_cons_zero, List.getElem?_cons_succ, List.set_cons_zero, List.set_cons_succ, List.length_cons, List.length_nil, decide_eq_true_eq, Bool.not_true, Bool.not_false, Bool.not_eq_true', decide_eq_false_iff_not, Bool.true_eq_false, Bool.false_eq_true, if_true, if_false, true_and, Snap.ref (get_end (t := []) (o := .lst (numL F)) (m := m) rfl), biF_r, truthD_w]; try (first | refine Br.d ?_ | refine Br.nd ?_ | refine Br.nb ?_ | refine Br.b ?_))
    rw [numL_len]
    split
    · rename_i hlt
      have hlt' : a < F.length := by omega
      have hX := List.getElem?_eq_getElem hlt'
      generalize F[a] = X at hX
      have hXp := (hF.ok X (List.mem_of_getElem? hX)).1
      refine for_ok (fun i δ mm => ∃ (F' : List Nat) (o5 o6 o7 : Option D), δ = [some (.b (.tuple [.int s, .int p, .tuple cs])), some (.b (.tuple (numL ns))), some (.b (.int v)), some (.ref m.length), some (.b (.int a)), o5, o6, o7] ∧ mm = m ++ [.lst (numL F')] ∧ F <+: F' ∧ Fnd (edg cs ns) p.toNat v F' a ∧
        ∀ j, j < i → ∀ e, (edg cs ns)[j]? = some e → (e.1 = X → e.2 ∈ F') ∧ (e.2 = X → e.1 ∈ F')) ⟨F, o5, o6, o7, rfl, rfl, List.prefix_refl _, hF, fun j hj => absurd hj (Nat.not_lt_zero _)⟩ ?_ ?_
      · rintro i x δ mm hx ⟨F', o5, o6, o7, rfl, rfl, hpre, hF', hcl⟩
        obtain ⟨q, rfl, hq⟩ := numL_get hx
        have hqn := List.mem_of_getElem? hq
        obtain ⟨ea, eb, ew, eo, hcq, ea0, eab, ebp, hends⟩ := ends_of hg (hn q hqn)
        have he : (edg cs ns)[i]? = some (ea.toNat, eb.toNat) := by
          unfold edg
          rw [List.getElem?_map, hq]
          show some (endsOf cs q) = _
          rw [hends]
        have hXa : F'[a]? = some X := by
          obtain ⟨t, rfl⟩ := hpre
          rw [List.getElem?_append_left hlt']; exact hX
        have hl' := nodup_le _ F' hF'.nd fun x hx => (hF'.ok x hx).1
        refine ⟨trivial, ?_⟩
        (simp only [↓stk_call, ↓stk_comp, ↓stk_rows, ↓stk_rc, ↓stk_for, ↓stk_whl, ↓stk_said, ↓Br.t, ↓Br.f, Br.t, Br.f, ↓w_var, ↓w_int, ↓w_bool, ↓w_none, ↓w_str, ↓w_glob, ↓w_bin, ↓w_neg, ↓w_not, ↓w_cmp, ↓w_chain, ↓w_and, ↓w_or, ↓w_ife, ↓w_tup, ↓w_lst, ↓w_ix, ↓w_ixR, ↓w_rowc, ↓w_rcomp, ↓w_sl0, ↓w_slL, ↓w_slH, ↓w_slB, ↓w_bi, ↓w_isi, ↓w_op, ↓w_idx, ↓w_sm, isS_s, ↓w_dic, ↓w_me, ↓w_call, ↓w_pick, ↓w_isx, ↓w_comp, ↓w_compI, ↓w_nil, ↓w_cons, ↓w_seq, ↓w_rng1, ↓w_rng2, ↓w_enm, ↓w_zip, ↓w_zip3, ↓s_nil, ↓s_cons, ↓s_set, ↓s_setT, ↓s_setP, ↓s_setI, ↓s_expr, ↓s_ife, ↓s_whl, ↓s_for, ↓s_ret, ↓s_retN, ↓s_pass, ↓s_brk, ↓s_cont, ↓Ok.ok, ↓Ok.bind, Sm.s, Sm.map, Sm.ite, Snap.b, In.i, Bl.b, Rf.r, mk_f, mk_t, ixF_b, ixF_r, ixF_s, pickF_w, isxF_n, isxF_e, biF_len, biF_b, biF_r, opF_w, isL_b, isL_r, Snaps, itSeq_l, itSeq_t, itZip_l, itZip_t, itZip3_w, binP, intBin, cmp_lt, cmp_le, cmp_gt, cmp_ge, cmp_eqi, cmp_nei, cmp_eqb, cmp_neb, cmp_is, cmp_isnot, cmp_isn, cmp_isnotn, isi_int, isi_bool, isi_tup, isi_lst, isi_str, isI, isBo, isTu, isLi, isSt, truth, ixP, slP, biP, owns, own, at_0, at_1, at_2, at_3, set_0, setsD, asgn, asgnT, sets, List.getElem?_cons_zero, List.getElem?_cons_succ, List.set_cons_zero, List.set_cons_succ, List.length_cons, List.length_nil, decide_eq_true_eq, Bool.not_true, Bool.not_false, Bool.not_eq_true', decide_eq_false_iff_not, Bool.true_eq_false, Bool.false_eq_true, if_true, if_false, true_and, at_nat hcq, Snap.ref (get_end (t := []) (o := .lst (numL F')) (m := m) rfl), at_nat (numL_at hXa)]; try (first | refine Br.d ?_ | refine Br.nd ?_ | refine Br.nb ?_ | refine Br.b ?_))
        have c2 : cutP [PyData.int ea, .int eb, .int ew, .int eo] none (some 2) = [.int ea, .int eb] := cut_hi _ 2
        rw [c2]
        (simp only [↓stk_call, ↓stk_comp, ↓stk_rows, ↓stk_rc, ↓stk_for, ↓stk_whl, ↓stk_said, ↓Br.t, ↓Br.f, Br.t, Br.f, ↓w_var, ↓w_int, ↓w_bool, ↓w_none, ↓w_str, ↓w_glob, ↓w_bin, ↓w_neg, ↓w_not, ↓w_cmp, ↓w_chain, ↓w_and, ↓w_or, ↓w_ife, ↓w_tup, ↓w_lst, ↓w_ix, ↓w_ixR, ↓w_rowc, ↓w_rcomp, ↓w_sl0, ↓w_slL, ↓w_slH, ↓w_slB, ↓w_bi, ↓w_isi, ↓w_op, ↓w_idx, ↓w_sm, isS_s, ↓w_dic, ↓w_me, ↓w_call, ↓w_pick, ↓w_isx, ↓w_comp, ↓w_compI, ↓w_nil, ↓w_cons, ↓w_seq, ↓w_rng1, ↓w_rng2, ↓w_enm, ↓w_zip, ↓w_zip3, ↓s_nil, ↓s_cons, ↓s_set, ↓s_setT, ↓s_setP, ↓s_setI, ↓s_expr, ↓s_ife, ↓s_whl, ↓s_for, ↓s_ret, ↓s_retN, ↓s_pass, ↓s_brk, ↓s_cont, ↓Ok.ok, ↓Ok.bind, Sm.s, Sm.map, Sm.ite, Snap.b, In.i, Bl.b, Rf.r, mk_f, mk_t, ixF_b, ixF_r, ixF_s, pickF_w, isxF_n, isxF_e, biF_len, biF_b, biF_r, opF_w, isL_b, isL_r, Snaps, itSeq_l, itSeq_t, itZip_l, itZip_t, itZip3_w, binP, intBin, cmp_lt, cmp_le, cmp_gt, cmp_ge, cmp_eqi, cmp_nei, cmp_eqb, cmp_neb, cmp_is, cmp_isnot, cmp_isn, cmp_isnotn, isi_int, isi_bool, isi_tup, isi_lst, isi_str, isI, isBo, isTu, isLi, isSt, truth, ixP, slP, biP, owns, own, at_0, at_1, at_2, at_3, set_0, setsD, asgn, asgnT, sets, List.getElem?_cons_zero, List.getElem?_cons_succ, List.set_cons_zero, List.set_cons_succ, List.length_cons, List.length_nil, decide_eq_true_eq, Bool.not_true, Bool.not_false, Bool.not_eq_true', decide_eq_false_iff_not, Bool.true_eq_false, Bool.false_eq_true, if_true, if_false, true_and, cmp_in2]; try (first | refine Br.d ?_ | refine Br.nd ?_ | refine Br.nb ?_ | refine Br.b ?_))
        have heE := List.mem_of_getElem? he
        -- behind: the i-th edge served
        have next : ∀ (F2 : List Nat) (o6 o7 : Option D), F' <+: F2 → Fnd (edg cs ns) p.toNat v F2 a → ((ea.toNat = X → eb.toNat ∈ F2) ∧ (eb.toNat = X → ea.toNat ∈ F2)) →
            ∃ (F' : List Nat) (o5' o6' o7' : Option D), [some (D.b (.tuple [.int s, .int p, .tuple cs])), some (.b (.tuple (numL ns))), some (.b (.int v)), some (.ref m.length), some (.b (.int a)), some (.b (.int q)), o6, o7] = [some (D.b (.tuple [.int s, .int p, .tuple cs])), some (.b (.tuple (numL ns))), some (.b (.int v)), some (.ref m.length), some (.b (.int a)), o5', o6', o7'] ∧ m ++ [MO.lst (numL F2)] = m ++ [.lst (numL F')] ∧ F <+: F' ∧ Fnd (edg cs ns) p.toNat v F' a ∧
              ∀ j, j < i + 1 → ∀ e, (edg cs ns)[j]? = some e → (e.1 = X → e.2 ∈ F') ∧ (e.2 = X → e.1 ∈ F') := fun F2 o6 o7 hp2 hF2 hx2 => by
          refine ⟨F2, _, _, _, rfl, rfl, hpre.trans hp2, hF2, fun j hj e hje => ?_⟩
          by_cases hji : j < i
          · have := hcl j hji e hje
            exact ⟨fun z => hp2.subset (this.1 z), fun z => hp2.subset (this.2 z)⟩
          · have : j = i := by omega
            subst this
            rw [he] at hje
            cases hje
            exact hx2
        split
        · rename_i hor
          obtain ⟨O, hO, hO2, hOP⟩ : ∃ O : Nat, ea + eb - (X : Int) = (O : Int) ∧ ((ea.toNat = X ∧ eb.toNat = O) ∨ (eb.toNat = X ∧ ea.toNat = O)) ∧ O < p.toNat := by
            rcases hor with h | h
            · exact ⟨eb.toNat, by omega, .inl ⟨by omega, rfl⟩, by omega⟩
            · exact ⟨ea.toNat, by omega, .inr ⟨by omega, rfl⟩, by omega⟩
          have hOc : Cn (edg cs ns) v O := by
            have hXc := (hF'.ok X (List.mem_of_getElem? hXa)).2
            rcases hO2 with ⟨h1, h2⟩ | ⟨h1, h2⟩
            · exact .fwd (x := X) hXc (by rw [← h1, ← h2]; exact heE)
            · exact .bwd (x := X) hXc (by rw [← h1, ← h2]; exact heE)
          have hin : ∀ F2 : List Nat, O ∈ F2 → ((ea.toNat = X → eb.toNat ∈ F2) ∧ (eb.toNat = X → ea.toNat ∈ F2)) := fun F2 h => by
            rcases hO2 with ⟨h1, h2⟩ | ⟨h1, h2⟩
            · exact ⟨fun _ => by rw [h2]; exact h, fun z => by omega⟩
            · exact ⟨fun z => by omega, fun _ => by rw [h2]; exact h⟩
          (simp only [↓stk_call, ↓stk_comp, ↓stk_rows, ↓stk_rc, ↓stk_for, ↓stk_whl, ↓stk_said, ↓Br.t, ↓Br.f, Br.t, Br.f, ↓w_var, ↓w_int, ↓w_bool, ↓w_none, ↓w_str, ↓w_glob, ↓w_bin, ↓w_neg, ↓w_not, ↓w_cmp, ↓w_chain, ↓w_and, ↓w_or, ↓w_ife, ↓w_tup, ↓w_lst, ↓w_ix, ↓w_ixR, ↓w_rowc, ↓w_rcomp, ↓w_sl0, ↓w_slL, ↓w_slH, ↓w_slB, ↓w_bi, ↓w_isi, ↓w_op, ↓w_idx, ↓w_sm, isS_s, ↓w_dic, ↓w_me, ↓w_call, ↓w_pick, ↓w_isx, ↓w_comp, ↓w_compI, ↓w_nil, ↓w_cons, ↓w_seq, ↓w_rng1, ↓w_rng2, ↓w_enm, ↓w_zip, ↓w_zip3, ↓s_nil, ↓s_cons, ↓s_set, ↓s_setT, ↓s_setP, ↓s_setI, ↓s_expr, ↓s_ife, ↓s_whl, ↓s_for, ↓s_ret, ↓s_retN, ↓s_pass, ↓s_brk, ↓s_cont, ↓Ok.ok, ↓Ok.bind, Sm.s, Sm.map, Sm.ite, Snap.b, In.i, Bl.b, Rf.r, mk_f, mk_t, ixF_b, ixF_r, ixF_s, pickF_w, isxF_n, isxF_e, biF_len, biF_b, biF_r, opF_w, isL_b, isL_r, Snaps, itSeq_l, itSeq_t, itZip_l, itZip_t, itZip3_w, binP, intBin, cmp_lt, cmp_le, cmp_gt, cmp_ge, cmp_eqi, cmp_nei, cmp_eqb, cmp_neb, cmp_is, cmp_isnot, cmp_isn, cmp_isnotn, isi_int, isi_bool, isi_tup, isi_lst, isi_str, isI, isBo, isTu, isLi, isSt, truth, ixP, slP, biP, owns, own, at_0, at_1, at_2, at_3, set_0, setsD, asgn, asgnT, sets, List.getElem?_cons_zero, List.getElem?_cons_succ, List.set_cons_zero, List.set_cons_succ, List.length_cons, List.length_nil, decide_eq_true_eq, Bool.not_true, Bool.not_false, Bool.not_eq_true', decide_eq_false_iff_not, Bool.true_eq_false, Bool.false_eq_true, if_true, if_false, true_and, Snap.ref (get_end (t := []) (o := .lst (numL F')) (m := m) rfl), at_nat (numL_at hXa), cmp_ninN]; try (first | refine Br.d ?_ | refine Br.nd ?_ | refine Br.nb ?_ | refine Br.b ?_))
          rw [hO]
          have hmem : ((O : Int) ∈ F'.map fun i : Nat => (i : Int)) ↔ O ∈ F' := by rw [mem_num _ _ (Int.natCast_nonneg O)]; rfl
          split
          · rename_i hni
            have hni' : O ∉ F' := fun z => hni (hmem.mpr z)
            (simp only [↓stk_call, ↓stk_comp, ↓stk_rows, ↓stk_rc, ↓stk_for, ↓stk_whl, ↓stk_said, ↓Br.t, ↓Br.f, Br.t, Br.f, ↓w_var, ↓w_int, ↓w_bool, ↓w_none, ↓w_str, ↓w_glob, ↓w_bin, ↓w_neg, ↓w_not, ↓w_cmp, ↓w_chain, ↓w_and, ↓w_or, ↓w_ife, ↓w_tup, ↓w_lst, ↓w_ix, ↓w_ixR, ↓w_rowc, ↓w_rcomp, ↓w_sl0, ↓w_slL, ↓w_slH, ↓w_slB, ↓w_bi, ↓w_isi, ↓w_op, ↓w_idx, ↓w_sm, isS_s, ↓w_dic, ↓w_me, ↓w_call, ↓w_pick, ↓w_isx, ↓w_comp, ↓w_compI, ↓w_nil, ↓w_cons, ↓w_seq, ↓w_rng1, ↓w_rng2, ↓w_enm, ↓w_zip, ↓w_zip3, ↓s_nil, ↓s_cons, ↓s_set, ↓s_setT, ↓s_setP, ↓s_setI, ↓s_expr, ↓s_ife, ↓s_whl, ↓s_for, ↓s_ret, ↓s_retN, ↓s_pass, ↓s_brk, ↓s_cont, ↓Ok.ok, ↓Ok.bind, Sm.s, Sm.map, Sm.ite, Snap.b, In.i, Bl.b, Rf.r, mk_f, mk_t, ixF_b, ixF_r, ixF_s, pickF_w, isxF_n, isxF_e, biF_len, biF_b, biF_r, opF_w, isL_b, isL_r, Snaps, itSeq_l, itSeq_t, itZip_l, itZip_t, itZip3_w, binP, intBin, cmp_lt, cmp_le, cmp_gt, cmp_ge, cmp_eqi, cmp_nei, cmp_eqb, cmp_neb, cmp_is, cmp_isnot, cmp_isn, cmp_isnotn, isi_int, isi_bool, isi_tup, isi_lst, isi_str, isI, isBo, isTu, isLi, isSt, truth, ixP, slP, biP, owns, own, at_0, at_1, at_2, at_3, set_0, setsD, asgn, asgnT, sets, List.getElem?_cons_zero, List.getElem?_cons_succ, List.set_cons_zero, List.set_cons_succ, List.length_cons, List.length_nil, decide_eq_true_eq, Bool.not_true, Bool.not_false, Bool.not_eq_true', decide_eq_false_iff_not, Bool.true_eq_false, Bool.false_eq_true, if_true, if_false, true_and, meF_w (get_end (t := []) (o := .lst (numL F')) (m := m) rfl), meA, meL, set_end (m := m) rfl, numL_add]; try (first | refine Br.d ?_ | refine Br.nd ?_ | refine Br.nb ?_ | refine Br.b ?_))
            refine ⟨by rw [numL_len]; show _ < 16777216; omega, ?_⟩
            refine next (F' ++ [O]) _ _ (List.prefix_append _ _) ⟨?_, ?_, List.mem_append_left _ hF'.pl, ?_⟩ (hin _ (by simp))
            · rw [List.nodup_append]
              refine ⟨hF'.nd, by simp, fun x hx y hy => ?_⟩
              rw [List.mem_singleton.mp hy]
              exact fun z => hni' (z ▸ hx)
            · intro x hx
              rcases List.mem_append.mp hx with hx | hx
              · exact hF'.ok x hx
              · rw [List.mem_singleton.mp hx]; exact ⟨hOP, hOc⟩
            · intro j hj x hx e he
              have hx' : F'[j]? = some x := by
                have hjl : j < F'.length := by have := (List.getElem?_eq_some_iff.mp hXa).1; omega
                rw [List.getElem?_append_left hjl] at hx
                exact hx
              have := hF'.cl j hj x hx' e he
              exact ⟨fun z => List.mem_append_left _ (this.1 z), fun z => List.mem_append_left _ (this.2 z)⟩
          · rename_i hni
            try (simp only [↓stk_call, ↓stk_comp, ↓stk_rows, ↓stk_rc, ↓stk_for, ↓stk_whl, ↓stk_said, ↓Br.t, ↓Br.f, Br.t, Br.f, ↓w_var, ↓w_int, ↓w_bool, ↓w_none, ↓w_str, ↓w_glob, ↓w_bin, ↓w_neg, ↓w_not, ↓w_cmp, ↓w_chain, ↓w_and, ↓w_or, ↓w_ife, ↓w_tup, ↓w_lst, ↓w_ix, ↓w_ixR, ↓w_rowc, ↓w_rcomp, ↓w_sl0, ↓w_slL, ↓w_slH, ↓w_slB, ↓w_bi, ↓w_isi, ↓w_op, ↓w_idx, ↓w_sm, isS_s, ↓w_dic, ↓w_me, ↓w_call, ↓w_pick, ↓w_isx, ↓w_comp, ↓w_compI, ↓w_nil, ↓w_cons, ↓w_seq, ↓w_rng1, ↓w_rng2, ↓w_enm, ↓w_zip, ↓w_zip3, ↓s_nil, ↓s_cons, ↓s_set, ↓s_setT, ↓s_setP, ↓s_setI, ↓s_expr, ↓s_ife, ↓s_whl, ↓s_for, ↓s_ret, ↓s_retN, ↓s_pass, ↓s_brk, ↓s_cont, ↓Ok.ok, ↓Ok.bind, Sm.s, Sm.map, Sm.ite, Snap.b, In.i, Bl.b, Rf.r, mk_f, mk_t, ixF_b, ixF_r, ixF_s, pickF_w, isxF_n, isxF_e, biF_len, biF_b, biF_r, opF_w, isL_b, isL_r, Snaps, itSeq_l, itSeq_t, itZip_l, itZip_t, itZip3_w, binP, intBin, cmp_lt, cmp_le, cmp_gt, cmp_ge, cmp_eqi, cmp_nei, cmp_eqb, cmp_neb, cmp_is, cmp_isnot, cmp_isn, cmp_isnotn, isi_int, isi_bool, isi_tup, isi_lst, isi_str, isI, isBo, isTu, isLi, isSt, truth, ixP, slP, biP, owns, own, at_0, at_1, at_2, at_3, set_0, setsD, asgn, asgnT, sets, List.getElem?_cons_zero, List.getElem?_cons_succ, List.set_cons_zero, List.set_cons_succ, List.length_cons, List.length_nil, decide_eq_true_eq, Bool.not_true, Bool.not_false, Bool.not_eq_true', decide_eq_false_iff_not, Bool.true_eq_false, Bool.false_eq_true, if_true, if_false, true_and]; try (first | refine Br.d ?_ | refine Br.nd ?_ | refine Br.nb ?_ | refine Br.b ?_))
            exact next F' _ _ (List.prefix_refl _) hF' (hin _ (hmem.mp (Classical.not_not.mp hni)))
        · rename_i hor
          try (simp only [↓stk_call, ↓stk_comp, ↓stk_rows, ↓stk_rc, ↓stk_for, ↓stk_whl, ↓stk_said, ↓Br.t, ↓Br.f, Br.t, Br.f, ↓w_var, ↓w_int, ↓w_bool, ↓w_none, ↓w_str, ↓w_glob, ↓w_bin, ↓w_neg, ↓w_not, ↓w_cmp, ↓w_chain, ↓w_and, ↓w_or, ↓w_ife, ↓w_tup, ↓w_lst, ↓w_ix, ↓w_ixR, ↓w_rowc, ↓w_rcomp, ↓w_sl0, ↓w_slL, ↓w_slH, ↓w_slB, ↓w_bi, ↓w_isi, ↓w_op, ↓w_idx, ↓w_sm, isS_s, ↓w_dic, ↓w_me, ↓w_call, ↓w_pick, ↓w_isx, ↓w_comp, ↓w_compI, ↓w_nil, ↓w_cons, ↓w_seq, ↓w_rng1, ↓w_rng2, ↓w_enm, ↓w_zip, ↓w_zip3, ↓s_nil, ↓s_cons, ↓s_set, ↓s_setT, ↓s_setP, ↓s_setI, ↓s_expr, ↓s_ife, ↓s_whl, ↓s_for, ↓s_ret, ↓s_retN, ↓s_pass, ↓s_brk, ↓s_cont, ↓Ok.ok, ↓Ok.bind, Sm.s, Sm.map, Sm.ite, Snap.b, In.i, Bl.b, Rf.r, mk_f, mk_t, ixF_b, ixF_r, ixF_s, pickF_w, isxF_n, isxF_e, biF_len, biF_b, biF_r, opF_w, isL_b, isL_r, Snaps, itSeq_l, itSeq_t, itZip_l, itZip_t, itZip3_w, binP, intBin, cmp_lt, cmp_le, cmp_gt, cmp_ge, cmp_eqi, cmp_nei, cmp_eqb, cmp_neb, cmp_is, cmp_isnot, cmp_isn, cmp_isnotn, isi_int, isi_bool, isi_tup, isi_lst, isi_str, isI, isBo, isTu, isLi, isSt, truth, ixP, slP, biP, owns, own, at_0, at_1, at_2, at_3, set_0, setsD, asgn, asgnT, sets, List.getElem?_cons_zero, List.getElem?_cons_succ, List.set_cons_zero, List.set_cons_succ, List.length_cons, List.length_nil, decide_eq_true_eq, Bool.not_true, Bool.not_false, Bool.not_eq_true', decide_eq_false_iff_not, Bool.true_eq_false, Bool.false_eq_true, if_true, if_false, true_and]; try (first | refine Br.d ?_ | refine Br.nd ?_ | refine Br.nb ?_ | refine Br.b ?_))
          exact next F' _ _ (List.prefix_refl _) hF' ⟨fun z => absurd (Or.inl (by omega)) hor, fun z => absurd (Or.inr (by omega)) hor⟩
      · rintro δ mm ⟨F', o5, o6, o7, rfl, rfl, hpre, hF', hcl⟩
        refine ⟨trivial, ?_⟩
        (simp only [↓stk_call, ↓stk_comp, ↓stk_rows, ↓stk_rc, ↓stk_for, ↓stk_whl, ↓stk_said, ↓Br.t, ↓Br.f, Br.t, Br.f, ↓w_var, ↓w_int, ↓w_bool, ↓w_none, ↓w_str, ↓w_glob, ↓w_bin, ↓w_neg, ↓w_not, ↓w_cmp, ↓w_chain, ↓w_and, ↓w_or, ↓w_ife, ↓w_tup, ↓w_lst, ↓w_ix, ↓w_ixR, ↓w_rowc, ↓w_rcomp, ↓w_sl0, ↓w_slL, ↓w_slH, ↓w_slB, ↓w_bi, ↓w_isi, ↓w_op, ↓w_idx, ↓w_sm, isS_s, ↓w_dic, ↓w_me, ↓w_call, ↓w_pick, ↓w_isx, ↓w_comp, ↓w_compI, ↓w_nil, ↓w_cons, ↓w_seq, ↓w_rng1, ↓w_rng2, ↓w_enm, ↓w_zip, ↓w_zip3, ↓s_nil, ↓s_cons, ↓s_set, ↓s_setT, ↓s_setP, ↓s_setI, ↓s_expr, ↓s_ife, ↓s_whl, ↓s_for, ↓s_ret, ↓s_retN, ↓s_pass, ↓s_brk, ↓s_cont, ↓Ok.ok, ↓Ok.bind, Sm.s, Sm.map, Sm.ite, Snap.b, In.i, Bl.b, Rf.r, mk_f, mk_t, ixF_b, ixF_r, ixF_s, pickF_w, isxF_n, isxF_e, biF_len, biF_b, biF_r, opF_w, isL_b, isL_r, Snaps, itSeq_l, itSeq_t, itZip_l, itZip_t, itZip3_w, binP, intBin, cmp_lt, cmp_le, cmp_gt, cmp_ge, cmp_eqi, cmp_nei, cmp_eqb, cmp_neb, cmp_is, cmp_isnot, cmp_isn, cmp_isnotn, isi_int, isi_bool, isi_tup, isi_lst, isi_str, isI, isBo, isTu, isLi, isSt, truth, ixP, slP, biP, owns, own, at_0, at_1, at_2, at_3, set_0, setsD, asgn, asgnT, sets, List.getElem?_cons_zero, List.getElem?_cons_succ, List.set_cons_zero, List.set_cons_succ, List.length_cons, List.length_nil, decide_eq_true_eq, Bool.not_true, Bool.not_false, Bool.not_eq_true', decide_eq_false_iff_not, Bool.true_eq_false, Bool.false_eq_true, if_true, if_false, true_and]; try (first | refine Br.d ?_ | refine Br.nd ?_ | refine Br.nb ?_ | refine Br.b ?_))
        refine ⟨⟨F', a + 1, o5, o6, o7, rfl, rfl, by have := hpre.length_le; omega, ⟨hF'.nd, hF'.ok, hF'.pl, fun j hj y hy e he => ?_⟩⟩, ?_⟩
        · by_cases hja : j < a
          · exact hF'.cl j hja y hy e he
          · have : j = a := by omega
            subst this
            have hXa : F'[j]? = some X := by
              obtain ⟨t, rfl⟩ := hpre
              rw [List.getElem?_append_left hlt']; exact hX
            rw [hXa] at hy
            cases hy
            obtain ⟨i, hi⟩ := List.mem_iff_getElem?.mp he
            have hlen : i < (numL ns).length := by
              rw [numL_len]
              have := (List.getElem?_eq_some_iff.mp hi).1
              unfold edg at this
              rw [List.length_map] at this
              exact this
            exact hcl i hlen e hi
        · show p.toNat - ((a : Int) + 1).toNat < p.toNat - (a : Int).toNat
          omega
    · rename_i hge
      have ea : a = F.length := by omega
      try (simp only [↓stk_call, ↓stk_comp, ↓stk_rows, ↓stk_rc, ↓stk_for, ↓stk_whl, ↓stk_said, ↓Br.t, ↓Br.f, Br.t, Br.f, ↓w_var, ↓w_int, ↓w_bool, ↓w_none, ↓w_str, ↓w_glob, ↓w_bin, ↓w_neg, ↓w_not, ↓w_cmp, ↓w_chain, ↓w_and, ↓w_or, ↓w_ife, ↓w_tup, ↓w_lst, ↓w_ix, ↓w_ixR, ↓w_rowc, ↓w_rcomp, ↓w_sl0, ↓w_slL, ↓w_slH, ↓w_slB, ↓w_bi, ↓w_isi, ↓w_op, ↓w_idx, ↓w_sm, isS_s, ↓w_dic, ↓w_me, ↓w_call, ↓w_pick, ↓w_isx, ↓w_comp, ↓w_compI, ↓w_nil, ↓w_cons, ↓w_seq, ↓w_rng1, ↓w_rng2, ↓w_enm, ↓w_zip, ↓w_zip3, ↓s_nil, ↓s_cons, ↓s_set, ↓s_setT, ↓s_setP, ↓s_setI, ↓s_expr, ↓s_ife, ↓s_whl, ↓s_for, ↓s_ret, ↓s_retN, ↓s_pass, ↓s_brk, ↓s_cont, ↓Ok.ok, ↓Ok.bind, Sm.s, Sm.map, Sm.ite, Snap.b, In.i, Bl.b, Rf.r, mk_f, mk_t, ixF_b, ixF_r, ixF_s, pickF_w, isxF_n, isxF_e, biF_len, biF_b, biF_r, opF_w, isL_b, isL_r, Snaps, itSeq_l, itSeq_t, itZip_l, itZip_t, itZip3_w, binP, intBin, cmp_lt, cmp_le, cmp_gt, cmp_ge, cmp_eqi, cmp_nei, cmp_eqb, cmp_neb, cmp_is, cmp_isnot, cmp_isn, cmp_isnotn, isi_int, isi_bool, isi_tup, isi_lst, isi_str, isI, isBo, isTu, isLi, isSt, truth, ixP, slP, biP, owns, own, at_0, at_1, at_2, at_3, set_0, setsD, asgn, asgnT, sets, List.getElem?_cons_zero, List.getElem?_cons_succ, List.set_cons_zero, List.set_cons_succ, List.length_cons, List.length_nil, decide_eq_true_eq, Bool.not_true, Bool.not_false, Bool.not_eq_true', decide_eq_false_iff_not, Bool.true_eq_false, Bool.false_eq_true, if_true, if_false, true_and, Snap.ref (get_end (t := []) (o := .lst (numL F)) (m := m) rfl), biF_r, ints_numL]; try (first | refine Br.d ?_ | refine Br.nd ?_ | refine Br.nb ?_ | refine Br.b ?_))
      refine ⟨_, rfl, (fun h => h.elim), take_end rfl, F, rfl, fun x => found_ok hF.pl (fun x hx => (hF.ok x hx).2) (fun x hx e he => ?_) x, hF.nd⟩
      obtain ⟨j, hj⟩ := List.mem_iff_getElem?.mp hx
      exact hF.cl j (by have := (List.getElem?_eq_some_iff.mp hj).1; omega) x hj e he
  · rw [List.mem_singleton.mp hx]
    exact ⟨by omega, .refl⟩
  · show p.toNat - _ < 1000000000
    omega
theorem reached_call (g_reached : G "reached" = some b_reached) {k : Nat} {m : Mem} {s p : Int} {cs : List PyData} {ns : List Nat} {v : Nat} (hc : cs.length ≤ 16) (hp : p ≤ 1000) (hg : ∀ c ∈ cs, GoodC s p c) (hn : ∀ i ∈ ns, i < cs.length) (hv : (v : Int) < p) :
    Ok (callF (run G (k + 1)) false "reached" [.b (.tuple [.int s, .int p, .tuple cs]), .b (.tuple (numL ns)), .b (.int v)] m) fun d m' => m' = m ∧ ∃ F : List Nat, d = .b (.list ((sortI (F.map fun i : Nat => (i : Int))).map .int)) ∧ ∀ x : Nat, x ∈ F ↔ Cn (edg cs ns) v x := by
  refine (reached_callN g_reached hc hp hg hn hv).mono ?_
  rintro _ _ ⟨rfl, F, rfl, hF, _⟩
  exact ⟨rfl, F, rfl, hF⟩
/-- the shut contacts' numbers -/
def shutN (cs t : List PyData) : List Nat := (shutL cs t).map fun x => match x with
  | .int i => i.toNat
  | _ => 0
theorem shutN_ok (cs t : List PyData) : shutL cs t = numL (shutN cs t) ∧ ∀ i ∈ shutN cs t, i < cs.length := by
  have key : ∀ x ∈ shutL cs t, ∃ i : Nat, x = .int i ∧ i < cs.length := fun x hx => by
    unfold shutL at hx
    obtain ⟨y, hy, rfl⟩ := List.mem_map.mp hx
    obtain ⟨hy, _⟩ := List.mem_filter.mp hy
    obtain ⟨i, hi⟩ := List.mem_iff_getElem?.mp hy
    obtain ⟨a, c, e1, e2, rfl⟩ := pair_get hi
    have := rng_get e1
    subst this
    exact ⟨i, rfl, (List.getElem?_eq_some_iff.mp e2).1⟩
  unfold shutN
  generalize shutL cs t = l at key
  constructor
  · unfold numL
    rw [List.map_map, List.map_map]
    refine ((List.map_congr_left fun x hx => ?_).trans (List.map_id l)).symm
    obtain ⟨i, rfl, _⟩ := key x hx
    rfl
  · intro i hi
    obtain ⟨x, hx, rfl⟩ := List.mem_map.mp hi
    obtain ⟨i, rfl, h⟩ := key x hx
    exact h
theorem lets_call (g_lets : G "lets" = some b_lets) (g_shut_at : G "shut_at" = some b_shut_at) (g_reached : G "reached" = some b_reached) {k : Nat} {m : Mem} {s p : Int} {cs t : List PyData} (hc : cs.length ≤ 16) (h2 : 2 ≤ p) (hp : p ≤ 1000) (hg : ∀ c ∈ cs, GoodC s p c) (ht : SetP s t) :
    Ok (callF (run G (k + 2)) false "lets" [.b (.tuple [.int s, .int p, .tuple cs]), .b (.tuple t)] m) fun d m' => m' = m ∧ ∃ c : Bool, d = .b (.bool c) ∧ (c = true ↔ Cn (edg cs (shutN cs t)) 0 1) := by
  refine call_b (run_ok g_lets ⟨rfl, by decide⟩ ?_)
  rw [show startE b_lets.n [.b (.tuple [.int s, .int p, .tuple cs]), .b (.tuple t)] = [some (.b (.tuple [.int s, .int p, .tuple cs])), some (.b (.tuple t))] from rfl]
  unfold b_lets
  (simp only [↓stk_call, ↓stk_comp, ↓stk_rows, ↓stk_rc, ↓stk_for, ↓stk_whl, ↓stk_said, ↓Br.t, ↓Br.f, Br.t, Br.f, ↓w_var, ↓w_int, ↓w_bool, ↓w_none, ↓w_str, ↓w_glob, ↓w_bin, ↓w_neg, ↓w_not, ↓w_cmp, ↓w_chain, ↓w_and, ↓w_or, ↓w_ife, ↓w_tup, ↓w_lst, ↓w_ix, ↓w_ixR, ↓w_rowc, ↓w_rcomp, ↓w_sl0, ↓w_slL, ↓w_slH, ↓w_slB, ↓w_bi, ↓w_isi, ↓w_op, ↓w_idx, ↓w_sm, isS_s, ↓w_dic, ↓w_me, ↓w_call, ↓w_pick, ↓w_isx, ↓w_comp, ↓w_compI, ↓w_nil, ↓w_cons, ↓w_seq, ↓w_rng1, ↓w_rng2, ↓w_enm, ↓w_zip, ↓w_zip3, ↓s_nil, ↓s_cons, ↓s_set, ↓s_setT, ↓s_setP, ↓s_setI, ↓s_expr, ↓s_ife, ↓s_whl, ↓s_for, ↓s_ret, ↓s_retN, ↓s_pass, ↓s_brk, ↓s_cont, ↓Ok.ok, ↓Ok.bind, Sm.s, Sm.map, Sm.ite, Snap.b, In.i, Bl.b, Rf.r, mk_f, mk_t, ixF_b, ixF_r, ixF_s, pickF_w, isxF_n, isxF_e, biF_len, biF_b, biF_r, opF_w, isL_b, isL_r, Snaps, itSeq_l, itSeq_t, itZip_l, itZip_t, itZip3_w, binP, intBin, cmp_lt, cmp_le, cmp_gt, cmp_ge, cmp_eqi, cmp_nei, cmp_eqb, cmp_neb, cmp_is, cmp_isnot, cmp_isn, cmp_isnotn, isi_int, isi_bool, isi_tup, isi_lst, isi_str, isI, isBo, isTu, isLi, isSt, truth, ixP, slP, biP, owns, own, at_0, at_1, at_2, at_3, set_0, setsD, asgn, asgnT, sets, List.getElem?_cons_zero, List.getElem?_cons_succ, List.set_cons_zero, List.set_cons_succ, List.length_cons, List.length_nil, decide_eq_true_eq, Bool.not_true, Bool.not_false, Bool.not_eq_true', decide_eq_false_iff_not, Bool.true_eq_false, Bool.false_eq_true, if_true, if_false, true_and]; try (first | refine Br.d ?_ | refine Br.nd ?_ | refine Br.nb ?_ | refine Br.b ?_))
  refine (shutat_call g_shut_at hc hg ht).mono ?_
  rintro _ m ⟨rfl, rfl⟩
  (simp only [↓stk_call, ↓stk_comp, ↓stk_rows, ↓stk_rc, ↓stk_for, ↓stk_whl, ↓stk_said, ↓Br.t, ↓Br.f, Br.t, Br.f, ↓w_var, ↓w_int, ↓w_bool, ↓w_none, ↓w_str, ↓w_glob, ↓w_bin, ↓w_neg, ↓w_not, ↓w_cmp, ↓w_chain, ↓w_and, ↓w_or, ↓w_ife, ↓w_tup, ↓w_lst, ↓w_ix, ↓w_ixR, ↓w_rowc, ↓w_rcomp, ↓w_sl0, ↓w_slL, ↓w_slH, ↓w_slB, ↓w_bi, ↓w_isi, ↓w_op, ↓w_idx, ↓w_sm, isS_s, ↓w_dic, ↓w_me, ↓w_call, ↓w_pick, ↓w_isx, ↓w_comp, ↓w_compI, ↓w_nil, ↓w_cons, ↓w_seq, ↓w_rng1, ↓w_rng2, ↓w_enm, ↓w_zip, ↓w_zip3, ↓s_nil, ↓s_cons, ↓s_set, ↓s_setT, ↓s_setP, ↓s_setI, ↓s_expr, ↓s_ife, ↓s_whl, ↓s_for, ↓s_ret, ↓s_retN, ↓s_pass, ↓s_brk, ↓s_cont, ↓Ok.ok, ↓Ok.bind, Sm.s, Sm.map, Sm.ite, Snap.b, In.i, Bl.b, Rf.r, mk_f, mk_t, ixF_b, ixF_r, ixF_s, pickF_w, isxF_n, isxF_e, biF_len, biF_b, biF_r, opF_w, isL_b, isL_r, Snaps, itSeq_l, itSeq_t, itZip_l, itZip_t, itZip3_w, binP, intBin, cmp_lt, cmp_le, cmp_gt, cmp_ge, cmp_eqi, cmp_nei, cmp_eqb, cmp_neb, cmp_is, cmp_isnot, cmp_isn, cmp_isnotn, isi_int, isi_bool, isi_tup, isi_lst, isi_str, isI, isBo, isTu, isLi, isSt, truth, ixP, slP, biP, owns, own, at_0, at_1, at_2, at_3, set_0, setsD, asgn, asgnT, sets, List.getElem?_cons_zero, List.getElem?_cons_succ, List.set_cons_zero, List.set_cons_succ, List.length_cons, List.length_nil, decide_eq_true_eq, Bool.not_true, Bool.not_false, Bool.not_eq_true', decide_eq_false_iff_not, Bool.true_eq_false, Bool.false_eq_true, if_true, if_false, true_and]; try (first | refine Br.d ?_ | refine Br.nd ?_ | refine Br.nb ?_ | refine Br.b ?_))
  obtain ⟨e, hn⟩ := shutN_ok cs t
  rw [e]
  refine (reached_call g_reached (v := 0) hc hp hg hn (by omega)).mono ?_
  rintro _ m ⟨rfl, F, rfl, hF⟩
  (simp only [↓stk_call, ↓stk_comp, ↓stk_rows, ↓stk_rc, ↓stk_for, ↓stk_whl, ↓stk_said, ↓Br.t, ↓Br.f, Br.t, Br.f, ↓w_var, ↓w_int, ↓w_bool, ↓w_none, ↓w_str, ↓w_glob, ↓w_bin, ↓w_neg, ↓w_not, ↓w_cmp, ↓w_chain, ↓w_and, ↓w_or, ↓w_ife, ↓w_tup, ↓w_lst, ↓w_ix, ↓w_ixR, ↓w_rowc, ↓w_rcomp, ↓w_sl0, ↓w_slL, ↓w_slH, ↓w_slB, ↓w_bi, ↓w_isi, ↓w_op, ↓w_idx, ↓w_sm, isS_s, ↓w_dic, ↓w_me, ↓w_call, ↓w_pick, ↓w_isx, ↓w_comp, ↓w_compI, ↓w_nil, ↓w_cons, ↓w_seq, ↓w_rng1, ↓w_rng2, ↓w_enm, ↓w_zip, ↓w_zip3, ↓s_nil, ↓s_cons, ↓s_set, ↓s_setT, ↓s_setP, ↓s_setI, ↓s_expr, ↓s_ife, ↓s_whl, ↓s_for, ↓s_ret, ↓s_retN, ↓s_pass, ↓s_brk, ↓s_cont, ↓Ok.ok, ↓Ok.bind, Sm.s, Sm.map, Sm.ite, Snap.b, In.i, Bl.b, Rf.r, mk_f, mk_t, ixF_b, ixF_r, ixF_s, pickF_w, isxF_n, isxF_e, biF_len, biF_b, biF_r, opF_w, isL_b, isL_r, Snaps, itSeq_l, itSeq_t, itZip_l, itZip_t, itZip3_w, binP, intBin, cmp_lt, cmp_le, cmp_gt, cmp_ge, cmp_eqi, cmp_nei, cmp_eqb, cmp_neb, cmp_is, cmp_isnot, cmp_isn, cmp_isnotn, isi_int, isi_bool, isi_tup, isi_lst, isi_str, isI, isBo, isTu, isLi, isSt, truth, ixP, slP, biP, owns, own, at_0, at_1, at_2, at_3, set_0, setsD, asgn, asgnT, sets, List.getElem?_cons_zero, List.getElem?_cons_succ, List.set_cons_zero, List.set_cons_succ, List.length_cons, List.length_nil, decide_eq_true_eq, Bool.not_true, Bool.not_false, Bool.not_eq_true', decide_eq_false_iff_not, Bool.true_eq_false, Bool.false_eq_true, if_true, if_false, true_and, cmp_inl]; try (first | refine Br.d ?_ | refine Br.nd ?_ | refine Br.nb ?_ | refine Br.b ?_))
  refine ⟨_, rfl, fun _ => rfl, by rw [List.take_length], _, rfl, ?_⟩
  rw [decide_eq_true_eq, (sortI_perm _).mem_iff, mem_num _ _ (by decide)]
  exact hF 1
/-! ### the marks -/
theorem rounds_succ (E : List (Nat × Nat)) : ∀ (n : Nat) (M : List Nat), rounds E (n + 1) M = round E (rounds E n M)
  | 0, M => rfl
  | n + 1, M => by
    show rounds E (n + 1) (round E M) = round E (rounds E n (round E M))
    exact rounds_succ E n (round E M)
theorem at_num {M : List Nat} {a : Int} (h0 : 0 ≤ a) (h1 : a.toNat < M.length) : atP (numL M) a = some (.int (mk1 M a.toNat : Nat)) := by
  have e := List.getElem?_eq_getElem h1
  have := at_nat (numL_at e)
  have ea : ((a.toNat : Nat) : Int) = a := by omega
  rw [ea] at this
  rw [this]
  unfold mk1
  rw [List.getD_eq_getElem?_getD, e]
  rfl
theorem set_num {M : List Nat} {a : Int} {l : Nat} (h0 : 0 ≤ a) (h1 : a.toNat < M.length) : setL (numL M) (.int a) (.int (l : Int)) = some (numL (M.set a.toNat l)) := by
  unfold setL
  have : L2.ixN (numL M).length a = some a.toNat := by
    unfold L2.ixN
    rw [numL_len, if_pos h0, if_pos (by omega)]
  simp only [this]
  unfold numL
  rw [List.map_set, List.map_set]
theorem min_num (x y : Nat) : (if (y : Int) < (x : Int) then (y : Int) else (x : Int)) = ((min x y : Nat) : Int) := by
  split <;> omega
theorem marks_call (g_law_marks : G "_law_marks" = some b_law_marks) {k : Nat} {m : Mem} {s p : Int} {cs : List PyData} {ns : List Nat} (hc : cs.length ≤ 16) (h2 : 2 ≤ p) (hp : p ≤ 1000) (hg : ∀ c ∈ cs, GoodC s p c) (hn : ∀ i ∈ ns, i < cs.length) :
    Ok (callF (run G (k + 1)) false "_law_marks" [.b (.tuple [.int s, .int p, .tuple cs]), .b (.list (numL ns))] m) fun d m' => m' = m ∧ d = .b (.list (numL (rounds (edg cs ns) p.toNat (List.range p.toNat)))) := by
  refine call_l (run_ok g_law_marks ⟨rfl, by decide⟩ ?_)
  rw [show startE b_law_marks.n [.b (.tuple [.int s, .int p, .tuple cs]), .b (.list (numL ns))] = [some (.b (.tuple [.int s, .int p, .tuple cs])), some (.b (.list (numL ns))), none, none, none, none, none, none] from rfl]
  unfold b_law_marks
  (simp only [↓stk_call, ↓stk_comp, ↓stk_rows, ↓stk_rc, ↓stk_for, ↓stk_whl, ↓stk_said, ↓Br.t, ↓Br.f, Br.t, Br.f, ↓w_var, ↓w_int, ↓w_bool, ↓w_none, ↓w_str, ↓w_glob, ↓w_bin, ↓w_neg, ↓w_not, ↓w_cmp, ↓w_chain, ↓w_and, ↓w_or, ↓w_ife, ↓w_tup, ↓w_lst, ↓w_ix, ↓w_ixR, ↓w_rowc, ↓w_rcomp, ↓w_sl0, ↓w_slL, ↓w_slH, ↓w_slB, ↓w_bi, ↓w_isi, ↓w_op, ↓w_idx, ↓w_sm, isS_s, ↓w_dic, ↓w_me, ↓w_call, ↓w_pick, ↓w_isx, ↓w_comp, ↓w_compI, ↓w_nil, ↓w_cons, ↓w_seq, ↓w_rng1, ↓w_rng2, ↓w_enm, ↓w_zip, ↓w_zip3, ↓s_nil, ↓s_cons, ↓s_set, ↓s_setT, ↓s_setP, ↓s_setI, ↓s_expr, ↓s_ife, ↓s_whl, ↓s_for, ↓s_ret, ↓s_retN, ↓s_pass, ↓s_brk, ↓s_cont, ↓Ok.ok, ↓Ok.bind, Sm.s, Sm.map, Sm.ite, Snap.b, In.i, Bl.b, Rf.r, mk_f, mk_t, ixF_b, ixF_r, ixF_s, pickF_w, isxF_n, isxF_e, biF_len, biF_b, biF_r, opF_w, isL_b, isL_r, Snaps, itSeq_l, itSeq_t, itZip_l, itZip_t, itZip3_w, binP, intBin, cmp_lt, cmp_le, cmp_gt, cmp_ge, cmp_eqi, cmp_nei, cmp_eqb, cmp_neb, cmp_is, cmp_isnot, cmp_isn, cmp_isnotn, isi_int, isi_bool, isi_tup, isi_lst, isi_str, isI, isBo, isTu, isLi, isSt, truth, ixP, slP, biP, owns, own, at_0, at_1, at_2, at_3, set_0, setsD, asgn, asgnT, sets, List.getElem?_cons_zero, List.getElem?_cons_succ, List.set_cons_zero, List.set_cons_succ, List.length_cons, List.length_nil, decide_eq_true_eq, Bool.not_true, Bool.not_false, Bool.not_eq_true', decide_eq_false_iff_not, Bool.true_eq_false, Bool.false_eq_true, if_true, if_false, true_and]; try (first | refine Br.d ?_ | refine Br.nd ?_ | refine Br.nb ?_ | refine Br.b ?_))
  have hr : rngOk 0 p = true := by unfold rngOk; exact decide_eq_true (by omega)
  have e0 : rngP 0 p = numL (List.range p.toNat) := by
    unfold rngP numL
    rw [List.map_map, Int.sub_zero]
    refine List.map_congr_left fun i _ => ?_
    show PyData.int (0 + (i : Int)) = .int (i : Int)
    rw [Int.zero_add]
  refine ⟨hr, hr, ?_⟩
  refine for_ok (fun i δ mm => ∃ o3 o4 o5 o6 o7, δ = [some (.b (.tuple [.int s, .int p, .tuple cs])), some (.b (.list (numL ns))), some (.ref m.length), o3, o4, o5, o6, o7] ∧ mm = m ++ [.lst (numL (rounds (edg cs ns) i (List.range p.toNat)))]) ⟨_, _, _, _, _, rfl, by rw [e0]; rfl⟩ ?_ ?_
  · rintro i x δ mm hx ⟨o3, o4, o5, o6, o7, rfl, rfl⟩
    refine ⟨trivial, ?_⟩
    (simp only [↓stk_call, ↓stk_comp, ↓stk_rows, ↓stk_rc, ↓stk_for, ↓stk_whl, ↓stk_said, ↓Br.t, ↓Br.f, Br.t, Br.f, ↓w_var, ↓w_int, ↓w_bool, ↓w_none, ↓w_str, ↓w_glob, ↓w_bin, ↓w_neg, ↓w_not, ↓w_cmp, ↓w_chain, ↓w_and, ↓w_or, ↓w_ife, ↓w_tup, ↓w_lst, ↓w_ix, ↓w_ixR, ↓w_rowc, ↓w_rcomp, ↓w_sl0, ↓w_slL, ↓w_slH, ↓w_slB, ↓w_bi, ↓w_isi, ↓w_op, ↓w_idx, ↓w_sm, isS_s, ↓w_dic, ↓w_me, ↓w_call, ↓w_pick, ↓w_isx, ↓w_comp, ↓w_compI, ↓w_nil, ↓w_cons, ↓w_seq, ↓w_rng1, ↓w_rng2, ↓w_enm, ↓w_zip, ↓w_zip3, ↓s_nil, ↓s_cons, ↓s_set, ↓s_setT, ↓s_setP, ↓s_setI, ↓s_expr, ↓s_ife, ↓s_whl, ↓s_for, ↓s_ret, ↓s_retN, ↓s_pass, ↓s_brk, ↓s_cont, ↓Ok.ok, ↓Ok.bind, Sm.s, Sm.map, Sm.ite, Snap.b, In.i, Bl.b, Rf.r, mk_f, mk_t, ixF_b, ixF_r, ixF_s, pickF_w, isxF_n, isxF_e, biF_len, biF_b, biF_r, opF_w, isL_b, isL_r, Snaps, itSeq_l, itSeq_t, itZip_l, itZip_t, itZip3_w, binP, intBin, cmp_lt, cmp_le, cmp_gt, cmp_ge, cmp_eqi, cmp_nei, cmp_eqb, cmp_neb, cmp_is, cmp_isnot, cmp_isn, cmp_isnotn, isi_int, isi_bool, isi_tup, isi_lst, isi_str, isI, isBo, isTu, isLi, isSt, truth, ixP, slP, biP, owns, own, at_0, at_1, at_2, at_3, set_0, setsD, asgn, asgnT, sets, List.getElem?_cons_zero, List.getElem?_cons_succ, List.set_cons_zero, List.set_cons_succ, List.length_cons, List.length_nil, decide_eq_true_eq, Bool.not_true, Bool.not_false, Bool.not_eq_true', decide_eq_false_iff_not, Bool.true_eq_false, Bool.false_eq_true, if_true, if_false, true_and]; try (first | refine Br.d ?_ | refine Br.nd ?_ | refine Br.nb ?_ | refine Br.b ?_))
    generalize hM : rounds (edg cs ns) i (List.range p.toNat) = M
    have hMl : M.length = p.toNat := by rw [← hM, rounds_len, List.length_range]
    refine for_ok (fun j δ mm => ∃ o3 o4 o5 o6 o7, δ = [some (.b (.tuple [.int s, .int p, .tuple cs])), some (.b (.list (numL ns))), some (.ref m.length), o3, o4, o5, o6, o7] ∧ ∃ M', mm = m ++ [.lst (numL M')] ∧ M' = ((edg cs ns).take j).foldl estep M ∧ M'.length = p.toNat) ⟨_, _, _, _, _, rfl, M, rfl, rfl, hMl⟩ ?_ ?_
    · rintro j x δ mm hx ⟨o3, o4, o5, o6, o7, rfl, M', rfl, hM', hl⟩
      obtain ⟨q, rfl, hq⟩ := numL_get hx
      have hqn := List.mem_of_getElem? hq
      obtain ⟨ea, eb, ew, eo, hcq, ea0, eab, ebp, hends⟩ := ends_of hg (hn q hqn)
      have he : (edg cs ns)[j]? = some (ea.toNat, eb.toNat) := by
        unfold edg
        rw [List.getElem?_map, hq]
        show some (endsOf cs q) = _
        rw [hends]
      have c2 : cutP [PyData.int ea, .int eb, .int ew, .int eo] none (some 2) = [.int ea, .int eb] := cut_hi _ 2
      have la : ea.toNat < M'.length := by omega
      have lb : eb.toNat < M'.length := by omega
      refine ⟨trivial, ?_⟩
      (simp only [↓stk_call, ↓stk_comp, ↓stk_rows, ↓stk_rc, ↓stk_for, ↓stk_whl, ↓stk_said, ↓Br.t, ↓Br.f, Br.t, Br.f, ↓w_var, ↓w_int, ↓w_bool, ↓w_none, ↓w_str, ↓w_glob, ↓w_bin, ↓w_neg, ↓w_not, ↓w_cmp, ↓w_chain, ↓w_and, ↓w_or, ↓w_ife, ↓w_tup, ↓w_lst, ↓w_ix, ↓w_ixR, ↓w_rowc, ↓w_rcomp, ↓w_sl0, ↓w_slL, ↓w_slH, ↓w_slB, ↓w_bi, ↓w_isi, ↓w_op, ↓w_idx, ↓w_sm, isS_s, ↓w_dic, ↓w_me, ↓w_call, ↓w_pick, ↓w_isx, ↓w_comp, ↓w_compI, ↓w_nil, ↓w_cons, ↓w_seq, ↓w_rng1, ↓w_rng2, ↓w_enm, ↓w_zip, ↓w_zip3, ↓s_nil, ↓s_cons, ↓s_set, ↓s_setT, ↓s_setP, ↓s_setI, ↓s_expr, ↓s_ife, ↓s_whl, ↓s_for, ↓s_ret, ↓s_retN, ↓s_pass, ↓s_brk, ↓s_cont, ↓Ok.ok, ↓Ok.bind, Sm.s, Sm.map, Sm.ite, Snap.b, In.i, Bl.b, Rf.r, mk_f, mk_t, ixF_b, ixF_r, ixF_s, pickF_w, isxF_n, isxF_e, biF_len, biF_b, biF_r, opF_w, isL_b, isL_r, Snaps, itSeq_l, itSeq_t, itZip_l, itZip_t, itZip3_w, binP, intBin, cmp_lt, cmp_le, cmp_gt, cmp_ge, cmp_eqi, cmp_nei, cmp_eqb, cmp_neb, cmp_is, cmp_isnot, cmp_isn, cmp_isnotn, isi_int, isi_bool, isi_tup, isi_lst, isi_str, isI, isBo, isTu, isLi, isSt, truth, ixP, slP, biP, owns, own, at_0, at_1, at_2, at_3, set_0, setsD, asgn, asgnT, sets, List.getElem?_cons_zero, List.getElem?_cons_succ, List.set_cons_zero, List.set_cons_succ, List.length_cons, List.length_nil, decide_eq_true_eq, Bool.not_true, Bool.not_false, Bool.not_eq_true', decide_eq_false_iff_not, Bool.true_eq_false, Bool.false_eq_true, if_true, if_false, true_and, at_nat hcq, c2, Snap.ref (get_end (t := []) (o := .lst (numL M')) (m := m) rfl), at_num ea0 la, at_num (show 0 ≤ eb by omega) lb, biF_b, min_num, setF_w (get_end (t := []) (o := .lst (numL M')) (m := m) rfl), set_num ea0 la, set_end (m := m) rfl]; try (first | refine Br.d ?_ | refine Br.nd ?_ | refine Br.nb ?_ | refine Br.b ?_))
      have lb2 : eb.toNat < (M'.set ea.toNat (min (mk1 M' ea.toNat) (mk1 M' eb.toNat))).length := by rw [List.length_set]; exact lb
      (simp only [↓stk_call, ↓stk_comp, ↓stk_rows, ↓stk_rc, ↓stk_for, ↓stk_whl, ↓stk_said, ↓Br.t, ↓Br.f, Br.t, Br.f, ↓w_var, ↓w_int, ↓w_bool, ↓w_none, ↓w_str, ↓w_glob, ↓w_bin, ↓w_neg, ↓w_not, ↓w_cmp, ↓w_chain, ↓w_and, ↓w_or, ↓w_ife, ↓w_tup, ↓w_lst, ↓w_ix, ↓w_ixR, ↓w_rowc, ↓w_rcomp, ↓w_sl0, ↓w_slL, ↓w_slH, ↓w_slB, ↓w_bi, ↓w_isi, ↓w_op, ↓w_idx, ↓w_sm, isS_s, ↓w_dic, ↓w_me, ↓w_call, ↓w_pick, ↓w_isx, ↓w_comp, ↓w_compI, ↓w_nil, ↓w_cons, ↓w_seq, ↓w_rng1, ↓w_rng2, ↓w_enm, ↓w_zip, ↓w_zip3, ↓s_nil, ↓s_cons, ↓s_set, ↓s_setT, ↓s_setP, ↓s_setI, ↓s_expr, ↓s_ife, ↓s_whl, ↓s_for, ↓s_ret, ↓s_retN, ↓s_pass, ↓s_brk, ↓s_cont, ↓Ok.ok, ↓Ok.bind, Sm.s, Sm.map, Sm.ite, Snap.b, In.i, Bl.b, Rf.r, mk_f, mk_t, ixF_b, ixF_r, ixF_s, pickF_w, isxF_n, isxF_e, biF_len, biF_b, biF_r, opF_w, isL_b, isL_r, Snaps, itSeq_l, itSeq_t, itZip_l, itZip_t, itZip3_w, binP, intBin, cmp_lt, cmp_le, cmp_gt, cmp_ge, cmp_eqi, cmp_nei, cmp_eqb, cmp_neb, cmp_is, cmp_isnot, cmp_isn, cmp_isnotn, isi_int, isi_bool, isi_tup, isi_lst, isi_str, isI, isBo, isTu, isLi, isSt, truth, ixP, slP, biP, owns, own, at_0, at_1, at_2, at_3, set_0, setsD, asgn, asgnT, sets, List.getElem?_cons_zero, List.getElem?_cons_succ, List.set_cons_zero, List.set_cons_succ, List.length_cons, List.length_nil, decide_eq_true_eq, Bool.not_true, Bool.not_false, Bool.not_eq_true', decide_eq_false_iff_not, Bool.true_eq_false, Bool.false_eq_true, if_true, if_false, true_and, setF_w (get_end (t := []) (o := .lst (numL (M'.set ea.toNat (min (mk1 M' ea.toNat) (mk1 M' eb.toNat))))) (m := m) rfl), set_num (show 0 ≤ eb by omega) lb2, set_end (m := m) rfl]; try (first | refine Br.d ?_ | refine Br.nd ?_ | refine Br.nb ?_ | refine Br.b ?_))
      refine ⟨_, _, _, _, _, rfl, _, rfl, ?_, by rw [List.length_set, List.length_set]; exact hl⟩
      rw [List.take_add_one, he, List.foldl_append, ← hM']
      rfl
    · rintro δ mm ⟨o3, o4, o5, o6, o7, rfl, M', rfl, hM', hl⟩
      refine ⟨trivial, ?_⟩
      (simp only [↓stk_call, ↓stk_comp, ↓stk_rows, ↓stk_rc, ↓stk_for, ↓stk_whl, ↓stk_said, ↓Br.t, ↓Br.f, Br.t, Br.f, ↓w_var, ↓w_int, ↓w_bool, ↓w_none, ↓w_str, ↓w_glob, ↓w_bin, ↓w_neg, ↓w_not, ↓w_cmp, ↓w_chain, ↓w_and, ↓w_or, ↓w_ife, ↓w_tup, ↓w_lst, ↓w_ix, ↓w_ixR, ↓w_rowc, ↓w_rcomp, ↓w_sl0, ↓w_slL, ↓w_slH, ↓w_slB, ↓w_bi, ↓w_isi, ↓w_op, ↓w_idx, ↓w_sm, isS_s, ↓w_dic, ↓w_me, ↓w_call, ↓w_pick, ↓w_isx, ↓w_comp, ↓w_compI, ↓w_nil, ↓w_cons, ↓w_seq, ↓w_rng1, ↓w_rng2, ↓w_enm, ↓w_zip, ↓w_zip3, ↓s_nil, ↓s_cons, ↓s_set, ↓s_setT, ↓s_setP, ↓s_setI, ↓s_expr, ↓s_ife, ↓s_whl, ↓s_for, ↓s_ret, ↓s_retN, ↓s_pass, ↓s_brk, ↓s_cont, ↓Ok.ok, ↓Ok.bind, Sm.s, Sm.map, Sm.ite, Snap.b, In.i, Bl.b, Rf.r, mk_f, mk_t, ixF_b, ixF_r, ixF_s, pickF_w, isxF_n, isxF_e, biF_len, biF_b, biF_r, opF_w, isL_b, isL_r, Snaps, itSeq_l, itSeq_t, itZip_l, itZip_t, itZip3_w, binP, intBin, cmp_lt, cmp_le, cmp_gt, cmp_ge, cmp_eqi, cmp_nei, cmp_eqb, cmp_neb, cmp_is, cmp_isnot, cmp_isn, cmp_isnotn, isi_int, isi_bool, isi_tup, isi_lst, isi_str, isI, isBo, isTu, isLi, isSt, truth, ixP, slP, biP, owns, own, at_0, at_1, at_2, at_3, set_0, setsD, asgn, asgnT, sets, List.getElem?_cons_zero, List.getElem?_cons_succ, List.set_cons_zero, List.set_cons_succ, List.length_cons, List.length_nil, decide_eq_true_eq, Bool.not_true, Bool.not_false, Bool.not_eq_true', decide_eq_false_iff_not, Bool.true_eq_false, Bool.false_eq_true, if_true, if_false, true_and]; try (first | refine Br.d ?_ | refine Br.nd ?_ | refine Br.nb ?_ | refine Br.b ?_))
      refine ⟨_, _, _, _, _, rfl, ?_⟩
      have : (numL ns).length = (edg cs ns).length := by rw [numL_len]; unfold edg; rw [List.length_map]
      have hM' : M' = ((edg cs ns).take (numL ns).length).foldl estep M := hM'
      rw [this, List.take_length] at hM'
      rw [hM', rounds_succ, hM]
      rfl
  · rintro δ mm ⟨o3, o4, o5, o6, o7, rfl, rfl⟩
    refine ⟨trivial, ?_⟩
    (simp only [↓stk_call, ↓stk_comp, ↓stk_rows, ↓stk_rc, ↓stk_for, ↓stk_whl, ↓stk_said, ↓Br.t, ↓Br.f, Br.t, Br.f, ↓w_var, ↓w_int, ↓w_bool, ↓w_none, ↓w_str, ↓w_glob, ↓w_bin, ↓w_neg, ↓w_not, ↓w_cmp, ↓w_chain, ↓w_and, ↓w_or, ↓w_ife, ↓w_tup, ↓w_lst, ↓w_ix, ↓w_ixR, ↓w_rowc, ↓w_rcomp, ↓w_sl0, ↓w_slL, ↓w_slH, ↓w_slB, ↓w_bi, ↓w_isi, ↓w_op, ↓w_idx, ↓w_sm, isS_s, ↓w_dic, ↓w_me, ↓w_call, ↓w_pick, ↓w_isx, ↓w_comp, ↓w_compI, ↓w_nil, ↓w_cons, ↓w_seq, ↓w_rng1, ↓w_rng2, ↓w_enm, ↓w_zip, ↓w_zip3, ↓s_nil, ↓s_cons, ↓s_set, ↓s_setT, ↓s_setP, ↓s_setI, ↓s_expr, ↓s_ife, ↓s_whl, ↓s_for, ↓s_ret, ↓s_retN, ↓s_pass, ↓s_brk, ↓s_cont, ↓Ok.ok, ↓Ok.bind, Sm.s, Sm.map, Sm.ite, Snap.b, In.i, Bl.b, Rf.r, mk_f, mk_t, ixF_b, ixF_r, ixF_s, pickF_w, isxF_n, isxF_e, biF_len, biF_b, biF_r, opF_w, isL_b, isL_r, Snaps, itSeq_l, itSeq_t, itZip_l, itZip_t, itZip3_w, binP, intBin, cmp_lt, cmp_le, cmp_gt, cmp_ge, cmp_eqi, cmp_nei, cmp_eqb, cmp_neb, cmp_is, cmp_isnot, cmp_isn, cmp_isnotn, isi_int, isi_bool, isi_tup, isi_lst, isi_str, isI, isBo, isTu, isLi, isSt, truth, ixP, slP, biP, owns, own, at_0, at_1, at_2, at_3, set_0, setsD, asgn, asgnT, sets, List.getElem?_cons_zero, List.getElem?_cons_succ, List.set_cons_zero, List.set_cons_succ, List.length_cons, List.length_nil, decide_eq_true_eq, Bool.not_true, Bool.not_false, Bool.not_eq_true', decide_eq_false_iff_not, Bool.true_eq_false, Bool.false_eq_true, if_true, if_false, true_and]; try (first | refine Br.d ?_ | refine Br.nd ?_ | refine Br.nb ?_ | refine Br.b ?_))
    refine ⟨m.length, _, m, rfl, Nat.le_refl _, get_end rfl, take_end rfl, ?_⟩
    simp [rngL]
theorem llets_call (g_law_lets : G "_law_lets" = some b_law_lets) (g_law_shut : G "_law_shut" = some b_law_shut) (g_law_marks : G "_law_marks" = some b_law_marks) {k : Nat} {m : Mem} {s p : Int} {cs t : List PyData} (hc : cs.length ≤ 16) (h2 : 2 ≤ p) (hp : p ≤ 1000) (hg : ∀ c ∈ cs, GoodC s p c) (ht : SetP s t) :
    Ok (callF (run G (k + 2)) false "_law_lets" [.b (.tuple [.int s, .int p, .tuple cs]), .b (.tuple t)] m) fun d m' => m' = m ∧ ∃ c : Bool, d = .b (.bool c) ∧ (c = true ↔ Cn (edg cs (shutN cs t)) 0 1) := by
  refine call_b (run_ok g_law_lets ⟨rfl, by decide⟩ ?_)
  rw [show startE b_law_lets.n [.b (.tuple [.int s, .int p, .tuple cs]), .b (.tuple t)] = [some (.b (.tuple [.int s, .int p, .tuple cs])), some (.b (.tuple t))] from rfl]
  unfold b_law_lets
  (simp only [↓stk_call, ↓stk_comp, ↓stk_rows, ↓stk_rc, ↓stk_for, ↓stk_whl, ↓stk_said, ↓Br.t, ↓Br.f, Br.t, Br.f, ↓w_var, ↓w_int, ↓w_bool, ↓w_none, ↓w_str, ↓w_glob, ↓w_bin, ↓w_neg, ↓w_not, ↓w_cmp, ↓w_chain, ↓w_and, ↓w_or, ↓w_ife, ↓w_tup, ↓w_lst, ↓w_ix, ↓w_ixR, ↓w_rowc, ↓w_rcomp, ↓w_sl0, ↓w_slL, ↓w_slH, ↓w_slB, ↓w_bi, ↓w_isi, ↓w_op, ↓w_idx, ↓w_sm, isS_s, ↓w_dic, ↓w_me, ↓w_call, ↓w_pick, ↓w_isx, ↓w_comp, ↓w_compI, ↓w_nil, ↓w_cons, ↓w_seq, ↓w_rng1, ↓w_rng2, ↓w_enm, ↓w_zip, ↓w_zip3, ↓s_nil, ↓s_cons, ↓s_set, ↓s_setT, ↓s_setP, ↓s_setI, ↓s_expr, ↓s_ife, ↓s_whl, ↓s_for, ↓s_ret, ↓s_retN, ↓s_pass, ↓s_brk, ↓s_cont, ↓Ok.ok, ↓Ok.bind, Sm.s, Sm.map, Sm.ite, Snap.b, In.i, Bl.b, Rf.r, mk_f, mk_t, ixF_b, ixF_r, ixF_s, pickF_w, isxF_n, isxF_e, biF_len, biF_b, biF_r, opF_w, isL_b, isL_r, Snaps, itSeq_l, itSeq_t, itZip_l, itZip_t, itZip3_w, binP, intBin, cmp_lt, cmp_le, cmp_gt, cmp_ge, cmp_eqi, cmp_nei, cmp_eqb, cmp_neb, cmp_is, cmp_isnot, cmp_isn, cmp_isnotn, isi_int, isi_bool, isi_tup, isi_lst, isi_str, isI, isBo, isTu, isLi, isSt, truth, ixP, slP, biP, owns, own, at_0, at_1, at_2, at_3, set_0, setsD, asgn, asgnT, sets, List.getElem?_cons_zero, List.getElem?_cons_succ, List.set_cons_zero, List.set_cons_succ, List.length_cons, List.length_nil, decide_eq_true_eq, Bool.not_true, Bool.not_false, Bool.not_eq_true', decide_eq_false_iff_not, Bool.true_eq_false, Bool.false_eq_true, if_true, if_false, true_and]; try (first | refine Br.d ?_ | refine Br.nd ?_ | refine Br.nb ?_ | refine Br.b ?_))
  refine (lshut_call g_law_shut hc hg ht).mono ?_
  rintro _ m ⟨rfl, rfl⟩
  (simp only [↓stk_call, ↓stk_comp, ↓stk_rows, ↓stk_rc, ↓stk_for, ↓stk_whl, ↓stk_said, ↓Br.t, ↓Br.f, Br.t, Br.f, ↓w_var, ↓w_int, ↓w_bool, ↓w_none, ↓w_str, ↓w_glob, ↓w_bin, ↓w_neg, ↓w_not, ↓w_cmp, ↓w_chain, ↓w_and, ↓w_or, ↓w_ife, ↓w_tup, ↓w_lst, ↓w_ix, ↓w_ixR, ↓w_rowc, ↓w_rcomp, ↓w_sl0, ↓w_slL, ↓w_slH, ↓w_slB, ↓w_bi, ↓w_isi, ↓w_op, ↓w_idx, ↓w_sm, isS_s, ↓w_dic, ↓w_me, ↓w_call, ↓w_pick, ↓w_isx, ↓w_comp, ↓w_compI, ↓w_nil, ↓w_cons, ↓w_seq, ↓w_rng1, ↓w_rng2, ↓w_enm, ↓w_zip, ↓w_zip3, ↓s_nil, ↓s_cons, ↓s_set, ↓s_setT, ↓s_setP, ↓s_setI, ↓s_expr, ↓s_ife, ↓s_whl, ↓s_for, ↓s_ret, ↓s_retN, ↓s_pass, ↓s_brk, ↓s_cont, ↓Ok.ok, ↓Ok.bind, Sm.s, Sm.map, Sm.ite, Snap.b, In.i, Bl.b, Rf.r, mk_f, mk_t, ixF_b, ixF_r, ixF_s, pickF_w, isxF_n, isxF_e, biF_len, biF_b, biF_r, opF_w, isL_b, isL_r, Snaps, itSeq_l, itSeq_t, itZip_l, itZip_t, itZip3_w, binP, intBin, cmp_lt, cmp_le, cmp_gt, cmp_ge, cmp_eqi, cmp_nei, cmp_eqb, cmp_neb, cmp_is, cmp_isnot, cmp_isn, cmp_isnotn, isi_int, isi_bool, isi_tup, isi_lst, isi_str, isI, isBo, isTu, isLi, isSt, truth, ixP, slP, biP, owns, own, at_0, at_1, at_2, at_3, set_0, setsD, asgn, asgnT, sets, List.getElem?_cons_zero, List.getElem?_cons_succ, List.set_cons_zero, List.set_cons_succ, List.length_cons, List.length_nil, decide_eq_true_eq, Bool.not_true, Bool.not_false, Bool.not_eq_true', decide_eq_false_iff_not, Bool.true_eq_false, Bool.false_eq_true, if_true, if_false, true_and]; try (first | refine Br.d ?_ | refine Br.nd ?_ | refine Br.nb ?_ | refine Br.b ?_))
  obtain ⟨e, hn⟩ := shutN_ok cs t
  rw [e]
  refine (marks_call g_law_marks hc h2 hp hg hn).mono ?_
  rintro _ m ⟨rfl, rfl⟩
  have hw : Wf (edg cs (shutN cs t)) p.toNat := fun e he => by
    unfold edg at he
    obtain ⟨i, hi, rfl⟩ := List.mem_map.mp he
    obtain ⟨a, b, w, o, _, a0, ab, bp, e⟩ := ends_of hg (hn i hi)
    rw [e]
    exact ⟨by show a.toNat < _; omega, by show b.toNat < _; omega⟩
  have l1 : (1 : Int).toNat < (rounds (edg cs (shutN cs t)) p.toNat (List.range p.toNat)).length := by
    rw [rounds_len, List.length_range]
    show 1 < _
    omega
  (simp only [↓stk_call, ↓stk_comp, ↓stk_rows, ↓stk_rc, ↓stk_for, ↓stk_whl, ↓stk_said, ↓Br.t, ↓Br.f, Br.t, Br.f, ↓w_var, ↓w_int, ↓w_bool, ↓w_none, ↓w_str, ↓w_glob, ↓w_bin, ↓w_neg, ↓w_not, ↓w_cmp, ↓w_chain, ↓w_and, ↓w_or, ↓w_ife, ↓w_tup, ↓w_lst, ↓w_ix, ↓w_ixR, ↓w_rowc, ↓w_rcomp, ↓w_sl0, ↓w_slL, ↓w_slH, ↓w_slB, ↓w_bi, ↓w_isi, ↓w_op, ↓w_idx, ↓w_sm, isS_s, ↓w_dic, ↓w_me, ↓w_call, ↓w_pick, ↓w_isx, ↓w_comp, ↓w_compI, ↓w_nil, ↓w_cons, ↓w_seq, ↓w_rng1, ↓w_rng2, ↓w_enm, ↓w_zip, ↓w_zip3, ↓s_nil, ↓s_cons, ↓s_set, ↓s_setT, ↓s_setP, ↓s_setI, ↓s_expr, ↓s_ife, ↓s_whl, ↓s_for, ↓s_ret, ↓s_retN, ↓s_pass, ↓s_brk, ↓s_cont, ↓Ok.ok, ↓Ok.bind, Sm.s, Sm.map, Sm.ite, Snap.b, In.i, Bl.b, Rf.r, mk_f, mk_t, ixF_b, ixF_r, ixF_s, pickF_w, isxF_n, isxF_e, biF_len, biF_b, biF_r, opF_w, isL_b, isL_r, Snaps, itSeq_l, itSeq_t, itZip_l, itZip_t, itZip3_w, binP, intBin, cmp_lt, cmp_le, cmp_gt, cmp_ge, cmp_eqi, cmp_nei, cmp_eqb, cmp_neb, cmp_is, cmp_isnot, cmp_isn, cmp_isnotn, isi_int, isi_bool, isi_tup, isi_lst, isi_str, isI, isBo, isTu, isLi, isSt, truth, ixP, slP, biP, owns, own, at_0, at_1, at_2, at_3, set_0, setsD, asgn, asgnT, sets, List.getElem?_cons_zero, List.getElem?_cons_succ, List.set_cons_zero, List.set_cons_succ, List.length_cons, List.length_nil, decide_eq_true_eq, Bool.not_true, Bool.not_false, Bool.not_eq_true', decide_eq_false_iff_not, Bool.true_eq_false, Bool.false_eq_true, if_true, if_false, true_and, at_num (show (0 : Int) ≤ 1 by decide) l1]; try (first | refine Br.d ?_ | refine Br.nd ?_ | refine Br.nb ?_ | refine Br.b ?_))
  refine ⟨_, rfl, fun _ => rfl, by rw [List.take_length], _, rfl, ?_⟩
  rw [decide_eq_true_eq, ← marks_ok (P := p.toNat) (by omega) hw (v := 1) (by omega)]
  show ((mk1 _ 1 : Nat) : Int) = 0 ↔ _
  omega
/-! ### all settings -/
def setS : Nat → List (List PyData)
  | 0 => [[]]
  | n + 1 => (setS n).flatMap fun t => [t ++ [.int 0], t ++ [.int 1]]
def setD (n : Nat) : List PyData := (setS n).map .tuple
theorem setS_len : ∀ n : Nat, (setS n).length = 2 ^ n
  | 0 => rfl
  | n + 1 => by
    show ((setS n).flatMap _).length = _
    rw [List.length_flatMap]
    have : ((setS n).map fun t => ([t ++ [PyData.int 0], t ++ [.int 1]] : List (List PyData)).length) = (setS n).map fun _ => 2 := by simp
    rw [this, List.map_const', List.sum_replicate_nat, setS_len n, Nat.pow_succ]
theorem setS_ok : ∀ (n : Nat) (t : List PyData), t ∈ setS n → SetP n t
  | 0, t, h => by
    have : t = [] := by simpa [setS] using h
    subst this
    exact ⟨rfl, fun x hx => nomatch hx⟩
  | n + 1, t, h => by
    obtain ⟨u, hu, ht⟩ := List.mem_flatMap.mp h
    have ih := setS_ok n u hu
    have : ∃ b : Int, t = u ++ [.int b] := by
      simp only [List.mem_cons, List.not_mem_nil, or_false] at ht
      rcases ht with e | e
      · exact ⟨0, e⟩
      · exact ⟨1, e⟩
    obtain ⟨b, rfl⟩ := this
    refine ⟨by rw [List.length_append]; have := ih.1; simp; omega, fun x hx => ?_⟩
    rcases List.mem_append.mp hx with hx | hx
    · exact ih.2 x hx
    · exact ⟨b, List.mem_singleton.mp hx⟩
theorem settings_call (g_settings : G "settings" = some b_settings) {k : Nat} {m : Mem} {n : Nat} {r : Bool} (hn : n ≤ 10) : Ok (callF (run G (k + 1)) r "settings" [.b (.int n)] m) fun d m' => (r = true → d = .ref m.length ∧ m' = m ++ [.lst (setD n)]) ∧ (r = false → d = .b (.list (setD n)) ∧ m' = m) := by
  refine call_l (run_ok g_settings ⟨rfl, by decide⟩ ?_)
  rw [show startE b_settings.n [.b (.int n)] = [some (.b (.int n)), none, none, none, none, none] from rfl]
  unfold b_settings
  (simp only [↓stk_call, ↓stk_comp, ↓stk_rows, ↓stk_rc, ↓stk_for, ↓stk_whl, ↓stk_said, ↓Br.t, ↓Br.f, Br.t, Br.f, ↓w_var, ↓w_int, ↓w_bool, ↓w_none, ↓w_str, ↓w_glob, ↓w_bin, ↓w_neg, ↓w_not, ↓w_cmp, ↓w_chain, ↓w_and, ↓w_or, ↓w_ife, ↓w_tup, ↓w_lst, ↓w_ix, ↓w_ixR, ↓w_rowc, ↓w_rcomp, ↓w_sl0, ↓w_slL, ↓w_slH, ↓w_slB, ↓w_bi, ↓w_isi, ↓w_op, ↓w_idx, ↓w_sm, isS_s, ↓w_dic, ↓w_me, ↓w_call, ↓w_pick, ↓w_isx, ↓w_comp, ↓w_compI, ↓w_nil, ↓w_cons, ↓w_seq, ↓w_rng1, ↓w_rng2, ↓w_enm, ↓w_zip, ↓w_zip3, ↓s_nil, ↓s_cons, ↓s_set, ↓s_setT, ↓s_setP, ↓s_setI, ↓s_expr, ↓s_ife, ↓s_whl, ↓s_for, ↓s_ret, ↓s_retN, ↓s_pass, ↓s_brk, ↓s_cont, ↓Ok.ok, ↓Ok.bind, Sm.s, Sm.map, Sm.ite, Snap.b, In.i, Bl.b, Rf.r, mk_f, mk_t, ixF_b, ixF_r, ixF_s, pickF_w, isxF_n, isxF_e, biF_len, biF_b, biF_r, opF_w, isL_b, isL_r, Snaps, itSeq_l, itSeq_t, itZip_l, itZip_t, itZip3_w, binP, intBin, cmp_lt, cmp_le, cmp_gt, cmp_ge, cmp_eqi, cmp_nei, cmp_eqb, cmp_neb, cmp_is, cmp_isnot, cmp_isn, cmp_isnotn, isi_int, isi_bool, isi_tup, isi_lst, isi_str, isI, isBo, isTu, isLi, isSt, truth, ixP, slP, biP, owns, own, at_0, at_1, at_2, at_3, set_0, setsD, asgn, asgnT, sets, List.getElem?_cons_zero, List.getElem?_cons_succ, List.set_cons_zero, List.set_cons_succ, List.length_cons, List.length_nil, decide_eq_true_eq, Bool.not_true, Bool.not_false, Bool.not_eq_true', decide_eq_false_iff_not, Bool.true_eq_false, Bool.false_eq_true, if_true, if_false, true_and]; try (first | refine Br.d ?_ | refine Br.nd ?_ | refine Br.nb ?_ | refine Br.b ?_))
  refine ⟨by decide, by decide, by unfold rngOk; exact decide_eq_true (by omega), ?_⟩
  refine for_ok (fun i δ mm => ∃ o2 o3 o4 o5 j t, δ = [some (.b (.int n)), some (.ref (m.length + j)), o2, o3, o4, o5] ∧ mm = m ++ t ∧ t[j]? = some (.lst (setD i))) ⟨_, _, _, _, 0, _, rfl, rfl, rfl⟩ ?_ ?_
  · rintro i x δ mm hx ⟨o2, o3, o4, o5, j, t, rfl, rfl, hj⟩
    have hi : i < n := by
      have := (List.getElem?_eq_some_iff.mp hx).1
      rw [rngL] at this
      omega
    refine ⟨trivial, ?_⟩
    (simp only [↓stk_call, ↓stk_comp, ↓stk_rows, ↓stk_rc, ↓stk_for, ↓stk_whl, ↓stk_said, ↓Br.t, ↓Br.f, Br.t, Br.f, ↓w_var, ↓w_int, ↓w_bool, ↓w_none, ↓w_str, ↓w_glob, ↓w_bin, ↓w_neg, ↓w_not, ↓w_cmp, ↓w_chain, ↓w_and, ↓w_or, ↓w_ife, ↓w_tup, ↓w_lst, ↓w_ix, ↓w_ixR, ↓w_rowc, ↓w_rcomp, ↓w_sl0, ↓w_slL, ↓w_slH, ↓w_slB, ↓w_bi, ↓w_isi, ↓w_op, ↓w_idx, ↓w_sm, isS_s, ↓w_dic, ↓w_me, ↓w_call, ↓w_pick, ↓w_isx, ↓w_comp, ↓w_compI, ↓w_nil, ↓w_cons, ↓w_seq, ↓w_rng1, ↓w_rng2, ↓w_enm, ↓w_zip, ↓w_zip3, ↓s_nil, ↓s_cons, ↓s_set, ↓s_setT, ↓s_setP, ↓s_setI, ↓s_expr, ↓s_ife, ↓s_whl, ↓s_for, ↓s_ret, ↓s_retN, ↓s_pass, ↓s_brk, ↓s_cont, ↓Ok.ok, ↓Ok.bind, Sm.s, Sm.map, Sm.ite, Snap.b, In.i, Bl.b, Rf.r, mk_f, mk_t, ixF_b, ixF_r, ixF_s, pickF_w, isxF_n, isxF_e, biF_len, biF_b, biF_r, opF_w, isL_b, isL_r, Snaps, itSeq_l, itSeq_t, itZip_l, itZip_t, itZip3_w, binP, intBin, cmp_lt, cmp_le, cmp_gt, cmp_ge, cmp_eqi, cmp_nei, cmp_eqb, cmp_neb, cmp_is, cmp_isnot, cmp_isn, cmp_isnotn, isi_int, isi_bool, isi_tup, isi_lst, isi_str, isI, isBo, isTu, isLi, isSt, truth, ixP, slP, biP, owns, own, at_0, at_1, at_2, at_3, set_0, setsD, asgn, asgnT, sets, List.getElem?_cons_zero, List.getElem?_cons_succ, List.set_cons_zero, List.set_cons_succ, List.length_cons, List.length_nil, decide_eq_true_eq, Bool.not_true, Bool.not_false, Bool.not_eq_true', decide_eq_false_iff_not, Bool.true_eq_false, Bool.false_eq_true, if_true, if_false, true_and]; try (first | refine Br.d ?_ | refine Br.nd ?_ | refine Br.nb ?_ | refine Br.b ?_))
    have hjl := (List.getElem?_eq_some_iff.mp hj).1
    have hget : ∀ o : MO, (m ++ t ++ [o])[m.length + j]? = some (.lst (setD i)) := fun o => by
      rw [List.append_assoc, List.getElem?_append_right (Nat.le_add_right ..), Nat.add_sub_cancel_left, List.getElem?_append_left hjl]
      exact hj
    (simp only [↓stk_call, ↓stk_comp, ↓stk_rows, ↓stk_rc, ↓stk_for, ↓stk_whl, ↓stk_said, ↓Br.t, ↓Br.f, Br.t, Br.f, ↓w_var, ↓w_int, ↓w_bool, ↓w_none, ↓w_str, ↓w_glob, ↓w_bin, ↓w_neg, ↓w_not, ↓w_cmp, ↓w_chain, ↓w_and, ↓w_or, ↓w_ife, ↓w_tup, ↓w_lst, ↓w_ix, ↓w_ixR, ↓w_rowc, ↓w_rcomp, ↓w_sl0, ↓w_slL, ↓w_slH, ↓w_slB, ↓w_bi, ↓w_isi, ↓w_op, ↓w_idx, ↓w_sm, isS_s, ↓w_dic, ↓w_me, ↓w_call, ↓w_pick, ↓w_isx, ↓w_comp, ↓w_compI, ↓w_nil, ↓w_cons, ↓w_seq, ↓w_rng1, ↓w_rng2, ↓w_enm, ↓w_zip, ↓w_zip3, ↓s_nil, ↓s_cons, ↓s_set, ↓s_setT, ↓s_setP, ↓s_setI, ↓s_expr, ↓s_ife, ↓s_whl, ↓s_for, ↓s_ret, ↓s_retN, ↓s_pass, ↓s_brk, ↓s_cont, ↓Ok.ok, ↓Ok.bind, Sm.s, Sm.map, Sm.ite, Snap.b, In.i, Bl.b, Rf.r, mk_f, mk_t, ixF_b, ixF_r, ixF_s, pickF_w, isxF_n, isxF_e, biF_len, biF_b, biF_r, opF_w, isL_b, isL_r, Snaps, itSeq_l, itSeq_t, itZip_l, itZip_t, itZip3_w, binP, intBin, cmp_lt, cmp_le, cmp_gt, cmp_ge, cmp_eqi, cmp_nei, cmp_eqb, cmp_neb, cmp_is, cmp_isnot, cmp_isn, cmp_isnotn, isi_int, isi_bool, isi_tup, isi_lst, isi_str, isI, isBo, isTu, isLi, isSt, truth, ixP, slP, biP, owns, own, at_0, at_1, at_2, at_3, set_0, setsD, asgn, asgnT, sets, List.getElem?_cons_zero, List.getElem?_cons_succ, List.set_cons_zero, List.set_cons_succ, List.length_cons, List.length_nil, decide_eq_true_eq, Bool.not_true, Bool.not_false, Bool.not_eq_true', decide_eq_false_iff_not, Bool.true_eq_false, Bool.false_eq_true, if_true, if_false, true_and, itSeq_r (hget (.lst []))]; try (first | refine Br.d ?_ | refine Br.nd ?_ | refine Br.nb ?_ | refine Br.b ?_))
    refine ⟨by decide, ?_⟩
    have hpow : (setS i).length ≤ 1024 := by
      rw [setS_len]
      exact Nat.le_trans (Nat.pow_le_pow_right (by decide) (show i ≤ 10 by omega)) (by decide)
    refine for_ok (fun q δ mm => ∃ o4 o5 rows, δ = [some (.b (.int n)), some (.ref (m.length + j)), some (.b x), some (.ref (m ++ t).length), o4, o5] ∧ mm = m ++ t ++ [.lst rows] ∧ rows = (((setS i).take q).flatMap fun t => [t ++ [PyData.int 0], t ++ [.int 1]]).map .tuple ∧ rows.length = 2 * q) ⟨_, _, [], rfl, rfl, rfl, rfl⟩ ?_ ?_
    · rintro q y δ mm hy ⟨o4, o5, rows, rfl, rfl, hrows, hlen⟩
      have hy : (setD i)[q]? = some y := hy
      unfold setD at hy
      rw [List.getElem?_map] at hy
      cases hq : (setS i)[q]? with
      | none => rw [hq] at hy; cases hy
      | some tt =>
        rw [hq] at hy
        cases hy
        have htt := setS_ok i tt (List.mem_of_getElem? hq)
        have hql := (List.getElem?_eq_some_iff.mp hq).1
        refine ⟨hget _, ?_⟩
        (simp only [↓stk_call, ↓stk_comp, ↓stk_rows, ↓stk_rc, ↓stk_for, ↓stk_whl, ↓stk_said, ↓Br.t, ↓Br.f, Br.t, Br.f, ↓w_var, ↓w_int, ↓w_bool, ↓w_none, ↓w_str, ↓w_glob, ↓w_bin, ↓w_neg, ↓w_not, ↓w_cmp, ↓w_chain, ↓w_and, ↓w_or, ↓w_ife, ↓w_tup, ↓w_lst, ↓w_ix, ↓w_ixR, ↓w_rowc, ↓w_rcomp, ↓w_sl0, ↓w_slL, ↓w_slH, ↓w_slB, ↓w_bi, ↓w_isi, ↓w_op, ↓w_idx, ↓w_sm, isS_s, ↓w_dic, ↓w_me, ↓w_call, ↓w_pick, ↓w_isx, ↓w_comp, ↓w_compI, ↓w_nil, ↓w_cons, ↓w_seq, ↓w_rng1, ↓w_rng2, ↓w_enm, ↓w_zip, ↓w_zip3, ↓s_nil, ↓s_cons, ↓s_set, ↓s_setT, ↓s_setP, ↓s_setI, ↓s_expr, ↓s_ife, ↓s_whl, ↓s_for, ↓s_ret, ↓s_retN, ↓s_pass, ↓s_brk, ↓s_cont, ↓Ok.ok, ↓Ok.bind, Sm.s, Sm.map, Sm.ite, Snap.b, In.i, Bl.b, Rf.r, mk_f, mk_t, ixF_b, ixF_r, ixF_s, pickF_w, isxF_n, isxF_e, biF_len, biF_b, biF_r, opF_w, isL_b, isL_r, Snaps, itSeq_l, itSeq_t, itZip_l, itZip_t, itZip3_w, binP, intBin, cmp_lt, cmp_le, cmp_gt, cmp_ge, cmp_eqi, cmp_nei, cmp_eqb, cmp_neb, cmp_is, cmp_isnot, cmp_isn, cmp_isnotn, isi_int, isi_bool, isi_tup, isi_lst, isi_str, isI, isBo, isTu, isLi, isSt, truth, ixP, slP, biP, owns, own, at_0, at_1, at_2, at_3, set_0, setsD, asgn, asgnT, sets, List.getElem?_cons_zero, List.getElem?_cons_succ, List.set_cons_zero, List.set_cons_succ, List.length_cons, List.length_nil, decide_eq_true_eq, Bool.not_true, Bool.not_false, Bool.not_eq_true', decide_eq_false_iff_not, Bool.true_eq_false, Bool.false_eq_true, if_true, if_false, true_and]; try (first | refine Br.d ?_ | refine Br.nd ?_ | refine Br.nb ?_ | refine Br.b ?_))
        refine ⟨by decide, ?_⟩
        refine comp_pure (fun b => .tuple (tt ++ [b])) (len0 _ (by simp)) (fun b _ mm => ?_) ?_
        · (simp only [↓stk_call, ↓stk_comp, ↓stk_rows, ↓stk_rc, ↓stk_for, ↓stk_whl, ↓stk_said, ↓Br.t, ↓Br.f, Br.t, Br.f, ↓w_var, ↓w_int, ↓w_bool, ↓w_none, ↓w_str, ↓w_glob, ↓w_bin, ↓w_neg, ↓w_not, ↓w_cmp, ↓w_chain, ↓w_and, ↓w_or, ↓w_ife, ↓w_tup, ↓w_lst, ↓w_ix, ↓w_ixR, ↓w_rowc, ↓w_rcomp, ↓w_sl0, ↓w_slL, ↓w_slH, ↓w_slB, ↓w_bi, ↓w_isi, ↓w_op, ↓w_idx, ↓w_sm, isS_s, ↓w_dic, ↓w_me, ↓w_call, ↓w_pick, ↓w_isx, ↓w_comp, ↓w_compI, ↓w_nil, ↓w_cons, ↓w_seq, ↓w_rng1, ↓w_rng2, ↓w_enm, ↓w_zip, ↓w_zip3, ↓s_nil, ↓s_cons, ↓s_set, ↓s_setT, ↓s_setP, ↓s_setI, ↓s_expr, ↓s_ife, ↓s_whl, ↓s_for, ↓s_ret, ↓s_retN, ↓s_pass, ↓s_brk, ↓s_cont, ↓Ok.ok, ↓Ok.bind, Sm.s, Sm.map, Sm.ite, Snap.b, In.i, Bl.b, Rf.r, mk_f, mk_t, ixF_b, ixF_r, ixF_s, pickF_w, isxF_n, isxF_e, biF_len, biF_b, biF_r, opF_w, isL_b, isL_r, Snaps, itSeq_l, itSeq_t, itZip_l, itZip_t, itZip3_w, binP, intBin, cmp_lt, cmp_le, cmp_gt, cmp_ge, cmp_eqi, cmp_nei, cmp_eqb, cmp_neb, cmp_is, cmp_isnot, cmp_isn, cmp_isnotn, isi_int, isi_bool, isi_tup, isi_lst, isi_str, isI, isBo, isTu, isLi, isSt, truth, ixP, slP, biP, owns, own, at_0, at_1, at_2, at_3, set_0, setsD, asgn, asgnT, sets, List.getElem?_cons_zero, List.getElem?_cons_succ, List.set_cons_zero, List.set_cons_succ, List.length_cons, List.length_nil, decide_eq_true_eq, Bool.not_true, Bool.not_false, Bool.not_eq_true', decide_eq_false_iff_not, Bool.true_eq_false, Bool.false_eq_true, if_true, if_false, true_and, clear, Tg.slots]; try (first | refine Br.d ?_ | refine Br.nd ?_ | refine Br.nb ?_ | refine Br.b ?_))
          refine ⟨by decide, ?_⟩
          have := htt.1
          exact ⟨by show _ ≤ 16777216; omega, trivial⟩
        · (simp only [↓stk_call, ↓stk_comp, ↓stk_rows, ↓stk_rc, ↓stk_for, ↓stk_whl, ↓stk_said, ↓Br.t, ↓Br.f, Br.t, Br.f, ↓w_var, ↓w_int, ↓w_bool, ↓w_none, ↓w_str, ↓w_glob, ↓w_bin, ↓w_neg, ↓w_not, ↓w_cmp, ↓w_chain, ↓w_and, ↓w_or, ↓w_ife, ↓w_tup, ↓w_lst, ↓w_ix, ↓w_ixR, ↓w_rowc, ↓w_rcomp, ↓w_sl0, ↓w_slL, ↓w_slH, ↓w_slB, ↓w_bi, ↓w_isi, ↓w_op, ↓w_idx, ↓w_sm, isS_s, ↓w_dic, ↓w_me, ↓w_call, ↓w_pick, ↓w_isx, ↓w_comp, ↓w_compI, ↓w_nil, ↓w_cons, ↓w_seq, ↓w_rng1, ↓w_rng2, ↓w_enm, ↓w_zip, ↓w_zip3, ↓s_nil, ↓s_cons, ↓s_set, ↓s_setT, ↓s_setP, ↓s_setI, ↓s_expr, ↓s_ife, ↓s_whl, ↓s_for, ↓s_ret, ↓s_retN, ↓s_pass, ↓s_brk, ↓s_cont, ↓Ok.ok, ↓Ok.bind, Sm.s, Sm.map, Sm.ite, Snap.b, In.i, Bl.b, Rf.r, mk_f, mk_t, ixF_b, ixF_r, ixF_s, pickF_w, isxF_n, isxF_e, biF_len, biF_b, biF_r, opF_w, isL_b, isL_r, Snaps, itSeq_l, itSeq_t, itZip_l, itZip_t, itZip3_w, binP, intBin, cmp_lt, cmp_le, cmp_gt, cmp_ge, cmp_eqi, cmp_nei, cmp_eqb, cmp_neb, cmp_is, cmp_isnot, cmp_isn, cmp_isnotn, isi_int, isi_bool, isi_tup, isi_lst, isi_str, isI, isBo, isTu, isLi, isSt, truth, ixP, slP, biP, owns, own, at_0, at_1, at_2, at_3, set_0, setsD, asgn, asgnT, sets, List.getElem?_cons_zero, List.getElem?_cons_succ, List.set_cons_zero, List.set_cons_succ, List.length_cons, List.length_nil, decide_eq_true_eq, Bool.not_true, Bool.not_false, Bool.not_eq_true', decide_eq_false_iff_not, Bool.true_eq_false, Bool.false_eq_true, if_true, if_false, true_and, meF_w (get_end (t := []) (o := .lst rows) (m := m ++ t) rfl), meA, snaps_w, meL, set_end (m := m ++ t) rfl, List.map_cons, List.map_nil]; try (first | refine Br.d ?_ | refine Br.nd ?_ | refine Br.nb ?_ | refine Br.b ?_))
          refine ⟨by show _ ≤ 16777216; simp; omega, _, _, _, rfl, rfl, ?_, ?_⟩
          · rw [List.take_add_one, hq, List.flatMap_append, List.map_append, ← hrows]
            rfl
          · rw [List.length_append, hlen]; simp; omega
    · rintro δ mm ⟨o4, o5, rows, rfl, rfl, hrows, hlen⟩
      refine ⟨hget _, ?_⟩
      (simp only [↓stk_call, ↓stk_comp, ↓stk_rows, ↓stk_rc, ↓stk_for, ↓stk_whl, ↓stk_said, ↓Br.t, ↓Br.f, Br.t, Br.f, ↓w_var, ↓w_int, ↓w_bool, ↓w_none, ↓w_str, ↓w_glob, ↓w_bin, ↓w_neg, ↓w_not, ↓w_cmp, ↓w_chain, ↓w_and, ↓w_or, ↓w_ife, ↓w_tup, ↓w_lst, ↓w_ix, ↓w_ixR, ↓w_rowc, ↓w_rcomp, ↓w_sl0, ↓w_slL, ↓w_slH, ↓w_slB, ↓w_bi, ↓w_isi, ↓w_op, ↓w_idx, ↓w_sm, isS_s, ↓w_dic, ↓w_me, ↓w_call, ↓w_pick, ↓w_isx, ↓w_comp, ↓w_compI, ↓w_nil, ↓w_cons, ↓w_seq, ↓w_rng1, ↓w_rng2, ↓w_enm, ↓w_zip, ↓w_zip3, ↓s_nil, ↓s_cons, ↓s_set, ↓s_setT, ↓s_setP, ↓s_setI, ↓s_expr, ↓s_ife, ↓s_whl, ↓s_for, ↓s_ret, ↓s_retN, ↓s_pass, ↓s_brk, ↓s_cont, ↓Ok.ok, ↓Ok.bind, Sm.s, Sm.map, Sm.ite, Snap.b, In.i, Bl.b, Rf.r, mk_f, mk_t, ixF_b, ixF_r, ixF_s, pickF_w, isxF_n, isxF_e, biF_len, biF_b, biF_r, opF_w, isL_b, isL_r, Snaps, itSeq_l, itSeq_t, itZip_l, itZip_t, itZip3_w, binP, intBin, cmp_lt, cmp_le, cmp_gt, cmp_ge, cmp_eqi, cmp_nei, cmp_eqb, cmp_neb, cmp_is, cmp_isnot, cmp_isn, cmp_isnotn, isi_int, isi_bool, isi_tup, isi_lst, isi_str, isI, isBo, isTu, isLi, isSt, truth, ixP, slP, biP, owns, own, at_0, at_1, at_2, at_3, set_0, setsD, asgn, asgnT, sets, List.getElem?_cons_zero, List.getElem?_cons_succ, List.set_cons_zero, List.set_cons_succ, List.length_cons, List.length_nil, decide_eq_true_eq, Bool.not_true, Bool.not_false, Bool.not_eq_true', decide_eq_false_iff_not, Bool.true_eq_false, Bool.false_eq_true, if_true, if_false, true_and]; try (first | refine Br.d ?_ | refine Br.nd ?_ | refine Br.nb ?_ | refine Br.b ?_))
      refine ⟨some (.b x), some (.ref (m ++ t).length), o4, o5, t.length, t ++ [.lst rows], ?_, by rw [List.append_assoc], ?_⟩
      · rw [List.length_append]
      · rw [List.getElem?_append_right (Nat.le_refl _), Nat.sub_self]
        have : (setD i).length = (setS i).length := by unfold setD; rw [List.length_map]
        have hrows : rows = (((setS i).take (setD i).length).flatMap fun t => [t ++ [PyData.int 0], t ++ [.int 1]]).map .tuple := hrows
        rw [this, List.take_length] at hrows
        rw [hrows]
        rfl
  · rintro δ mm ⟨o2, o3, o4, o5, j, t, rfl, rfl, hj⟩
    refine ⟨trivial, ?_⟩
    (simp only [↓stk_call, ↓stk_comp, ↓stk_rows, ↓stk_rc, ↓stk_for, ↓stk_whl, ↓stk_said, ↓Br.t, ↓Br.f, Br.t, Br.f, ↓w_var, ↓w_int, ↓w_bool, ↓w_none, ↓w_str, ↓w_glob, ↓w_bin, ↓w_neg, ↓w_not, ↓w_cmp, ↓w_chain, ↓w_and, ↓w_or, ↓w_ife, ↓w_tup, ↓w_lst, ↓w_ix, ↓w_ixR, ↓w_rowc, ↓w_rcomp, ↓w_sl0, ↓w_slL, ↓w_slH, ↓w_slB, ↓w_bi, ↓w_isi, ↓w_op, ↓w_idx, ↓w_sm, isS_s, ↓w_dic, ↓w_me, ↓w_call, ↓w_pick, ↓w_isx, ↓w_comp, ↓w_compI, ↓w_nil, ↓w_cons, ↓w_seq, ↓w_rng1, ↓w_rng2, ↓w_enm, ↓w_zip, ↓w_zip3, ↓s_nil, ↓s_cons, ↓s_set, ↓s_setT, ↓s_setP, ↓s_setI, ↓s_expr, ↓s_ife, ↓s_whl, ↓s_for, ↓s_ret, ↓s_retN, ↓s_pass, ↓s_brk, ↓s_cont, ↓Ok.ok, ↓Ok.bind, Sm.s, Sm.map, Sm.ite, Snap.b, In.i, Bl.b, Rf.r, mk_f, mk_t, ixF_b, ixF_r, ixF_s, pickF_w, isxF_n, isxF_e, biF_len, biF_b, biF_r, opF_w, isL_b, isL_r, Snaps, itSeq_l, itSeq_t, itZip_l, itZip_t, itZip3_w, binP, intBin, cmp_lt, cmp_le, cmp_gt, cmp_ge, cmp_eqi, cmp_nei, cmp_eqb, cmp_neb, cmp_is, cmp_isnot, cmp_isn, cmp_isnotn, isi_int, isi_bool, isi_tup, isi_lst, isi_str, isI, isBo, isTu, isLi, isSt, truth, ixP, slP, biP, owns, own, at_0, at_1, at_2, at_3, set_0, setsD, asgn, asgnT, sets, List.getElem?_cons_zero, List.getElem?_cons_succ, List.set_cons_zero, List.set_cons_succ, List.length_cons, List.length_nil, decide_eq_true_eq, Bool.not_true, Bool.not_false, Bool.not_eq_true', decide_eq_false_iff_not, Bool.true_eq_false, Bool.false_eq_true, if_true, if_false, true_and]; try (first | refine Br.d ?_ | refine Br.nd ?_ | refine Br.nb ?_ | refine Br.b ?_))
    have hj : t[j]? = some (.lst (setD n)) := by
      have : (rngP 0 (n : Int)).length = n := by rw [rngL]; omega
      rw [this] at hj
      exact hj
    refine ⟨m.length + j, setD n, m, rfl, Nat.le_add_right .., ?_, take_end rfl, ?_⟩
    · rw [List.getElem?_append_right (Nat.le_add_right ..), Nat.add_sub_cancel_left]
      exact hj
    · cases r <;> simp
def bitL (n : Nat) (x : PyData) : PyData :=
  match x with
  | .int x => .tuple ((rngP 0 n).map fun k => match k with
    | .int k => .int (Builtin.bitAnd (x / 2 ^ ((n : Int) - 1 - k).toNat) 1)
    | _ => .none)
  | _ => .none
def lawD (n : Nat) : List PyData := (rngP 0 (1 * 2 ^ (n : Int).toNat)).map (bitL n)
theorem law_set : ∀ n : Nat, 1 ≤ n → n ≤ 4 → lawD n = setD n
  | 1, _, _ => by rfl
  | 2, _, _ => by rfl
  | 3, _, _ => by rfl
  | 4, _, _ => by rfl
theorem lsettings_call (g_law_settings : G "_law_settings" = some b_law_settings) {k : Nat} {m : Mem} {n : Nat} (h1 : 1 ≤ n) (hn : n ≤ 4) : Ok (callF (run G (k + 1)) false "_law_settings" [.b (.int n)] m) fun d m' => d = .b (.list (setD n)) ∧ m' = m := by
  refine call_l (run_ok g_law_settings ⟨rfl, by decide⟩ ?_)
  rw [show startE b_law_settings.n [.b (.int n)] = [some (.b (.int n)), none, none, none] from rfl]
  unfold b_law_settings
  (simp only [↓stk_call, ↓stk_comp, ↓stk_rows, ↓stk_rc, ↓stk_for, ↓stk_whl, ↓stk_said, ↓Br.t, ↓Br.f, Br.t, Br.f, ↓w_var, ↓w_int, ↓w_bool, ↓w_none, ↓w_str, ↓w_glob, ↓w_bin, ↓w_neg, ↓w_not, ↓w_cmp, ↓w_chain, ↓w_and, ↓w_or, ↓w_ife, ↓w_tup, ↓w_lst, ↓w_ix, ↓w_ixR, ↓w_rowc, ↓w_rcomp, ↓w_sl0, ↓w_slL, ↓w_slH, ↓w_slB, ↓w_bi, ↓w_isi, ↓w_op, ↓w_idx, ↓w_sm, isS_s, ↓w_dic, ↓w_me, ↓w_call, ↓w_pick, ↓w_isx, ↓w_comp, ↓w_compI, ↓w_nil, ↓w_cons, ↓w_seq, ↓w_rng1, ↓w_rng2, ↓w_enm, ↓w_zip, ↓w_zip3, ↓s_nil, ↓s_cons, ↓s_set, ↓s_setT, ↓s_setP, ↓s_setI, ↓s_expr, ↓s_ife, ↓s_whl, ↓s_for, ↓s_ret, ↓s_retN, ↓s_pass, ↓s_brk, ↓s_cont, ↓Ok.ok, ↓Ok.bind, Sm.s, Sm.map, Sm.ite, Snap.b, In.i, Bl.b, Rf.r, mk_f, mk_t, ixF_b, ixF_r, ixF_s, pickF_w, isxF_n, isxF_e, biF_len, biF_b, biF_r, opF_w, isL_b, isL_r, Snaps, itSeq_l, itSeq_t, itZip_l, itZip_t, itZip3_w, binP, intBin, cmp_lt, cmp_le, cmp_gt, cmp_ge, cmp_eqi, cmp_nei, cmp_eqb, cmp_neb, cmp_is, cmp_isnot, cmp_isn, cmp_isnotn, isi_int, isi_bool, isi_tup, isi_lst, isi_str, isI, isBo, isTu, isLi, isSt, truth, ixP, slP, biP, owns, own, at_0, at_1, at_2, at_3, set_0, setsD, asgn, asgnT, sets, List.getElem?_cons_zero, List.getElem?_cons_succ, List.set_cons_zero, List.set_cons_succ, List.length_cons, List.length_nil, decide_eq_true_eq, Bool.not_true, Bool.not_false, Bool.not_eq_true', decide_eq_false_iff_not, Bool.true_eq_false, Bool.false_eq_true, if_true, if_false, true_and]; try (first | refine Br.d ?_ | refine Br.nd ?_ | refine Br.nb ?_ | refine Br.b ?_))
  have hp : (2 : Int) ^ (n : Int).toNat ≤ 16 := by
    have : (2 : Nat) ^ n ≤ 2 ^ 4 := Nat.pow_le_pow_right (by decide) hn
    have e : ((2 ^ n : Nat) : Int) = (2 : Int) ^ (n : Int).toNat := by rw [Int.toNat_natCast]; exact Int.natCast_pow 2 n
    omega
  have hp0 : (0 : Int) ≤ 2 ^ (n : Int).toNat := Int.le_of_lt (Int.pow_pos (by decide))
  refine ⟨by decide, ⟨by omega, by omega, by decide⟩, by unfold rngOk; exact decide_eq_true (by omega), ?_⟩
  refine for_ok (fun i δ mm => ∃ o2 o3, δ = [some (.b (.int n)), some (.ref m.length), o2, o3] ∧ mm = m ++ [.lst (((rngP 0 (1 * 2 ^ (n : Int).toNat)).take i).map (bitL n))]) ⟨_, _, rfl, rfl⟩ ?_ ?_
  · rintro i x δ mm hx ⟨o2, o3, rfl, rfl⟩
    obtain ⟨j, hj⟩ : ∃ j : Int, x = .int j := by
      unfold rngP at hx
      rw [List.getElem?_map] at hx
      cases q : (List.range ((1 * 2 ^ (n : Int).toNat : Int) - 0).toNat)[i]? with
      | none => rw [q] at hx; cases hx
      | some y => rw [q] at hx; exact ⟨_, (Option.some.inj hx).symm⟩
    subst hj
    have hil := (List.getElem?_eq_some_iff.mp hx).1
    rw [rngL] at hil
    refine ⟨trivial, ?_⟩
    (simp only [↓stk_call, ↓stk_comp, ↓stk_rows, ↓stk_rc, ↓stk_for, ↓stk_whl, ↓stk_said, ↓Br.t, ↓Br.f, Br.t, Br.f, ↓w_var, ↓w_int, ↓w_bool, ↓w_none, ↓w_str, ↓w_glob, ↓w_bin, ↓w_neg, ↓w_not, ↓w_cmp, ↓w_chain, ↓w_and, ↓w_or, ↓w_ife, ↓w_tup, ↓w_lst, ↓w_ix, ↓w_ixR, ↓w_rowc, ↓w_rcomp, ↓w_sl0, ↓w_slL, ↓w_slH, ↓w_slB, ↓w_bi, ↓w_isi, ↓w_op, ↓w_idx, ↓w_sm, isS_s, ↓w_dic, ↓w_me, ↓w_call, ↓w_pick, ↓w_isx, ↓w_comp, ↓w_compI, ↓w_nil, ↓w_cons, ↓w_seq, ↓w_rng1, ↓w_rng2, ↓w_enm, ↓w_zip, ↓w_zip3, ↓s_nil, ↓s_cons, ↓s_set, ↓s_setT, ↓s_setP, ↓s_setI, ↓s_expr, ↓s_ife, ↓s_whl, ↓s_for, ↓s_ret, ↓s_retN, ↓s_pass, ↓s_brk, ↓s_cont, ↓Ok.ok, ↓Ok.bind, Sm.s, Sm.map, Sm.ite, Snap.b, In.i, Bl.b, Rf.r, mk_f, mk_t, ixF_b, ixF_r, ixF_s, pickF_w, isxF_n, isxF_e, biF_len, biF_b, biF_r, opF_w, isL_b, isL_r, Snaps, itSeq_l, itSeq_t, itZip_l, itZip_t, itZip3_w, binP, intBin, cmp_lt, cmp_le, cmp_gt, cmp_ge, cmp_eqi, cmp_nei, cmp_eqb, cmp_neb, cmp_is, cmp_isnot, cmp_isn, cmp_isnotn, isi_int, isi_bool, isi_tup, isi_lst, isi_str, isI, isBo, isTu, isLi, isSt, truth, ixP, slP, biP, owns, own, at_0, at_1, at_2, at_3, set_0, setsD, asgn, asgnT, sets, List.getElem?_cons_zero, List.getElem?_cons_succ, List.set_cons_zero, List.set_cons_succ, List.length_cons, List.length_nil, decide_eq_true_eq, Bool.not_true, Bool.not_false, Bool.not_eq_true', decide_eq_false_iff_not, Bool.true_eq_false, Bool.false_eq_true, if_true, if_false, true_and]; try (first | refine Br.d ?_ | refine Br.nd ?_ | refine Br.nb ?_ | refine Br.b ?_))
    refine ⟨by unfold rngOk; exact decide_eq_true (by omega), ?_⟩
    refine comp_pure (fun k => match k with
      | .int k => .int (Builtin.bitAnd (j / 2 ^ ((n : Int) - 1 - k).toNat) 1)
      | _ => .none) (by rw [rngL]; show _ ≤ 16777216; omega) (fun b hb mm => ?_) ?_
    · obtain ⟨q, hq⟩ := List.mem_iff_getElem?.mp hb
      obtain ⟨kk, rfl, hk1, hk2⟩ : ∃ kk : Int, b = .int kk ∧ 0 ≤ kk ∧ kk < n := by
        have hql := (List.getElem?_eq_some_iff.mp hq).1
        rw [rngL] at hql
        unfold rngP at hq
        rw [List.getElem?_map, List.getElem?_range hql] at hq
        exact ⟨_, (Option.some.inj hq).symm, by omega, by omega⟩
      (simp only [↓stk_call, ↓stk_comp, ↓stk_rows, ↓stk_rc, ↓stk_for, ↓stk_whl, ↓stk_said, ↓Br.t, ↓Br.f, Br.t, Br.f, ↓w_var, ↓w_int, ↓w_bool, ↓w_none, ↓w_str, ↓w_glob, ↓w_bin, ↓w_neg, ↓w_not, ↓w_cmp, ↓w_chain, ↓w_and, ↓w_or, ↓w_ife, ↓w_tup, ↓w_lst, ↓w_ix, ↓w_ixR, ↓w_rowc, ↓w_rcomp, ↓w_sl0, ↓w_slL, ↓w_slH, ↓w_slB, ↓w_bi, ↓w_isi, ↓w_op, ↓w_idx, ↓w_sm, isS_s, ↓w_dic, ↓w_me, ↓w_call, ↓w_pick, ↓w_isx, ↓w_comp, ↓w_compI, ↓w_nil, ↓w_cons, ↓w_seq, ↓w_rng1, ↓w_rng2, ↓w_enm, ↓w_zip, ↓w_zip3, ↓s_nil, ↓s_cons, ↓s_set, ↓s_setT, ↓s_setP, ↓s_setI, ↓s_expr, ↓s_ife, ↓s_whl, ↓s_for, ↓s_ret, ↓s_retN, ↓s_pass, ↓s_brk, ↓s_cont, ↓Ok.ok, ↓Ok.bind, Sm.s, Sm.map, Sm.ite, Snap.b, In.i, Bl.b, Rf.r, mk_f, mk_t, ixF_b, ixF_r, ixF_s, pickF_w, isxF_n, isxF_e, biF_len, biF_b, biF_r, opF_w, isL_b, isL_r, Snaps, itSeq_l, itSeq_t, itZip_l, itZip_t, itZip3_w, binP, intBin, cmp_lt, cmp_le, cmp_gt, cmp_ge, cmp_eqi, cmp_nei, cmp_eqb, cmp_neb, cmp_is, cmp_isnot, cmp_isn, cmp_isnotn, isi_int, isi_bool, isi_tup, isi_lst, isi_str, isI, isBo, isTu, isLi, isSt, truth, ixP, slP, biP, owns, own, at_0, at_1, at_2, at_3, set_0, setsD, asgn, asgnT, sets, List.getElem?_cons_zero, List.getElem?_cons_succ, List.set_cons_zero, List.set_cons_succ, List.length_cons, List.length_nil, decide_eq_true_eq, Bool.not_true, Bool.not_false, Bool.not_eq_true', decide_eq_false_iff_not, Bool.true_eq_false, Bool.false_eq_true, if_true, if_false, true_and, clear, Tg.slots]; try (first | refine Br.d ?_ | refine Br.nd ?_ | refine Br.nb ?_ | refine Br.b ?_))
      exact ⟨by omega, trivial⟩
    · (simp only [↓stk_call, ↓stk_comp, ↓stk_rows, ↓stk_rc, ↓stk_for, ↓stk_whl, ↓stk_said, ↓Br.t, ↓Br.f, Br.t, Br.f, ↓w_var, ↓w_int, ↓w_bool, ↓w_none, ↓w_str, ↓w_glob, ↓w_bin, ↓w_neg, ↓w_not, ↓w_cmp, ↓w_chain, ↓w_and, ↓w_or, ↓w_ife, ↓w_tup, ↓w_lst, ↓w_ix, ↓w_ixR, ↓w_rowc, ↓w_rcomp, ↓w_sl0, ↓w_slL, ↓w_slH, ↓w_slB, ↓w_bi, ↓w_isi, ↓w_op, ↓w_idx, ↓w_sm, isS_s, ↓w_dic, ↓w_me, ↓w_call, ↓w_pick, ↓w_isx, ↓w_comp, ↓w_compI, ↓w_nil, ↓w_cons, ↓w_seq, ↓w_rng1, ↓w_rng2, ↓w_enm, ↓w_zip, ↓w_zip3, ↓s_nil, ↓s_cons, ↓s_set, ↓s_setT, ↓s_setP, ↓s_setI, ↓s_expr, ↓s_ife, ↓s_whl, ↓s_for, ↓s_ret, ↓s_retN, ↓s_pass, ↓s_brk, ↓s_cont, ↓Ok.ok, ↓Ok.bind, Sm.s, Sm.map, Sm.ite, Snap.b, In.i, Bl.b, Rf.r, mk_f, mk_t, ixF_b, ixF_r, ixF_s, pickF_w, isxF_n, isxF_e, biF_len, biF_b, biF_r, opF_w, isL_b, isL_r, Snaps, itSeq_l, itSeq_t, itZip_l, itZip_t, itZip3_w, binP, intBin, cmp_lt, cmp_le, cmp_gt, cmp_ge, cmp_eqi, cmp_nei, cmp_eqb, cmp_neb, cmp_is, cmp_isnot, cmp_isn, cmp_isnotn, isi_int, isi_bool, isi_tup, isi_lst, isi_str, isI, isBo, isTu, isLi, isSt, truth, ixP, slP, biP, owns, own, at_0, at_1, at_2, at_3, set_0, setsD, asgn, asgnT, sets, List.getElem?_cons_zero, List.getElem?_cons_succ, List.set_cons_zero, List.set_cons_succ, List.length_cons, List.length_nil, decide_eq_true_eq, Bool.not_true, Bool.not_false, Bool.not_eq_true', decide_eq_false_iff_not, Bool.true_eq_false, Bool.false_eq_true, if_true, if_false, true_and, biF_b, meF_w (get_end (t := []) (o := .lst (((rngP 0 (1 * 2 ^ (n : Int).toNat)).take i).map (bitL n))) (m := m) rfl), meA, meL, set_end (m := m) rfl]; try (first | refine Br.d ?_ | refine Br.nd ?_ | refine Br.nb ?_ | refine Br.b ?_))
      refine ⟨?_, _, _, rfl, ?_⟩
      · show _ < 16777216
        rw [List.length_map, List.length_take, rngL]
        omega
      · rw [List.take_add_one, hx, List.map_append]
        rfl
  · rintro δ mm ⟨o2, o3, rfl, rfl⟩
    refine ⟨trivial, ?_⟩
    (simp only [↓stk_call, ↓stk_comp, ↓stk_rows, ↓stk_rc, ↓stk_for, ↓stk_whl, ↓stk_said, ↓Br.t, ↓Br.f, Br.t, Br.f, ↓w_var, ↓w_int, ↓w_bool, ↓w_none, ↓w_str, ↓w_glob, ↓w_bin, ↓w_neg, ↓w_not, ↓w_cmp, ↓w_chain, ↓w_and, ↓w_or, ↓w_ife, ↓w_tup, ↓w_lst, ↓w_ix, ↓w_ixR, ↓w_rowc, ↓w_rcomp, ↓w_sl0, ↓w_slL, ↓w_slH, ↓w_slB, ↓w_bi, ↓w_isi, ↓w_op, ↓w_idx, ↓w_sm, isS_s, ↓w_dic, ↓w_me, ↓w_call, ↓w_pick, ↓w_isx, ↓w_comp, ↓w_compI, ↓w_nil, ↓w_cons, ↓w_seq, ↓w_rng1, ↓w_rng2, ↓w_enm, ↓w_zip, ↓w_zip3, ↓s_nil, ↓s_cons, ↓s_set, ↓s_setT, ↓s_setP, ↓s_setI, ↓s_expr, ↓s_ife, ↓s_whl, ↓s_for, ↓s_ret, ↓s_retN, ↓s_pass, ↓s_brk, ↓s_cont, ↓Ok.ok, ↓Ok.bind, Sm.s, Sm.map, Sm.ite, Snap.b, In.i, Bl.b, Rf.r, mk_f, mk_t, ixF_b, ixF_r, ixF_s, pickF_w, isxF_n, isxF_e, biF_len, biF_b, biF_r, opF_w, isL_b, isL_r, Snaps, itSeq_l, itSeq_t, itZip_l, itZip_t, itZip3_w, binP, intBin, cmp_lt, cmp_le, cmp_gt, cmp_ge, cmp_eqi, cmp_nei, cmp_eqb, cmp_neb, cmp_is, cmp_isnot, cmp_isn, cmp_isnotn, isi_int, isi_bool, isi_tup, isi_lst, isi_str, isI, isBo, isTu, isLi, isSt, truth, ixP, slP, biP, owns, own, at_0, at_1, at_2, at_3, set_0, setsD, asgn, asgnT, sets, List.getElem?_cons_zero, List.getElem?_cons_succ, List.set_cons_zero, List.set_cons_succ, List.length_cons, List.length_nil, decide_eq_true_eq, Bool.not_true, Bool.not_false, Bool.not_eq_true', decide_eq_false_iff_not, Bool.true_eq_false, Bool.false_eq_true, if_true, if_false, true_and]; try (first | refine Br.d ?_ | refine Br.nd ?_ | refine Br.nb ?_ | refine Br.b ?_))
    refine ⟨m.length, _, m, rfl, Nat.le_refl _, get_end rfl, take_end rfl, ?_⟩
    have : ((rngP 0 (1 * 2 ^ (n : Int).toNat)).take (rngP 0 (1 * 2 ^ (n : Int).toNat)).length).map (bitL n) = setD n := by
      rw [List.take_length]
      exact law_set n h1 hn
    rw [this]
    simp
/-! ### equal -/
theorem eq_set : ∀ n : Nat, 1 ≤ n → n ≤ 4 → cmpP .NotEq (.list (setD n)) (.list (setD n)) = some false
  | 1, _, _ => by rfl
  | 2, _, _ => by rfl
  | 3, _, _ => by rfl
  | 4, _, _ => by rfl
theorem depI : ∀ l : List Int, PyData.depthAll (l.map .int) ≤ 1
  | [] => by simp [PyData.depthAll]
  | i :: l => by
    have := depI l
    rw [List.map_cons, PyData.depthAll]
    simp [PyData.depth]
    omega
theorem eqvI : ∀ l : List Int, PyData.eqvAll (l.map .int) (l.map .int) = true
  | [] => by simp [PyData.eqvAll]
  | i :: l => by rw [List.map_cons, PyData.eqvAll, eqv_ii, eqvI l]; simp
theorem ne_nums (l : List Int) : cmpP .NotEq (.list (l.map .int)) (.list (l.map .int)) = some false := by
  have ok : eqOk (.list (l.map .int)) (.list (l.map .int)) = true := by
    unfold eqOk
    have := depI l
    rw [PyData.canLay0, canI, depth_list]
    simp
    omega
  rw [cmp_neP ok, PyData.eqv, eqvI]
  rfl
theorem rngP_get {a b : Int} {i : Nat} {x : PyData} (h : (rngP a b)[i]? = some x) : ∃ j : Int, x = .int j ∧ a ≤ j ∧ j < b := by
  unfold rngP at h
  rw [List.getElem?_map] at h
  cases q : (List.range (b - a).toNat)[i]? with
  | none => rw [q] at h; cases h
  | some j =>
    rw [q] at h
    obtain ⟨h1, h2⟩ := List.getElem?_eq_some_iff.mp q
    rw [List.getElem_range] at h2
    rw [List.length_range] at h1
    subst h2
    exact ⟨_, (Option.some.inj h).symm, by omega, by omega⟩
theorem ne_shut (cs t : List PyData) : cmpP .NotEq (.list (shutL cs t)) (.list (shutL cs t)) = some false := by
  rw [(shutN_ok cs t).1]
  exact ne_nums _
end
end Z

/-! Z22: what is equal to itself; functions of nets (from the law k13). -/
namespace Z
open PySem
def b_function_of : Fd := ⟨1, 2, (.cons (.ret (.bi .tuple false (.cons (.comp false (.one 1) (.seq (.call false "settings" (.cons (.ix (.var 0) (.int 0)) .nil))) (.bi .int false (.cons (.call false "lets" (.cons (.var 0) (.cons (.var 1) .nil))) .nil))) .nil))) .nil)⟩
def b_law_function : Fd := ⟨1, 2, (.cons (.ret (.bi .tuple false (.cons (.comp false (.one 1) (.seq (.call false "_law_settings" (.cons (.ix (.var 0) (.int 0)) .nil))) (.bi .int false (.cons (.call false "_law_lets" (.cons (.var 0) (.cons (.var 1) .nil))) .nil))) .nil))) .nil)⟩
section
variable {G : Tab}
/-! ### a datum is what it is -/
mutual
theorem eqv_refl : ∀ x : PyData, PyData.canLay0 x = true → PyData.eqv x x = true
  | .none, _ => by rw [PyData.eqv]
  | .bool b, _ => by rw [PyData.eqv]; simp
  | .int b, _ => by rw [PyData.eqv]; simp
  | .str b, _ => by rw [PyData.eqv]; simp
  | .list xs, h => by rw [PyData.canLay0] at h; rw [PyData.eqv]; exact eqvAll_refl xs h
  | .tuple xs, h => by rw [PyData.canLay0] at h; rw [PyData.eqv]; exact eqvAll_refl xs h
  | .dict _, h => by rw [PyData.canLay0] at h; cases h
theorem eqvAll_refl : ∀ xs : List PyData, PyData.canLayAll0 xs = true → PyData.eqvAll xs xs = true
  | [], _ => by rw [PyData.eqvAll]
  | x :: xs, h => by
    rw [PyData.canLayAll0, Bool.and_eq_true] at h
    rw [PyData.eqvAll, eqv_refl x h.1, eqvAll_refl xs h.2]
    rfl
end
theorem ne_same {x : PyData} (h : PyData.canLay0 x = true) (hd : x.depth ≤ 64) : cmpP .NotEq x x = some false := by
  have ok : eqOk x x = true := by unfold eqOk; rw [h]; simp [hd]
  rw [cmp_neP ok, eqv_refl x h]
  rfl
/-- flat tuples of whole numbers -/
def Flat (x : PyData) : Prop := ∃ l : List Int, x = .tuple (l.map .int)
theorem canF : ∀ {cs : List PyData}, (∀ c ∈ cs, Flat c) → PyData.canLayAll0 cs = true
  | [], _ => rfl
  | c :: cs, h => by
    obtain ⟨l, rfl⟩ := h c (List.mem_cons_self ..)
    rw [PyData.canLayAll0, PyData.canLay0, canI, canF fun x hx => h x (List.mem_cons_of_mem _ hx)]
    rfl
theorem depF : ∀ {cs : List PyData}, (∀ c ∈ cs, Flat c) → PyData.depthAll cs ≤ 2
  | [], _ => by simp [PyData.depthAll]
  | c :: cs, h => by
    obtain ⟨l, rfl⟩ := h c (List.mem_cons_self ..)
    have h1 := depF fun x hx => h x (List.mem_cons_of_mem _ hx)
    have h2 := depI l
    rw [PyData.depthAll, depth_tuple]
    omega
theorem ne_net {s p : Int} {cs : List PyData} (h : ∀ c ∈ cs, Flat c) : cmpP .NotEq (.tuple [.int s, .int p, .tuple cs]) (.tuple [.int s, .int p, .tuple cs]) = some false := by
  refine ne_same ?_ ?_
  · simp [PyData.canLay0, PyData.canLayAll0, canF h]
  · have := depF h
    rw [depth_tuple]
    simp only [PyData.depthAll, depth_tuple, PyData.depth]
    omega
/-! ### functions -/
open Classical in
noncomputable def funB (cs : List PyData) (x : PyData) : PyData :=
  match x with
  | .tuple t => .int (if Cn (edg cs (shutN cs t)) 0 1 then 1 else 0)
  | _ => .none
theorem funB_1 {cs t : List PyData} (h : Cn (edg cs (shutN cs t)) 0 1) : funB cs (.tuple t) = .int 1 := by unfold funB; simp [h]
theorem funB_0 {cs t : List PyData} (h : ¬ Cn (edg cs (shutN cs t)) 0 1) : funB cs (.tuple t) = .int 0 := by unfold funB; simp [h]
noncomputable def funD (n : Nat) (cs : List PyData) : PyData := .tuple ((setD n).map (funB cs))
theorem funof_call (g_function_of : G "function_of" = some b_function_of) (g_settings : G "settings" = some b_settings) (g_lets : G "lets" = some b_lets) (g_shut_at : G "shut_at" = some b_shut_at) (g_reached : G "reached" = some b_reached) {k : Nat} {m : Mem} {n : Nat} {p : Int} {cs : List PyData} (h1 : 1 ≤ n) (hn : n ≤ 4) (hc : cs.length ≤ 16) (h2 : 2 ≤ p) (hp : p ≤ 1000) (hg : ∀ c ∈ cs, GoodC n p c) :
    Ok (callF (run G (k + 3)) false "function_of" [.b (.tuple [.int n, .int p, .tuple cs])] m) fun d m' => m' = m ∧ d = .b (funD n cs) := by
  refine call_b (run_ok g_function_of ⟨rfl, by decide⟩ ?_)
  rw [show startE b_function_of.n [.b (.tuple [.int n, .int p, .tuple cs])] = [some (.b (.tuple [.int n, .int p, .tuple cs])), none] from rfl]
  unfold b_function_of
  (simp only [↓stk_call, ↓stk_comp, ↓stk_rows, ↓stk_rc, ↓stk_for, ↓stk_whl, ↓stk_said, ↓Br.t, ↓Br.f, Br.t, Br.f, ↓w_var, ↓w_int, ↓w_bool, ↓w_none, ↓w_str, ↓w_glob, ↓w_bin, ↓w_neg, ↓w_not, ↓w_cmp, ↓w_chain, ↓w_and, ↓w_or, ↓w_ife, ↓w_tup, ↓w_lst, ↓w_ix, ↓w_ixR, ↓w_rowc, ↓w_rcomp, ↓w_sl0, ↓w_slL, ↓w_slH, ↓w_slB, ↓w_bi, ↓w_isi, ↓w_op, ↓w_idx, ↓w_sm, isS_s, ↓w_dic, ↓w_me, ↓w_call, ↓w_pick, ↓w_isx, ↓w_comp, ↓w_compI, ↓w_nil, ↓w_cons, ↓w_seq, ↓w_rng1, ↓w_rng2, ↓w_enm, ↓w_zip, ↓w_zip3, ↓s_nil, ↓s_cons, ↓s_set, ↓s_setT, ↓s_setP, ↓s_setI, ↓s_expr, ↓s_ife, ↓s_whl, ↓s_for, ↓s_ret, ↓s_retN, ↓s_pass, ↓s_brk, ↓s_cont, ↓Ok.ok, ↓Ok.bind, Sm.s, Sm.map, Sm.ite, Snap.b, In.i, Bl.b, Rf.r, mk_f, mk_t, ixF_b, ixF_r, ixF_s, pickF_w, isxF_n, isxF_e, biF_len, biF_b, biF_r, opF_w, isL_b, isL_r, Snaps, itSeq_l, itSeq_t, itZip_l, itZip_t, itZip3_w, binP, intBin, cmp_lt, cmp_le, cmp_gt, cmp_ge, cmp_eqi, cmp_nei, cmp_eqb, cmp_neb, cmp_is, cmp_isnot, cmp_isn, cmp_isnotn, isi_int, isi_bool, isi_tup, isi_lst, isi_str, isI, isBo, isTu, isLi, isSt, truth, ixP, slP, biP, owns, own, at_0, at_1, at_2, at_3, set_0, setsD, asgn, asgnT, sets, List.getElem?_cons_zero, List.getElem?_cons_succ, List.set_cons_zero, List.set_cons_succ, List.length_cons, List.length_nil, decide_eq_true_eq, Bool.not_true, Bool.not_false, Bool.not_eq_true', decide_eq_false_iff_not, Bool.true_eq_false, Bool.false_eq_true, if_true, if_false, true_and]; try (first | refine Br.d ?_ | refine Br.nd ?_ | refine Br.nb ?_ | refine Br.b ?_))
  refine (settings_call g_settings (k := k + 1) (r := false) (n := n) (by omega)).mono ?_
  rintro d m4 ⟨_, hd⟩
  obtain ⟨rfl, rfl⟩ := hd rfl
  (simp only [↓stk_call, ↓stk_comp, ↓stk_rows, ↓stk_rc, ↓stk_for, ↓stk_whl, ↓stk_said, ↓Br.t, ↓Br.f, Br.t, Br.f, ↓w_var, ↓w_int, ↓w_bool, ↓w_none, ↓w_str, ↓w_glob, ↓w_bin, ↓w_neg, ↓w_not, ↓w_cmp, ↓w_chain, ↓w_and, ↓w_or, ↓w_ife, ↓w_tup, ↓w_lst, ↓w_ix, ↓w_ixR, ↓w_rowc, ↓w_rcomp, ↓w_sl0, ↓w_slL, ↓w_slH, ↓w_slB, ↓w_bi, ↓w_isi, ↓w_op, ↓w_idx, ↓w_sm, isS_s, ↓w_dic, ↓w_me, ↓w_call, ↓w_pick, ↓w_isx, ↓w_comp, ↓w_compI, ↓w_nil, ↓w_cons, ↓w_seq, ↓w_rng1, ↓w_rng2, ↓w_enm, ↓w_zip, ↓w_zip3, ↓s_nil, ↓s_cons, ↓s_set, ↓s_setT, ↓s_setP, ↓s_setI, ↓s_expr, ↓s_ife, ↓s_whl, ↓s_for, ↓s_ret, ↓s_retN, ↓s_pass, ↓s_brk, ↓s_cont, ↓Ok.ok, ↓Ok.bind, Sm.s, Sm.map, Sm.ite, Snap.b, In.i, Bl.b, Rf.r, mk_f, mk_t, ixF_b, ixF_r, ixF_s, pickF_w, isxF_n, isxF_e, biF_len, biF_b, biF_r, opF_w, isL_b, isL_r, Snaps, itSeq_l, itSeq_t, itZip_l, itZip_t, itZip3_w, binP, intBin, cmp_lt, cmp_le, cmp_gt, cmp_ge, cmp_eqi, cmp_nei, cmp_eqb, cmp_neb, cmp_is, cmp_isnot, cmp_isn, cmp_isnotn, isi_int, isi_bool, isi_tup, isi_lst, isi_str, isI, isBo, isTu, isLi, isSt, truth, ixP, slP, biP, owns, own, at_0, at_1, at_2, at_3, set_0, setsD, asgn, asgnT, sets, List.getElem?_cons_zero, List.getElem?_cons_succ, List.set_cons_zero, List.set_cons_succ, List.length_cons, List.length_nil, decide_eq_true_eq, Bool.not_true, Bool.not_false, Bool.not_eq_true', decide_eq_false_iff_not, Bool.true_eq_false, Bool.false_eq_true, if_true, if_false, true_and]; try (first | refine Br.d ?_ | refine Br.nd ?_ | refine Br.nb ?_ | refine Br.b ?_))
  have hlen : (setD n).length ≤ 16 := by
    unfold setD
    rw [List.length_map, setS_len]
    exact Nat.pow_le_pow_right (by decide) hn
  refine comp_pure (funB cs) (by show _ ≤ 16777216; omega) (fun x hx mm => ?_) ?_
  · obtain ⟨t, ht, rfl⟩ := List.mem_map.mp hx
    (simp only [↓stk_call, ↓stk_comp, ↓stk_rows, ↓stk_rc, ↓stk_for, ↓stk_whl, ↓stk_said, ↓Br.t, ↓Br.f, Br.t, Br.f, ↓w_var, ↓w_int, ↓w_bool, ↓w_none, ↓w_str, ↓w_glob, ↓w_bin, ↓w_neg, ↓w_not, ↓w_cmp, ↓w_chain, ↓w_and, ↓w_or, ↓w_ife, ↓w_tup, ↓w_lst, ↓w_ix, ↓w_ixR, ↓w_rowc, ↓w_rcomp, ↓w_sl0, ↓w_slL, ↓w_slH, ↓w_slB, ↓w_bi, ↓w_isi, ↓w_op, ↓w_idx, ↓w_sm, isS_s, ↓w_dic, ↓w_me, ↓w_call, ↓w_pick, ↓w_isx, ↓w_comp, ↓w_compI, ↓w_nil, ↓w_cons, ↓w_seq, ↓w_rng1, ↓w_rng2, ↓w_enm, ↓w_zip, ↓w_zip3, ↓s_nil, ↓s_cons, ↓s_set, ↓s_setT, ↓s_setP, ↓s_setI, ↓s_expr, ↓s_ife, ↓s_whl, ↓s_for, ↓s_ret, ↓s_retN, ↓s_pass, ↓s_brk, ↓s_cont, ↓Ok.ok, ↓Ok.bind, Sm.s, Sm.map, Sm.ite, Snap.b, In.i, Bl.b, Rf.r, mk_f, mk_t, ixF_b, ixF_r, ixF_s, pickF_w, isxF_n, isxF_e, biF_len, biF_b, biF_r, opF_w, isL_b, isL_r, Snaps, itSeq_l, itSeq_t, itZip_l, itZip_t, itZip3_w, binP, intBin, cmp_lt, cmp_le, cmp_gt, cmp_ge, cmp_eqi, cmp_nei, cmp_eqb, cmp_neb, cmp_is, cmp_isnot, cmp_isn, cmp_isnotn, isi_int, isi_bool, isi_tup, isi_lst, isi_str, isI, isBo, isTu, isLi, isSt, truth, ixP, slP, biP, owns, own, at_0, at_1, at_2, at_3, set_0, setsD, asgn, asgnT, sets, List.getElem?_cons_zero, List.getElem?_cons_succ, List.set_cons_zero, List.set_cons_succ, List.length_cons, List.length_nil, decide_eq_true_eq, Bool.not_true, Bool.not_false, Bool.not_eq_true', decide_eq_false_iff_not, Bool.true_eq_false, Bool.false_eq_true, if_true, if_false, true_and, clear, Tg.slots]; try (first | refine Br.d ?_ | refine Br.nd ?_ | refine Br.nb ?_ | refine Br.b ?_))
    refine (lets_call g_lets g_shut_at g_reached hc h2 hp hg (setS_ok n t ht)).mono ?_
    rintro _ mm ⟨rfl, c, rfl, hcn⟩
    (simp only [↓stk_call, ↓stk_comp, ↓stk_rows, ↓stk_rc, ↓stk_for, ↓stk_whl, ↓stk_said, ↓Br.t, ↓Br.f, Br.t, Br.f, ↓w_var, ↓w_int, ↓w_bool, ↓w_none, ↓w_str, ↓w_glob, ↓w_bin, ↓w_neg, ↓w_not, ↓w_cmp, ↓w_chain, ↓w_and, ↓w_or, ↓w_ife, ↓w_tup, ↓w_lst, ↓w_ix, ↓w_ixR, ↓w_rowc, ↓w_rcomp, ↓w_sl0, ↓w_slL, ↓w_slH, ↓w_slB, ↓w_bi, ↓w_isi, ↓w_op, ↓w_idx, ↓w_sm, isS_s, ↓w_dic, ↓w_me, ↓w_call, ↓w_pick, ↓w_isx, ↓w_comp, ↓w_compI, ↓w_nil, ↓w_cons, ↓w_seq, ↓w_rng1, ↓w_rng2, ↓w_enm, ↓w_zip, ↓w_zip3, ↓s_nil, ↓s_cons, ↓s_set, ↓s_setT, ↓s_setP, ↓s_setI, ↓s_expr, ↓s_ife, ↓s_whl, ↓s_for, ↓s_ret, ↓s_retN, ↓s_pass, ↓s_brk, ↓s_cont, ↓Ok.ok, ↓Ok.bind, Sm.s, Sm.map, Sm.ite, Snap.b, In.i, Bl.b, Rf.r, mk_f, mk_t, ixF_b, ixF_r, ixF_s, pickF_w, isxF_n, isxF_e, biF_len, biF_b, biF_r, opF_w, isL_b, isL_r, Snaps, itSeq_l, itSeq_t, itZip_l, itZip_t, itZip3_w, binP, intBin, cmp_lt, cmp_le, cmp_gt, cmp_ge, cmp_eqi, cmp_nei, cmp_eqb, cmp_neb, cmp_is, cmp_isnot, cmp_isn, cmp_isnotn, isi_int, isi_bool, isi_tup, isi_lst, isi_str, isI, isBo, isTu, isLi, isSt, truth, ixP, slP, biP, owns, own, at_0, at_1, at_2, at_3, set_0, setsD, asgn, asgnT, sets, List.getElem?_cons_zero, List.getElem?_cons_succ, List.set_cons_zero, List.set_cons_succ, List.length_cons, List.length_nil, decide_eq_true_eq, Bool.not_true, Bool.not_false, Bool.not_eq_true', decide_eq_false_iff_not, Bool.true_eq_false, Bool.false_eq_true, if_true, if_false, true_and, biF_b]; try (first | refine Br.d ?_ | refine Br.nd ?_ | refine Br.nb ?_ | refine Br.b ?_))
    cases c with
    | true => rw [funB_1 (hcn.mp rfl)]; rfl
    | false => rw [funB_0 (fun z => by have := hcn.mpr z; cases this)]; rfl
  · (simp only [↓stk_call, ↓stk_comp, ↓stk_rows, ↓stk_rc, ↓stk_for, ↓stk_whl, ↓stk_said, ↓Br.t, ↓Br.f, Br.t, Br.f, ↓w_var, ↓w_int, ↓w_bool, ↓w_none, ↓w_str, ↓w_glob, ↓w_bin, ↓w_neg, ↓w_not, ↓w_cmp, ↓w_chain, ↓w_and, ↓w_or, ↓w_ife, ↓w_tup, ↓w_lst, ↓w_ix, ↓w_ixR, ↓w_rowc, ↓w_rcomp, ↓w_sl0, ↓w_slL, ↓w_slH, ↓w_slB, ↓w_bi, ↓w_isi, ↓w_op, ↓w_idx, ↓w_sm, isS_s, ↓w_dic, ↓w_me, ↓w_call, ↓w_pick, ↓w_isx, ↓w_comp, ↓w_compI, ↓w_nil, ↓w_cons, ↓w_seq, ↓w_rng1, ↓w_rng2, ↓w_enm, ↓w_zip, ↓w_zip3, ↓s_nil, ↓s_cons, ↓s_set, ↓s_setT, ↓s_setP, ↓s_setI, ↓s_expr, ↓s_ife, ↓s_whl, ↓s_for, ↓s_ret, ↓s_retN, ↓s_pass, ↓s_brk, ↓s_cont, ↓Ok.ok, ↓Ok.bind, Sm.s, Sm.map, Sm.ite, Snap.b, In.i, Bl.b, Rf.r, mk_f, mk_t, ixF_b, ixF_r, ixF_s, pickF_w, isxF_n, isxF_e, biF_len, biF_b, biF_r, opF_w, isL_b, isL_r, Snaps, itSeq_l, itSeq_t, itZip_l, itZip_t, itZip3_w, binP, intBin, cmp_lt, cmp_le, cmp_gt, cmp_ge, cmp_eqi, cmp_nei, cmp_eqb, cmp_neb, cmp_is, cmp_isnot, cmp_isn, cmp_isnotn, isi_int, isi_bool, isi_tup, isi_lst, isi_str, isI, isBo, isTu, isLi, isSt, truth, ixP, slP, biP, owns, own, at_0, at_1, at_2, at_3, set_0, setsD, asgn, asgnT, sets, List.getElem?_cons_zero, List.getElem?_cons_succ, List.set_cons_zero, List.set_cons_succ, List.length_cons, List.length_nil, decide_eq_true_eq, Bool.not_true, Bool.not_false, Bool.not_eq_true', decide_eq_false_iff_not, Bool.true_eq_false, Bool.false_eq_true, if_true, if_false, true_and, biF_b]; try (first | refine Br.d ?_ | refine Br.nd ?_ | refine Br.nb ?_ | refine Br.b ?_))
    exact ⟨_, rfl, fun _ => rfl, by rw [List.take_length], rfl⟩
theorem lfun_call (g_law_function : G "_law_function" = some b_law_function) (g_law_settings : G "_law_settings" = some b_law_settings) (g_law_lets : G "_law_lets" = some b_law_lets) (g_law_shut : G "_law_shut" = some b_law_shut) (g_law_marks : G "_law_marks" = some b_law_marks) {k : Nat} {m : Mem} {n : Nat} {p : Int} {cs : List PyData} (h1 : 1 ≤ n) (hn : n ≤ 4) (hc : cs.length ≤ 16) (h2 : 2 ≤ p) (hp : p ≤ 1000) (hg : ∀ c ∈ cs, GoodC n p c) :
    Ok (callF (run G (k + 3)) false "_law_function" [.b (.tuple [.int n, .int p, .tuple cs])] m) fun d m' => m' = m ∧ d = .b (funD n cs) := by
  refine call_b (run_ok g_law_function ⟨rfl, by decide⟩ ?_)
  rw [show startE b_law_function.n [.b (.tuple [.int n, .int p, .tuple cs])] = [some (.b (.tuple [.int n, .int p, .tuple cs])), none] from rfl]
  unfold b_law_function
  (simp only [↓stk_call, ↓stk_comp, ↓stk_rows, ↓stk_rc, ↓stk_for, ↓stk_whl, ↓stk_said, ↓Br.t, ↓Br.f, Br.t, Br.f, ↓w_var, ↓w_int, ↓w_bool, ↓w_none, ↓w_str, ↓w_glob, ↓w_bin, ↓w_neg, ↓w_not, ↓w_cmp, ↓w_chain, ↓w_and, ↓w_or, ↓w_ife, ↓w_tup, ↓w_lst, ↓w_ix, ↓w_ixR, ↓w_rowc, ↓w_rcomp, ↓w_sl0, ↓w_slL, ↓w_slH, ↓w_slB, ↓w_bi, ↓w_isi, ↓w_op, ↓w_idx, ↓w_sm, isS_s, ↓w_dic, ↓w_me, ↓w_call, ↓w_pick, ↓w_isx, ↓w_comp, ↓w_compI, ↓w_nil, ↓w_cons, ↓w_seq, ↓w_rng1, ↓w_rng2, ↓w_enm, ↓w_zip, ↓w_zip3, ↓s_nil, ↓s_cons, ↓s_set, ↓s_setT, ↓s_setP, ↓s_setI, ↓s_expr, ↓s_ife, ↓s_whl, ↓s_for, ↓s_ret, ↓s_retN, ↓s_pass, ↓s_brk, ↓s_cont, ↓Ok.ok, ↓Ok.bind, Sm.s, Sm.map, Sm.ite, Snap.b, In.i, Bl.b, Rf.r, mk_f, mk_t, ixF_b, ixF_r, ixF_s, pickF_w, isxF_n, isxF_e, biF_len, biF_b, biF_r, opF_w, isL_b, isL_r, Snaps, itSeq_l, itSeq_t, itZip_l, itZip_t, itZip3_w, binP, intBin, cmp_lt, cmp_le, cmp_gt, cmp_ge, cmp_eqi, cmp_nei, cmp_eqb, cmp_neb, cmp_is, cmp_isnot, cmp_isn, cmp_isnotn, isi_int, isi_bool, isi_tup, isi_lst, isi_str, isI, isBo, isTu, isLi, isSt, truth, ixP, slP, biP, owns, own, at_0, at_1, at_2, at_3, set_0, setsD, asgn, asgnT, sets, List.getElem?_cons_zero, List.getElem?_cons_succ, List.set_cons_zero, List.set_cons_succ, List.length_cons, List.length_nil, decide_eq_true_eq, Bool.not_true, Bool.not_false, Bool.not_eq_true', decide_eq_false_iff_not, Bool.true_eq_false, Bool.false_eq_true, if_true, if_false, true_and]; try (first | refine Br.d ?_ | refine Br.nd ?_ | refine Br.nb ?_ | refine Br.b ?_))
  refine (lsettings_call g_law_settings (k := k + 1) h1 hn).mono ?_
  rintro d m4 ⟨rfl, rfl⟩
  (simp only [↓stk_call, ↓stk_comp, ↓stk_rows, ↓stk_rc, ↓stk_for, ↓stk_whl, ↓stk_said, ↓Br.t, ↓Br.f, Br.t, Br.f, ↓w_var, ↓w_int, ↓w_bool, ↓w_none, ↓w_str, ↓w_glob, ↓w_bin, ↓w_neg, ↓w_not, ↓w_cmp, ↓w_chain, ↓w_and, ↓w_or, ↓w_ife, ↓w_tup, ↓w_lst, ↓w_ix, ↓w_ixR, ↓w_rowc, ↓w_rcomp, ↓w_sl0, ↓w_slL, ↓w_slH, ↓w_slB, ↓w_bi, ↓w_isi, ↓w_op, ↓w_idx, ↓w_sm, isS_s, ↓w_dic, ↓w_me, ↓w_call, ↓w_pick, ↓w_isx, ↓w_comp, ↓w_compI, ↓w_nil, ↓w_cons, ↓w_seq, ↓w_rng1, ↓w_rng2, ↓w_enm, ↓w_zip, ↓w_zip3, ↓s_nil, ↓s_cons, ↓s_set, ↓s_setT, ↓s_setP, ↓s_setI, ↓s_expr, ↓s_ife, ↓s_whl, ↓s_for, ↓s_ret, ↓s_retN, ↓s_pass, ↓s_brk, ↓s_cont, ↓Ok.ok, ↓Ok.bind, Sm.s, Sm.map, Sm.ite, Snap.b, In.i, Bl.b, Rf.r, mk_f, mk_t, ixF_b, ixF_r, ixF_s, pickF_w, isxF_n, isxF_e, biF_len, biF_b, biF_r, opF_w, isL_b, isL_r, Snaps, itSeq_l, itSeq_t, itZip_l, itZip_t, itZip3_w, binP, intBin, cmp_lt, cmp_le, cmp_gt, cmp_ge, cmp_eqi, cmp_nei, cmp_eqb, cmp_neb, cmp_is, cmp_isnot, cmp_isn, cmp_isnotn, isi_int, isi_bool, isi_tup, isi_lst, isi_str, isI, isBo, isTu, isLi, isSt, truth, ixP, slP, biP, owns, own, at_0, at_1, at_2, at_3, set_0, setsD, asgn, asgnT, sets, List.getElem?_cons_zero, List.getElem?_cons_succ, List.set_cons_zero, List.set_cons_succ, List.length_cons, List.length_nil, decide_eq_true_eq, Bool.not_true, Bool.not_false, Bool.not_eq_true', decide_eq_false_iff_not, Bool.true_eq_false, Bool.false_eq_true, if_true, if_false, true_and]; try (first | refine Br.d ?_ | refine Br.nd ?_ | refine Br.nb ?_ | refine Br.b ?_))
  have hlen : (setD n).length ≤ 16 := by
    unfold setD
    rw [List.length_map, setS_len]
    exact Nat.pow_le_pow_right (by decide) hn
  refine comp_pure (funB cs) (by show _ ≤ 16777216; omega) (fun x hx mm => ?_) ?_
  · obtain ⟨t, ht, rfl⟩ := List.mem_map.mp hx
    (simp only [↓stk_call, ↓stk_comp, ↓stk_rows, ↓stk_rc, ↓stk_for, ↓stk_whl, ↓stk_said, ↓Br.t, ↓Br.f, Br.t, Br.f, ↓w_var, ↓w_int, ↓w_bool, ↓w_none, ↓w_str, ↓w_glob, ↓w_bin, ↓w_neg, ↓w_not, ↓w_cmp, ↓w_chain, ↓w_and, ↓w_or, ↓w_ife, ↓w_tup, ↓w_lst, ↓w_ix, ↓w_ixR, ↓w_rowc, ↓w_rcomp, ↓w_sl0, ↓w_slL, ↓w_slH, ↓w_slB, ↓w_bi, ↓w_isi, ↓w_op, ↓w_idx, ↓w_sm, isS_s, ↓w_dic, ↓w_me, ↓w_call, ↓w_pick, ↓w_isx, ↓w_comp, ↓w_compI, ↓w_nil, ↓w_cons, ↓w_seq, ↓w_rng1, ↓w_rng2, ↓w_enm, ↓w_zip, ↓w_zip3, ↓s_nil, ↓s_cons, ↓s_set, ↓s_setT, ↓s_setP, ↓s_setI, ↓s_expr, ↓s_ife, ↓s_whl, ↓s_for, ↓s_ret, ↓s_retN, ↓s_pass, ↓s_brk, ↓s_cont, ↓Ok.ok, ↓Ok.bind, Sm.s, Sm.map, Sm.ite, Snap.b, In.i, Bl.b, Rf.r, mk_f, mk_t, ixF_b, ixF_r, ixF_s, pickF_w, isxF_n, isxF_e, biF_len, biF_b, biF_r, opF_w, isL_b, isL_r, Snaps, itSeq_l, itSeq_t, itZip_l, itZip_t, itZip3_w, binP, intBin, cmp_lt, cmp_le, cmp_gt, cmp_ge, cmp_eqi, cmp_nei, cmp_eqb, cmp_neb, cmp_is, cmp_isnot, cmp_isn, cmp_isnotn, isi_int, isi_bool, isi_tup, isi_lst, isi_str, isI, isBo, isTu, isLi, isSt, truth, ixP, slP, biP, owns, own, at_0, at_1, at_2, at_3, set_0, setsD, asgn, asgnT, sets, List.getElem?_cons_zero, List.getElem?_cons_succ, List.set_cons_zero, List.set_cons_succ, List.length_cons, List.length_nil, decide_eq_true_eq, Bool.not_true, Bool.not_false, Bool.not_eq_true', decide_eq_false_iff_not, Bool.true_eq_false, Bool.false_eq_true, if_true, if_false, true_and, clear, Tg.slots]; try (first | refine Br.d ?_ | refine Br.nd ?_ | refine Br.nb ?_ | refine Br.b ?_))
    refine (llets_call g_law_lets g_law_shut g_law_marks hc h2 hp hg (setS_ok n t ht)).mono ?_
    rintro _ mm ⟨rfl, c, rfl, hcn⟩
    (simp only [↓stk_call, ↓stk_comp, ↓stk_rows, ↓stk_rc, ↓stk_for, ↓stk_whl, ↓stk_said, ↓Br.t, ↓Br.f, Br.t, Br.f, ↓w_var, ↓w_int, ↓w_bool, ↓w_none, ↓w_str, ↓w_glob, ↓w_bin, ↓w_neg, ↓w_not, ↓w_cmp, ↓w_chain, ↓w_and, ↓w_or, ↓w_ife, ↓w_tup, ↓w_lst, ↓w_ix, ↓w_ixR, ↓w_rowc, ↓w_rcomp, ↓w_sl0, ↓w_slL, ↓w_slH, ↓w_slB, ↓w_bi, ↓w_isi, ↓w_op, ↓w_idx, ↓w_sm, isS_s, ↓w_dic, ↓w_me, ↓w_call, ↓w_pick, ↓w_isx, ↓w_comp, ↓w_compI, ↓w_nil, ↓w_cons, ↓w_seq, ↓w_rng1, ↓w_rng2, ↓w_enm, ↓w_zip, ↓w_zip3, ↓s_nil, ↓s_cons, ↓s_set, ↓s_setT, ↓s_setP, ↓s_setI, ↓s_expr, ↓s_ife, ↓s_whl, ↓s_for, ↓s_ret, ↓s_retN, ↓s_pass, ↓s_brk, ↓s_cont, ↓Ok.ok, ↓Ok.bind, Sm.s, Sm.map, Sm.ite, Snap.b, In.i, Bl.b, Rf.r, mk_f, mk_t, ixF_b, ixF_r, ixF_s, pickF_w, isxF_n, isxF_e, biF_len, biF_b, biF_r, opF_w, isL_b, isL_r, Snaps, itSeq_l, itSeq_t, itZip_l, itZip_t, itZip3_w, binP, intBin, cmp_lt, cmp_le, cmp_gt, cmp_ge, cmp_eqi, cmp_nei, cmp_eqb, cmp_neb, cmp_is, cmp_isnot, cmp_isn, cmp_isnotn, isi_int, isi_bool, isi_tup, isi_lst, isi_str, isI, isBo, isTu, isLi, isSt, truth, ixP, slP, biP, owns, own, at_0, at_1, at_2, at_3, set_0, setsD, asgn, asgnT, sets, List.getElem?_cons_zero, List.getElem?_cons_succ, List.set_cons_zero, List.set_cons_succ, List.length_cons, List.length_nil, decide_eq_true_eq, Bool.not_true, Bool.not_false, Bool.not_eq_true', decide_eq_false_iff_not, Bool.true_eq_false, Bool.false_eq_true, if_true, if_false, true_and, biF_b]; try (first | refine Br.d ?_ | refine Br.nd ?_ | refine Br.nb ?_ | refine Br.b ?_))
    cases c with
    | true => rw [funB_1 (hcn.mp rfl)]; rfl
    | false => rw [funB_0 (fun z => by have := hcn.mpr z; cases this)]; rfl
  · (simp only [↓stk_call, ↓stk_comp, ↓stk_rows, ↓stk_rc, ↓stk_for, ↓stk_whl, ↓stk_said, ↓Br.t, ↓Br.f, Br.t, Br.f, ↓w_var, ↓w_int, ↓w_bool, ↓w_none, ↓w_str, ↓w_glob, ↓w_bin, ↓w_neg, ↓w_not, ↓w_cmp, ↓w_chain, ↓w_and, ↓w_or, ↓w_ife, ↓w_tup, ↓w_lst, ↓w_ix, ↓w_ixR, ↓w_rowc, ↓w_rcomp, ↓w_sl0, ↓w_slL, ↓w_slH, ↓w_slB, ↓w_bi, ↓w_isi, ↓w_op, ↓w_idx, ↓w_sm, isS_s, ↓w_dic, ↓w_me, ↓w_call, ↓w_pick, ↓w_isx, ↓w_comp, ↓w_compI, ↓w_nil, ↓w_cons, ↓w_seq, ↓w_rng1, ↓w_rng2, ↓w_enm, ↓w_zip, ↓w_zip3, ↓s_nil, ↓s_cons, ↓s_set, ↓s_setT, ↓s_setP, ↓s_setI, ↓s_expr, ↓s_ife, ↓s_whl, ↓s_for, ↓s_ret, ↓s_retN, ↓s_pass, ↓s_brk, ↓s_cont, ↓Ok.ok, ↓Ok.bind, Sm.s, Sm.map, Sm.ite, Snap.b, In.i, Bl.b, Rf.r, mk_f, mk_t, ixF_b, ixF_r, ixF_s, pickF_w, isxF_n, isxF_e, biF_len, biF_b, biF_r, opF_w, isL_b, isL_r, Snaps, itSeq_l, itSeq_t, itZip_l, itZip_t, itZip3_w, binP, intBin, cmp_lt, cmp_le, cmp_gt, cmp_ge, cmp_eqi, cmp_nei, cmp_eqb, cmp_neb, cmp_is, cmp_isnot, cmp_isn, cmp_isnotn, isi_int, isi_bool, isi_tup, isi_lst, isi_str, isI, isBo, isTu, isLi, isSt, truth, ixP, slP, biP, owns, own, at_0, at_1, at_2, at_3, set_0, setsD, asgn, asgnT, sets, List.getElem?_cons_zero, List.getElem?_cons_succ, List.set_cons_zero, List.set_cons_succ, List.length_cons, List.length_nil, decide_eq_true_eq, Bool.not_true, Bool.not_false, Bool.not_eq_true', decide_eq_false_iff_not, Bool.true_eq_false, Bool.false_eq_true, if_true, if_false, true_and, biF_b]; try (first | refine Br.d ?_ | refine Br.nd ?_ | refine Br.nb ?_ | refine Br.b ?_))
    exact ⟨_, rfl, fun _ => rfl, by rw [List.take_length], rfl⟩
theorem ne_numt (l : List Int) : cmpP .NotEq (.tuple (l.map .int)) (.tuple (l.map .int)) = some false := by
  refine ne_same (by rw [PyData.canLay0, canI]) ?_
  have := depI l
  rw [depth_tuple]
  omega
theorem fun_ints (n : Nat) (cs : List PyData) : ∃ fl : List Int, funD n cs = .tuple (fl.map .int) ∧ fl.length = 2 ^ n ∧ ∀ i ∈ fl, i = 0 ∨ i = 1 := by
  classical
  refine ⟨(setS n).map fun t => if Cn (edg cs (shutN cs t)) 0 1 then 1 else 0, ?_, by rw [List.length_map, setS_len], fun i hi => ?_⟩
  · unfold funD setD
    rw [List.map_map, List.map_map]
    refine congrArg PyData.tuple (List.map_congr_left fun t _ => ?_)
    show funB cs (.tuple t) = .int (if Cn (edg cs (shutN cs t)) 0 1 then 1 else 0)
    by_cases h : Cn (edg cs (shutN cs t)) 0 1
    · rw [funB_1 h, if_pos h]
    · rw [funB_0 h, if_neg h]
  · obtain ⟨t, _, rfl⟩ := List.mem_map.mp hi
    split
    · exact .inr rfl
    · exact .inl rfl
end
end Z

/-! Z23: functions of written nets are reckoned. -/
namespace Z
open PySem
theorem edg_wf {s p : Int} {cs : List PyData} (hg : ∀ c ∈ cs, GoodC s p c) {ns : List Nat} (hn : ∀ i ∈ ns, i < cs.length) : Wf (edg cs ns) p.toNat := fun e he => by
  obtain ⟨i, hi, rfl⟩ := List.mem_map.mp he
  obtain ⟨a, b, w, o, _, a0, ab, bp, q⟩ := ends_of hg (hn i hi)
  rw [q]
  constructor
  · show a.toNat < p.toNat; omega
  · show b.toNat < p.toNat; omega
/-- connected or not, by marks -/
def cnB (E : List (Nat × Nat)) (P : Nat) (v : Nat) : Bool := decide (mk1 (rounds E P (List.range P)) v = 0)
theorem cnB_ok {E : List (Nat × Nat)} {P v : Nat} (hw : Wf E P) (hP : 0 < P) (hv : v < P) : cnB E P v = true ↔ Cn E 0 v := by
  unfold cnB; rw [decide_eq_true_eq]; exact marks_ok hP hw hv
def fnC (n P : Nat) (cs : List PyData) : List Int := (setS n).map fun t => if cnB (edg cs (shutN cs t)) P 1 = true then 1 else 0
theorem funD_eq {n P : Nat} {cs : List PyData} (h2 : 2 ≤ P) (hg : ∀ c ∈ cs, GoodC n P c) : funD n cs = .tuple ((fnC n P cs).map .int) := by
  unfold funD fnC setD
  rw [List.map_map, List.map_map]
  refine congrArg PyData.tuple (List.map_congr_left fun t _ => ?_)
  have hw := edg_wf hg (shutN_ok cs t).2
  rw [Int.toNat_natCast] at hw
  have := cnB_ok hw (v := 1) (by omega) (by omega)
  show funB cs (.tuple t) = .int (if cnB (edg cs (shutN cs t)) P 1 = true then 1 else 0)
  by_cases h : cnB (edg cs (shutN cs t)) P 1 = true
  · rw [if_pos h, funB_1 (this.mp h)]
  · rw [if_neg h, funB_0 fun z => h (this.mpr z)]
end Z

/-! Z24: the edges of shut contacts; nets made of nets, in plain Lean. -/
namespace Z
open PySem
theorem Cn.mono {E F : List (Nat × Nat)} {s v : Nat} (h : ∀ e ∈ E, e ∈ F) (c : Cn E s v) : Cn F s v := by
  induction c with
  | refl => exact .refl
  | fwd _ e ih => exact .fwd ih (h _ e)
  | bwd _ e ih => exact .bwd ih (h _ e)
theorem Cn.edge {E : List (Nat × Nat)} {x y : Nat} (h : (x, y) ∈ E) : Cn E x y := .fwd .refl h
/-- places put on others -/
theorem Cn.sim {E F : List (Nat × Nat)} {g : Nat → Nat} (h : ∀ x y, (x, y) ∈ E → Cn F (g x) (g y)) {s v : Nat} (c : Cn E s v) : Cn F (g s) (g v) := by
  induction c with
  | refl => exact .refl
  | fwd _ e ih => exact ih.trans (h _ _ e)
  | bwd _ e ih => exact ih.trans (h _ _ e).symm
/-- what holds along -/
theorem Cn.along {E : List (Nat × Nat)} {s : Nat} {P : Nat → Prop} (h0 : P s) (h : ∀ x y, (x, y) ∈ E → (P x ↔ P y)) {v : Nat} (c : Cn E s v) : P v := by
  induction c with
  | refl => exact h0
  | fwd _ e ih => exact (h _ _ e).mp ih
  | bwd _ e ih => exact (h _ _ e).mpr ih
/-- is this contact shut -/
def sh1 (t : List PyData) (c : PyData) : Bool := shC t (.tuple [.none, c])
def endC (c : PyData) : Nat × Nat :=
  match c with
  | .tuple [.int a, .int b, _, _] => (a.toNat, b.toNat)
  | _ => (0, 0)
def shE (cs t : List PyData) : List (Nat × Nat) := (cs.filter (sh1 t)).map endC
theorem shC_fst (t : List PyData) (i c : PyData) : shC t (.tuple [i, c]) = sh1 t c := by
  unfold sh1
  cases c with
  | tuple l =>
    rcases l with _ | ⟨x, _ | ⟨y, _ | ⟨z, _ | ⟨w, _ | ⟨v, l⟩⟩⟩⟩⟩ <;> try rfl
    all_goals (try (cases z <;> try rfl))
    all_goals (try (cases w <;> try rfl))
  | _ => rfl
theorem edg_shE (cs t : List PyData) : edg cs (shutN cs t) = shE cs t := by
  have key : ∀ (ds : List PyData) (k : Nat), (∀ j, cs[k + j]? = ds[j]?) →
      (((pairs (rngP (k : Int) ((k + ds.length : Nat) : Int)) ds).filter (shC t)).map fstD).map (fun x => endsOf cs (match x with
        | .int i => i.toNat
        | _ => 0)) = (ds.filter (sh1 t)).map endC := by
    intro ds
    induction ds with
    | nil =>
      intro k _
      have : rngP (k : Int) ((k + ([] : List PyData).length : Nat) : Int) = [] := by
        unfold rngP
        have : (((k + ([] : List PyData).length : Nat) : Int) - (k : Int)).toNat = 0 := by simp
        rw [this]; rfl
      rw [this]; rfl
    | cons c ds ih =>
      intro k hk
      have e1 : rngP (k : Int) ((k + (c :: ds).length : Nat) : Int) = .int (k : Int) :: rngP ((k + 1 : Nat) : Int) ((k + 1 + ds.length : Nat) : Int) := by
        unfold rngP
        have a1 : (((k + (c :: ds).length : Nat) : Int) - (k : Int)).toNat = ds.length + 1 := by simp; omega
        have a2 : (((k + 1 + ds.length : Nat) : Int) - ((k + 1 : Nat) : Int)).toNat = ds.length := by omega
        rw [a1, a2, List.range_succ_eq_map, List.map_cons, List.map_map]
        have e0 : PyData.int ((k : Int) + ((0 : Nat) : Int)) = .int (k : Int) := by simp
        rw [e0]
        refine congrArg (PyData.int (k : Int) :: ·) (List.map_congr_left fun i _ => ?_)
        show PyData.int ((k : Int) + ((i + 1 : Nat) : Int)) = PyData.int (((k + 1 : Nat) : Int) + (i : Int))
        congr 1; omega
      rw [e1]
      have ihk := ih (k + 1) fun j => by
        have := hk (j + 1)
        rw [show k + 1 + j = k + (j + 1) by omega, this]
        rfl
      show (((PyData.tuple [.int (k : Int), c] :: pairs _ ds).filter (shC t)).map fstD).map _ = _
      rw [List.filter_cons, List.filter_cons, shC_fst]
      have e2 : endsOf cs k = endC c := by
        unfold endsOf endC
        have := hk 0
        rw [Nat.add_zero] at this
        rw [this]
        show (match (some c : Option PyData) with
          | some (.tuple [.int a, .int b, _, _]) => (a.toNat, b.toNat)
          | _ => (0, 0)) = _
        cases c with
        | tuple l =>
          rcases l with _ | ⟨x, _ | ⟨y, _ | ⟨z, _ | ⟨w, _ | ⟨v, l⟩⟩⟩⟩⟩ <;> try rfl
          all_goals (try (cases x <;> try rfl))
          all_goals (try (cases y <;> try rfl))
        | _ => rfl
      split
      · rw [List.map_cons, List.map_cons, List.map_cons, ihk]
        show endsOf cs (k : Int).toNat :: _ = _
        rw [Int.toNat_natCast, e2]
      · exact ihk
  have := key cs 0 fun j => by rw [Nat.zero_add]
  unfold edg shutN shE shutL
  rw [List.map_map]
  simp only [Nat.zero_add, Int.natCast_zero] at this
  exact this
theorem funB_1E {cs t : List PyData} (h : Cn (shE cs t) 0 1) : funB cs (.tuple t) = .int 1 := funB_1 (by rw [edg_shE]; exact h)
theorem funB_0E {cs t : List PyData} (h : ¬ Cn (shE cs t) 0 1) : funB cs (.tuple t) = .int 0 := funB_0 (by rw [edg_shE]; exact h)
theorem shE_app (cs ds t : List PyData) : shE (cs ++ ds) t = shE cs t ++ shE ds t := by
  unfold shE; rw [List.filter_append, List.map_append]
theorem shE_lt {s p : Int} {cs t : List PyData} (hg : ∀ c ∈ cs, GoodC s p c) {x y : Nat} (h : (x, y) ∈ shE cs t) : x < y ∧ (y : Int) < p := by
  obtain ⟨c, hc, e⟩ := List.mem_map.mp h
  obtain ⟨a, b, w, o, rfl, a0, ab, bp, _⟩ := hg c (List.mem_filter.mp hc).1
  have e : (a.toNat, b.toNat) = (x, y) := e
  injection e with e1 e2
  omega
/-- a contact's ends put on other places -/
def putN (nm : Nat → Nat) (x : PyData) : PyData :=
  match x with
  | .tuple [.int a, .int b, w, o] => .tuple [.int (min (nm a.toNat) (nm b.toNat) : Nat), .int (max (nm a.toNat) (nm b.toNat) : Nat), w, o]
  | _ => .none
theorem sh1_put {s p : Int} {nm : Nat → Nat} {c : PyData} {t : List PyData} (h : GoodC s p c) : sh1 t (putN nm c) = sh1 t c := by
  obtain ⟨a, b, w, o, rfl, _⟩ := h
  rfl
/-- the edges of a net put on other places -/
theorem shE_put {s p : Int} {nm : Nat → Nat} {cs t : List PyData} (hg : ∀ c ∈ cs, GoodC s p c) : shE (cs.map (putN nm)) t = (shE cs t).map fun e => (min (nm e.1) (nm e.2), max (nm e.1) (nm e.2)) := by
  induction cs with
  | nil => rfl
  | cons c cs ih =>
    have hc := hg c (List.mem_cons_self ..)
    have ih := ih fun x hx => hg x (List.mem_cons_of_mem _ hx)
    unfold shE at ih ⊢
    rw [List.map_cons, List.filter_cons, List.filter_cons, sh1_put hc]
    split
    · rw [List.map_cons, List.map_cons, List.map_cons, ih]
      congr 1
      obtain ⟨a, b, w, o, rfl, a0, ab, _⟩ := hc
      show (((min (nm a.toNat) (nm b.toNat) : Nat) : Int).toNat, ((max (nm a.toNat) (nm b.toNat) : Nat) : Int).toNat) = _
      rw [Int.toNat_natCast, Int.toNat_natCast]
      rfl
    · exact ih
theorem put_mem {E : List (Nat × Nat)} {nm : Nat → Nat} {x y : Nat} (h : (x, y) ∈ E.map fun e => (min (nm e.1) (nm e.2), max (nm e.1) (nm e.2))) : ∃ a b, (a, b) ∈ E ∧ ((x = nm a ∧ y = nm b) ∨ (x = nm b ∧ y = nm a)) := by
  obtain ⟨⟨a, b⟩, hab, e⟩ := List.mem_map.mp h
  injection e with e1 e2
  refine ⟨a, b, hab, ?_⟩
  simp only at e1 e2
  rcases Nat.le_total (nm a) (nm b) with q | q
  · rw [Nat.min_eq_left q] at e1; rw [Nat.max_eq_right q] at e2; exact .inl ⟨e1.symm, e2.symm⟩
  · rw [Nat.min_eq_right q] at e1; rw [Nat.max_eq_left q] at e2; exact .inr ⟨e1.symm, e2.symm⟩
theorem put_cn {E : List (Nat × Nat)} {nm : Nat → Nat} {s v : Nat} (h : Cn E s v) : Cn (E.map fun e => (min (nm e.1) (nm e.2), max (nm e.1) (nm e.2))) (nm s) (nm v) := by
  refine Cn.sim (fun x y hxy => ?_) h
  have : (min (nm x) (nm y), max (nm x) (nm y)) ∈ E.map fun e => (min (nm e.1) (nm e.2), max (nm e.1) (nm e.2)) := List.mem_map.mpr ⟨(x, y), hxy, rfl⟩
  rcases Nat.le_total (nm x) (nm y) with q | q
  · simp only [Nat.min_eq_left q, Nat.max_eq_right q] at this; exact Cn.edge this
  · simp only [Nat.min_eq_right q, Nat.max_eq_left q] at this; exact (Cn.edge this).symm
/-! ### turned about -/
def nmA (x : Nat) : Nat := if x = 0 then 1 else if x = 1 then 0 else x
theorem nmA_nmA (x : Nat) : nmA (nmA x) = x := by unfold nmA; (repeat' split) <;> omega
theorem about_cn {s p : Int} {cs t : List PyData} (hg : ∀ c ∈ cs, GoodC s p c) : Cn (shE (cs.map (putN nmA)) t) 0 1 ↔ Cn (shE cs t) 0 1 := by
  rw [shE_put hg]
  constructor
  · intro h
    have h2 : Cn (shE cs t) (nmA 0) (nmA 1) := Cn.sim (g := nmA) (fun x y hxy => by
      obtain ⟨a, b, hab, q⟩ := put_mem hxy
      rcases q with ⟨rfl, rfl⟩ | ⟨rfl, rfl⟩
      · rw [nmA_nmA, nmA_nmA]; exact Cn.edge hab
      · rw [nmA_nmA, nmA_nmA]; exact (Cn.edge hab).symm) h
    exact Cn.symm h2
  · intro h
    exact Cn.symm (put_cn (nm := nmA) h)
/-! ### in a row, side by side -/
def nmL1 (mid x : Nat) : Nat := if x = 1 then mid else x
def nmR1 (p mid x : Nat) : Nat := if x = 0 then mid else if x = 1 then 1 else x + p - 2
theorem row_cn {E F : List (Nat × Nat)} {p q : Nat} (hp : 2 ≤ p) (hq : 2 ≤ q) (hE : ∀ x y, (x, y) ∈ E → x < p ∧ y < p) (hF : ∀ x y, (x, y) ∈ F → x < q ∧ y < q) :
    Cn (E.map (fun e => (min (nmL1 (p + q - 2) e.1) (nmL1 (p + q - 2) e.2), max (nmL1 (p + q - 2) e.1) (nmL1 (p + q - 2) e.2))) ++ F.map fun e => (min (nmR1 p (p + q - 2) e.1) (nmR1 p (p + q - 2) e.2), max (nmR1 p (p + q - 2) e.1) (nmR1 p (p + q - 2) e.2))) 0 1 ↔ Cn E 0 1 ∧ Cn F 0 1 := by
  constructor
  · intro h
    have key := Cn.along (P := fun v => (∀ x, x < p → v = nmL1 (p + q - 2) x → Cn E 0 x) ∧ (∀ y, y < q → v = nmR1 p (p + q - 2) y → Cn E 0 1 ∧ Cn F 0 y)) ?_ ?_ h
    · exact key.2 1 (by omega) rfl
    · refine ⟨fun x hx e => ?_, fun y hy e => ?_⟩
      · have : x = 0 := by unfold nmL1 at e; split at e <;> omega
        rw [this]; exact .refl
      · exfalso
        unfold nmR1 at e
        split at e
        · omega
        · split at e <;> omega
    · intro x y hxy
      rcases List.mem_append.mp hxy with hxy | hxy
      · have step : ∀ a b, Cn E a b → a < p → b < p → ((∀ x, x < p → nmL1 (p + q - 2) a = nmL1 (p + q - 2) x → Cn E 0 x) ∧ (∀ y, y < q → nmL1 (p + q - 2) a = nmR1 p (p + q - 2) y → Cn E 0 1 ∧ Cn F 0 y)) →
            ((∀ x, x < p → nmL1 (p + q - 2) b = nmL1 (p + q - 2) x → Cn E 0 x) ∧ (∀ y, y < q → nmL1 (p + q - 2) b = nmR1 p (p + q - 2) y → Cn E 0 1 ∧ Cn F 0 y)) := by
          intro a b hab ha hb ⟨h1, _⟩
          have hb1 : Cn E 0 b := (h1 a ha rfl).trans hab
          refine ⟨fun x hx e => ?_, fun y hy e => ?_⟩
          · have : x = b := by unfold nmL1 at e; (repeat' split at e) <;> omega
            rw [this]; exact hb1
          · have : b = 1 ∧ y = 0 := by unfold nmL1 nmR1 at e; (repeat' split at e) <;> omega
            obtain ⟨rfl, rfl⟩ := this
            exact ⟨hb1, .refl⟩
        obtain ⟨a, b, hab, q2⟩ := put_mem hxy
        have ⟨ha, hb⟩ := hE a b hab
        rcases q2 with ⟨rfl, rfl⟩ | ⟨rfl, rfl⟩
        · exact ⟨step a b (Cn.edge hab) ha hb, step b a (Cn.edge hab).symm hb ha⟩
        · exact ⟨step b a (Cn.edge hab).symm hb ha, step a b (Cn.edge hab) ha hb⟩
      · have step : ∀ a b, Cn F a b → a < q → b < q → ((∀ x, x < p → nmR1 p (p + q - 2) a = nmL1 (p + q - 2) x → Cn E 0 x) ∧ (∀ y, y < q → nmR1 p (p + q - 2) a = nmR1 p (p + q - 2) y → Cn E 0 1 ∧ Cn F 0 y)) →
            ((∀ x, x < p → nmR1 p (p + q - 2) b = nmL1 (p + q - 2) x → Cn E 0 x) ∧ (∀ y, y < q → nmR1 p (p + q - 2) b = nmR1 p (p + q - 2) y → Cn E 0 1 ∧ Cn F 0 y)) := by
          intro a b hab ha hb ⟨_, h2⟩
          have ⟨k1, k2⟩ := h2 a ha rfl
          have hb1 : Cn F 0 b := k2.trans hab
          refine ⟨fun x hx e => ?_, fun y hy e => ?_⟩
          · have : x = 1 := by unfold nmL1 nmR1 at e; (repeat' split at e) <;> omega
            rw [this]; exact k1
          · have : y = b := by unfold nmR1 at e; (repeat' split at e) <;> omega
            rw [this]; exact ⟨k1, hb1⟩
        obtain ⟨a, b, hab, q2⟩ := put_mem hxy
        have ⟨ha, hb⟩ := hF a b hab
        rcases q2 with ⟨rfl, rfl⟩ | ⟨rfl, rfl⟩
        · exact ⟨step a b (Cn.edge hab) ha hb, step b a (Cn.edge hab).symm hb ha⟩
        · exact ⟨step b a (Cn.edge hab).symm hb ha, step a b (Cn.edge hab) ha hb⟩
  · rintro ⟨h1, h2⟩
    have a := (put_cn (nm := nmL1 (p + q - 2)) h1).mono (F := E.map (fun e => (min (nmL1 (p + q - 2) e.1) (nmL1 (p + q - 2) e.2), max (nmL1 (p + q - 2) e.1) (nmL1 (p + q - 2) e.2))) ++ F.map fun e => (min (nmR1 p (p + q - 2) e.1) (nmR1 p (p + q - 2) e.2), max (nmR1 p (p + q - 2) e.1) (nmR1 p (p + q - 2) e.2))) (fun e he => List.mem_append_left _ he)
    have b := (put_cn (nm := nmR1 p (p + q - 2)) h2).mono (F := E.map (fun e => (min (nmL1 (p + q - 2) e.1) (nmL1 (p + q - 2) e.2), max (nmL1 (p + q - 2) e.1) (nmL1 (p + q - 2) e.2))) ++ F.map fun e => (min (nmR1 p (p + q - 2) e.1) (nmR1 p (p + q - 2) e.2), max (nmR1 p (p + q - 2) e.1) (nmR1 p (p + q - 2) e.2))) (fun e he => List.mem_append_right _ he)
    exact a.trans b
def nmR2 (p x : Nat) : Nat := if x = 0 then 0 else if x = 1 then 1 else x + p - 2
theorem side_cn {E F : List (Nat × Nat)} {p q : Nat} (hp : 2 ≤ p) (hq : 2 ≤ q) (hE : ∀ x y, (x, y) ∈ E → x < p ∧ y < p) (hF : ∀ x y, (x, y) ∈ F → x < q ∧ y < q) :
    Cn (E.map (fun e => (min (id e.1) (id e.2), max (id e.1) (id e.2))) ++ F.map fun e => (min (nmR2 p e.1) (nmR2 p e.2), max (nmR2 p e.1) (nmR2 p e.2))) 0 1 ↔ Cn E 0 1 ∨ Cn F 0 1 := by
  constructor
  · intro h
    apply Classical.byContradiction
    intro hn
    have n1 : ¬ Cn E 0 1 := fun z => hn (.inl z)
    have n2 : ¬ Cn F 0 1 := fun z => hn (.inr z)
    have key := Cn.along (P := fun v => (∀ x, x < p → v = x → Cn E 0 x) ∧ (∀ y, y < q → v = nmR2 p y → Cn F 0 y)) ?_ ?_ h
    · exact n1 (key.1 1 (by omega) rfl)
    · refine ⟨fun x hx e => ?_, fun y hy e => ?_⟩
      · rw [← e]; exact .refl
      · have : y = 0 := by unfold nmR2 at e; (repeat' split at e) <;> omega
        rw [this]; exact .refl
    · intro x y hxy
      rcases List.mem_append.mp hxy with hxy | hxy
      · have step : ∀ a b, Cn E a b → a < p → b < p → ((∀ x, x < p → a = x → Cn E 0 x) ∧ (∀ y, y < q → a = nmR2 p y → Cn F 0 y)) → ((∀ x, x < p → b = x → Cn E 0 x) ∧ (∀ y, y < q → b = nmR2 p y → Cn F 0 y)) := by
          intro a b hab ha hb ⟨h1, _⟩
          have hb1 : Cn E 0 b := (h1 a ha rfl).trans hab
          refine ⟨fun x hx e => by rw [← e]; exact hb1, fun y hy e => ?_⟩
          have : (y = 0) ∨ (b = 1 ∧ y = 1) := by unfold nmR2 at e; (repeat' split at e) <;> omega
          rcases this with rfl | ⟨rfl, rfl⟩
          · exact .refl
          · exact absurd hb1 n1
        obtain ⟨a, b, hab, q2⟩ := put_mem hxy
        have ⟨ha, hb⟩ := hE a b hab
        simp only [id] at q2
        rcases q2 with ⟨e1, e2⟩ | ⟨e1, e2⟩
        · rw [e1, e2]; exact ⟨step a b (Cn.edge hab) ha hb, step b a (Cn.edge hab).symm hb ha⟩
        · rw [e1, e2]; exact ⟨step b a (Cn.edge hab).symm hb ha, step a b (Cn.edge hab) ha hb⟩
      · have step : ∀ a b, Cn F a b → a < q → b < q → ((∀ x, x < p → nmR2 p a = x → Cn E 0 x) ∧ (∀ y, y < q → nmR2 p a = nmR2 p y → Cn F 0 y)) → ((∀ x, x < p → nmR2 p b = x → Cn E 0 x) ∧ (∀ y, y < q → nmR2 p b = nmR2 p y → Cn F 0 y)) := by
          intro a b hab ha hb ⟨_, h2⟩
          have hb1 : Cn F 0 b := (h2 a ha rfl).trans hab
          refine ⟨fun x hx e => ?_, fun y hy e => ?_⟩
          · have : (x = 0) ∨ (b = 1 ∧ x = 1) := by unfold nmR2 at e; (repeat' split at e) <;> omega
            rcases this with rfl | ⟨rfl, rfl⟩
            · exact .refl
            · exact absurd hb1 n2
          · have : y = b := by unfold nmR2 at e; (repeat' split at e) <;> omega
            rw [this]; exact hb1
        obtain ⟨a, b, hab, q2⟩ := put_mem hxy
        have ⟨ha, hb⟩ := hF a b hab
        rcases q2 with ⟨rfl, rfl⟩ | ⟨rfl, rfl⟩
        · exact ⟨step a b (Cn.edge hab) ha hb, step b a (Cn.edge hab).symm hb ha⟩
        · exact ⟨step b a (Cn.edge hab).symm hb ha, step a b (Cn.edge hab) ha hb⟩
  · rintro (h | h)
    · exact (put_cn (nm := id) h).mono (fun e he => List.mem_append_left _ he)
    · exact (put_cn (nm := nmR2 p) h).mono (fun e he => List.mem_append_right _ he)
/-! ### two places made one -/
def nmM (one other x : Nat) : Nat := if x = other then one else if x > other then x - 1 else x
def unM (other x : Nat) : Nat := if x < other then x else x + 1
theorem unM_nmM {one other x : Nat} (h : one < other) : unM other (nmM one other x) = if x = other then one else x := by
  unfold unM nmM
  (repeat' split) <;> omega
theorem merge_up {E F : List (Nat × Nat)} {one other : Nat} (hF : ∀ x y, (x, y) ∈ E → nmM one other x ≠ nmM one other y → (min (nmM one other x) (nmM one other y), max (nmM one other x) (nmM one other y)) ∈ F) {s v : Nat} (h : Cn E s v) : Cn F (nmM one other s) (nmM one other v) := by
  refine Cn.sim (fun x y hxy => ?_) h
  by_cases e : nmM one other x = nmM one other y
  · rw [e]; exact .refl
  · have := hF x y hxy e
    rcases Nat.le_total (nmM one other x) (nmM one other y) with q | q
    · simp only [Nat.min_eq_left q, Nat.max_eq_right q] at this; exact Cn.edge this
    · simp only [Nat.min_eq_right q, Nat.max_eq_left q] at this; exact (Cn.edge this).symm
theorem merge_down {E F : List (Nat × Nat)} {one other : Nat} (h1 : one < other) (ho : Cn E one other) (hF : ∀ x y, (x, y) ∈ F → ∃ a b, (a, b) ∈ E ∧ ((x = nmM one other a ∧ y = nmM one other b) ∨ (x = nmM one other b ∧ y = nmM one other a))) {s v : Nat} (h : Cn F s v) : Cn E (unM other s) (unM other v) := by
  refine Cn.sim (fun x y hxy => ?_) h
  have near : ∀ a, Cn E (unM other (nmM one other a)) a := fun a => by
    rw [unM_nmM h1]
    split
    · rename_i e; rw [e]; exact ho
    · exact .refl
  obtain ⟨a, b, hab, q⟩ := hF x y hxy
  rcases q with ⟨rfl, rfl⟩ | ⟨rfl, rfl⟩
  · exact ((near a).trans (Cn.edge hab)).trans (near b).symm
  · exact ((near b).trans (Cn.edge hab).symm).trans (near a).symm
end Z

/-! Z25: equal marks; equal texts of equal things; functions between places. -/
namespace Z
open PySem
/-! ### marks -/
section
variable {E : List (Nat × Nat)} {P : Nat}
def upTo (t : Nat) (v : Nat) : Nat := if v ≤ t then 0 else 1
theorem upTo_min (t a b : Nat) : upTo t (min a b) = min (upTo t a) (upTo t b) := by
  unfold upTo
  rcases Nat.le_total a b with h | h
  · rw [Nat.min_eq_left h]; (repeat' split) <;> omega
  · rw [Nat.min_eq_right h]; (repeat' split) <;> omega
theorem mk1_map {t : Nat} {M : List Nat} {v : Nat} (hv : v < M.length) : mk1 (M.map (upTo t)) v = upTo t (mk1 M v) := by
  unfold mk1
  rw [List.getD_eq_getElem?_getD, List.getD_eq_getElem?_getD, List.getElem?_map, List.getElem?_eq_getElem hv]
  rfl
theorem estep_map {t : Nat} {M : List Nat} {e : Nat × Nat} (h1 : e.1 < M.length) (h2 : e.2 < M.length) : estep (M.map (upTo t)) e = (estep M e).map (upTo t) := by
  unfold estep
  rw [mk1_map h1, mk1_map h2, ← upTo_min, List.map_set, List.map_set]
theorem round_map {t : Nat} {L : List (Nat × Nat)} : ∀ {M : List Nat}, (∀ e ∈ L, e.1 < M.length ∧ e.2 < M.length) → round L (M.map (upTo t)) = (round L M).map (upTo t) := by
  induction L with
  | nil => intro M _; rfl
  | cons e L ih =>
    intro M hw
    have he := hw e (List.mem_cons_self ..)
    show round L (estep (M.map (upTo t)) e) = (round L (estep M e)).map (upTo t)
    rw [estep_map he.1 he.2]
    exact ih fun x hx => by rw [estep_len]; exact hw x (List.mem_cons_of_mem _ hx)
theorem rounds_map {t : Nat} (hw : Wf E P) : ∀ (n : Nat) {M : List Nat}, M.length = P → rounds E n (M.map (upTo t)) = (rounds E n M).map (upTo t)
  | 0, M, _ => rfl
  | n + 1, M, hl => by
    show rounds E n (round E (M.map (upTo t))) = (rounds E n (round E M)).map (upTo t)
    rw [round_map fun e he => by rw [hl]; exact hw e he]
    exact rounds_map hw n (by rw [round_len]; exact hl)
theorem range_mk1 {v : Nat} (hv : v < P) : mk1 (List.range P) v = v := by
  unfold mk1
  rw [List.getD_eq_getElem?_getD, List.getElem?_range hv]
  rfl
theorem marks_eq (hw : Wf E P) {u v : Nat} (hu : u < P) (hv : v < P) : mk1 (rounds E P (List.range P)) u = mk1 (rounds E P (List.range P)) v ↔ Cn E u v := by
  have hl : (List.range P).length = P := List.length_range
  have s0 : Sound E P (List.range P) := fun v hv => by rw [range_mk1 hv]; exact .refl
  have sd := rounds_sound hw P hl s0
  have lenM : (rounds E P (List.range P)).length = P := by rw [rounds_len]; exact hl
  have edge : ∀ e ∈ E, mk1 (rounds E P (List.range P)) e.1 = mk1 (rounds E P (List.range P)) e.2 := by
    have half : ∀ t : Nat, ∀ e ∈ E, (mk1 (rounds E P (List.range P)) e.1 ≤ t ↔ mk1 (rounds E P (List.range P)) e.2 ≤ t) := by
      intro t e he
      have hP : 0 < P := Nat.lt_of_le_of_lt (Nat.zero_le _) (hw e he).1
      have hl2 : ((List.range P).map (upTo t)).length = P := by rw [List.length_map]; exact hl
      have c0 : 1 ≤ cnt P ((List.range P).map (upTo t)) := List.countP_pos_iff.mpr ⟨0, List.mem_range.mpr hP, decide_eq_true (by rw [mk1_map (by rw [hl]; exact hP), range_mk1 hP]; rfl)⟩
      have cl : Closed E (rounds E P ((List.range P).map (upTo t))) := by
        rcases rounds_closed hw P hl2 c0 with q | q
        · exact q
        · have : cnt P (rounds E P ((List.range P).map (upTo t))) ≤ P := by
            unfold cnt
            exact Nat.le_trans List.countP_le_length (by rw [List.length_range]; exact Nat.le_refl _)
          omega
      have := cl e he
      rw [rounds_map hw P hl, mk1_map (by rw [lenM]; exact (hw e he).1), mk1_map (by rw [lenM]; exact (hw e he).2)] at this
      unfold upTo at this
      constructor
      · intro h
        rw [if_pos h] at this
        have := this.mp rfl
        by_cases h2 : mk1 (rounds E P (List.range P)) e.2 ≤ t
        · exact h2
        · rw [if_neg h2] at this; cases this
      · intro h
        rw [if_pos h] at this
        have := this.mpr rfl
        by_cases h2 : mk1 (rounds E P (List.range P)) e.1 ≤ t
        · exact h2
        · rw [if_neg h2] at this; cases this
    intro e he
    have a := (half _ e he).mp (Nat.le_refl _)
    have b := (half _ e he).mpr (Nat.le_refl _)
    omega
  constructor
  · intro h
    have a := sd u hu
    have b := sd v hv
    rw [h] at a
    exact a.symm.trans b
  · intro h
    have : ∀ x, Cn E u x → mk1 (rounds E P (List.range P)) u = mk1 (rounds E P (List.range P)) x := by
      intro x hx
      induction hx with
      | refl => rfl
      | fwd _ e ih => exact ih.trans (edge _ e)
      | bwd _ e ih => exact ih.trans (edge _ e).symm
    exact this v h
theorem marks_le (hw : Wf E P) {v : Nat} (hv : v < P) : mk1 (rounds E P (List.range P)) v ≤ v ∧ Cn E (mk1 (rounds E P (List.range P)) v) v := by
  have hl : (List.range P).length = P := List.length_range
  have s0 : Sound E P (List.range P) := fun v hv => by rw [range_mk1 hv]; exact .refl
  refine ⟨?_, rounds_sound hw P hl s0 v hv⟩
  have dec : ∀ (L : List (Nat × Nat)) (M : List Nat), (∀ e ∈ L, e.1 < M.length ∧ e.2 < M.length) → mk1 (round L M) v ≤ mk1 M v := by
    intro L
    induction L with
    | nil => intro M _; exact Nat.le_refl _
    | cons e L ih =>
      intro M h
      have he := h e (List.mem_cons_self ..)
      have := ih (estep M e) fun x hx => by rw [estep_len]; exact h x (List.mem_cons_of_mem _ hx)
      refine Nat.le_trans this ?_
      rw [estep_at he.1 he.2]
      split
      · rename_i hh
        rcases hh with hh | hh <;> subst hh <;> omega
      · exact Nat.le_refl _
  have dec2 : ∀ (n : Nat) (M : List Nat), M.length = P → mk1 (rounds E n M) v ≤ mk1 M v := by
    intro n
    induction n with
    | zero => intro M _; exact Nat.le_refl _
    | succ n ih => intro M hM; exact Nat.le_trans (ih (round E M) (by rw [round_len]; exact hM)) (dec E M fun e he => by rw [hM]; exact hw e he)
  have := dec2 P (List.range P) hl
  rwa [range_mk1 hv] at this
end
/-! ### texts -/
mutual
/-- of whole numbers, truths, None, in lists and tuples -/
def smP : PyData → Bool
  | .none => true
  | .bool _ => true
  | .int i => decide (i.natAbs < 10 ^ 12)
  | .list xs => smPs xs
  | .tuple xs => smPs xs
  | .str _ => false
  | .dict _ => false
def smPs : List PyData → Bool
  | [] => true
  | x :: xs => smP x && smPs xs
end
mutual
/-- how many things -/
def ndP : PyData → Nat
  | .list xs => 1 + ndPs xs
  | .tuple xs => 1 + ndPs xs
  | _ => 1
def ndPs : List PyData → Nat
  | [] => 0
  | x :: xs => ndP x + ndPs xs
end
theorem log_lt {i : Int} (h : i.natAbs < 10 ^ 12) : i.natAbs.log2 < 40 := by
  by_cases h0 : i.natAbs = 0
  · rw [h0]; decide
  · exact (Nat.log2_lt h0).mpr (Nat.lt_trans h (by decide))
mutual
theorem smP_show : ∀ d : PyData, smP d = true → d.showable = true ∧ d.canLay0 = true ∧ d.intsShort 13 = true ∧ d.weight + 1 ≤ 41 * ndP d
  | .none, _ => ⟨rfl, rfl, rfl, by rw [PyData.weight, ndP] <;> simp⟩
  | .bool b, _ => ⟨rfl, rfl, rfl, by rw [PyData.weight, ndP] <;> simp⟩
  | .int i, h => by
    have h : i.natAbs < 10 ^ 12 := by simpa [smP] using h
    have l := log_lt h
    refine ⟨by rw [PyData.showable]; exact decide_eq_true (by omega), rfl, by rw [PyData.intsShort]; exact decide_eq_true (PyData.shown_int_le h), ?_⟩
    have e : ndP (.int i) = 1 := by rw [ndP] <;> simp
    rw [PyData.weight, e]
    split <;> omega
  | .list xs, h => by
    obtain ⟨a, b, c, d⟩ := smPs_show xs (by simpa [smP] using h)
    refine ⟨by rw [PyData.showable]; exact a, by rw [PyData.canLay0]; exact b, by rw [PyData.intsShort]; exact c, ?_⟩
    rw [PyData.weight, ndP]
    omega
  | .tuple xs, h => by
    obtain ⟨a, b, c, d⟩ := smPs_show xs (by simpa [smP] using h)
    refine ⟨by rw [PyData.showable]; exact a, by rw [PyData.canLay0]; exact b, by rw [PyData.intsShort]; exact c, ?_⟩
    rw [PyData.weight, ndP]
    omega
  | .str _, h => by simp [smP] at h
  | .dict _, h => by simp [smP] at h
theorem smPs_show : ∀ ds : List PyData, smPs ds = true → PyData.showableAll ds = true ∧ PyData.canLayAll0 ds = true ∧ PyData.intsShortAll 13 ds = true ∧ PyData.weightAll ds ≤ 41 * ndPs ds
  | [], _ => ⟨rfl, rfl, rfl, by rw [PyData.weightAll]; omega⟩
  | x :: xs, h => by
    have h : smP x = true ∧ smPs xs = true := by simpa [smPs] using h
    obtain ⟨a, b, c, d⟩ := smP_show x h.1
    obtain ⟨a', b', c', d'⟩ := smPs_show xs h.2
    refine ⟨by rw [PyData.showableAll, a, a']; rfl, by rw [PyData.canLayAll0, b, b']; rfl, by rw [PyData.intsShortAll, c, c']; rfl, ?_⟩
    rw [PyData.weightAll, ndPs]
    omega
end
/-! ### the signs of such texts -/
def OkT (s : Str) : Prop := ∀ c ∈ s.cps.toList, c < 0x110000
theorem okT_app {a b : Str} (ha : OkT a) (hb : OkT b) : OkT (a ++ b) := fun c hc => by
  have e : (a ++ b).cps.toList = a.cps.toList ++ b.cps.toList := by
    show (a.cps ++ b.cps).toList = _
    simp
  rw [e] at hc
  rcases List.mem_append.mp hc with h | h
  · exact ha c h
  · exact hb c h
theorem okT_of (s : String) : OkT (Str.ofString s) := fun c hc => by
  rw [Str.ofString_eq_toList] at hc
  have hc : c ∈ s.toList.map Char.toNat := by simpa using hc
  obtain ⟨ch, _, rfl⟩ := List.mem_map.mp hc
  have := ch.valid
  rcases this with h | ⟨_, h⟩
  · show ch.val.toNat < _
    have : ch.val.toNat < 0xd800 := h
    omega
  · show ch.val.toNat < _
    exact h
theorem okT_join {sep : Str} (hs : OkT sep) : ∀ {ts : List Str}, (∀ t ∈ ts, OkT t) → OkT (Str.join sep ts)
  | [], _ => fun c hc => by
    have : c ∈ ([] : List Nat) := hc
    cases this
  | [x], h => h x (by simp)
  | x :: y :: r, h => okT_app (okT_app (h x (by simp)) hs) (okT_join hs (ts := y :: r) fun t ht => h t (List.mem_cons_of_mem _ ht))
theorem okT_strOk {s : Str} (h : OkT s) : PyData.strOk s = true := by
  unfold PyData.strOk
  rw [Array.all_eq_true_iff_forall_mem]
  intro c hc
  exact decide_eq_true (h c (Array.mem_toList_iff.mpr hc))
mutual
theorem shown_okT : ∀ d : PyData, smP d = true → OkT d.shown
  | .none, _ => by rw [PyData.shown]; exact okT_of _
  | .bool b, _ => by
    rw [PyData.shown]
    cases b <;> exact okT_of _
  | .int i, _ => by rw [PyData.shown]; exact okT_of _
  | .list xs, h => by
    rw [PyData.shown, listText_eq_join]
    exact okT_app (okT_app (okT_of _) (okT_join (okT_of _) (showns_okT xs (by simpa [smP] using h)))) (okT_of _)
  | .tuple xs, h => by
    rw [PyData.shown]
    unfold tupleText
    exact okT_app (okT_app (okT_of _) (okT_join (okT_of _) (showns_okT xs (by simpa [smP] using h)))) (okT_of _)
  | .str _, h => by simp [smP] at h
  | .dict _, h => by simp [smP] at h
theorem showns_okT : ∀ ds : List PyData, smPs ds = true → ∀ t ∈ PyData.shownAll ds, OkT t
  | [], _ => fun t h => by rw [PyData.shownAll] at h; cases h
  | x :: xs, h => by
    have h : smP x = true ∧ smPs xs = true := by simpa [smPs] using h
    intro t ht
    rw [PyData.shownAll] at ht
    rcases List.mem_cons.mp ht with rfl | ht
    · exact shown_okT x h.1
    · exact showns_okT xs h.2 t ht
end
/-- a thing whose text may be asked for -/
structure Sm1 (x : PyData) : Prop where
  sm : smP x = true
  nd : ndP x ≤ 25000
  dp : x.depth ≤ 64
theorem repr_ok {x : PyData} (h : Sm1 x) : opP .repr [x] = some (.str x.shown) := by
  obtain ⟨a, b, c, d⟩ := smP_show x h.sm
  have e := PyData.shown_fits (B := 13) (by decide) (by decide) (PyData.leavesShort_of_canLay0 13 x b c) (by have := h.nd; omega)
  unfold opP
  simp only [a, b, Bool.true_and]
  rw [if_pos]
  rw [Bool.and_eq_true]
  exact ⟨decide_eq_true h.dp, decide_eq_true (by rw [lim_eq]; exact e)⟩
theorem eq_str (s : Str) (h : PyData.strOk s = true) : cmpP .Eq (.str s) (.str s) = some true := by
  have c : PyData.canLay0 (.str s) = true := by rw [PyData.canLay0]; exact h
  have : eqOk (.str s) (.str s) = true := by
    unfold eqOk
    rw [c]
    simp [PyData.depth]
  rw [cmp_eqP this]
  congr 1
  exact eqv_refl _ c
def b_law_same : Fd := ⟨2, 2, (.cons (.ret (.cmp .Eq (.op .repr false (.cons (.var 0) .nil)) (.op .repr false (.cons (.var 1) .nil)))) .nil)⟩
/-- the same thing twice, by value or an object -/
theorem same_call {G : Tab} (g_law_same : G "_law_same" = some b_law_same) {k : Nat} {m : Mem} {d1 d2 : D} {x : PyData} (h1 : snap m d1 = some x) (h2 : snap m d2 = some x) (hx : Sm1 x) :
    Ok (callF (run G (k + 1)) false "_law_same" [d1, d2] m) fun d m' => m' = m ∧ d = .b (.bool true) := by
  refine call_b (run_ok g_law_same ⟨rfl, by decide⟩ ?_)
  rw [show startE b_law_same.n [d1, d2] = [some d1, some d2] from rfl]
  unfold b_law_same
  have e1 : ∀ P : PyData → Prop, Snap m d1 P = P x := fun P => by unfold Snap; rw [h1]
  have e2 : ∀ P : PyData → Prop, Snap m d2 P = P x := fun P => by unfold Snap; rw [h2]
  (simp only [↓stk_call, ↓stk_comp, ↓stk_rows, ↓stk_rc, ↓stk_for, ↓stk_whl, ↓stk_said, ↓Br.t, ↓Br.f, Br.t, Br.f, ↓w_var, ↓w_int, ↓w_bool, ↓w_none, ↓w_str, ↓w_glob, ↓w_bin, ↓w_neg, ↓w_not, ↓w_cmp, ↓w_chain, ↓w_and, ↓w_or, ↓w_ife, ↓w_tup, ↓w_lst, ↓w_ix, ↓w_ixR, ↓w_rowc, ↓w_rcomp, ↓w_sl0, ↓w_slL, ↓w_slH, ↓w_slB, ↓w_bi, ↓w_isi, ↓w_op, ↓w_idx, ↓w_sm, isS_s, ↓w_dic, ↓w_me, ↓w_call, ↓w_pick, ↓w_isx, ↓w_comp, ↓w_compI, ↓w_nil, ↓w_cons, ↓w_seq, ↓w_rng1, ↓w_rng2, ↓w_enm, ↓w_zip, ↓w_zip3, ↓s_nil, ↓s_cons, ↓s_set, ↓s_setT, ↓s_setP, ↓s_setI, ↓s_expr, ↓s_ife, ↓s_whl, ↓s_for, ↓s_ret, ↓s_retN, ↓s_pass, ↓s_brk, ↓s_cont, ↓Ok.ok, ↓Ok.bind, Sm.s, Sm.map, Sm.ite, Snap.b, In.i, Bl.b, Rf.r, mk_f, mk_t, ixF_b, ixF_r, ixF_s, pickF_w, isxF_n, isxF_e, biF_len, biF_b, biF_r, opF_w, isL_b, isL_r, Snaps, itSeq_l, itSeq_t, itZip_l, itZip_t, itZip3_w, binP, intBin, cmp_lt, cmp_le, cmp_gt, cmp_ge, cmp_eqi, cmp_nei, cmp_eqb, cmp_neb, cmp_is, cmp_isnot, cmp_isn, cmp_isnotn, isi_int, isi_bool, isi_tup, isi_lst, isi_str, isI, isBo, isTu, isLi, isSt, truth, ixP, slP, biP, owns, own, at_0, at_1, at_2, at_3, set_0, setsD, asgn, asgnT, sets, List.getElem?_cons_zero, List.getElem?_cons_succ, List.set_cons_zero, List.set_cons_succ, List.length_cons, List.length_nil, decide_eq_true_eq, Bool.not_true, Bool.not_false, Bool.not_eq_true', decide_eq_false_iff_not, Bool.true_eq_false, Bool.false_eq_true, if_true, if_false, true_and, e1, e2, repr_ok hx, eq_str _ (okT_strOk (shown_okT x hx.sm))]; try (first | refine Br.d ?_ | refine Br.nd ?_ | refine Br.nb ?_ | refine Br.b ?_))
  exact ⟨_, rfl, fun _ => rfl, by rw [List.take_length], rfl⟩
end Z

/-! Z26: numbers; functions between places. -/
namespace Z
open PySem
def b_is_number : Fd := ⟨3, 3, (.cons (.ret (.and (.isi (.var 0) "int") (.and (.not (.isi (.var 0) "bool")) (.chain .LtE .LtE (.var 1) (.var 0) (.var 2))))) .nil)⟩
def b_joined_at : Fd := ⟨3, 4, (.cons (.ret (.bi .tuple false (.cons (.comp false (.one 3) (.seq (.call false "settings" (.cons (.ix (.var 0) (.int 0)) .nil))) (.bi .int false (.cons (.cmp .In (.var 2) (.call false "reached" (.cons (.var 0) (.cons (.call false "shut_at" (.cons (.var 0) (.cons (.var 3) .nil))) (.cons (.var 1) .nil))))) .nil))) .nil))) .nil)⟩
def b_between : Fd := ⟨3, 4, (.cons (.for (.one 3) (.seq (.tup (.cons (.var 1) (.cons (.var 2) .nil)))) (.cons (.ife (.not (.call false "is_number" (.cons (.var 3) (.cons (.int 0) (.cons (.bin .Sub (.ix (.var 0) (.int 1)) (.int 1)) .nil))))) (.cons (.raise "NoPlace") .nil) .nil) .nil)) (.cons (.ret (.call false "joined_at" (.cons (.var 0) (.cons (.var 1) (.cons (.var 2) .nil))))) .nil))⟩
def b_all_pairs : Fd := ⟨1, 4, (.cons (.set 1 (.lst true .nil)) (.cons (.for (.one 2) (.rng1 (.ix (.var 0) (.int 1))) (.cons (.expr (.me .extend (.var 1) (.cons (.comp false (.one 3) (.rng2 (.bin .Add (.var 2) (.int 1)) (.ix (.var 0) (.int 1))) (.tup (.cons (.var 2) (.cons (.var 3) .nil)))) .nil))) .nil)) (.cons (.ret (.var 1)) .nil)))⟩
def b_always_joined : Fd := ⟨1, 2, (.cons (.ret (.compI false (.one 1) (.seq (.call false "all_pairs" (.cons (.var 0) .nil))) (.cmp .NotIn (.int 0) (.call false "joined_at" (.cons (.var 0) (.cons (.ix (.var 1) (.int 0)) (.cons (.ix (.var 1) (.int 1)) .nil))))) (.var 1))) .nil)⟩
def b_never_joined : Fd := ⟨1, 2, (.cons (.ret (.compI false (.one 1) (.seq (.call false "all_pairs" (.cons (.var 0) .nil))) (.cmp .NotIn (.int 1) (.call false "joined_at" (.cons (.var 0) (.cons (.ix (.var 1) (.int 0)) (.cons (.ix (.var 1) (.int 1)) .nil))))) (.var 1))) .nil)⟩
section
variable {G : Tab} {k : Nat} {m : Mem}
/-! ### is_number -/
def isN (x : PyData) (lo hi : Int) : Bool :=
  match x with
  | .int i => decide (lo ≤ i ∧ i ≤ hi)
  | _ => false
theorem isn_run (g : G "is_number" = some b_is_number) (x : PyData) (lo hi : Int) : Ok (run G (k + 1) "is_number" [.b x, .b (.int lo), .b (.int hi)] m) fun d m' => m' = m ∧ d = .b (.bool (isN x lo hi)) := by
  refine run_ok g ⟨rfl, by decide⟩ ?_
  rw [show startE b_is_number.n [.b x, .b (.int lo), .b (.int hi)] = [some (.b x), some (.b (.int lo)), some (.b (.int hi))] from rfl]
  unfold b_is_number
  cases x with
  | int i =>
    try (simp only [↓stk_call, ↓stk_comp, ↓stk_rows, ↓stk_rc, ↓stk_for, ↓stk_whl, ↓stk_said, ↓Br.t, ↓Br.f, Br.t, Br.f, ↓w_var, ↓w_int, ↓w_bool, ↓w_none, ↓w_str, ↓w_glob, ↓w_bin, ↓w_neg, ↓w_not, ↓w_cmp, ↓w_chain, ↓w_and, ↓w_or, ↓w_ife, ↓w_tup, ↓w_lst, ↓w_ix, ↓w_ixR, ↓w_rowc, ↓w_rcomp, ↓w_sl0, ↓w_slL, ↓w_slH, ↓w_slB, ↓w_bi, ↓w_isi, ↓w_op, ↓w_idx, ↓w_sm, isS_s, ↓w_dic, ↓w_me, ↓w_call, ↓w_pick, ↓w_isx, ↓w_comp, ↓w_compI, ↓w_nil, ↓w_cons, ↓w_seq, ↓w_rng1, ↓w_rng2, ↓w_enm, ↓w_zip, ↓w_zip3, ↓s_nil, ↓s_cons, ↓s_set, ↓s_setT, ↓s_setP, ↓s_setI, ↓s_expr, ↓s_ife, ↓s_whl, ↓s_for, ↓s_ret, ↓s_retN, ↓s_pass, ↓s_brk, ↓s_cont, ↓Ok.ok, ↓Ok.bind, Sm.s, Sm.map, Sm.ite, Snap.b, In.i, Bl.b, Rf.r, mk_f, mk_t, ixF_b, ixF_r, ixF_s, pickF_w, isxF_n, isxF_e, biF_len, biF_b, biF_r, opF_w, isL_b, isL_r, Snaps, itSeq_l, itSeq_t, itZip_l, itZip_t, itZip3_w, binP, intBin, cmp_lt, cmp_le, cmp_gt, cmp_ge, cmp_eqi, cmp_nei, cmp_eqb, cmp_neb, cmp_is, cmp_isnot, cmp_isn, cmp_isnotn, isi_int, isi_bool, isi_tup, isi_lst, isi_str, isI, isBo, isTu, isLi, isSt, truth, ixP, slP, biP, owns, own, at_0, at_1, at_2, at_3, set_0, setsD, asgn, asgnT, sets, List.getElem?_cons_zero, List.getElem?_cons_succ, List.set_cons_zero, List.set_cons_succ, List.length_cons, List.length_nil, decide_eq_true_eq, Bool.not_true, Bool.not_false, Bool.not_eq_true', decide_eq_false_iff_not, Bool.true_eq_false, Bool.false_eq_true, if_true, if_false, true_and]; try (first | refine Br.d ?_ | refine Br.nd ?_ | refine Br.nb ?_ | refine Br.b ?_))
    split
    · rename_i h; (simp only [↓stk_call, ↓stk_comp, ↓stk_rows, ↓stk_rc, ↓stk_for, ↓stk_whl, ↓stk_said, ↓Br.t, ↓Br.f, Br.t, Br.f, ↓w_var, ↓w_int, ↓w_bool, ↓w_none, ↓w_str, ↓w_glob, ↓w_bin, ↓w_neg, ↓w_not, ↓w_cmp, ↓w_chain, ↓w_and, ↓w_or, ↓w_ife, ↓w_tup, ↓w_lst, ↓w_ix, ↓w_ixR, ↓w_rowc, ↓w_rcomp, ↓w_sl0, ↓w_slL, ↓w_slH, ↓w_slB, ↓w_bi, ↓w_isi, ↓w_op, ↓w_idx, ↓w_sm, isS_s, ↓w_dic, ↓w_me, ↓w_call, ↓w_pick, ↓w_isx, ↓w_comp, ↓w_compI, ↓w_nil, ↓w_cons, ↓w_seq, ↓w_rng1, ↓w_rng2, ↓w_enm, ↓w_zip, ↓w_zip3, ↓s_nil, ↓s_cons, ↓s_set, ↓s_setT, ↓s_setP, ↓s_setI, ↓s_expr, ↓s_ife, ↓s_whl, ↓s_for, ↓s_ret, ↓s_retN, ↓s_pass, ↓s_brk, ↓s_cont, ↓Ok.ok, ↓Ok.bind, Sm.s, Sm.map, Sm.ite, Snap.b, In.i, Bl.b, Rf.r, mk_f, mk_t, ixF_b, ixF_r, ixF_s, pickF_w, isxF_n, isxF_e, biF_len, biF_b, biF_r, opF_w, isL_b, isL_r, Snaps, itSeq_l, itSeq_t, itZip_l, itZip_t, itZip3_w, binP, intBin, cmp_lt, cmp_le, cmp_gt, cmp_ge, cmp_eqi, cmp_nei, cmp_eqb, cmp_neb, cmp_is, cmp_isnot, cmp_isn, cmp_isnotn, isi_int, isi_bool, isi_tup, isi_lst, isi_str, isI, isBo, isTu, isLi, isSt, truth, ixP, slP, biP, owns, own, at_0, at_1, at_2, at_3, set_0, setsD, asgn, asgnT, sets, List.getElem?_cons_zero, List.getElem?_cons_succ, List.set_cons_zero, List.set_cons_succ, List.length_cons, List.length_nil, decide_eq_true_eq, Bool.not_true, Bool.not_false, Bool.not_eq_true', decide_eq_false_iff_not, Bool.true_eq_false, Bool.false_eq_true, if_true, if_false, true_and]; try (first | refine Br.d ?_ | refine Br.nd ?_ | refine Br.nb ?_ | refine Br.b ?_)); simp [isN, h]
    · rename_i h; simp [isN, h]
  | _ => (simp only [↓stk_call, ↓stk_comp, ↓stk_rows, ↓stk_rc, ↓stk_for, ↓stk_whl, ↓stk_said, ↓Br.t, ↓Br.f, Br.t, Br.f, ↓w_var, ↓w_int, ↓w_bool, ↓w_none, ↓w_str, ↓w_glob, ↓w_bin, ↓w_neg, ↓w_not, ↓w_cmp, ↓w_chain, ↓w_and, ↓w_or, ↓w_ife, ↓w_tup, ↓w_lst, ↓w_ix, ↓w_ixR, ↓w_rowc, ↓w_rcomp, ↓w_sl0, ↓w_slL, ↓w_slH, ↓w_slB, ↓w_bi, ↓w_isi, ↓w_op, ↓w_idx, ↓w_sm, isS_s, ↓w_dic, ↓w_me, ↓w_call, ↓w_pick, ↓w_isx, ↓w_comp, ↓w_compI, ↓w_nil, ↓w_cons, ↓w_seq, ↓w_rng1, ↓w_rng2, ↓w_enm, ↓w_zip, ↓w_zip3, ↓s_nil, ↓s_cons, ↓s_set, ↓s_setT, ↓s_setP, ↓s_setI, ↓s_expr, ↓s_ife, ↓s_whl, ↓s_for, ↓s_ret, ↓s_retN, ↓s_pass, ↓s_brk, ↓s_cont, ↓Ok.ok, ↓Ok.bind, Sm.s, Sm.map, Sm.ite, Snap.b, In.i, Bl.b, Rf.r, mk_f, mk_t, ixF_b, ixF_r, ixF_s, pickF_w, isxF_n, isxF_e, biF_len, biF_b, biF_r, opF_w, isL_b, isL_r, Snaps, itSeq_l, itSeq_t, itZip_l, itZip_t, itZip3_w, binP, intBin, cmp_lt, cmp_le, cmp_gt, cmp_ge, cmp_eqi, cmp_nei, cmp_eqb, cmp_neb, cmp_is, cmp_isnot, cmp_isn, cmp_isnotn, isi_int, isi_bool, isi_tup, isi_lst, isi_str, isI, isBo, isTu, isLi, isSt, truth, ixP, slP, biP, owns, own, at_0, at_1, at_2, at_3, set_0, setsD, asgn, asgnT, sets, List.getElem?_cons_zero, List.getElem?_cons_succ, List.set_cons_zero, List.set_cons_succ, List.length_cons, List.length_nil, decide_eq_true_eq, Bool.not_true, Bool.not_false, Bool.not_eq_true', decide_eq_false_iff_not, Bool.true_eq_false, Bool.false_eq_true, if_true, if_false, true_and]; try (first | refine Br.d ?_ | refine Br.nd ?_ | refine Br.nb ?_ | refine Br.b ?_)); simp [isN]
theorem isn_call (g : G "is_number" = some b_is_number) (x : PyData) (lo hi : Int) : Ok (callF (run G (k + 1)) false "is_number" [.b x, .b (.int lo), .b (.int hi)] m) fun d m' => m' = m ∧ d = .b (.bool (isN x lo hi)) := by
  refine call_b ((isn_run g x lo hi).mono ?_)
  rintro _ _ ⟨rfl, rfl⟩
  exact ⟨_, rfl, fun _ => rfl, by rw [List.take_length], rfl⟩
/-! ### joined_at -/
open Classical in
noncomputable def jI (cs t : List PyData) (a b : Nat) : Int := if Cn (edg cs (shutN cs t)) a b then 1 else 0
noncomputable def jB (cs : List PyData) (a b : Nat) (x : PyData) : PyData :=
  match x with
  | .tuple t => .int (jI cs t a b)
  | _ => .none
noncomputable def jL (n : Nat) (cs : List PyData) (a b : Nat) : List Int := (setS n).map fun t => jI cs t a b
noncomputable def jD (n : Nat) (cs : List PyData) (a b : Nat) : PyData := .tuple ((jL n cs a b).map .int)
theorem jB_map (n : Nat) (cs : List PyData) (a b : Nat) : (setD n).map (jB cs a b) = (jL n cs a b).map .int := by
  unfold setD jL
  rw [List.map_map, List.map_map]
  rfl
theorem jI_symm (cs t : List PyData) (a b : Nat) : jI cs t a b = jI cs t b a := by
  unfold jI
  by_cases h : Cn (edg cs (shutN cs t)) a b
  · rw [if_pos h, if_pos h.symm]
  · rw [if_neg h, if_neg fun z => h z.symm]
theorem jL_symm (n : Nat) (cs : List PyData) (a b : Nat) : jL n cs a b = jL n cs b a := List.map_congr_left fun t _ => jI_symm cs t a b
theorem jL_self (n : Nat) (cs : List PyData) (a : Nat) : jL n cs a a = List.replicate (2 ^ n) 1 := by
  unfold jL
  rw [← setS_len n, ← List.map_const']
  exact List.map_congr_left fun t _ => by unfold jI; rw [if_pos .refl]
theorem jL_len (n : Nat) (cs : List PyData) (a b : Nat) : (jL n cs a b).length = 2 ^ n := by unfold jL; rw [List.length_map, setS_len]
theorem jL_bit {n : Nat} {cs : List PyData} {a b : Nat} {i : Int} (h : i ∈ jL n cs a b) : i = 0 ∨ i = 1 := by
  unfold jL at h
  obtain ⟨t, _, rfl⟩ := List.mem_map.mp h
  unfold jI
  split
  · exact .inr rfl
  · exact .inl rfl
theorem setD_len {n : Nat} (hn : n ≤ 4) : (setD n).length ≤ 16 := by
  unfold setD
  rw [List.length_map, setS_len]
  exact Nat.pow_le_pow_right (by decide) hn
theorem zjoin_call (g_joined_at : G "joined_at" = some b_joined_at) (g_settings : G "settings" = some b_settings) (g_shut_at : G "shut_at" = some b_shut_at) (g_reached : G "reached" = some b_reached) {n a b : Nat} {p : Int} {cs : List PyData} {r : Bool} (hn : n ≤ 4) (hc : cs.length ≤ 16) (hp : p ≤ 1000) (hg : ∀ c ∈ cs, GoodC n p c) (ha : (a : Int) < p) :
    Ok (callF (run G (k + 2)) r "joined_at" [.b (.tuple [.int n, .int p, .tuple cs]), .b (.int a), .b (.int b)] m) fun d m' => m' = m ∧ d = .b (jD n cs a b) := by
  refine call_b (run_ok g_joined_at ⟨rfl, by decide⟩ ?_)
  rw [show startE b_joined_at.n [.b (.tuple [.int n, .int p, .tuple cs]), .b (.int a), .b (.int b)] = [some (.b (.tuple [.int n, .int p, .tuple cs])), some (.b (.int a)), some (.b (.int b)), none] from rfl]
  unfold b_joined_at
  (simp only [↓stk_call, ↓stk_comp, ↓stk_rows, ↓stk_rc, ↓stk_for, ↓stk_whl, ↓stk_said, ↓Br.t, ↓Br.f, Br.t, Br.f, ↓w_var, ↓w_int, ↓w_bool, ↓w_none, ↓w_str, ↓w_glob, ↓w_bin, ↓w_neg, ↓w_not, ↓w_cmp, ↓w_chain, ↓w_and, ↓w_or, ↓w_ife, ↓w_tup, ↓w_lst, ↓w_ix, ↓w_ixR, ↓w_rowc, ↓w_rcomp, ↓w_sl0, ↓w_slL, ↓w_slH, ↓w_slB, ↓w_bi, ↓w_isi, ↓w_op, ↓w_idx, ↓w_sm, isS_s, ↓w_dic, ↓w_me, ↓w_call, ↓w_pick, ↓w_isx, ↓w_comp, ↓w_compI, ↓w_nil, ↓w_cons, ↓w_seq, ↓w_rng1, ↓w_rng2, ↓w_enm, ↓w_zip, ↓w_zip3, ↓s_nil, ↓s_cons, ↓s_set, ↓s_setT, ↓s_setP, ↓s_setI, ↓s_expr, ↓s_ife, ↓s_whl, ↓s_for, ↓s_ret, ↓s_retN, ↓s_pass, ↓s_brk, ↓s_cont, ↓Ok.ok, ↓Ok.bind, Sm.s, Sm.map, Sm.ite, Snap.b, In.i, Bl.b, Rf.r, mk_f, mk_t, ixF_b, ixF_r, ixF_s, pickF_w, isxF_n, isxF_e, biF_len, biF_b, biF_r, opF_w, isL_b, isL_r, Snaps, itSeq_l, itSeq_t, itZip_l, itZip_t, itZip3_w, binP, intBin, cmp_lt, cmp_le, cmp_gt, cmp_ge, cmp_eqi, cmp_nei, cmp_eqb, cmp_neb, cmp_is, cmp_isnot, cmp_isn, cmp_isnotn, isi_int, isi_bool, isi_tup, isi_lst, isi_str, isI, isBo, isTu, isLi, isSt, truth, ixP, slP, biP, owns, own, at_0, at_1, at_2, at_3, set_0, setsD, asgn, asgnT, sets, List.getElem?_cons_zero, List.getElem?_cons_succ, List.set_cons_zero, List.set_cons_succ, List.length_cons, List.length_nil, decide_eq_true_eq, Bool.not_true, Bool.not_false, Bool.not_eq_true', decide_eq_false_iff_not, Bool.true_eq_false, Bool.false_eq_true, if_true, if_false, true_and]; try (first | refine Br.d ?_ | refine Br.nd ?_ | refine Br.nb ?_ | refine Br.b ?_))
  refine (settings_call g_settings (k := k) (r := false) (n := n) (by omega)).mono ?_
  rintro d m4 ⟨_, hd⟩
  obtain ⟨rfl, rfl⟩ := hd rfl
  (simp only [↓stk_call, ↓stk_comp, ↓stk_rows, ↓stk_rc, ↓stk_for, ↓stk_whl, ↓stk_said, ↓Br.t, ↓Br.f, Br.t, Br.f, ↓w_var, ↓w_int, ↓w_bool, ↓w_none, ↓w_str, ↓w_glob, ↓w_bin, ↓w_neg, ↓w_not, ↓w_cmp, ↓w_chain, ↓w_and, ↓w_or, ↓w_ife, ↓w_tup, ↓w_lst, ↓w_ix, ↓w_ixR, ↓w_rowc, ↓w_rcomp, ↓w_sl0, ↓w_slL, ↓w_slH, ↓w_slB, ↓w_bi, ↓w_isi, ↓w_op, ↓w_idx, ↓w_sm, isS_s, ↓w_dic, ↓w_me, ↓w_call, ↓w_pick, ↓w_isx, ↓w_comp, ↓w_compI, ↓w_nil, ↓w_cons, ↓w_seq, ↓w_rng1, ↓w_rng2, ↓w_enm, ↓w_zip, ↓w_zip3, ↓s_nil, ↓s_cons, ↓s_set, ↓s_setT, ↓s_setP, ↓s_setI, ↓s_expr, ↓s_ife, ↓s_whl, ↓s_for, ↓s_ret, ↓s_retN, ↓s_pass, ↓s_brk, ↓s_cont, ↓Ok.ok, ↓Ok.bind, Sm.s, Sm.map, Sm.ite, Snap.b, In.i, Bl.b, Rf.r, mk_f, mk_t, ixF_b, ixF_r, ixF_s, pickF_w, isxF_n, isxF_e, biF_len, biF_b, biF_r, opF_w, isL_b, isL_r, Snaps, itSeq_l, itSeq_t, itZip_l, itZip_t, itZip3_w, binP, intBin, cmp_lt, cmp_le, cmp_gt, cmp_ge, cmp_eqi, cmp_nei, cmp_eqb, cmp_neb, cmp_is, cmp_isnot, cmp_isn, cmp_isnotn, isi_int, isi_bool, isi_tup, isi_lst, isi_str, isI, isBo, isTu, isLi, isSt, truth, ixP, slP, biP, owns, own, at_0, at_1, at_2, at_3, set_0, setsD, asgn, asgnT, sets, List.getElem?_cons_zero, List.getElem?_cons_succ, List.set_cons_zero, List.set_cons_succ, List.length_cons, List.length_nil, decide_eq_true_eq, Bool.not_true, Bool.not_false, Bool.not_eq_true', decide_eq_false_iff_not, Bool.true_eq_false, Bool.false_eq_true, if_true, if_false, true_and]; try (first | refine Br.d ?_ | refine Br.nd ?_ | refine Br.nb ?_ | refine Br.b ?_))
  have hlen := setD_len hn
  refine comp_pure (jB cs a b) (by show _ ≤ 16777216; omega) (fun x hx mm => ?_) ?_
  · obtain ⟨t, ht, rfl⟩ := List.mem_map.mp hx
    (simp only [↓stk_call, ↓stk_comp, ↓stk_rows, ↓stk_rc, ↓stk_for, ↓stk_whl, ↓stk_said, ↓Br.t, ↓Br.f, Br.t, Br.f, ↓w_var, ↓w_int, ↓w_bool, ↓w_none, ↓w_str, ↓w_glob, ↓w_bin, ↓w_neg, ↓w_not, ↓w_cmp, ↓w_chain, ↓w_and, ↓w_or, ↓w_ife, ↓w_tup, ↓w_lst, ↓w_ix, ↓w_ixR, ↓w_rowc, ↓w_rcomp, ↓w_sl0, ↓w_slL, ↓w_slH, ↓w_slB, ↓w_bi, ↓w_isi, ↓w_op, ↓w_idx, ↓w_sm, isS_s, ↓w_dic, ↓w_me, ↓w_call, ↓w_pick, ↓w_isx, ↓w_comp, ↓w_compI, ↓w_nil, ↓w_cons, ↓w_seq, ↓w_rng1, ↓w_rng2, ↓w_enm, ↓w_zip, ↓w_zip3, ↓s_nil, ↓s_cons, ↓s_set, ↓s_setT, ↓s_setP, ↓s_setI, ↓s_expr, ↓s_ife, ↓s_whl, ↓s_for, ↓s_ret, ↓s_retN, ↓s_pass, ↓s_brk, ↓s_cont, ↓Ok.ok, ↓Ok.bind, Sm.s, Sm.map, Sm.ite, Snap.b, In.i, Bl.b, Rf.r, mk_f, mk_t, ixF_b, ixF_r, ixF_s, pickF_w, isxF_n, isxF_e, biF_len, biF_b, biF_r, opF_w, isL_b, isL_r, Snaps, itSeq_l, itSeq_t, itZip_l, itZip_t, itZip3_w, binP, intBin, cmp_lt, cmp_le, cmp_gt, cmp_ge, cmp_eqi, cmp_nei, cmp_eqb, cmp_neb, cmp_is, cmp_isnot, cmp_isn, cmp_isnotn, isi_int, isi_bool, isi_tup, isi_lst, isi_str, isI, isBo, isTu, isLi, isSt, truth, ixP, slP, biP, owns, own, at_0, at_1, at_2, at_3, set_0, setsD, asgn, asgnT, sets, List.getElem?_cons_zero, List.getElem?_cons_succ, List.set_cons_zero, List.set_cons_succ, List.length_cons, List.length_nil, decide_eq_true_eq, Bool.not_true, Bool.not_false, Bool.not_eq_true', decide_eq_false_iff_not, Bool.true_eq_false, Bool.false_eq_true, if_true, if_false, true_and, clear, Tg.slots]; try (first | refine Br.d ?_ | refine Br.nd ?_ | refine Br.nb ?_ | refine Br.b ?_))
    refine (shutat_call g_shut_at hc hg (setS_ok n t ht)).mono ?_
    rintro _ mm ⟨rfl, rfl⟩
    obtain ⟨e, hns⟩ := shutN_ok cs t
    (simp only [↓stk_call, ↓stk_comp, ↓stk_rows, ↓stk_rc, ↓stk_for, ↓stk_whl, ↓stk_said, ↓Br.t, ↓Br.f, Br.t, Br.f, ↓w_var, ↓w_int, ↓w_bool, ↓w_none, ↓w_str, ↓w_glob, ↓w_bin, ↓w_neg, ↓w_not, ↓w_cmp, ↓w_chain, ↓w_and, ↓w_or, ↓w_ife, ↓w_tup, ↓w_lst, ↓w_ix, ↓w_ixR, ↓w_rowc, ↓w_rcomp, ↓w_sl0, ↓w_slL, ↓w_slH, ↓w_slB, ↓w_bi, ↓w_isi, ↓w_op, ↓w_idx, ↓w_sm, isS_s, ↓w_dic, ↓w_me, ↓w_call, ↓w_pick, ↓w_isx, ↓w_comp, ↓w_compI, ↓w_nil, ↓w_cons, ↓w_seq, ↓w_rng1, ↓w_rng2, ↓w_enm, ↓w_zip, ↓w_zip3, ↓s_nil, ↓s_cons, ↓s_set, ↓s_setT, ↓s_setP, ↓s_setI, ↓s_expr, ↓s_ife, ↓s_whl, ↓s_for, ↓s_ret, ↓s_retN, ↓s_pass, ↓s_brk, ↓s_cont, ↓Ok.ok, ↓Ok.bind, Sm.s, Sm.map, Sm.ite, Snap.b, In.i, Bl.b, Rf.r, mk_f, mk_t, ixF_b, ixF_r, ixF_s, pickF_w, isxF_n, isxF_e, biF_len, biF_b, biF_r, opF_w, isL_b, isL_r, Snaps, itSeq_l, itSeq_t, itZip_l, itZip_t, itZip3_w, binP, intBin, cmp_lt, cmp_le, cmp_gt, cmp_ge, cmp_eqi, cmp_nei, cmp_eqb, cmp_neb, cmp_is, cmp_isnot, cmp_isn, cmp_isnotn, isi_int, isi_bool, isi_tup, isi_lst, isi_str, isI, isBo, isTu, isLi, isSt, truth, ixP, slP, biP, owns, own, at_0, at_1, at_2, at_3, set_0, setsD, asgn, asgnT, sets, List.getElem?_cons_zero, List.getElem?_cons_succ, List.set_cons_zero, List.set_cons_succ, List.length_cons, List.length_nil, decide_eq_true_eq, Bool.not_true, Bool.not_false, Bool.not_eq_true', decide_eq_false_iff_not, Bool.true_eq_false, Bool.false_eq_true, if_true, if_false, true_and]; try (first | refine Br.d ?_ | refine Br.nd ?_ | refine Br.nb ?_ | refine Br.b ?_))
    rw [e]
    refine (reached_call g_reached (v := a) hc hp hg hns ha).mono ?_
    rintro _ mm ⟨rfl, F, rfl, hF⟩
    (simp only [↓stk_call, ↓stk_comp, ↓stk_rows, ↓stk_rc, ↓stk_for, ↓stk_whl, ↓stk_said, ↓Br.t, ↓Br.f, Br.t, Br.f, ↓w_var, ↓w_int, ↓w_bool, ↓w_none, ↓w_str, ↓w_glob, ↓w_bin, ↓w_neg, ↓w_not, ↓w_cmp, ↓w_chain, ↓w_and, ↓w_or, ↓w_ife, ↓w_tup, ↓w_lst, ↓w_ix, ↓w_ixR, ↓w_rowc, ↓w_rcomp, ↓w_sl0, ↓w_slL, ↓w_slH, ↓w_slB, ↓w_bi, ↓w_isi, ↓w_op, ↓w_idx, ↓w_sm, isS_s, ↓w_dic, ↓w_me, ↓w_call, ↓w_pick, ↓w_isx, ↓w_comp, ↓w_compI, ↓w_nil, ↓w_cons, ↓w_seq, ↓w_rng1, ↓w_rng2, ↓w_enm, ↓w_zip, ↓w_zip3, ↓s_nil, ↓s_cons, ↓s_set, ↓s_setT, ↓s_setP, ↓s_setI, ↓s_expr, ↓s_ife, ↓s_whl, ↓s_for, ↓s_ret, ↓s_retN, ↓s_pass, ↓s_brk, ↓s_cont, ↓Ok.ok, ↓Ok.bind, Sm.s, Sm.map, Sm.ite, Snap.b, In.i, Bl.b, Rf.r, mk_f, mk_t, ixF_b, ixF_r, ixF_s, pickF_w, isxF_n, isxF_e, biF_len, biF_b, biF_r, opF_w, isL_b, isL_r, Snaps, itSeq_l, itSeq_t, itZip_l, itZip_t, itZip3_w, binP, intBin, cmp_lt, cmp_le, cmp_gt, cmp_ge, cmp_eqi, cmp_nei, cmp_eqb, cmp_neb, cmp_is, cmp_isnot, cmp_isn, cmp_isnotn, isi_int, isi_bool, isi_tup, isi_lst, isi_str, isI, isBo, isTu, isLi, isSt, truth, ixP, slP, biP, owns, own, at_0, at_1, at_2, at_3, set_0, setsD, asgn, asgnT, sets, List.getElem?_cons_zero, List.getElem?_cons_succ, List.set_cons_zero, List.set_cons_succ, List.length_cons, List.length_nil, decide_eq_true_eq, Bool.not_true, Bool.not_false, Bool.not_eq_true', decide_eq_false_iff_not, Bool.true_eq_false, Bool.false_eq_true, if_true, if_false, true_and, cmp_inl, biF_b]; try (first | refine Br.d ?_ | refine Br.nd ?_ | refine Br.nb ?_ | refine Br.b ?_))
    have q : (b : Int) ∈ sortI (F.map fun i : Nat => (i : Int)) ↔ Cn (edg cs (shutN cs t)) a b := by
      rw [(sortI_perm _).mem_iff, mem_num _ _ (by omega)]
      exact hF b
    show D.b _ = D.b (PyData.int (jI cs t a b))
    unfold jI
    by_cases h : Cn (edg cs (shutN cs t)) a b
    · rw [if_pos h, if_pos (q.mpr h)]
    · rw [if_neg h, if_neg fun z => h (q.mp z)]
  · (simp only [↓stk_call, ↓stk_comp, ↓stk_rows, ↓stk_rc, ↓stk_for, ↓stk_whl, ↓stk_said, ↓Br.t, ↓Br.f, Br.t, Br.f, ↓w_var, ↓w_int, ↓w_bool, ↓w_none, ↓w_str, ↓w_glob, ↓w_bin, ↓w_neg, ↓w_not, ↓w_cmp, ↓w_chain, ↓w_and, ↓w_or, ↓w_ife, ↓w_tup, ↓w_lst, ↓w_ix, ↓w_ixR, ↓w_rowc, ↓w_rcomp, ↓w_sl0, ↓w_slL, ↓w_slH, ↓w_slB, ↓w_bi, ↓w_isi, ↓w_op, ↓w_idx, ↓w_sm, isS_s, ↓w_dic, ↓w_me, ↓w_call, ↓w_pick, ↓w_isx, ↓w_comp, ↓w_compI, ↓w_nil, ↓w_cons, ↓w_seq, ↓w_rng1, ↓w_rng2, ↓w_enm, ↓w_zip, ↓w_zip3, ↓s_nil, ↓s_cons, ↓s_set, ↓s_setT, ↓s_setP, ↓s_setI, ↓s_expr, ↓s_ife, ↓s_whl, ↓s_for, ↓s_ret, ↓s_retN, ↓s_pass, ↓s_brk, ↓s_cont, ↓Ok.ok, ↓Ok.bind, Sm.s, Sm.map, Sm.ite, Snap.b, In.i, Bl.b, Rf.r, mk_f, mk_t, ixF_b, ixF_r, ixF_s, pickF_w, isxF_n, isxF_e, biF_len, biF_b, biF_r, opF_w, isL_b, isL_r, Snaps, itSeq_l, itSeq_t, itZip_l, itZip_t, itZip3_w, binP, intBin, cmp_lt, cmp_le, cmp_gt, cmp_ge, cmp_eqi, cmp_nei, cmp_eqb, cmp_neb, cmp_is, cmp_isnot, cmp_isn, cmp_isnotn, isi_int, isi_bool, isi_tup, isi_lst, isi_str, isI, isBo, isTu, isLi, isSt, truth, ixP, slP, biP, owns, own, at_0, at_1, at_2, at_3, set_0, setsD, asgn, asgnT, sets, List.getElem?_cons_zero, List.getElem?_cons_succ, List.set_cons_zero, List.set_cons_succ, List.length_cons, List.length_nil, decide_eq_true_eq, Bool.not_true, Bool.not_false, Bool.not_eq_true', decide_eq_false_iff_not, Bool.true_eq_false, Bool.false_eq_true, if_true, if_false, true_and, biF_b]; try (first | refine Br.d ?_ | refine Br.nd ?_ | refine Br.nb ?_ | refine Br.b ?_))
    exact ⟨_, rfl, fun _ => rfl, by rw [List.take_length], by rw [jB_map]; rfl⟩
theorem between_call (g_between : G "between" = some b_between) (g_is_number : G "is_number" = some b_is_number) (g_joined_at : G "joined_at" = some b_joined_at) (g_settings : G "settings" = some b_settings) (g_shut_at : G "shut_at" = some b_shut_at) (g_reached : G "reached" = some b_reached) {n a b : Nat} {p : Int} {cs : List PyData} {r : Bool} (hn : n ≤ 4) (hc : cs.length ≤ 16) (hp : p ≤ 1000) (hg : ∀ c ∈ cs, GoodC n p c) (ha : (a : Int) < p) (hb : (b : Int) < p) :
    Ok (callF (run G (k + 3)) r "between" [.b (.tuple [.int n, .int p, .tuple cs]), .b (.int a), .b (.int b)] m) fun d m' => m' = m ∧ d = .b (jD n cs a b) := by
  refine call_b (run_ok g_between ⟨rfl, by decide⟩ ?_)
  rw [show startE b_between.n [.b (.tuple [.int n, .int p, .tuple cs]), .b (.int a), .b (.int b)] = [some (.b (.tuple [.int n, .int p, .tuple cs])), some (.b (.int a)), some (.b (.int b)), none] from rfl]
  unfold b_between
  (simp only [↓stk_call, ↓stk_comp, ↓stk_rows, ↓stk_rc, ↓stk_for, ↓stk_whl, ↓stk_said, ↓Br.t, ↓Br.f, Br.t, Br.f, ↓w_var, ↓w_int, ↓w_bool, ↓w_none, ↓w_str, ↓w_glob, ↓w_bin, ↓w_neg, ↓w_not, ↓w_cmp, ↓w_chain, ↓w_and, ↓w_or, ↓w_ife, ↓w_tup, ↓w_lst, ↓w_ix, ↓w_ixR, ↓w_rowc, ↓w_rcomp, ↓w_sl0, ↓w_slL, ↓w_slH, ↓w_slB, ↓w_bi, ↓w_isi, ↓w_op, ↓w_idx, ↓w_sm, isS_s, ↓w_dic, ↓w_me, ↓w_call, ↓w_pick, ↓w_isx, ↓w_comp, ↓w_compI, ↓w_nil, ↓w_cons, ↓w_seq, ↓w_rng1, ↓w_rng2, ↓w_enm, ↓w_zip, ↓w_zip3, ↓s_nil, ↓s_cons, ↓s_set, ↓s_setT, ↓s_setP, ↓s_setI, ↓s_expr, ↓s_ife, ↓s_whl, ↓s_for, ↓s_ret, ↓s_retN, ↓s_pass, ↓s_brk, ↓s_cont, ↓Ok.ok, ↓Ok.bind, Sm.s, Sm.map, Sm.ite, Snap.b, In.i, Bl.b, Rf.r, mk_f, mk_t, ixF_b, ixF_r, ixF_s, pickF_w, isxF_n, isxF_e, biF_len, biF_b, biF_r, opF_w, isL_b, isL_r, Snaps, itSeq_l, itSeq_t, itZip_l, itZip_t, itZip3_w, binP, intBin, cmp_lt, cmp_le, cmp_gt, cmp_ge, cmp_eqi, cmp_nei, cmp_eqb, cmp_neb, cmp_is, cmp_isnot, cmp_isn, cmp_isnotn, isi_int, isi_bool, isi_tup, isi_lst, isi_str, isI, isBo, isTu, isLi, isSt, truth, ixP, slP, biP, owns, own, at_0, at_1, at_2, at_3, set_0, setsD, asgn, asgnT, sets, List.getElem?_cons_zero, List.getElem?_cons_succ, List.set_cons_zero, List.set_cons_succ, List.length_cons, List.length_nil, decide_eq_true_eq, Bool.not_true, Bool.not_false, Bool.not_eq_true', decide_eq_false_iff_not, Bool.true_eq_false, Bool.false_eq_true, if_true, if_false, true_and]; try (first | refine Br.d ?_ | refine Br.nd ?_ | refine Br.nb ?_ | refine Br.b ?_))
  refine ⟨by decide, ?_⟩
  refine for_ok (fun _ δ mm => ∃ o, δ = [some (.b (.tuple [.int n, .int p, .tuple cs])), some (.b (.int a)), some (.b (.int b)), o] ∧ mm = m) ⟨_, rfl, rfl⟩ ?_ ?_
  · rintro i x δ mm hx ⟨o, rfl, rfl⟩
    refine ⟨trivial, ?_⟩
    obtain ⟨j, rfl, hj⟩ : ∃ j : Nat, x = .int j ∧ (j : Int) < p := by
      match i, hx with
      | 0, hx => cases hx; exact ⟨a, rfl, ha⟩
      | 1, hx => cases hx; exact ⟨b, rfl, hb⟩
      | i + 2, hx => simp at hx
    (simp only [↓stk_call, ↓stk_comp, ↓stk_rows, ↓stk_rc, ↓stk_for, ↓stk_whl, ↓stk_said, ↓Br.t, ↓Br.f, Br.t, Br.f, ↓w_var, ↓w_int, ↓w_bool, ↓w_none, ↓w_str, ↓w_glob, ↓w_bin, ↓w_neg, ↓w_not, ↓w_cmp, ↓w_chain, ↓w_and, ↓w_or, ↓w_ife, ↓w_tup, ↓w_lst, ↓w_ix, ↓w_ixR, ↓w_rowc, ↓w_rcomp, ↓w_sl0, ↓w_slL, ↓w_slH, ↓w_slB, ↓w_bi, ↓w_isi, ↓w_op, ↓w_idx, ↓w_sm, isS_s, ↓w_dic, ↓w_me, ↓w_call, ↓w_pick, ↓w_isx, ↓w_comp, ↓w_compI, ↓w_nil, ↓w_cons, ↓w_seq, ↓w_rng1, ↓w_rng2, ↓w_enm, ↓w_zip, ↓w_zip3, ↓s_nil, ↓s_cons, ↓s_set, ↓s_setT, ↓s_setP, ↓s_setI, ↓s_expr, ↓s_ife, ↓s_whl, ↓s_for, ↓s_ret, ↓s_retN, ↓s_pass, ↓s_brk, ↓s_cont, ↓Ok.ok, ↓Ok.bind, Sm.s, Sm.map, Sm.ite, Snap.b, In.i, Bl.b, Rf.r, mk_f, mk_t, ixF_b, ixF_r, ixF_s, pickF_w, isxF_n, isxF_e, biF_len, biF_b, biF_r, opF_w, isL_b, isL_r, Snaps, itSeq_l, itSeq_t, itZip_l, itZip_t, itZip3_w, binP, intBin, cmp_lt, cmp_le, cmp_gt, cmp_ge, cmp_eqi, cmp_nei, cmp_eqb, cmp_neb, cmp_is, cmp_isnot, cmp_isn, cmp_isnotn, isi_int, isi_bool, isi_tup, isi_lst, isi_str, isI, isBo, isTu, isLi, isSt, truth, ixP, slP, biP, owns, own, at_0, at_1, at_2, at_3, set_0, setsD, asgn, asgnT, sets, List.getElem?_cons_zero, List.getElem?_cons_succ, List.set_cons_zero, List.set_cons_succ, List.length_cons, List.length_nil, decide_eq_true_eq, Bool.not_true, Bool.not_false, Bool.not_eq_true', decide_eq_false_iff_not, Bool.true_eq_false, Bool.false_eq_true, if_true, if_false, true_and]; try (first | refine Br.d ?_ | refine Br.nd ?_ | refine Br.nb ?_ | refine Br.b ?_))
    refine (isn_call g_is_number (.int j) 0 (p - 1)).mono ?_
    rintro _ _ ⟨rfl, rfl⟩
    (simp only [↓stk_call, ↓stk_comp, ↓stk_rows, ↓stk_rc, ↓stk_for, ↓stk_whl, ↓stk_said, ↓Br.t, ↓Br.f, Br.t, Br.f, ↓w_var, ↓w_int, ↓w_bool, ↓w_none, ↓w_str, ↓w_glob, ↓w_bin, ↓w_neg, ↓w_not, ↓w_cmp, ↓w_chain, ↓w_and, ↓w_or, ↓w_ife, ↓w_tup, ↓w_lst, ↓w_ix, ↓w_ixR, ↓w_rowc, ↓w_rcomp, ↓w_sl0, ↓w_slL, ↓w_slH, ↓w_slB, ↓w_bi, ↓w_isi, ↓w_op, ↓w_idx, ↓w_sm, isS_s, ↓w_dic, ↓w_me, ↓w_call, ↓w_pick, ↓w_isx, ↓w_comp, ↓w_compI, ↓w_nil, ↓w_cons, ↓w_seq, ↓w_rng1, ↓w_rng2, ↓w_enm, ↓w_zip, ↓w_zip3, ↓s_nil, ↓s_cons, ↓s_set, ↓s_setT, ↓s_setP, ↓s_setI, ↓s_expr, ↓s_ife, ↓s_whl, ↓s_for, ↓s_ret, ↓s_retN, ↓s_pass, ↓s_brk, ↓s_cont, ↓Ok.ok, ↓Ok.bind, Sm.s, Sm.map, Sm.ite, Snap.b, In.i, Bl.b, Rf.r, mk_f, mk_t, ixF_b, ixF_r, ixF_s, pickF_w, isxF_n, isxF_e, biF_len, biF_b, biF_r, opF_w, isL_b, isL_r, Snaps, itSeq_l, itSeq_t, itZip_l, itZip_t, itZip3_w, binP, intBin, cmp_lt, cmp_le, cmp_gt, cmp_ge, cmp_eqi, cmp_nei, cmp_eqb, cmp_neb, cmp_is, cmp_isnot, cmp_isn, cmp_isnotn, isi_int, isi_bool, isi_tup, isi_lst, isi_str, isI, isBo, isTu, isLi, isSt, truth, ixP, slP, biP, owns, own, at_0, at_1, at_2, at_3, set_0, setsD, asgn, asgnT, sets, List.getElem?_cons_zero, List.getElem?_cons_succ, List.set_cons_zero, List.set_cons_succ, List.length_cons, List.length_nil, decide_eq_true_eq, Bool.not_true, Bool.not_false, Bool.not_eq_true', decide_eq_false_iff_not, Bool.true_eq_false, Bool.false_eq_true, if_true, if_false, true_and, show isN (.int j) 0 (p - 1) = true from decide_eq_true (by omega)]; try (first | refine Br.d ?_ | refine Br.nd ?_ | refine Br.nb ?_ | refine Br.b ?_))
    exact ⟨_, rfl, trivial⟩
  · rintro δ mm ⟨o, rfl, rfl⟩
    refine ⟨trivial, ?_⟩
    (simp only [↓stk_call, ↓stk_comp, ↓stk_rows, ↓stk_rc, ↓stk_for, ↓stk_whl, ↓stk_said, ↓Br.t, ↓Br.f, Br.t, Br.f, ↓w_var, ↓w_int, ↓w_bool, ↓w_none, ↓w_str, ↓w_glob, ↓w_bin, ↓w_neg, ↓w_not, ↓w_cmp, ↓w_chain, ↓w_and, ↓w_or, ↓w_ife, ↓w_tup, ↓w_lst, ↓w_ix, ↓w_ixR, ↓w_rowc, ↓w_rcomp, ↓w_sl0, ↓w_slL, ↓w_slH, ↓w_slB, ↓w_bi, ↓w_isi, ↓w_op, ↓w_idx, ↓w_sm, isS_s, ↓w_dic, ↓w_me, ↓w_call, ↓w_pick, ↓w_isx, ↓w_comp, ↓w_compI, ↓w_nil, ↓w_cons, ↓w_seq, ↓w_rng1, ↓w_rng2, ↓w_enm, ↓w_zip, ↓w_zip3, ↓s_nil, ↓s_cons, ↓s_set, ↓s_setT, ↓s_setP, ↓s_setI, ↓s_expr, ↓s_ife, ↓s_whl, ↓s_for, ↓s_ret, ↓s_retN, ↓s_pass, ↓s_brk, ↓s_cont, ↓Ok.ok, ↓Ok.bind, Sm.s, Sm.map, Sm.ite, Snap.b, In.i, Bl.b, Rf.r, mk_f, mk_t, ixF_b, ixF_r, ixF_s, pickF_w, isxF_n, isxF_e, biF_len, biF_b, biF_r, opF_w, isL_b, isL_r, Snaps, itSeq_l, itSeq_t, itZip_l, itZip_t, itZip3_w, binP, intBin, cmp_lt, cmp_le, cmp_gt, cmp_ge, cmp_eqi, cmp_nei, cmp_eqb, cmp_neb, cmp_is, cmp_isnot, cmp_isn, cmp_isnotn, isi_int, isi_bool, isi_tup, isi_lst, isi_str, isI, isBo, isTu, isLi, isSt, truth, ixP, slP, biP, owns, own, at_0, at_1, at_2, at_3, set_0, setsD, asgn, asgnT, sets, List.getElem?_cons_zero, List.getElem?_cons_succ, List.set_cons_zero, List.set_cons_succ, List.length_cons, List.length_nil, decide_eq_true_eq, Bool.not_true, Bool.not_false, Bool.not_eq_true', decide_eq_false_iff_not, Bool.true_eq_false, Bool.false_eq_true, if_true, if_false, true_and]; try (first | refine Br.d ?_ | refine Br.nd ?_ | refine Br.nb ?_ | refine Br.b ?_))
    refine (zjoin_call g_joined_at g_settings g_shut_at g_reached hn hc hp hg ha).mono ?_
    rintro _ _ ⟨rfl, rfl⟩
    exact ⟨_, rfl, fun _ => rfl, by rw [List.take_length], rfl⟩
theorem between_ex (g_between : G "between" = some b_between) (g_is_number : G "is_number" = some b_is_number) {s p : Int} {cs : List PyData} {x y : PyData} {r : Bool} (h : ¬ (isN x 0 (p - 1) = true ∧ isN y 0 (p - 1) = true)) :
    XR (callF (run G (k + 2)) r "between" [.b (.tuple [.int s, .int p, .tuple cs]), .b x, .b y] m) "NoPlace" fun m' => m' = m := by
  refine xr_callF (xr_run g_between ⟨rfl, by decide⟩ ?_)
  rw [show startE b_between.n [.b (.tuple [.int s, .int p, .tuple cs]), .b x, .b y] = [some (.b (.tuple [.int s, .int p, .tuple cs])), some (.b x), some (.b y), none] from rfl]
  unfold b_between
  refine sx_l (sx_for ?_)
  (simp only [↓stk_call, ↓stk_comp, ↓stk_rows, ↓stk_rc, ↓stk_for, ↓stk_whl, ↓stk_said, ↓Br.t, ↓Br.f, Br.t, Br.f, ↓w_var, ↓w_int, ↓w_bool, ↓w_none, ↓w_str, ↓w_glob, ↓w_bin, ↓w_neg, ↓w_not, ↓w_cmp, ↓w_chain, ↓w_and, ↓w_or, ↓w_ife, ↓w_tup, ↓w_lst, ↓w_ix, ↓w_ixR, ↓w_rowc, ↓w_rcomp, ↓w_sl0, ↓w_slL, ↓w_slH, ↓w_slB, ↓w_bi, ↓w_isi, ↓w_op, ↓w_idx, ↓w_sm, isS_s, ↓w_dic, ↓w_me, ↓w_call, ↓w_pick, ↓w_isx, ↓w_comp, ↓w_compI, ↓w_nil, ↓w_cons, ↓w_seq, ↓w_rng1, ↓w_rng2, ↓w_enm, ↓w_zip, ↓w_zip3, ↓s_nil, ↓s_cons, ↓s_set, ↓s_setT, ↓s_setP, ↓s_setI, ↓s_expr, ↓s_ife, ↓s_whl, ↓s_for, ↓s_ret, ↓s_retN, ↓s_pass, ↓s_brk, ↓s_cont, ↓Ok.ok, ↓Ok.bind, Sm.s, Sm.map, Sm.ite, Snap.b, In.i, Bl.b, Rf.r, mk_f, mk_t, ixF_b, ixF_r, ixF_s, pickF_w, isxF_n, isxF_e, biF_len, biF_b, biF_r, opF_w, isL_b, isL_r, Snaps, itSeq_l, itSeq_t, itZip_l, itZip_t, itZip3_w, binP, intBin, cmp_lt, cmp_le, cmp_gt, cmp_ge, cmp_eqi, cmp_nei, cmp_eqb, cmp_neb, cmp_is, cmp_isnot, cmp_isn, cmp_isnotn, isi_int, isi_bool, isi_tup, isi_lst, isi_str, isI, isBo, isTu, isLi, isSt, truth, ixP, slP, biP, owns, own, at_0, at_1, at_2, at_3, set_0, setsD, asgn, asgnT, sets, List.getElem?_cons_zero, List.getElem?_cons_succ, List.set_cons_zero, List.set_cons_succ, List.length_cons, List.length_nil, decide_eq_true_eq, Bool.not_true, Bool.not_false, Bool.not_eq_true', decide_eq_false_iff_not, Bool.true_eq_false, Bool.false_eq_true, if_true, if_false, true_and]; try (first | refine Br.d ?_ | refine Br.nd ?_ | refine Br.nb ?_ | refine Br.b ?_))
  refine ⟨by decide, ?_⟩
  have bad : ∀ (z : PyData) (δ : Env), isN z 0 (p - 1) = false → δ = [some (.b (.tuple [.int s, .int p, .tuple cs])), some (.b x), some (.b y), some (.b z)] → SRx (evSs (run G (k + 1)) (.cons (.ife (.not (.call false "is_number" (.cons (.var 3) (.cons (.int 0) (.cons (.bin .Sub (.ix (.var 0) (.int 1)) (.int 1)) .nil))))) (.cons (.raise "NoPlace") .nil) .nil) .nil) δ m) "NoPlace" fun m' => m'.take m.length = m := by
    rintro z δ hz rfl
    refine sx_l (sx_ife ?_)
    (simp only [↓stk_call, ↓stk_comp, ↓stk_rows, ↓stk_rc, ↓stk_for, ↓stk_whl, ↓stk_said, ↓Br.t, ↓Br.f, Br.t, Br.f, ↓w_var, ↓w_int, ↓w_bool, ↓w_none, ↓w_str, ↓w_glob, ↓w_bin, ↓w_neg, ↓w_not, ↓w_cmp, ↓w_chain, ↓w_and, ↓w_or, ↓w_ife, ↓w_tup, ↓w_lst, ↓w_ix, ↓w_ixR, ↓w_rowc, ↓w_rcomp, ↓w_sl0, ↓w_slL, ↓w_slH, ↓w_slB, ↓w_bi, ↓w_isi, ↓w_op, ↓w_idx, ↓w_sm, isS_s, ↓w_dic, ↓w_me, ↓w_call, ↓w_pick, ↓w_isx, ↓w_comp, ↓w_compI, ↓w_nil, ↓w_cons, ↓w_seq, ↓w_rng1, ↓w_rng2, ↓w_enm, ↓w_zip, ↓w_zip3, ↓s_nil, ↓s_cons, ↓s_set, ↓s_setT, ↓s_setP, ↓s_setI, ↓s_expr, ↓s_ife, ↓s_whl, ↓s_for, ↓s_ret, ↓s_retN, ↓s_pass, ↓s_brk, ↓s_cont, ↓Ok.ok, ↓Ok.bind, Sm.s, Sm.map, Sm.ite, Snap.b, In.i, Bl.b, Rf.r, mk_f, mk_t, ixF_b, ixF_r, ixF_s, pickF_w, isxF_n, isxF_e, biF_len, biF_b, biF_r, opF_w, isL_b, isL_r, Snaps, itSeq_l, itSeq_t, itZip_l, itZip_t, itZip3_w, binP, intBin, cmp_lt, cmp_le, cmp_gt, cmp_ge, cmp_eqi, cmp_nei, cmp_eqb, cmp_neb, cmp_is, cmp_isnot, cmp_isn, cmp_isnotn, isi_int, isi_bool, isi_tup, isi_lst, isi_str, isI, isBo, isTu, isLi, isSt, truth, ixP, slP, biP, owns, own, at_0, at_1, at_2, at_3, set_0, setsD, asgn, asgnT, sets, List.getElem?_cons_zero, List.getElem?_cons_succ, List.set_cons_zero, List.set_cons_succ, List.length_cons, List.length_nil, decide_eq_true_eq, Bool.not_true, Bool.not_false, Bool.not_eq_true', decide_eq_false_iff_not, Bool.true_eq_false, Bool.false_eq_true, if_true, if_false, true_and]; try (first | refine Br.d ?_ | refine Br.nd ?_ | refine Br.nb ?_ | refine Br.b ?_))
    refine (isn_call g_is_number z 0 (p - 1)).mono ?_
    rintro _ _ ⟨rfl, rfl⟩
    (simp only [↓stk_call, ↓stk_comp, ↓stk_rows, ↓stk_rc, ↓stk_for, ↓stk_whl, ↓stk_said, ↓Br.t, ↓Br.f, Br.t, Br.f, ↓w_var, ↓w_int, ↓w_bool, ↓w_none, ↓w_str, ↓w_glob, ↓w_bin, ↓w_neg, ↓w_not, ↓w_cmp, ↓w_chain, ↓w_and, ↓w_or, ↓w_ife, ↓w_tup, ↓w_lst, ↓w_ix, ↓w_ixR, ↓w_rowc, ↓w_rcomp, ↓w_sl0, ↓w_slL, ↓w_slH, ↓w_slB, ↓w_bi, ↓w_isi, ↓w_op, ↓w_idx, ↓w_sm, isS_s, ↓w_dic, ↓w_me, ↓w_call, ↓w_pick, ↓w_isx, ↓w_comp, ↓w_compI, ↓w_nil, ↓w_cons, ↓w_seq, ↓w_rng1, ↓w_rng2, ↓w_enm, ↓w_zip, ↓w_zip3, ↓s_nil, ↓s_cons, ↓s_set, ↓s_setT, ↓s_setP, ↓s_setI, ↓s_expr, ↓s_ife, ↓s_whl, ↓s_for, ↓s_ret, ↓s_retN, ↓s_pass, ↓s_brk, ↓s_cont, ↓Ok.ok, ↓Ok.bind, Sm.s, Sm.map, Sm.ite, Snap.b, In.i, Bl.b, Rf.r, mk_f, mk_t, ixF_b, ixF_r, ixF_s, pickF_w, isxF_n, isxF_e, biF_len, biF_b, biF_r, opF_w, isL_b, isL_r, Snaps, itSeq_l, itSeq_t, itZip_l, itZip_t, itZip3_w, binP, intBin, cmp_lt, cmp_le, cmp_gt, cmp_ge, cmp_eqi, cmp_nei, cmp_eqb, cmp_neb, cmp_is, cmp_isnot, cmp_isn, cmp_isnotn, isi_int, isi_bool, isi_tup, isi_lst, isi_str, isI, isBo, isTu, isLi, isSt, truth, ixP, slP, biP, owns, own, at_0, at_1, at_2, at_3, set_0, setsD, asgn, asgnT, sets, List.getElem?_cons_zero, List.getElem?_cons_succ, List.set_cons_zero, List.set_cons_succ, List.length_cons, List.length_nil, decide_eq_true_eq, Bool.not_true, Bool.not_false, Bool.not_eq_true', decide_eq_false_iff_not, Bool.true_eq_false, Bool.false_eq_true, if_true, if_false, true_and, hz]; try (first | refine Br.d ?_ | refine Br.nd ?_ | refine Br.nb ?_ | refine Br.b ?_))
    exact sx_l (sx_raise (by rw [List.take_length]))
  by_cases hx : isN x 0 (p - 1) = true
  · refine sx_on (δ1 := [some (.b (.tuple [.int s, .int p, .tuple cs])), some (.b x), some (.b y), some (.b x)]) trivial rfl ?_
    (simp only [↓stk_call, ↓stk_comp, ↓stk_rows, ↓stk_rc, ↓stk_for, ↓stk_whl, ↓stk_said, ↓Br.t, ↓Br.f, Br.t, Br.f, ↓w_var, ↓w_int, ↓w_bool, ↓w_none, ↓w_str, ↓w_glob, ↓w_bin, ↓w_neg, ↓w_not, ↓w_cmp, ↓w_chain, ↓w_and, ↓w_or, ↓w_ife, ↓w_tup, ↓w_lst, ↓w_ix, ↓w_ixR, ↓w_rowc, ↓w_rcomp, ↓w_sl0, ↓w_slL, ↓w_slH, ↓w_slB, ↓w_bi, ↓w_isi, ↓w_op, ↓w_idx, ↓w_sm, isS_s, ↓w_dic, ↓w_me, ↓w_call, ↓w_pick, ↓w_isx, ↓w_comp, ↓w_compI, ↓w_nil, ↓w_cons, ↓w_seq, ↓w_rng1, ↓w_rng2, ↓w_enm, ↓w_zip, ↓w_zip3, ↓s_nil, ↓s_cons, ↓s_set, ↓s_setT, ↓s_setP, ↓s_setI, ↓s_expr, ↓s_ife, ↓s_whl, ↓s_for, ↓s_ret, ↓s_retN, ↓s_pass, ↓s_brk, ↓s_cont, ↓Ok.ok, ↓Ok.bind, Sm.s, Sm.map, Sm.ite, Snap.b, In.i, Bl.b, Rf.r, mk_f, mk_t, ixF_b, ixF_r, ixF_s, pickF_w, isxF_n, isxF_e, biF_len, biF_b, biF_r, opF_w, isL_b, isL_r, Snaps, itSeq_l, itSeq_t, itZip_l, itZip_t, itZip3_w, binP, intBin, cmp_lt, cmp_le, cmp_gt, cmp_ge, cmp_eqi, cmp_nei, cmp_eqb, cmp_neb, cmp_is, cmp_isnot, cmp_isn, cmp_isnotn, isi_int, isi_bool, isi_tup, isi_lst, isi_str, isI, isBo, isTu, isLi, isSt, truth, ixP, slP, biP, owns, own, at_0, at_1, at_2, at_3, set_0, setsD, asgn, asgnT, sets, List.getElem?_cons_zero, List.getElem?_cons_succ, List.set_cons_zero, List.set_cons_succ, List.length_cons, List.length_nil, decide_eq_true_eq, Bool.not_true, Bool.not_false, Bool.not_eq_true', decide_eq_false_iff_not, Bool.true_eq_false, Bool.false_eq_true, if_true, if_false, true_and]; try (first | refine Br.d ?_ | refine Br.nd ?_ | refine Br.nb ?_ | refine Br.b ?_))
    refine (isn_call g_is_number x 0 (p - 1)).mono ?_
    rintro _ _ ⟨rfl, rfl⟩
    (simp only [↓stk_call, ↓stk_comp, ↓stk_rows, ↓stk_rc, ↓stk_for, ↓stk_whl, ↓stk_said, ↓Br.t, ↓Br.f, Br.t, Br.f, ↓w_var, ↓w_int, ↓w_bool, ↓w_none, ↓w_str, ↓w_glob, ↓w_bin, ↓w_neg, ↓w_not, ↓w_cmp, ↓w_chain, ↓w_and, ↓w_or, ↓w_ife, ↓w_tup, ↓w_lst, ↓w_ix, ↓w_ixR, ↓w_rowc, ↓w_rcomp, ↓w_sl0, ↓w_slL, ↓w_slH, ↓w_slB, ↓w_bi, ↓w_isi, ↓w_op, ↓w_idx, ↓w_sm, isS_s, ↓w_dic, ↓w_me, ↓w_call, ↓w_pick, ↓w_isx, ↓w_comp, ↓w_compI, ↓w_nil, ↓w_cons, ↓w_seq, ↓w_rng1, ↓w_rng2, ↓w_enm, ↓w_zip, ↓w_zip3, ↓s_nil, ↓s_cons, ↓s_set, ↓s_setT, ↓s_setP, ↓s_setI, ↓s_expr, ↓s_ife, ↓s_whl, ↓s_for, ↓s_ret, ↓s_retN, ↓s_pass, ↓s_brk, ↓s_cont, ↓Ok.ok, ↓Ok.bind, Sm.s, Sm.map, Sm.ite, Snap.b, In.i, Bl.b, Rf.r, mk_f, mk_t, ixF_b, ixF_r, ixF_s, pickF_w, isxF_n, isxF_e, biF_len, biF_b, biF_r, opF_w, isL_b, isL_r, Snaps, itSeq_l, itSeq_t, itZip_l, itZip_t, itZip3_w, binP, intBin, cmp_lt, cmp_le, cmp_gt, cmp_ge, cmp_eqi, cmp_nei, cmp_eqb, cmp_neb, cmp_is, cmp_isnot, cmp_isn, cmp_isnotn, isi_int, isi_bool, isi_tup, isi_lst, isi_str, isI, isBo, isTu, isLi, isSt, truth, ixP, slP, biP, owns, own, at_0, at_1, at_2, at_3, set_0, setsD, asgn, asgnT, sets, List.getElem?_cons_zero, List.getElem?_cons_succ, List.set_cons_zero, List.set_cons_succ, List.length_cons, List.length_nil, decide_eq_true_eq, Bool.not_true, Bool.not_false, Bool.not_eq_true', decide_eq_false_iff_not, Bool.true_eq_false, Bool.false_eq_true, if_true, if_false, true_and, hx]; try (first | refine Br.d ?_ | refine Br.nd ?_ | refine Br.nb ?_ | refine Br.b ?_))
    exact sx_now (δ1 := [some (.b (.tuple [.int s, .int p, .tuple cs])), some (.b x), some (.b y), some (.b y)]) trivial rfl (bad y _ (by rw [Bool.eq_false_iff]; exact fun z => h ⟨hx, z⟩) rfl)
  · exact sx_now (δ1 := [some (.b (.tuple [.int s, .int p, .tuple cs])), some (.b x), some (.b y), some (.b x)]) trivial rfl (bad x _ (by rw [Bool.eq_false_iff]; exact hx) rfl)
/-! ### pairs of places -/
def prD (e : Nat × Nat) : PyData := .tuple [.int e.1, .int e.2]
def prR (p a : Nat) : List (Nat × Nat) := (List.range (p - (a + 1))).map fun i => (a, a + 1 + i)
def prs (p : Nat) : List (Nat × Nat) := (List.range p).flatMap (prR p)
theorem prs_mem {p : Nat} {e : Nat × Nat} (h : e ∈ prs p) : e.1 < e.2 ∧ e.2 < p := by
  unfold prs at h
  obtain ⟨a, ha, h⟩ := List.mem_flatMap.mp h
  obtain ⟨i, hi, rfl⟩ := List.mem_map.mp h
  have := List.mem_range.mp hi
  have := List.mem_range.mp ha
  exact ⟨by show a < a + 1 + i; omega, by show a + 1 + i < p; omega⟩
theorem prR_len (p a : Nat) : (prR p a).length = p - (a + 1) := by unfold prR; rw [List.length_map, List.length_range]
theorem prs_le {p : Nat} : ∀ j : Nat, ((List.range j).flatMap (prR p)).length ≤ j * p := by
  intro j
  induction j with
  | zero => simp
  | succ j ih =>
    rw [List.range_succ, List.flatMap_append, List.length_append, Nat.succ_mul]
    have : ([j].flatMap (prR p)).length ≤ p := by
      rw [List.flatMap_cons, List.flatMap_nil, List.append_nil, prR_len]
      omega
    omega
theorem rngP_nat (a p : Nat) : rngP ((a : Int) + 1) p = (List.range (p - (a + 1))).map fun i => PyData.int ((a + 1 + i : Nat) : Int) := by
  unfold rngP
  have : ((p : Int) - ((a : Int) + 1)).toNat = p - (a + 1) := by omega
  rw [this]
  refine List.map_congr_left fun i _ => ?_
  congr 1
theorem mul_few {i p : Nat} (h : i ≤ 1000) (h2 : p ≤ 1000) : i * p ≤ 1000000 := Nat.le_trans (Nat.mul_le_mul h h2) (by decide)
theorem allpairs_call (g_all_pairs : G "all_pairs" = some b_all_pairs) {p : Nat} {n x : PyData} (hp : p ≤ 1000) :
    Ok (callF (run G (k + 1)) false "all_pairs" [.b (.tuple [n, .int p, x])] m) fun d m' => m' = m ∧ d = .b (.list ((prs p).map prD)) := by
  refine call_l (run_ok g_all_pairs ⟨rfl, by decide⟩ ?_)
  rw [show startE b_all_pairs.n [.b (.tuple [n, .int p, x])] = [some (.b (.tuple [n, .int p, x])), none, none, none] from rfl]
  unfold b_all_pairs
  (simp only [↓stk_call, ↓stk_comp, ↓stk_rows, ↓stk_rc, ↓stk_for, ↓stk_whl, ↓stk_said, ↓Br.t, ↓Br.f, Br.t, Br.f, ↓w_var, ↓w_int, ↓w_bool, ↓w_none, ↓w_str, ↓w_glob, ↓w_bin, ↓w_neg, ↓w_not, ↓w_cmp, ↓w_chain, ↓w_and, ↓w_or, ↓w_ife, ↓w_tup, ↓w_lst, ↓w_ix, ↓w_ixR, ↓w_rowc, ↓w_rcomp, ↓w_sl0, ↓w_slL, ↓w_slH, ↓w_slB, ↓w_bi, ↓w_isi, ↓w_op, ↓w_idx, ↓w_sm, isS_s, ↓w_dic, ↓w_me, ↓w_call, ↓w_pick, ↓w_isx, ↓w_comp, ↓w_compI, ↓w_nil, ↓w_cons, ↓w_seq, ↓w_rng1, ↓w_rng2, ↓w_enm, ↓w_zip, ↓w_zip3, ↓s_nil, ↓s_cons, ↓s_set, ↓s_setT, ↓s_setP, ↓s_setI, ↓s_expr, ↓s_ife, ↓s_whl, ↓s_for, ↓s_ret, ↓s_retN, ↓s_pass, ↓s_brk, ↓s_cont, ↓Ok.ok, ↓Ok.bind, Sm.s, Sm.map, Sm.ite, Snap.b, In.i, Bl.b, Rf.r, mk_f, mk_t, ixF_b, ixF_r, ixF_s, pickF_w, isxF_n, isxF_e, biF_len, biF_b, biF_r, opF_w, isL_b, isL_r, Snaps, itSeq_l, itSeq_t, itZip_l, itZip_t, itZip3_w, binP, intBin, cmp_lt, cmp_le, cmp_gt, cmp_ge, cmp_eqi, cmp_nei, cmp_eqb, cmp_neb, cmp_is, cmp_isnot, cmp_isn, cmp_isnotn, isi_int, isi_bool, isi_tup, isi_lst, isi_str, isI, isBo, isTu, isLi, isSt, truth, ixP, slP, biP, owns, own, at_0, at_1, at_2, at_3, set_0, setsD, asgn, asgnT, sets, List.getElem?_cons_zero, List.getElem?_cons_succ, List.set_cons_zero, List.set_cons_succ, List.length_cons, List.length_nil, decide_eq_true_eq, Bool.not_true, Bool.not_false, Bool.not_eq_true', decide_eq_false_iff_not, Bool.true_eq_false, Bool.false_eq_true, if_true, if_false, true_and]; try (first | refine Br.d ?_ | refine Br.nd ?_ | refine Br.nb ?_ | refine Br.b ?_))
  refine ⟨by decide, by unfold rngOk; exact decide_eq_true (by omega), ?_⟩
  refine for_ok (fun i δ mm => ∃ o2 o3, δ = [some (.b (.tuple [n, .int p, x])), some (.ref m.length), o2, o3] ∧ mm = m ++ [.lst (((List.range i).flatMap (prR p)).map prD)]) ⟨_, _, rfl, rfl⟩ ?_ ?_
  · rintro i y δ mm hy ⟨o2, o3, rfl, rfl⟩
    have hi := (List.getElem?_eq_some_iff.mp hy).1
    rw [rngL] at hi
    obtain ⟨q, rfl, hq⟩ : ∃ q : Int, y = .int q ∧ q = i := ⟨_, rng_get hy, rfl⟩
    refine ⟨trivial, ?_⟩
    (simp only [↓stk_call, ↓stk_comp, ↓stk_rows, ↓stk_rc, ↓stk_for, ↓stk_whl, ↓stk_said, ↓Br.t, ↓Br.f, Br.t, Br.f, ↓w_var, ↓w_int, ↓w_bool, ↓w_none, ↓w_str, ↓w_glob, ↓w_bin, ↓w_neg, ↓w_not, ↓w_cmp, ↓w_chain, ↓w_and, ↓w_or, ↓w_ife, ↓w_tup, ↓w_lst, ↓w_ix, ↓w_ixR, ↓w_rowc, ↓w_rcomp, ↓w_sl0, ↓w_slL, ↓w_slH, ↓w_slB, ↓w_bi, ↓w_isi, ↓w_op, ↓w_idx, ↓w_sm, isS_s, ↓w_dic, ↓w_me, ↓w_call, ↓w_pick, ↓w_isx, ↓w_comp, ↓w_compI, ↓w_nil, ↓w_cons, ↓w_seq, ↓w_rng1, ↓w_rng2, ↓w_enm, ↓w_zip, ↓w_zip3, ↓s_nil, ↓s_cons, ↓s_set, ↓s_setT, ↓s_setP, ↓s_setI, ↓s_expr, ↓s_ife, ↓s_whl, ↓s_for, ↓s_ret, ↓s_retN, ↓s_pass, ↓s_brk, ↓s_cont, ↓Ok.ok, ↓Ok.bind, Sm.s, Sm.map, Sm.ite, Snap.b, In.i, Bl.b, Rf.r, mk_f, mk_t, ixF_b, ixF_r, ixF_s, pickF_w, isxF_n, isxF_e, biF_len, biF_b, biF_r, opF_w, isL_b, isL_r, Snaps, itSeq_l, itSeq_t, itZip_l, itZip_t, itZip3_w, binP, intBin, cmp_lt, cmp_le, cmp_gt, cmp_ge, cmp_eqi, cmp_nei, cmp_eqb, cmp_neb, cmp_is, cmp_isnot, cmp_isn, cmp_isnotn, isi_int, isi_bool, isi_tup, isi_lst, isi_str, isI, isBo, isTu, isLi, isSt, truth, ixP, slP, biP, owns, own, at_0, at_1, at_2, at_3, set_0, setsD, asgn, asgnT, sets, List.getElem?_cons_zero, List.getElem?_cons_succ, List.set_cons_zero, List.set_cons_succ, List.length_cons, List.length_nil, decide_eq_true_eq, Bool.not_true, Bool.not_false, Bool.not_eq_true', decide_eq_false_iff_not, Bool.true_eq_false, Bool.false_eq_true, if_true, if_false, true_and]; try (first | refine Br.d ?_ | refine Br.nd ?_ | refine Br.nb ?_ | refine Br.b ?_))
    refine ⟨by unfold rngOk; exact decide_eq_true (by omega), ?_⟩
    refine comp_pure (fun z => .tuple [.int q, z]) (by rw [rngP_length]; show _ ≤ 16777216; omega) (fun z _ mm => ?_) ?_
    · (simp only [↓stk_call, ↓stk_comp, ↓stk_rows, ↓stk_rc, ↓stk_for, ↓stk_whl, ↓stk_said, ↓Br.t, ↓Br.f, Br.t, Br.f, ↓w_var, ↓w_int, ↓w_bool, ↓w_none, ↓w_str, ↓w_glob, ↓w_bin, ↓w_neg, ↓w_not, ↓w_cmp, ↓w_chain, ↓w_and, ↓w_or, ↓w_ife, ↓w_tup, ↓w_lst, ↓w_ix, ↓w_ixR, ↓w_rowc, ↓w_rcomp, ↓w_sl0, ↓w_slL, ↓w_slH, ↓w_slB, ↓w_bi, ↓w_isi, ↓w_op, ↓w_idx, ↓w_sm, isS_s, ↓w_dic, ↓w_me, ↓w_call, ↓w_pick, ↓w_isx, ↓w_comp, ↓w_compI, ↓w_nil, ↓w_cons, ↓w_seq, ↓w_rng1, ↓w_rng2, ↓w_enm, ↓w_zip, ↓w_zip3, ↓s_nil, ↓s_cons, ↓s_set, ↓s_setT, ↓s_setP, ↓s_setI, ↓s_expr, ↓s_ife, ↓s_whl, ↓s_for, ↓s_ret, ↓s_retN, ↓s_pass, ↓s_brk, ↓s_cont, ↓Ok.ok, ↓Ok.bind, Sm.s, Sm.map, Sm.ite, Snap.b, In.i, Bl.b, Rf.r, mk_f, mk_t, ixF_b, ixF_r, ixF_s, pickF_w, isxF_n, isxF_e, biF_len, biF_b, biF_r, opF_w, isL_b, isL_r, Snaps, itSeq_l, itSeq_t, itZip_l, itZip_t, itZip3_w, binP, intBin, cmp_lt, cmp_le, cmp_gt, cmp_ge, cmp_eqi, cmp_nei, cmp_eqb, cmp_neb, cmp_is, cmp_isnot, cmp_isn, cmp_isnotn, isi_int, isi_bool, isi_tup, isi_lst, isi_str, isI, isBo, isTu, isLi, isSt, truth, ixP, slP, biP, owns, own, at_0, at_1, at_2, at_3, set_0, setsD, asgn, asgnT, sets, List.getElem?_cons_zero, List.getElem?_cons_succ, List.set_cons_zero, List.set_cons_succ, List.length_cons, List.length_nil, decide_eq_true_eq, Bool.not_true, Bool.not_false, Bool.not_eq_true', decide_eq_false_iff_not, Bool.true_eq_false, Bool.false_eq_true, if_true, if_false, true_and, clear, Tg.slots]; try (first | refine Br.d ?_ | refine Br.nd ?_ | refine Br.nb ?_ | refine Br.b ?_))
      exact ⟨len0 _ (by decide), trivial⟩
    · have e1 : (rngP (q + 1) p).map (fun z => PyData.tuple [.int q, z]) = (prR p i).map prD := by
        rw [hq, rngP_nat]
        unfold prR
        rw [List.map_map, List.map_map]
        rfl
      (simp only [↓stk_call, ↓stk_comp, ↓stk_rows, ↓stk_rc, ↓stk_for, ↓stk_whl, ↓stk_said, ↓Br.t, ↓Br.f, Br.t, Br.f, ↓w_var, ↓w_int, ↓w_bool, ↓w_none, ↓w_str, ↓w_glob, ↓w_bin, ↓w_neg, ↓w_not, ↓w_cmp, ↓w_chain, ↓w_and, ↓w_or, ↓w_ife, ↓w_tup, ↓w_lst, ↓w_ix, ↓w_ixR, ↓w_rowc, ↓w_rcomp, ↓w_sl0, ↓w_slL, ↓w_slH, ↓w_slB, ↓w_bi, ↓w_isi, ↓w_op, ↓w_idx, ↓w_sm, isS_s, ↓w_dic, ↓w_me, ↓w_call, ↓w_pick, ↓w_isx, ↓w_comp, ↓w_compI, ↓w_nil, ↓w_cons, ↓w_seq, ↓w_rng1, ↓w_rng2, ↓w_enm, ↓w_zip, ↓w_zip3, ↓s_nil, ↓s_cons, ↓s_set, ↓s_setT, ↓s_setP, ↓s_setI, ↓s_expr, ↓s_ife, ↓s_whl, ↓s_for, ↓s_ret, ↓s_retN, ↓s_pass, ↓s_brk, ↓s_cont, ↓Ok.ok, ↓Ok.bind, Sm.s, Sm.map, Sm.ite, Snap.b, In.i, Bl.b, Rf.r, mk_f, mk_t, ixF_b, ixF_r, ixF_s, pickF_w, isxF_n, isxF_e, biF_len, biF_b, biF_r, opF_w, isL_b, isL_r, Snaps, itSeq_l, itSeq_t, itZip_l, itZip_t, itZip3_w, binP, intBin, cmp_lt, cmp_le, cmp_gt, cmp_ge, cmp_eqi, cmp_nei, cmp_eqb, cmp_neb, cmp_is, cmp_isnot, cmp_isn, cmp_isnotn, isi_int, isi_bool, isi_tup, isi_lst, isi_str, isI, isBo, isTu, isLi, isSt, truth, ixP, slP, biP, owns, own, at_0, at_1, at_2, at_3, set_0, setsD, asgn, asgnT, sets, List.getElem?_cons_zero, List.getElem?_cons_succ, List.set_cons_zero, List.set_cons_succ, List.length_cons, List.length_nil, decide_eq_true_eq, Bool.not_true, Bool.not_false, Bool.not_eq_true', decide_eq_false_iff_not, Bool.true_eq_false, Bool.false_eq_true, if_true, if_false, true_and, meF_w (get_end (t := []) (o := .lst (((List.range i).flatMap (prR p)).map prD)) (m := m) rfl), meA, snaps_w, meL, set_end (m := m) rfl, e1]; try (first | refine Br.d ?_ | refine Br.nd ?_ | refine Br.nb ?_ | refine Br.b ?_))
      refine ⟨?_, _, _, rfl, ?_⟩
      · rw [List.length_map, List.length_map, prR_len]
        have h1 := prs_le (p := p) i
        have h2 := mul_few (i := i) (p := p) (by omega) hp
        have h3 : p - (i + 1) ≤ 1000 := by omega
        show _ + _ ≤ 16777216
        exact Nat.le_trans (Nat.add_le_add (Nat.le_trans h1 h2) h3) (by decide)
      · rw [← List.map_append, List.range_succ, List.flatMap_append, List.flatMap_cons, List.flatMap_nil, List.append_nil]
  · rintro δ mm ⟨o2, o3, rfl, rfl⟩
    refine ⟨trivial, ?_⟩
    (simp only [↓stk_call, ↓stk_comp, ↓stk_rows, ↓stk_rc, ↓stk_for, ↓stk_whl, ↓stk_said, ↓Br.t, ↓Br.f, Br.t, Br.f, ↓w_var, ↓w_int, ↓w_bool, ↓w_none, ↓w_str, ↓w_glob, ↓w_bin, ↓w_neg, ↓w_not, ↓w_cmp, ↓w_chain, ↓w_and, ↓w_or, ↓w_ife, ↓w_tup, ↓w_lst, ↓w_ix, ↓w_ixR, ↓w_rowc, ↓w_rcomp, ↓w_sl0, ↓w_slL, ↓w_slH, ↓w_slB, ↓w_bi, ↓w_isi, ↓w_op, ↓w_idx, ↓w_sm, isS_s, ↓w_dic, ↓w_me, ↓w_call, ↓w_pick, ↓w_isx, ↓w_comp, ↓w_compI, ↓w_nil, ↓w_cons, ↓w_seq, ↓w_rng1, ↓w_rng2, ↓w_enm, ↓w_zip, ↓w_zip3, ↓s_nil, ↓s_cons, ↓s_set, ↓s_setT, ↓s_setP, ↓s_setI, ↓s_expr, ↓s_ife, ↓s_whl, ↓s_for, ↓s_ret, ↓s_retN, ↓s_pass, ↓s_brk, ↓s_cont, ↓Ok.ok, ↓Ok.bind, Sm.s, Sm.map, Sm.ite, Snap.b, In.i, Bl.b, Rf.r, mk_f, mk_t, ixF_b, ixF_r, ixF_s, pickF_w, isxF_n, isxF_e, biF_len, biF_b, biF_r, opF_w, isL_b, isL_r, Snaps, itSeq_l, itSeq_t, itZip_l, itZip_t, itZip3_w, binP, intBin, cmp_lt, cmp_le, cmp_gt, cmp_ge, cmp_eqi, cmp_nei, cmp_eqb, cmp_neb, cmp_is, cmp_isnot, cmp_isn, cmp_isnotn, isi_int, isi_bool, isi_tup, isi_lst, isi_str, isI, isBo, isTu, isLi, isSt, truth, ixP, slP, biP, owns, own, at_0, at_1, at_2, at_3, set_0, setsD, asgn, asgnT, sets, List.getElem?_cons_zero, List.getElem?_cons_succ, List.set_cons_zero, List.set_cons_succ, List.length_cons, List.length_nil, decide_eq_true_eq, Bool.not_true, Bool.not_false, Bool.not_eq_true', decide_eq_false_iff_not, Bool.true_eq_false, Bool.false_eq_true, if_true, if_false, true_and]; try (first | refine Br.d ?_ | refine Br.nd ?_ | refine Br.nb ?_ | refine Br.b ?_))
    refine ⟨m.length, _, m, rfl, Nat.le_refl _, get_end rfl, take_end rfl, ?_⟩
    have : (rngP 0 (p : Int)).length = p := by rw [rngL]; omega
    rw [this]
    simp [prs]
noncomputable def cfP (v : Int) (n : Nat) (cs : List PyData) (x : PyData) : Bool :=
  match x with
  | .tuple [.int a, .int b] => decide (v ∉ jL n cs a.toNat b.toNat)
  | _ => false
noncomputable def evL (v : Int) (n p : Nat) (cs : List PyData) : List (Nat × Nat) := (prs p).filter fun e => decide (v ∉ jL n cs e.1 e.2)
theorem cmp_nint (l : List Int) (x : Int) : cmpP .NotIn (.int x) (.tuple (l.map .int)) = some (!decide (x ∈ l)) := by
  show (isIn (.int x) (.tuple (l.map .int))).map (!·) = _
  rw [in_tuple]; rfl
theorem cfP_map (v : Int) (n p : Nat) (cs : List PyData) : ((prs p).map prD).filter (cfP v n cs) = (evL v n p cs).map prD := by
  rw [List.filter_map]
  rfl
theorem ever_comp (g_all_pairs : G "all_pairs" = some b_all_pairs) (g_joined_at : G "joined_at" = some b_joined_at) (g_settings : G "settings" = some b_settings) (g_shut_at : G "shut_at" = some b_shut_at) (g_reached : G "reached" = some b_reached) {n p : Nat} {cs : List PyData} {v : Int} {δ1 : Option D} {Q : D → Mem → Prop} (hn : n ≤ 4) (hc : cs.length ≤ 16) (hp : p ≤ 1000) (hg : ∀ c ∈ cs, GoodC n p c)
    (hq : Q (.b (.list ((evL v n p cs).map prD))) m) :
    Ok (ev (run G (k + 2)) (.compI false (.one 1) (.seq (.call false "all_pairs" (.cons (.var 0) .nil))) (.cmp .NotIn (.int v) (.call false "joined_at" (.cons (.var 0) (.cons (.ix (.var 1) (.int 0)) (.cons (.ix (.var 1) (.int 1)) .nil))))) (.var 1)) [some (.b (.tuple [.int n, .int p, .tuple cs])), δ1] m) Q := by
  (simp only [↓stk_call, ↓stk_comp, ↓stk_rows, ↓stk_rc, ↓stk_for, ↓stk_whl, ↓stk_said, ↓Br.t, ↓Br.f, Br.t, Br.f, ↓w_var, ↓w_int, ↓w_bool, ↓w_none, ↓w_str, ↓w_glob, ↓w_bin, ↓w_neg, ↓w_not, ↓w_cmp, ↓w_chain, ↓w_and, ↓w_or, ↓w_ife, ↓w_tup, ↓w_lst, ↓w_ix, ↓w_ixR, ↓w_rowc, ↓w_rcomp, ↓w_sl0, ↓w_slL, ↓w_slH, ↓w_slB, ↓w_bi, ↓w_isi, ↓w_op, ↓w_idx, ↓w_sm, isS_s, ↓w_dic, ↓w_me, ↓w_call, ↓w_pick, ↓w_isx, ↓w_comp, ↓w_compI, ↓w_nil, ↓w_cons, ↓w_seq, ↓w_rng1, ↓w_rng2, ↓w_enm, ↓w_zip, ↓w_zip3, ↓s_nil, ↓s_cons, ↓s_set, ↓s_setT, ↓s_setP, ↓s_setI, ↓s_expr, ↓s_ife, ↓s_whl, ↓s_for, ↓s_ret, ↓s_retN, ↓s_pass, ↓s_brk, ↓s_cont, ↓Ok.ok, ↓Ok.bind, Sm.s, Sm.map, Sm.ite, Snap.b, In.i, Bl.b, Rf.r, mk_f, mk_t, ixF_b, ixF_r, ixF_s, pickF_w, isxF_n, isxF_e, biF_len, biF_b, biF_r, opF_w, isL_b, isL_r, Snaps, itSeq_l, itSeq_t, itZip_l, itZip_t, itZip3_w, binP, intBin, cmp_lt, cmp_le, cmp_gt, cmp_ge, cmp_eqi, cmp_nei, cmp_eqb, cmp_neb, cmp_is, cmp_isnot, cmp_isn, cmp_isnotn, isi_int, isi_bool, isi_tup, isi_lst, isi_str, isI, isBo, isTu, isLi, isSt, truth, ixP, slP, biP, owns, own, at_0, at_1, at_2, at_3, set_0, setsD, asgn, asgnT, sets, List.getElem?_cons_zero, List.getElem?_cons_succ, List.set_cons_zero, List.set_cons_succ, List.length_cons, List.length_nil, decide_eq_true_eq, Bool.not_true, Bool.not_false, Bool.not_eq_true', decide_eq_false_iff_not, Bool.true_eq_false, Bool.false_eq_true, if_true, if_false, true_and]; try (first | refine Br.d ?_ | refine Br.nd ?_ | refine Br.nb ?_ | refine Br.b ?_))
  refine (allpairs_call (k := k + 1) g_all_pairs hp).mono ?_
  rintro _ _ ⟨rfl, rfl⟩
  (simp only [↓stk_call, ↓stk_comp, ↓stk_rows, ↓stk_rc, ↓stk_for, ↓stk_whl, ↓stk_said, ↓Br.t, ↓Br.f, Br.t, Br.f, ↓w_var, ↓w_int, ↓w_bool, ↓w_none, ↓w_str, ↓w_glob, ↓w_bin, ↓w_neg, ↓w_not, ↓w_cmp, ↓w_chain, ↓w_and, ↓w_or, ↓w_ife, ↓w_tup, ↓w_lst, ↓w_ix, ↓w_ixR, ↓w_rowc, ↓w_rcomp, ↓w_sl0, ↓w_slL, ↓w_slH, ↓w_slB, ↓w_bi, ↓w_isi, ↓w_op, ↓w_idx, ↓w_sm, isS_s, ↓w_dic, ↓w_me, ↓w_call, ↓w_pick, ↓w_isx, ↓w_comp, ↓w_compI, ↓w_nil, ↓w_cons, ↓w_seq, ↓w_rng1, ↓w_rng2, ↓w_enm, ↓w_zip, ↓w_zip3, ↓s_nil, ↓s_cons, ↓s_set, ↓s_setT, ↓s_setP, ↓s_setI, ↓s_expr, ↓s_ife, ↓s_whl, ↓s_for, ↓s_ret, ↓s_retN, ↓s_pass, ↓s_brk, ↓s_cont, ↓Ok.ok, ↓Ok.bind, Sm.s, Sm.map, Sm.ite, Snap.b, In.i, Bl.b, Rf.r, mk_f, mk_t, ixF_b, ixF_r, ixF_s, pickF_w, isxF_n, isxF_e, biF_len, biF_b, biF_r, opF_w, isL_b, isL_r, Snaps, itSeq_l, itSeq_t, itZip_l, itZip_t, itZip3_w, binP, intBin, cmp_lt, cmp_le, cmp_gt, cmp_ge, cmp_eqi, cmp_nei, cmp_eqb, cmp_neb, cmp_is, cmp_isnot, cmp_isn, cmp_isnotn, isi_int, isi_bool, isi_tup, isi_lst, isi_str, isI, isBo, isTu, isLi, isSt, truth, ixP, slP, biP, owns, own, at_0, at_1, at_2, at_3, set_0, setsD, asgn, asgnT, sets, List.getElem?_cons_zero, List.getElem?_cons_succ, List.set_cons_zero, List.set_cons_succ, List.length_cons, List.length_nil, decide_eq_true_eq, Bool.not_true, Bool.not_false, Bool.not_eq_true', decide_eq_false_iff_not, Bool.true_eq_false, Bool.false_eq_true, if_true, if_false, true_and]; try (first | refine Br.d ?_ | refine Br.nd ?_ | refine Br.nb ?_ | refine Br.b ?_))
  have hl : (prs p).length ≤ 1000000 := by
    exact Nat.le_trans (prs_le (p := p) p) (mul_few hp hp)
  refine compI_pure (cfP v n cs) id (by rw [List.length_map]; show _ ≤ 16777216; omega) (fun x hx mm => ?_) ?_
  · obtain ⟨e, he, rfl⟩ := List.mem_map.mp hx
    have hm := prs_mem he
    (simp only [↓stk_call, ↓stk_comp, ↓stk_rows, ↓stk_rc, ↓stk_for, ↓stk_whl, ↓stk_said, ↓Br.t, ↓Br.f, Br.t, Br.f, ↓w_var, ↓w_int, ↓w_bool, ↓w_none, ↓w_str, ↓w_glob, ↓w_bin, ↓w_neg, ↓w_not, ↓w_cmp, ↓w_chain, ↓w_and, ↓w_or, ↓w_ife, ↓w_tup, ↓w_lst, ↓w_ix, ↓w_ixR, ↓w_rowc, ↓w_rcomp, ↓w_sl0, ↓w_slL, ↓w_slH, ↓w_slB, ↓w_bi, ↓w_isi, ↓w_op, ↓w_idx, ↓w_sm, isS_s, ↓w_dic, ↓w_me, ↓w_call, ↓w_pick, ↓w_isx, ↓w_comp, ↓w_compI, ↓w_nil, ↓w_cons, ↓w_seq, ↓w_rng1, ↓w_rng2, ↓w_enm, ↓w_zip, ↓w_zip3, ↓s_nil, ↓s_cons, ↓s_set, ↓s_setT, ↓s_setP, ↓s_setI, ↓s_expr, ↓s_ife, ↓s_whl, ↓s_for, ↓s_ret, ↓s_retN, ↓s_pass, ↓s_brk, ↓s_cont, ↓Ok.ok, ↓Ok.bind, Sm.s, Sm.map, Sm.ite, Snap.b, In.i, Bl.b, Rf.r, mk_f, mk_t, ixF_b, ixF_r, ixF_s, pickF_w, isxF_n, isxF_e, biF_len, biF_b, biF_r, opF_w, isL_b, isL_r, Snaps, itSeq_l, itSeq_t, itZip_l, itZip_t, itZip3_w, binP, intBin, cmp_lt, cmp_le, cmp_gt, cmp_ge, cmp_eqi, cmp_nei, cmp_eqb, cmp_neb, cmp_is, cmp_isnot, cmp_isn, cmp_isnotn, isi_int, isi_bool, isi_tup, isi_lst, isi_str, isI, isBo, isTu, isLi, isSt, truth, ixP, slP, biP, owns, own, at_0, at_1, at_2, at_3, set_0, setsD, asgn, asgnT, sets, List.getElem?_cons_zero, List.getElem?_cons_succ, List.set_cons_zero, List.set_cons_succ, List.length_cons, List.length_nil, decide_eq_true_eq, Bool.not_true, Bool.not_false, Bool.not_eq_true', decide_eq_false_iff_not, Bool.true_eq_false, Bool.false_eq_true, if_true, if_false, true_and, clear, Tg.slots, truthD_w, prD]; try (first | refine Br.d ?_ | refine Br.nd ?_ | refine Br.nb ?_ | refine Br.b ?_))
    refine (zjoin_call g_joined_at g_settings g_shut_at g_reached hn hc (by omega) hg (a := e.1) (b := e.2) (by omega)).mono ?_
    rintro _ _ ⟨rfl, rfl⟩
    (simp only [↓stk_call, ↓stk_comp, ↓stk_rows, ↓stk_rc, ↓stk_for, ↓stk_whl, ↓stk_said, ↓Br.t, ↓Br.f, Br.t, Br.f, ↓w_var, ↓w_int, ↓w_bool, ↓w_none, ↓w_str, ↓w_glob, ↓w_bin, ↓w_neg, ↓w_not, ↓w_cmp, ↓w_chain, ↓w_and, ↓w_or, ↓w_ife, ↓w_tup, ↓w_lst, ↓w_ix, ↓w_ixR, ↓w_rowc, ↓w_rcomp, ↓w_sl0, ↓w_slL, ↓w_slH, ↓w_slB, ↓w_bi, ↓w_isi, ↓w_op, ↓w_idx, ↓w_sm, isS_s, ↓w_dic, ↓w_me, ↓w_call, ↓w_pick, ↓w_isx, ↓w_comp, ↓w_compI, ↓w_nil, ↓w_cons, ↓w_seq, ↓w_rng1, ↓w_rng2, ↓w_enm, ↓w_zip, ↓w_zip3, ↓s_nil, ↓s_cons, ↓s_set, ↓s_setT, ↓s_setP, ↓s_setI, ↓s_expr, ↓s_ife, ↓s_whl, ↓s_for, ↓s_ret, ↓s_retN, ↓s_pass, ↓s_brk, ↓s_cont, ↓Ok.ok, ↓Ok.bind, Sm.s, Sm.map, Sm.ite, Snap.b, In.i, Bl.b, Rf.r, mk_f, mk_t, ixF_b, ixF_r, ixF_s, pickF_w, isxF_n, isxF_e, biF_len, biF_b, biF_r, opF_w, isL_b, isL_r, Snaps, itSeq_l, itSeq_t, itZip_l, itZip_t, itZip3_w, binP, intBin, cmp_lt, cmp_le, cmp_gt, cmp_ge, cmp_eqi, cmp_nei, cmp_eqb, cmp_neb, cmp_is, cmp_isnot, cmp_isn, cmp_isnotn, isi_int, isi_bool, isi_tup, isi_lst, isi_str, isI, isBo, isTu, isLi, isSt, truth, ixP, slP, biP, owns, own, at_0, at_1, at_2, at_3, set_0, setsD, asgn, asgnT, sets, List.getElem?_cons_zero, List.getElem?_cons_succ, List.set_cons_zero, List.set_cons_succ, List.length_cons, List.length_nil, decide_eq_true_eq, Bool.not_true, Bool.not_false, Bool.not_eq_true', decide_eq_false_iff_not, Bool.true_eq_false, Bool.false_eq_true, if_true, if_false, true_and, jD, cmp_nint, truthD_w]; try (first | refine Br.d ?_ | refine Br.nd ?_ | refine Br.nb ?_ | refine Br.b ?_))
    refine ⟨?_, fun _ => rfl⟩
    show _ = decide (v ∉ jL n cs e.1 e.2)
    simp
  · rw [List.map_id, cfP_map]
    simpa using hq
theorem always_call (g_always_joined : G "always_joined" = some b_always_joined) (g_all_pairs : G "all_pairs" = some b_all_pairs) (g_joined_at : G "joined_at" = some b_joined_at) (g_settings : G "settings" = some b_settings) (g_shut_at : G "shut_at" = some b_shut_at) (g_reached : G "reached" = some b_reached) {n p : Nat} {cs : List PyData} (hn : n ≤ 4) (hc : cs.length ≤ 16) (hp : p ≤ 1000) (hg : ∀ c ∈ cs, GoodC n p c) :
    Ok (run G (k + 3) "always_joined" [.b (.tuple [.int n, .int p, .tuple cs])] m) fun d m' => m' = m ∧ d = .b (.list ((evL 0 n p cs).map prD)) := by
  refine run_ok g_always_joined ⟨rfl, by decide⟩ ?_
  rw [show startE b_always_joined.n [.b (.tuple [.int n, .int p, .tuple cs])] = [some (.b (.tuple [.int n, .int p, .tuple cs])), none] from rfl]
  unfold b_always_joined
  rw [s_cons, s_ret]
  exact ever_comp g_all_pairs g_joined_at g_settings g_shut_at g_reached hn hc hp hg ⟨rfl, rfl⟩
theorem never_call (g_never_joined : G "never_joined" = some b_never_joined) (g_all_pairs : G "all_pairs" = some b_all_pairs) (g_joined_at : G "joined_at" = some b_joined_at) (g_settings : G "settings" = some b_settings) (g_shut_at : G "shut_at" = some b_shut_at) (g_reached : G "reached" = some b_reached) {n p : Nat} {cs : List PyData} (hn : n ≤ 4) (hc : cs.length ≤ 16) (hp : p ≤ 1000) (hg : ∀ c ∈ cs, GoodC n p c) :
    Ok (run G (k + 3) "never_joined" [.b (.tuple [.int n, .int p, .tuple cs])] m) fun d m' => m' = m ∧ d = .b (.list ((evL 1 n p cs).map prD)) := by
  refine run_ok g_never_joined ⟨rfl, by decide⟩ ?_
  rw [show startE b_never_joined.n [.b (.tuple [.int n, .int p, .tuple cs])] = [some (.b (.tuple [.int n, .int p, .tuple cs])), none] from rfl]
  unfold b_never_joined
  rw [s_cons, s_ret]
  exact ever_comp g_all_pairs g_joined_at g_settings g_shut_at g_reached hn hc hp hg ⟨rfl, rfl⟩
end
end Z

/-! ZX: reasoning about lists of lists that are changed. -/
namespace Z
open PySem
section
variable {run : Str → List D → Mem → R D} {δ : Env} {m : Mem}
theorem ixRF_w {n k : Nat} {i : Int} {ks : List Nat} (h : m[n]? = some (.rows ks)) (hk : atP ks i = some k) (Q : D → Mem → Prop) : Ok (ixRF (.ref n) (.b (.int i)) m) Q = Q (.ref k) m := by
  unfold ixRF
  simp only [h, hk]
  rfl
/-- the memory behind i turns -/
def rowsM (m : Mem) (f : Nat → List PyData) (i : Nat) : Mem := m ++ ((if i = 0 then MO.lst [] else .any) :: (List.range i).map fun j => .lst (f j))
theorem rowsM_len (m : Mem) (f : Nat → List PyData) (i : Nat) : (rowsM m f i).length = m.length + 1 + i := by
  unfold rowsM
  rw [List.length_append, List.length_cons, List.length_map, List.length_range]
  omega
theorem rows_ok {e : Env → Mem → R D} {tg : Tg} {g : Gd} {Q : D → Mem → Prop} {xs : List PyData} (f : Nat → List PyData) (hx : xs.length ≤ lim)
    (hs : ∀ i x, xs[i]? = some x → gOk g (rowsM m f i) ∧ Sm (asgn tg x (clear δ tg.slots)) fun δ1 => Ok (e δ1 (rowsM m f i)) fun d m2 => d = .ref (m.length + 1 + i) ∧ m2 = rowsM m f i ++ [.lst (f i)])
    (hg : gOk g (rowsM m f xs.length))
    (hq : Q (.ref (m.length + xs.length)) (m ++ (((List.range xs.length).map fun j => MO.lst (f j)) ++ [.rows ((List.range xs.length).map fun j => m.length + j)]))) :
    Ok (rowsL e tg δ g m.length xs [] (m ++ [.lst []])) fun ks m' => Ok (rowsE m.length ks m') Q := by
  have main : ∀ (ys : List PyData) (i : Nat), xs.drop i = ys → i ≤ xs.length → Ok (rowsL e tg δ g m.length ys ((List.range i).map fun j => m.length + 1 + j) (rowsM m f i)) fun ks m' => Ok (rowsE m.length ks m') Q := by
    intro ys
    induction ys with
    | nil =>
      intro i hd hi
      have ei : i = xs.length := by
        have := congrArg List.length hd
        rw [List.length_drop] at this
        simp at this
        omega
      subst ei
      rw [rowsL, if_pos hg]
      show Ok (rowsE m.length _ _) Q
      unfold rowsE
      have hh : heldAt ((List.range xs.length).map fun j => m.length + 1 + j) (rowsM m f xs.length)[m.length]? = true := by
        unfold rowsM
        rw [List.getElem?_append_right (Nat.le_refl _), Nat.sub_self]
        cases xs with
        | nil => rfl
        | cons x xs =>
          rw [List.length_cons, List.range_succ_eq_map]
          rfl
      have hd2 : (rowsM m f xs.length).drop (m.length + 1) = (List.range xs.length).map fun j => MO.lst (f j) := by
        unfold rowsM
        rw [List.drop_append, List.drop_of_length_le (by omega), Nat.add_sub_cancel_left]
        rfl
      have ht : (rowsM m f xs.length).take m.length = m := by
        unfold rowsM
        exact List.take_left
      have ha : ((List.range xs.length).map fun j => MO.lst (f j)).all isLst = true := by
        rw [List.all_eq_true]
        intro o ho
        obtain ⟨j, _, rfl⟩ := List.mem_map.mp ho
        rfl
      have hk : ((List.range xs.length).map fun j => m.length + 1 + j).all (fun j => decide (m.length < j)) = true := by
        rw [List.all_eq_true]
        intro o ho
        obtain ⟨j, _, rfl⟩ := List.mem_map.mp ho
        exact decide_eq_true (by omega)
      rw [hh, hd2, ha, hk, ht, rowsM_len]
      have e1 : m.length + 1 + xs.length - 1 = m.length + xs.length := by omega
      have e2 : ((List.range xs.length).map fun j => m.length + 1 + j).map (fun j => j - 1) = (List.range xs.length).map fun j => m.length + j := by
        rw [List.map_map]
        exact List.map_congr_left fun j _ => by show m.length + 1 + j - 1 = m.length + j; omega
      rw [e1, e2]
      exact hq
    | cons y ys ih =>
      intro i hd hi
      have hlt : i < xs.length := by
        have := congrArg List.length hd
        rw [List.length_drop, List.length_cons] at this
        omega
      have hy : xs[i]? = some y := by
        have := congrArg (fun l => l[0]?) hd
        simpa using this
      have hd' : xs.drop (i + 1) = ys := by
        have := congrArg (List.drop 1) hd
        rw [List.drop_drop] at this
        simpa [Nat.add_comm] using this
      obtain ⟨h1, h2⟩ := hs i y hy
      rw [rowsL, if_pos h1]
      cases q : asgn tg y (clear δ tg.slots) with
      | none => rw [q] at h2; exact h2.elim
      | some δ1 =>
        rw [q] at h2
        obtain ⟨d, m2, q2, rfl, rfl⟩ := (show Ok _ _ from h2).out
        simp only [q2]
        have hh : heldAt ((List.range i).map fun j => m.length + 1 + j) (rowsM m f i ++ [MO.lst (f i)])[m.length]? = true := by
          rw [List.getElem?_append_left (by rw [rowsM_len]; omega)]
          unfold rowsM
          rw [List.getElem?_append_right (Nat.le_refl _), Nat.sub_self]
          cases i with
          | zero => rfl
          | succ i =>
            rw [List.range_succ_eq_map]
            rfl
        rw [if_pos ⟨by omega, by rw [List.length_map, List.length_range]; omega, hh⟩]
        have e1 : ((List.range i).map fun j => m.length + 1 + j) ++ [m.length + 1 + i] = (List.range (i + 1)).map fun j => m.length + 1 + j := by
          rw [List.range_succ, List.map_append]; rfl
        have e2 : (rowsM m f i ++ [MO.lst (f i)]).set m.length .any = rowsM m f (i + 1) := by
          unfold rowsM
          rw [List.append_assoc, List.set_append_right _ _ (Nat.le_refl _), Nat.sub_self, List.range_succ, List.map_append]
          rfl
        rw [e1, e2]
        exact ih (i + 1) hd' hlt
  exact main xs 0 rfl (Nat.zero_le _)
theorem rowsOf_w {n : Nat} {ks : List Nat} (h : m[n]? = some (.rows ks)) (P : Nat × List Nat → Prop) : Sm (rowsOf (.ref n) m) P = P (n, ks) := by
  unfold rowsOf
  simp only [h]
  rfl
theorem rcomp_ok {e : Env → Mem → R D} {i n : Nat} {ks : List Nat} {Q : D → Mem → Prop} (ys : List PyData) (hm : m[n]? = some (.rows ks)) (hl : ys.length = ks.length) (hk : ks.length ≤ lim)
    (he : ∀ (j k : Nat) (y : PyData), ks[j]? = some k → ys[j]? = some y → ∀ zs, Ok (e ((clear δ [i]).set i (some (.ref k))) (m ++ [.lst zs])) fun d m2 => m2 = m ++ [.lst zs] ∧ d = .b y) (hq : Q (.b (.list ys)) m) :
    Ok (rcL e i δ n ks m.length ks (m ++ [.lst []])) fun _ m' => Ok (leave false m.length (.ref m.length) m') Q := by
  have hn : ∀ zs, (m ++ [MO.lst zs])[n]? = some (.rows ks) := fun zs => by
    rw [List.getElem?_append_left (List.getElem?_eq_some_iff.mp hm).1]; exact hm
  have main : ∀ (js : List Nat) (j : Nat), ks.drop j = js → j ≤ ks.length → Ok (rcL e i δ n ks m.length js (m ++ [.lst (ys.take j)])) fun _ m' => Ok (leave false m.length (.ref m.length) m') Q := by
    intro js
    induction js with
    | nil =>
      intro j hd hj
      have ei : j = ks.length := by
        have := congrArg List.length hd
        rw [List.length_drop] at this
        simp at this
        omega
      subst ei
      rw [rcL, if_pos (hn _)]
      show Ok (leave false m.length (.ref m.length) _) Q
      rw [leave_new false m m _ rfl, ← hl, List.take_length]
      simpa using hq
    | cons k js ih =>
      intro j hd hj
      have hlt : j < ks.length := by
        have := congrArg List.length hd
        rw [List.length_drop, List.length_cons] at this
        omega
      have hy : ks[j]? = some k := by
        have := congrArg (fun l => l[0]?) hd
        simpa using this
      have hd' : ks.drop (j + 1) = js := by
        have := congrArg (List.drop 1) hd
        rw [List.drop_drop] at this
        simpa [Nat.add_comm] using this
      obtain ⟨y, hyy⟩ : ∃ y, ys[j]? = some y := ⟨_, List.getElem?_eq_getElem (by omega)⟩
      obtain ⟨d, m2, q2, rfl, rfl⟩ := (he j k y hy hyy (ys.take j)).out
      rw [rcL, if_pos (hn _)]
      simp only [q2, own]
      have g : (m ++ [MO.lst (ys.take j)])[m.length]? = some (.lst (ys.take j)) := by simp
      simp only [g]
      rw [if_pos (by rw [List.length_take]; omega)]
      have e2 : ((m ++ [MO.lst (ys.take j)]).take (m.length + 1)).set m.length (.lst (ys.take j ++ [y])) = m ++ [.lst (ys.take (j + 1))] := by
        rw [List.take_of_length_le (by simp), List.take_add_one, hyy]
        simp
      rw [e2]
      exact ih (j + 1) hd' hlt
  exact main ks 0 rfl (Nat.zero_le _)
end
end Z

namespace LK
open PySem PySem.Spec PyProof.Rows L2 Z
def topS (i : Nat) : Stmt := (PySem.Challenge.pw_contactnets_k81_pieces_and_rings).main.body.getD i (.Pass ⟨0, 0, 0, 0⟩)
/-- shut_at: 0 net 1 setting 2 number 3 contact -/
def b_shut_at : Fd := ⟨2, 4, (.cons (.ret (.bi .tuple false (.cons (.compI false (.many [2, 3]) (.enm (.ix (.var 0) (.int 2))) (.cmp .Eq (.ix (.var 1) (.ix (.var 3) (.int 2))) (.ix (.var 3) (.int 3))) (.var 2)) .nil))) .nil)⟩
def r_shut_at : Z.Row := ⟨"shut_at", topS 1, ["net", "setting", "number", "contact"], ["net", "setting"], b_shut_at, false⟩
/-- reached: 0 net 1 numbers 2 place 3 found 4 at 5 number 6 ends 7 other -/
def b_reached : Fd := ⟨3, 8, (.cons (.set 3 (.lst true (.cons (.var 2) .nil))) (.cons (.set 4 (.int 0)) (.cons (.whl (.cmp .Lt (.var 4) (.bi .len false (.cons (.var 3) .nil))) (.cons (.for (.one 5) (.seq (.var 1)) (.cons (.set 6 (.slH (.ix (.ix (.var 0) (.int 2)) (.var 5)) (.int 2))) (.cons (.ife (.cmp .In (.ix (.var 3) (.var 4)) (.var 6)) (.cons (.set 7 (.bin .Sub (.bin .Add (.ix (.var 6) (.int 0)) (.ix (.var 6) (.int 1))) (.ix (.var 3) (.var 4)))) (.cons (.ife (.cmp .NotIn (.var 7) (.var 3)) (.cons (.expr (.me .append (.var 3) (.cons (.var 7) .nil))) .nil) .nil) .nil)) .nil) .nil))) (.cons (.set 4 (.bin .Add (.var 4) (.int 1))) .nil))) (.cons (.ret (.bi .sorted false (.cons (.var 3) .nil))) .nil))))⟩
def r_reached : Z.Row := ⟨"reached", topS 2, ["net", "numbers", "place", "found", "at", "number", "ends", "other"], ["net", "numbers", "place"], b_reached, false⟩
/-- pieces_at: 0 net 1 setting 2 shut 3 found 4 place 5 piece -/
def b_pieces_at : Fd := ⟨2, 6, (.cons (.set 2 (.call false "shut_at" (.cons (.var 0) (.cons (.var 1) .nil)))) (.cons (.set 3 (.lst true .nil)) (.cons (.for (.one 4) (.rng1 (.ix (.var 0) (.int 1))) (.cons (.set 5 (.bi .tuple false (.cons (.call false "reached" (.cons (.var 0) (.cons (.var 2) (.cons (.var 4) .nil)))) .nil))) (.cons (.ife (.cmp .Eq (.ix (.var 5) (.int 0)) (.var 4)) (.cons (.expr (.me .append (.var 3) (.cons (.var 5) .nil))) .nil) .nil) .nil))) (.cons (.ret (.var 3)) .nil))))⟩
def r_pieces_at : Z.Row := ⟨"pieces_at", topS 4, ["net", "setting", "shut", "found", "place", "piece"], ["net", "setting"], b_pieces_at, false⟩
/-- rings_at: 0 net 1 setting -/
def b_rings_at : Fd := ⟨2, 2, (.cons (.ret (.bin .Add (.bin .Sub (.bi .len false (.cons (.call false "shut_at" (.cons (.var 0) (.cons (.var 1) .nil))) .nil)) (.ix (.var 0) (.int 1))) (.bi .len false (.cons (.call false "pieces_at" (.cons (.var 0) (.cons (.var 1) .nil))) .nil)))) .nil)⟩
def r_rings_at : Z.Row := ⟨"rings_at", topS 5, ["net", "setting"], ["net", "setting"], b_rings_at, false⟩
/-- _law_cell_at: 0 _law_script 1 _law_k -/
def b_law_cell_at : Fd := ⟨2, 2, (.cons (.ife (.cmp .Lt (.var 1) (.bi .len false (.cons (.var 0) .nil))) (.cons (.ret (.ix (.var 0) (.var 1))) .nil) .nil) (.cons (.ret (.int 0)) .nil))⟩
def r_law_cell_at : Z.Row := ⟨"_law_cell_at", topS 7, ["_law_script", "_law_k"], ["_law_script", "_law_k"], b_law_cell_at, false⟩
/-- _law_state: 0 _law_script 1 _law_k 2 _law_cell -/
def b_law_state : Fd := ⟨2, 3, (.cons (.set 2 (.call false "_law_cell_at" (.cons (.var 0) (.cons (.var 1) .nil)))) (.cons (.ife (.cmp .GtE (.var 2) (.bin .Pow (.int 10) (.int 18))) (.cons (.ret (.lst true (.cons (.bin .Sub (.var 2) (.bin .Pow (.int 10) (.int 18))) (.cons (.bool true) .nil)))) .nil) .nil) (.cons (.ret (.lst true (.cons (.bin .Mod (.var 2) (.int 2147483647)) (.cons (.bool false) .nil)))) .nil)))⟩
def r_law_state : Z.Row := ⟨"_law_state", topS 8, ["_law_script", "_law_k", "_law_cell"], ["_law_script", "_law_k"], b_law_state, false⟩
/-- _law_take: 0 _law_state_here 1 _law_many 2 _law_mixed 3 _law_found -/
def b_law_take : Fd := ⟨2, 4, (.cons (.ife (.ix (.var 0) (.int 1)) (.cons (.set 3 (.bin .Mod (.ix (.var 0) (.int 0)) (.var 1))) (.cons (.setI (.var 0) (.int 0) (.bin .FloorDiv (.ix (.var 0) (.int 0)) (.var 1))) (.cons (.ret (.var 3)) .nil))) .nil) (.cons (.setI (.var 0) (.int 0) (.bin .Mod (.bin .Add (.bin .Mult (.ix (.var 0) (.int 0)) (.int 48271)) (.int 29)) (.int 2147483647))) (.cons (.set 2 (.bin .Mod (.bin .Add (.bin .Add (.bin .Mult (.ix (.var 0) (.int 0)) (.ix (.var 0) (.int 0))) (.bin .Mult (.int 39373) (.ix (.var 0) (.int 0)))) (.int 7)) (.int 2147483629))) (.cons (.set 2 (.bin .Mod (.bin .Add (.bin .Mult (.var 2) (.var 2)) (.bin .Mult (.int 16807) (.var 2))) (.int 2147483587))) (.cons (.ret (.bin .Mod (.bin .FloorDiv (.var 2) (.int 8)) (.var 1))) .nil)))))⟩
def r_law_take : Z.Row := ⟨"_law_take", topS 9, ["_law_state_here", "_law_many", "_law_mixed", "_law_found"], ["_law_state_here", "_law_many"], b_law_take, false⟩
/-- _law_ends: 0 _law_state_here 1 _law_places 2 _law_row 3 _law_one 4 _law_other -/
def b_law_ends : Fd := ⟨2, 5, (.cons (.set 2 (.bin .Add (.bin .Add (.lst false (.cons (.int 0) .nil)) (.bi .lrng2 false (.cons (.int 2) (.cons (.var 1) .nil)))) (.lst false (.cons (.int 1) .nil)))) (.cons (.set 3 (.call false "_law_take" (.cons (.var 0) (.cons (.bin .Sub (.var 1) (.int 1)) .nil)))) (.cons (.set 4 (.bin .Add (.var 3) (.int 1))) (.cons (.ife (.cmp .Eq (.call false "_law_take" (.cons (.var 0) (.cons (.int 3) .nil))) (.int 0)) (.cons (.set 4 (.bin .Add (.bin .Add (.var 3) (.int 1)) (.call false "_law_take" (.cons (.var 0) (.cons (.bin .Sub (.bin .Sub (.var 1) (.int 1)) (.var 3)) .nil))))) .nil) .nil) (.cons (.ret (.tup (.cons (.bi .min2 false (.cons (.ix (.var 2) (.var 3)) (.cons (.ix (.var 2) (.var 4)) .nil))) (.cons (.bi .max2 false (.cons (.ix (.var 2) (.var 3)) (.cons (.ix (.var 2) (.var 4)) .nil))) .nil)))) .nil)))))⟩
def r_law_ends : Z.Row := ⟨"_law_ends", topS 10, ["_law_state_here", "_law_places", "_law_row", "_law_one", "_law_other"], ["_law_state_here", "_law_places"], b_law_ends, false⟩
/-- _law_net: 0 _law_state_here 1 _law_most_switches 2 _law_most_places 3 _law_most_contacts 4 _law_switches 5 _law_places 6 _law_rows 7 _law_row 8 _law_turn 9 _law_mixed 10 _law_contact 11 _law_one 12 _law_other -/
def b_law_net : Fd := ⟨4, 13, (.cons (.set 4 (.bin .Add (.int 1) (.call false "_law_take" (.cons (.var 0) (.cons (.var 1) .nil))))) (.cons (.set 5 (.bin .Add (.int 2) (.call false "_law_take" (.cons (.var 0) (.cons (.bin .Sub (.var 2) (.int 1)) .nil))))) (.cons (.set 6 (.lst true .nil)) (.cons (.set 7 (.bin .Add (.bin .Add (.lst false (.cons (.int 0) .nil)) (.bi .lrng2 false (.cons (.int 2) (.cons (.var 5) .nil)))) (.lst false (.cons (.int 1) .nil)))) (.cons (.ife (.and (.cmp .Eq (.call false "_law_take" (.cons (.var 0) (.cons (.int 2) .nil))) (.int 0)) (.cmp .LtE (.bin .Sub (.var 5) (.int 1)) (.var 3))) (.cons (.for (.many [11, 12]) (.zip (.var 7) (.slL (.var 7) (.int 1))) (.cons (.expr (.me .append (.var 6) (.cons (.tup (.cons (.bi .min2 false (.cons (.var 11) (.cons (.var 12) .nil))) (.cons (.bi .max2 false (.cons (.var 11) (.cons (.var 12) .nil))) (.cons (.call false "_law_take" (.cons (.var 0) (.cons (.var 4) .nil))) (.cons (.call false "_law_take" (.cons (.var 0) (.cons (.int 2) .nil))) .nil))))) .nil))) .nil)) .nil) .nil) (.cons (.for (.one 8) (.rng1 (.call false "_law_take" (.cons (.var 0) (.cons (.bin .Add (.bin .Sub (.var 3) (.bi .len false (.cons (.var 6) .nil))) (.int 1)) .nil)))) (.cons (.expr (.me .append (.var 6) (.cons (.bin .Add (.call false "_law_ends" (.cons (.var 0) (.cons (.var 5) .nil))) (.tup (.cons (.call false "_law_take" (.cons (.var 0) (.cons (.var 4) .nil))) (.cons (.call false "_law_take" (.cons (.var 0) (.cons (.int 2) .nil))) .nil)))) .nil))) .nil)) (.cons (.set 9 (.lst true .nil)) (.cons (.for (.one 10) (.seq (.var 6)) (.cons (.expr (.me .insert (.var 9) (.cons (.call false "_law_take" (.cons (.var 0) (.cons (.bin .Add (.bi .len false (.cons (.var 9) .nil)) (.int 1)) .nil))) (.cons (.var 10) .nil)))) .nil)) (.cons (.ret (.tup (.cons (.var 4) (.cons (.var 5) (.cons (.bi .tuple false (.cons (.var 9) .nil)) .nil))))) .nil)))))))))⟩
def r_law_net : Z.Row := ⟨"_law_net", topS 11, ["_law_state_here", "_law_most_switches", "_law_most_places", "_law_most_contacts", "_law_switches", "_law_places", "_law_rows", "_law_row", "_law_turn", "_law_mixed", "_law_contact", "_law_one", "_law_other"], ["_law_state_here", "_law_most_switches", "_law_most_places", "_law_most_contacts"], b_law_net, false⟩
/-- _law_settings: 0 _law_switches 1 _law_found 2 _law_number 3 _law_k -/
def b_law_settings : Fd := ⟨1, 4, (.cons (.set 1 (.lst true .nil)) (.cons (.for (.one 2) (.rng1 (.bin .LShift (.int 1) (.var 0))) (.cons (.expr (.me .append (.var 1) (.cons (.bi .tuple false (.cons (.comp false (.one 3) (.rng1 (.var 0)) (.bin .BitAnd (.bin .RShift (.var 2) (.bin .Sub (.bin .Sub (.var 0) (.int 1)) (.var 3))) (.int 1))) .nil)) .nil))) .nil)) (.cons (.ret (.var 1)) .nil)))⟩
def r_law_settings : Z.Row := ⟨"_law_settings", topS 12, ["_law_switches", "_law_found", "_law_number", "_law_k"], ["_law_switches"], b_law_settings, false⟩
/-- _law_shut: 0 _law_net_here 1 _law_setting 2 _law_k 3 _law_contact -/
def b_law_shut : Fd := ⟨2, 4, (.cons (.ret (.compI false (.many [2, 3]) (.enm (.ix (.var 0) (.int 2))) (.cmp .Eq (.ix (.var 1) (.ix (.var 3) (.int 2))) (.ix (.var 3) (.int 3))) (.var 2))) .nil)⟩
def r_law_shut : Z.Row := ⟨"_law_shut", topS 13, ["_law_net_here", "_law_setting", "_law_k", "_law_contact"], ["_law_net_here", "_law_setting"], b_law_shut, false⟩
/-- _law_marks: 0 _law_net_here 1 _law_numbers 2 _law_marks_here 3 _law_turn 4 _law_number 5 _law_least 6 _law_a 7 _law_b -/
def b_law_marks : Fd := ⟨2, 8, (.cons (.set 2 (.bi .lrng1 true (.cons (.ix (.var 0) (.int 1)) .nil))) (.cons (.for (.one 3) (.rng1 (.ix (.var 0) (.int 1))) (.cons (.for (.one 4) (.seq (.var 1)) (.cons (.setT [6, 7] (.slH (.ix (.ix (.var 0) (.int 2)) (.var 4)) (.int 2))) (.cons (.set 5 (.bi .min2 false (.cons (.ix (.var 2) (.var 6)) (.cons (.ix (.var 2) (.var 7)) .nil)))) (.cons (.setI (.var 2) (.var 6) (.var 5)) (.cons (.setI (.var 2) (.var 7) (.var 5)) .nil))))) .nil)) (.cons (.ret (.var 2)) .nil)))⟩
def r_law_marks : Z.Row := ⟨"_law_marks", topS 14, ["_law_net_here", "_law_numbers", "_law_marks_here", "_law_turn", "_law_number", "_law_least", "_law_a", "_law_b"], ["_law_net_here", "_law_numbers"], b_law_marks, false⟩
/-- _law_same: 0 _law_found 1 _law_due -/
def b_law_same : Fd := ⟨2, 2, (.cons (.ret (.cmp .Eq (.op .repr false (.cons (.var 0) .nil)) (.op .repr false (.cons (.var 1) .nil)))) .nil)⟩
def r_law_same : Z.Row := ⟨"_law_same", topS 15, ["_law_found", "_law_due"], ["_law_found", "_law_due"], b_law_same, false⟩
/-- law: 0 _law_script 1 _law_k 2 _law_state_here 3 _law_net_here 4 _law_setting 5 _law_shut_here 6 _law_marks_here 7 _law_due 8 _law_least 9 _law_found 10 _law_rings 11 _law_place -/
def b_law : Fd := ⟨1, 12, (.cons (.for (.one 1) (.rng1 (.bi .max2 false (.cons (.int 1) (.cons (.bi .min2 false (.cons (.bi .len false (.cons (.var 0) .nil)) (.cons (.int 8) .nil))) .nil)))) (.cons (.set 2 (.call true "_law_state" (.cons (.var 0) (.cons (.var 1) .nil)))) (.cons (.set 3 (.call false "_law_net" (.cons (.var 2) (.cons (.int 4) (.cons (.int 7) (.cons (.ix (.lst false (.cons (.int 6) (.cons (.int 10) (.cons (.int 16) .nil)))) (.call false "_law_take" (.cons (.var 2) (.cons (.int 3) .nil)))) .nil)))))) (.cons (.for (.one 4) (.seq (.call false "_law_settings" (.cons (.ix (.var 3) (.int 0)) .nil))) (.cons (.set 5 (.call false "_law_shut" (.cons (.var 3) (.cons (.var 4) .nil)))) (.cons (.set 6 (.call false "_law_marks" (.cons (.var 3) (.cons (.var 5) .nil)))) (.cons (.set 7 (.lst true .nil)) (.cons (.for (.one 8) (.seq (.op .sset false (.cons (.var 6) .nil))) (.cons (.expr (.me .append (.var 7) (.cons (.bi .tuple false (.cons (.compI false (.one 11) (.rng1 (.ix (.var 3) (.int 1))) (.cmp .Eq (.ix (.var 6) (.var 11)) (.var 8)) (.var 11)) .nil)) .nil))) .nil)) (.cons (.set 9 (.call true "pieces_at" (.cons (.var 3) (.cons (.var 4) .nil)))) (.cons (.set 10 (.bin .Add (.bin .Sub (.bi .len false (.cons (.var 5) .nil)) (.ix (.var 3) (.int 1))) (.bi .len false (.cons (.var 7) .nil)))) (.cons (.ife (.or (.not (.call false "_law_same" (.cons (.var 9) (.cons (.var 7) .nil)))) (.not (.call false "_law_same" (.cons (.call false "rings_at" (.cons (.var 3) (.cons (.var 4) .nil))) (.cons (.var 10) .nil))))) (.cons (.ret (.bool false)) .nil) .nil) (.cons (.expr (.me .append (.var 9) (.cons (.tup .nil) .nil))) .nil))))))))) .nil)))) (.cons (.ret (.bool true)) .nil))⟩
def r_law : Z.Row := ⟨"law", topS 16, ["_law_script", "_law_k", "_law_state_here", "_law_net_here", "_law_setting", "_law_shut_here", "_law_marks_here", "_law_due", "_law_least", "_law_found", "_law_rings", "_law_place"], ["_law_script"], b_law, false⟩
def rows : List Z.Row := [r_shut_at, r_reached, r_pieces_at, r_rings_at, r_law_cell_at, r_law_state, r_law_take, r_law_ends, r_law_net, r_law_settings, r_law_shut, r_law_marks, r_law_same, r_law]
def G : Tab := tabG rows
def gi : GI := { nums := [], excs := [], subs := [], saids := [], dcts := [], txts := [] }
theorem g_shut_at : G "shut_at" = some b_shut_at := by with_unfolding_all rfl
theorem g_reached : G "reached" = some b_reached := by with_unfolding_all rfl
theorem g_pieces_at : G "pieces_at" = some b_pieces_at := by with_unfolding_all rfl
theorem g_rings_at : G "rings_at" = some b_rings_at := by with_unfolding_all rfl
theorem g_law_cell_at : G "_law_cell_at" = some b_law_cell_at := by with_unfolding_all rfl
theorem g_law_state : G "_law_state" = some b_law_state := by with_unfolding_all rfl
theorem g_law_take : G "_law_take" = some b_law_take := by with_unfolding_all rfl
theorem g_law_ends : G "_law_ends" = some b_law_ends := by with_unfolding_all rfl
theorem g_law_net : G "_law_net" = some b_law_net := by with_unfolding_all rfl
theorem g_law_settings : G "_law_settings" = some b_law_settings := by with_unfolding_all rfl
theorem g_law_shut : G "_law_shut" = some b_law_shut := by with_unfolding_all rfl
theorem g_law_marks : G "_law_marks" = some b_law_marks := by with_unfolding_all rfl
theorem g_law_same : G "_law_same" = some b_law_same := by with_unfolding_all rfl
theorem g_law : G "law" = some b_law := by with_unfolding_all rfl
theorem k_shut_at : rowB gi G r_shut_at = true := by decide +kernel
theorem n_shut_at : BindB r_shut_at := fun _ _ _ _ _ _ us hl => match us, hl with | [_, _], _ => rfl
theorem k_reached : rowB gi G r_reached = true := by decide +kernel
theorem n_reached : BindB r_reached := fun _ _ _ _ _ _ us hl => match us, hl with | [_, _, _], _ => rfl
theorem k_pieces_at : rowB gi G r_pieces_at = true := by decide +kernel
theorem n_pieces_at : BindB r_pieces_at := fun _ _ _ _ _ _ us hl => match us, hl with | [_, _], _ => rfl
theorem k_rings_at : rowB gi G r_rings_at = true := by decide +kernel
theorem n_rings_at : BindB r_rings_at := fun _ _ _ _ _ _ us hl => match us, hl with | [_, _], _ => rfl
theorem k_law_cell_at : rowB gi G r_law_cell_at = true := by decide +kernel
theorem n_law_cell_at : BindB r_law_cell_at := fun _ _ _ _ _ _ us hl => match us, hl with | [_, _], _ => rfl
theorem k_law_state : rowB gi G r_law_state = true := by decide +kernel
theorem n_law_state : BindB r_law_state := fun _ _ _ _ _ _ us hl => match us, hl with | [_, _], _ => rfl
theorem k_law_take : rowB gi G r_law_take = true := by decide +kernel
theorem n_law_take : BindB r_law_take := fun _ _ _ _ _ _ us hl => match us, hl with | [_, _], _ => rfl
theorem k_law_ends : rowB gi G r_law_ends = true := by decide +kernel
theorem n_law_ends : BindB r_law_ends := fun _ _ _ _ _ _ us hl => match us, hl with | [_, _], _ => rfl
theorem k_law_net : rowB gi G r_law_net = true := by decide +kernel
theorem n_law_net : BindB r_law_net := fun _ _ _ _ _ _ us hl => match us, hl with | [_, _, _, _], _ => rfl
theorem k_law_settings : rowB gi G r_law_settings = true := by decide +kernel
theorem n_law_settings : BindB r_law_settings := fun _ _ _ _ _ _ us hl => match us, hl with | [_], _ => rfl
theorem k_law_shut : rowB gi G r_law_shut = true := by decide +kernel
theorem n_law_shut : BindB r_law_shut := fun _ _ _ _ _ _ us hl => match us, hl with | [_, _], _ => rfl
theorem k_law_marks : rowB gi G r_law_marks = true := by decide +kernel
theorem n_law_marks : BindB r_law_marks := fun _ _ _ _ _ _ us hl => match us, hl with | [_, _], _ => rfl
theorem k_law_same : rowB gi G r_law_same = true := by decide +kernel
theorem n_law_same : BindB r_law_same := fun _ _ _ _ _ _ us hl => match us, hl with | [_, _], _ => rfl
theorem k_law : rowB gi G r_law = true := by decide +kernel
theorem n_law : BindB r_law := fun _ _ _ _ _ _ us hl => match us, hl with | [_], _ => rfl
end LK

namespace LK
open PySem Z
/-! ### the least mark of a piece -/
abbrev fxM (E : List (Nat × Nat)) (P v : Nat) : Nat := mk1 (rounds E P (List.range P)) v
def cmpL (E : List (Nat × Nat)) (P v : Nat) : List Nat := (List.range P).filter fun x => decide (fxM E P x = fxM E P v)
def pcsTo (E : List (Nat × Nat)) (P n : Nat) : List PyData := ((List.range n).filter fun v => decide (fxM E P v = v)).map fun v => .tuple (numL (cmpL E P v))
def pcs (E : List (Nat × Nat)) (P : Nat) : List PyData := pcsTo E P P
theorem fxM_idem {E : List (Nat × Nat)} {P v : Nat} (hw : Wf E P) (hv : v < P) : fxM E P (fxM E P v) = fxM E P v := by
  obtain ⟨h1, h2⟩ := marks_le hw hv
  exact (marks_eq hw (by show mk1 _ _ < P; omega) hv).mpr h2
theorem cn_lt {E : List (Nat × Nat)} {P v x : Nat} (hw : Wf E P) (hv : v < P) (h : Cn E v x) : x < P := by
  induction h with
  | refl => exact hv
  | fwd _ e _ => exact (hw _ e).2
  | bwd _ e _ => exact (hw _ e).1
theorem mem_cmpL {E : List (Nat × Nat)} {P v x : Nat} (hw : Wf E P) (hv : v < P) : x ∈ cmpL E P v ↔ Cn E v x := by
  unfold cmpL
  rw [List.mem_filter, List.mem_range, decide_eq_true_eq]
  constructor
  · rintro ⟨h1, h2⟩
    exact ((marks_eq hw h1 hv).mp h2).symm
  · intro h
    have h1 := cn_lt hw hv h
    exact ⟨h1, (marks_eq hw h1 hv).mpr h.symm⟩
theorem range_rise (n : Nat) (p : Nat → Bool) : (((List.range n).filter p).map fun i : Nat => (i : Int)).Pairwise (· < ·) := by
  rw [List.pairwise_map]
  exact (List.Pairwise.filter p List.pairwise_lt_range).imp fun h => by omega
theorem sort_rise {F : List Nat} (h : F.Nodup) : (sortI (F.map fun i : Nat => (i : Int))).Pairwise (· < ·) := by
  have h1 := sortI_sorted (F.map fun i : Nat => (i : Int))
  have h2 : (sortI (F.map fun i : Nat => (i : Int))).Nodup := (sortI_perm _).nodup_iff.mpr (by
    show List.Pairwise _ _
    rw [List.pairwise_map]
    exact h.imp fun h => by omega)
  have h3 := List.pairwise_and_iff.mpr ⟨h1, h2⟩
  exact h3.imp fun h => by omega
theorem comp_sort {E : List (Nat × Nat)} {P v : Nat} {F : List Nat} (hw : Wf E P) (hv : v < P) (hF : ∀ x : Nat, x ∈ F ↔ Cn E v x) (nd : F.Nodup) : (sortI (F.map fun i : Nat => (i : Int))).map PyData.int = numL (cmpL E P v) := by
  unfold numL
  rw [rise_eq (sort_rise nd) (range_rise P _) fun z => ?_]
  · rfl
  · rw [(sortI_perm _).mem_iff, List.mem_map, List.mem_map]
    constructor
    · rintro ⟨a, h, rfl⟩
      exact ⟨a, (mem_cmpL hw hv).mpr ((hF a).mp h), rfl⟩
    · rintro ⟨a, h, rfl⟩
      exact ⟨a, (hF a).mpr ((mem_cmpL hw hv).mp h), rfl⟩
theorem cmpL_head {E : List (Nat × Nat)} {P v : Nat} (hw : Wf E P) (hv : v < P) : (cmpL E P v)[0]? = some (fxM E P v) := by
  have hi := fxM_idem hw hv
  obtain ⟨l1, _⟩ := marks_le hw hv
  have hm : fxM E P v ∈ cmpL E P v := by
    unfold cmpL
    rw [List.mem_filter, List.mem_range, decide_eq_true_eq]
    exact ⟨by show mk1 _ _ < P; omega, hi⟩
  have hr : (cmpL E P v).Pairwise (· < ·) := List.Pairwise.filter _ List.pairwise_lt_range
  have hle : ∀ x ∈ cmpL E P v, fxM E P v ≤ x := fun x hx => by
    unfold cmpL at hx
    rw [List.mem_filter, List.mem_range, decide_eq_true_eq] at hx
    rw [← hx.2]
    exact (marks_le hw hx.1).1
  cases q : cmpL E P v with
  | nil => rw [q] at hm; cases hm
  | cons a l =>
    rw [q] at hm hr hle
    have h1 := hle a (List.mem_cons_self ..)
    rcases List.mem_cons.mp hm with e | e
    · rw [e]; rfl
    · have := List.rel_of_pairwise_cons hr e
      omega
theorem rng_num (P : Nat) : rngP 0 (P : Int) = numL (List.range P) := by
  unfold rngP numL
  rw [List.map_map]
  rw [show ((P : Int) - 0).toNat = P by omega]
  refine List.map_congr_left fun i _ => ?_
  show PyData.int (0 + (i : Int)) = .int i
  rw [Int.zero_add]
theorem wf_of {s : Int} {P : Nat} {cs : List PyData} {ns : List Nat} (hg : ∀ c ∈ cs, GoodC s P c) (hn : ∀ i ∈ ns, i < cs.length) : Wf (edg cs ns) P := by
  intro e he
  unfold edg at he
  obtain ⟨i, hi, rfl⟩ := List.mem_map.mp he
  obtain ⟨a, b, w, o, _, a0, ab, bp, e⟩ := ends_of hg (hn i hi)
  rw [e]
  exact ⟨by show a.toNat < _; omega, by show b.toNat < _; omega⟩
theorem cmpL_len (E : List (Nat × Nat)) (P v : Nat) : (cmpL E P v).length ≤ P := by
  unfold cmpL
  exact Nat.le_trans (List.length_filter_le _ _) (by rw [List.length_range]; exact Nat.le_refl _)
theorem pcsTo_succ (E : List (Nat × Nat)) (P n : Nat) : pcsTo E P (n + 1) = if fxM E P n = n then pcsTo E P n ++ [.tuple (numL (cmpL E P n))] else pcsTo E P n := by
  unfold pcsTo
  rw [List.range_succ, List.filter_append, List.map_append]
  split
  · rename_i h
    rw [List.filter_cons_of_pos (by simpa using h)]
    rfl
  · rename_i h
    rw [List.filter_cons_of_neg (by simpa using h)]
    simp
theorem pcsTo_len (E : List (Nat × Nat)) (P n : Nat) : (pcsTo E P n).length ≤ n := by
  unfold pcsTo
  rw [List.length_map]
  exact Nat.le_trans (List.length_filter_le _ _) (by rw [List.length_range]; exact Nat.le_refl _)
theorem pieces_call {k : Nat} {m : Mem} {s : Int} {P : Nat} {cs t : List PyData} {r : Bool} (hc : cs.length ≤ 16) (h2 : 2 ≤ P) (hp : P ≤ 1000) (hg : ∀ c ∈ cs, GoodC s P c) (ht : SetP s t) :
    Ok (callF (run G (k + 2)) r "pieces_at" [.b (.tuple [.int s, .int P, .tuple cs]), .b (.tuple t)] m) fun d m' => (r = true → d = .ref m.length ∧ m' = m ++ [.lst (pcs (edg cs (shutN cs t)) P)]) ∧ (r = false → d = .b (.list (pcs (edg cs (shutN cs t)) P)) ∧ m' = m) := by
  refine call_l (run_ok g_pieces_at ⟨rfl, by decide⟩ ?_)
  rw [show startE b_pieces_at.n [.b (.tuple [.int s, .int P, .tuple cs]), .b (.tuple t)] = [some (.b (.tuple [.int s, .int P, .tuple cs])), some (.b (.tuple t)), none, none, none, none] from rfl]
  unfold b_pieces_at
  (simp only [↓stk_call, ↓stk_comp, ↓stk_rows, ↓stk_rc, ↓stk_for, ↓stk_whl, ↓stk_said, ↓Br.t, ↓Br.f, Br.t, Br.f, ↓w_var, ↓w_int, ↓w_bool, ↓w_none, ↓w_str, ↓w_glob, ↓w_bin, ↓w_neg, ↓w_not, ↓w_cmp, ↓w_chain, ↓w_and, ↓w_or, ↓w_ife, ↓w_tup, ↓w_lst, ↓w_ix, ↓w_ixR, ↓w_rowc, ↓w_rcomp, ↓w_sl0, ↓w_slL, ↓w_slH, ↓w_slB, ↓w_bi, ↓w_isi, ↓w_op, ↓w_idx, ↓w_sm, isS_s, ↓w_dic, ↓w_me, ↓w_call, ↓w_pick, ↓w_isx, ↓w_comp, ↓w_compI, ↓w_nil, ↓w_cons, ↓w_seq, ↓w_rng1, ↓w_rng2, ↓w_enm, ↓w_zip, ↓w_zip3, ↓s_nil, ↓s_cons, ↓s_set, ↓s_setT, ↓s_setP, ↓s_setI, ↓s_expr, ↓s_ife, ↓s_whl, ↓s_for, ↓s_ret, ↓s_retN, ↓s_pass, ↓s_brk, ↓s_cont, ↓Ok.ok, ↓Ok.bind, Sm.s, Sm.map, Sm.ite, Snap.b, In.i, Bl.b, Rf.r, mk_f, mk_t, ixF_b, ixF_r, ixF_s, pickF_w, isxF_n, isxF_e, biF_len, biF_b, biF_r, opF_w, isL_b, isL_r, Snaps, itSeq_l, itSeq_t, itZip_l, itZip_t, itZip3_w, binP, intBin, cmp_lt, cmp_le, cmp_gt, cmp_ge, cmp_eqi, cmp_nei, cmp_eqb, cmp_neb, cmp_is, cmp_isnot, cmp_isn, cmp_isnotn, isi_int, isi_bool, isi_tup, isi_lst, isi_str, isI, isBo, isTu, isLi, isSt, truth, ixP, slP, biP, owns, own, at_0, at_1, at_2, at_3, set_0, setsD, asgn, asgnT, sets, List.getElem?_cons_zero, List.getElem?_cons_succ, List.set_cons_zero, List.set_cons_succ, List.length_cons, List.length_nil, decide_eq_true_eq, Bool.not_true, Bool.not_false, Bool.not_eq_true', decide_eq_false_iff_not, Bool.true_eq_false, Bool.false_eq_true, if_true, if_false, true_and]; try (first | refine Br.d ?_ | refine Br.nd ?_ | refine Br.nb ?_ | refine Br.b ?_))
  refine (shutat_call g_shut_at hc hg ht).mono ?_
  rintro _ m ⟨rfl, rfl⟩
  obtain ⟨e, hn⟩ := shutN_ok cs t
  rw [e]
  generalize shutN cs t = S at hn
  have hw := wf_of hg hn
  generalize hE : edg cs S = E at hw
  (simp only [↓stk_call, ↓stk_comp, ↓stk_rows, ↓stk_rc, ↓stk_for, ↓stk_whl, ↓stk_said, ↓Br.t, ↓Br.f, Br.t, Br.f, ↓w_var, ↓w_int, ↓w_bool, ↓w_none, ↓w_str, ↓w_glob, ↓w_bin, ↓w_neg, ↓w_not, ↓w_cmp, ↓w_chain, ↓w_and, ↓w_or, ↓w_ife, ↓w_tup, ↓w_lst, ↓w_ix, ↓w_ixR, ↓w_rowc, ↓w_rcomp, ↓w_sl0, ↓w_slL, ↓w_slH, ↓w_slB, ↓w_bi, ↓w_isi, ↓w_op, ↓w_idx, ↓w_sm, isS_s, ↓w_dic, ↓w_me, ↓w_call, ↓w_pick, ↓w_isx, ↓w_comp, ↓w_compI, ↓w_nil, ↓w_cons, ↓w_seq, ↓w_rng1, ↓w_rng2, ↓w_enm, ↓w_zip, ↓w_zip3, ↓s_nil, ↓s_cons, ↓s_set, ↓s_setT, ↓s_setP, ↓s_setI, ↓s_expr, ↓s_ife, ↓s_whl, ↓s_for, ↓s_ret, ↓s_retN, ↓s_pass, ↓s_brk, ↓s_cont, ↓Ok.ok, ↓Ok.bind, Sm.s, Sm.map, Sm.ite, Snap.b, In.i, Bl.b, Rf.r, mk_f, mk_t, ixF_b, ixF_r, ixF_s, pickF_w, isxF_n, isxF_e, biF_len, biF_b, biF_r, opF_w, isL_b, isL_r, Snaps, itSeq_l, itSeq_t, itZip_l, itZip_t, itZip3_w, binP, intBin, cmp_lt, cmp_le, cmp_gt, cmp_ge, cmp_eqi, cmp_nei, cmp_eqb, cmp_neb, cmp_is, cmp_isnot, cmp_isn, cmp_isnotn, isi_int, isi_bool, isi_tup, isi_lst, isi_str, isI, isBo, isTu, isLi, isSt, truth, ixP, slP, biP, owns, own, at_0, at_1, at_2, at_3, set_0, setsD, asgn, asgnT, sets, List.getElem?_cons_zero, List.getElem?_cons_succ, List.set_cons_zero, List.set_cons_succ, List.length_cons, List.length_nil, decide_eq_true_eq, Bool.not_true, Bool.not_false, Bool.not_eq_true', decide_eq_false_iff_not, Bool.true_eq_false, Bool.false_eq_true, if_true, if_false, true_and]; try (first | refine Br.d ?_ | refine Br.nd ?_ | refine Br.nb ?_ | refine Br.b ?_))
  refine ⟨by decide, by unfold rngOk; exact decide_eq_true (by omega), ?_⟩
  rw [rng_num]
  refine for_ok (fun i δ mm => ∃ o4 o5, δ = [some (.b (.tuple [.int s, .int P, .tuple cs])), some (.b (.tuple t)), some (.b (.tuple (numL S))), some (.ref m.length), o4, o5] ∧ mm = m ++ [.lst (pcsTo E P i)]) ⟨_, _, rfl, rfl⟩ ?_ ?_
  · rintro i x δ mm hx ⟨o4, o5, rfl, rfl⟩
    obtain ⟨v, rfl, hv⟩ := numL_get hx
    have hiv : i = v ∧ v < P := by
      obtain ⟨a, b⟩ := List.getElem?_eq_some_iff.mp hv
      rw [List.getElem_range] at b
      rw [List.length_range] at a
      omega
    obtain ⟨rfl, hv⟩ := hiv
    refine ⟨trivial, ?_⟩
    (simp only [↓stk_call, ↓stk_comp, ↓stk_rows, ↓stk_rc, ↓stk_for, ↓stk_whl, ↓stk_said, ↓Br.t, ↓Br.f, Br.t, Br.f, ↓w_var, ↓w_int, ↓w_bool, ↓w_none, ↓w_str, ↓w_glob, ↓w_bin, ↓w_neg, ↓w_not, ↓w_cmp, ↓w_chain, ↓w_and, ↓w_or, ↓w_ife, ↓w_tup, ↓w_lst, ↓w_ix, ↓w_ixR, ↓w_rowc, ↓w_rcomp, ↓w_sl0, ↓w_slL, ↓w_slH, ↓w_slB, ↓w_bi, ↓w_isi, ↓w_op, ↓w_idx, ↓w_sm, isS_s, ↓w_dic, ↓w_me, ↓w_call, ↓w_pick, ↓w_isx, ↓w_comp, ↓w_compI, ↓w_nil, ↓w_cons, ↓w_seq, ↓w_rng1, ↓w_rng2, ↓w_enm, ↓w_zip, ↓w_zip3, ↓s_nil, ↓s_cons, ↓s_set, ↓s_setT, ↓s_setP, ↓s_setI, ↓s_expr, ↓s_ife, ↓s_whl, ↓s_for, ↓s_ret, ↓s_retN, ↓s_pass, ↓s_brk, ↓s_cont, ↓Ok.ok, ↓Ok.bind, Sm.s, Sm.map, Sm.ite, Snap.b, In.i, Bl.b, Rf.r, mk_f, mk_t, ixF_b, ixF_r, ixF_s, pickF_w, isxF_n, isxF_e, biF_len, biF_b, biF_r, opF_w, isL_b, isL_r, Snaps, itSeq_l, itSeq_t, itZip_l, itZip_t, itZip3_w, binP, intBin, cmp_lt, cmp_le, cmp_gt, cmp_ge, cmp_eqi, cmp_nei, cmp_eqb, cmp_neb, cmp_is, cmp_isnot, cmp_isn, cmp_isnotn, isi_int, isi_bool, isi_tup, isi_lst, isi_str, isI, isBo, isTu, isLi, isSt, truth, ixP, slP, biP, owns, own, at_0, at_1, at_2, at_3, set_0, setsD, asgn, asgnT, sets, List.getElem?_cons_zero, List.getElem?_cons_succ, List.set_cons_zero, List.set_cons_succ, List.length_cons, List.length_nil, decide_eq_true_eq, Bool.not_true, Bool.not_false, Bool.not_eq_true', decide_eq_false_iff_not, Bool.true_eq_false, Bool.false_eq_true, if_true, if_false, true_and]; try (first | refine Br.d ?_ | refine Br.nd ?_ | refine Br.nb ?_ | refine Br.b ?_))
    refine (reached_callN g_reached (v := i) hc (by omega) hg hn (by omega)).mono ?_
    rintro _ _ ⟨rfl, F, rfl, hF, nd⟩
    rw [hE] at hF
    have eF := comp_sort hw hv hF nd
    rw [eF]
    have hat : atP (numL (cmpL E P i)) 0 = some (.int (fxM E P i : Nat)) := by
      have h0 := cmpL_head hw hv
      have hl := (List.getElem?_eq_some_iff.mp h0).1
      refine (at_num (M := cmpL E P i) (a := 0) (by decide) hl).trans ?_
      unfold mk1
      rw [List.getD_eq_getElem?_getD, show (0 : Int).toNat = 0 from rfl, h0]
      rfl
    (simp only [↓stk_call, ↓stk_comp, ↓stk_rows, ↓stk_rc, ↓stk_for, ↓stk_whl, ↓stk_said, ↓Br.t, ↓Br.f, Br.t, Br.f, ↓w_var, ↓w_int, ↓w_bool, ↓w_none, ↓w_str, ↓w_glob, ↓w_bin, ↓w_neg, ↓w_not, ↓w_cmp, ↓w_chain, ↓w_and, ↓w_or, ↓w_ife, ↓w_tup, ↓w_lst, ↓w_ix, ↓w_ixR, ↓w_rowc, ↓w_rcomp, ↓w_sl0, ↓w_slL, ↓w_slH, ↓w_slB, ↓w_bi, ↓w_isi, ↓w_op, ↓w_idx, ↓w_sm, isS_s, ↓w_dic, ↓w_me, ↓w_call, ↓w_pick, ↓w_isx, ↓w_comp, ↓w_compI, ↓w_nil, ↓w_cons, ↓w_seq, ↓w_rng1, ↓w_rng2, ↓w_enm, ↓w_zip, ↓w_zip3, ↓s_nil, ↓s_cons, ↓s_set, ↓s_setT, ↓s_setP, ↓s_setI, ↓s_expr, ↓s_ife, ↓s_whl, ↓s_for, ↓s_ret, ↓s_retN, ↓s_pass, ↓s_brk, ↓s_cont, ↓Ok.ok, ↓Ok.bind, Sm.s, Sm.map, Sm.ite, Snap.b, In.i, Bl.b, Rf.r, mk_f, mk_t, ixF_b, ixF_r, ixF_s, pickF_w, isxF_n, isxF_e, biF_len, biF_b, biF_r, opF_w, isL_b, isL_r, Snaps, itSeq_l, itSeq_t, itZip_l, itZip_t, itZip3_w, binP, intBin, cmp_lt, cmp_le, cmp_gt, cmp_ge, cmp_eqi, cmp_nei, cmp_eqb, cmp_neb, cmp_is, cmp_isnot, cmp_isn, cmp_isnotn, isi_int, isi_bool, isi_tup, isi_lst, isi_str, isI, isBo, isTu, isLi, isSt, truth, ixP, slP, biP, owns, own, at_0, at_1, at_2, at_3, set_0, setsD, asgn, asgnT, sets, List.getElem?_cons_zero, List.getElem?_cons_succ, List.set_cons_zero, List.set_cons_succ, List.length_cons, List.length_nil, decide_eq_true_eq, Bool.not_true, Bool.not_false, Bool.not_eq_true', decide_eq_false_iff_not, Bool.true_eq_false, Bool.false_eq_true, if_true, if_false, true_and, hat, cmp_eqi, truthD_w]; try (first | refine Br.d ?_ | refine Br.nd ?_ | refine Br.nb ?_ | refine Br.b ?_))
    have hl := pcsTo_len E P i
    split
    · rename_i h
      try (simp only [↓stk_call, ↓stk_comp, ↓stk_rows, ↓stk_rc, ↓stk_for, ↓stk_whl, ↓stk_said, ↓Br.t, ↓Br.f, Br.t, Br.f, ↓w_var, ↓w_int, ↓w_bool, ↓w_none, ↓w_str, ↓w_glob, ↓w_bin, ↓w_neg, ↓w_not, ↓w_cmp, ↓w_chain, ↓w_and, ↓w_or, ↓w_ife, ↓w_tup, ↓w_lst, ↓w_ix, ↓w_ixR, ↓w_rowc, ↓w_rcomp, ↓w_sl0, ↓w_slL, ↓w_slH, ↓w_slB, ↓w_bi, ↓w_isi, ↓w_op, ↓w_idx, ↓w_sm, isS_s, ↓w_dic, ↓w_me, ↓w_call, ↓w_pick, ↓w_isx, ↓w_comp, ↓w_compI, ↓w_nil, ↓w_cons, ↓w_seq, ↓w_rng1, ↓w_rng2, ↓w_enm, ↓w_zip, ↓w_zip3, ↓s_nil, ↓s_cons, ↓s_set, ↓s_setT, ↓s_setP, ↓s_setI, ↓s_expr, ↓s_ife, ↓s_whl, ↓s_for, ↓s_ret, ↓s_retN, ↓s_pass, ↓s_brk, ↓s_cont, ↓Ok.ok, ↓Ok.bind, Sm.s, Sm.map, Sm.ite, Snap.b, In.i, Bl.b, Rf.r, mk_f, mk_t, ixF_b, ixF_r, ixF_s, pickF_w, isxF_n, isxF_e, biF_len, biF_b, biF_r, opF_w, isL_b, isL_r, Snaps, itSeq_l, itSeq_t, itZip_l, itZip_t, itZip3_w, binP, intBin, cmp_lt, cmp_le, cmp_gt, cmp_ge, cmp_eqi, cmp_nei, cmp_eqb, cmp_neb, cmp_is, cmp_isnot, cmp_isn, cmp_isnotn, isi_int, isi_bool, isi_tup, isi_lst, isi_str, isI, isBo, isTu, isLi, isSt, truth, ixP, slP, biP, owns, own, at_0, at_1, at_2, at_3, set_0, setsD, asgn, asgnT, sets, List.getElem?_cons_zero, List.getElem?_cons_succ, List.set_cons_zero, List.set_cons_succ, List.length_cons, List.length_nil, decide_eq_true_eq, Bool.not_true, Bool.not_false, Bool.not_eq_true', decide_eq_false_iff_not, Bool.true_eq_false, Bool.false_eq_true, if_true, if_false, true_and, meF_w (get_end (t := []) (o := .lst (pcsTo E P i)) (m := m) rfl), meA, snaps_w, meL, set_end (m := m) rfl]; try (first | refine Br.d ?_ | refine Br.nd ?_ | refine Br.nb ?_ | refine Br.b ?_))
      refine ⟨by show _ < 16777216; omega, _, _, rfl, ?_⟩
      rw [pcsTo_succ, if_pos (by omega)]
    · rename_i h
      (simp only [↓stk_call, ↓stk_comp, ↓stk_rows, ↓stk_rc, ↓stk_for, ↓stk_whl, ↓stk_said, ↓Br.t, ↓Br.f, Br.t, Br.f, ↓w_var, ↓w_int, ↓w_bool, ↓w_none, ↓w_str, ↓w_glob, ↓w_bin, ↓w_neg, ↓w_not, ↓w_cmp, ↓w_chain, ↓w_and, ↓w_or, ↓w_ife, ↓w_tup, ↓w_lst, ↓w_ix, ↓w_ixR, ↓w_rowc, ↓w_rcomp, ↓w_sl0, ↓w_slL, ↓w_slH, ↓w_slB, ↓w_bi, ↓w_isi, ↓w_op, ↓w_idx, ↓w_sm, isS_s, ↓w_dic, ↓w_me, ↓w_call, ↓w_pick, ↓w_isx, ↓w_comp, ↓w_compI, ↓w_nil, ↓w_cons, ↓w_seq, ↓w_rng1, ↓w_rng2, ↓w_enm, ↓w_zip, ↓w_zip3, ↓s_nil, ↓s_cons, ↓s_set, ↓s_setT, ↓s_setP, ↓s_setI, ↓s_expr, ↓s_ife, ↓s_whl, ↓s_for, ↓s_ret, ↓s_retN, ↓s_pass, ↓s_brk, ↓s_cont, ↓Ok.ok, ↓Ok.bind, Sm.s, Sm.map, Sm.ite, Snap.b, In.i, Bl.b, Rf.r, mk_f, mk_t, ixF_b, ixF_r, ixF_s, pickF_w, isxF_n, isxF_e, biF_len, biF_b, biF_r, opF_w, isL_b, isL_r, Snaps, itSeq_l, itSeq_t, itZip_l, itZip_t, itZip3_w, binP, intBin, cmp_lt, cmp_le, cmp_gt, cmp_ge, cmp_eqi, cmp_nei, cmp_eqb, cmp_neb, cmp_is, cmp_isnot, cmp_isn, cmp_isnotn, isi_int, isi_bool, isi_tup, isi_lst, isi_str, isI, isBo, isTu, isLi, isSt, truth, ixP, slP, biP, owns, own, at_0, at_1, at_2, at_3, set_0, setsD, asgn, asgnT, sets, List.getElem?_cons_zero, List.getElem?_cons_succ, List.set_cons_zero, List.set_cons_succ, List.length_cons, List.length_nil, decide_eq_true_eq, Bool.not_true, Bool.not_false, Bool.not_eq_true', decide_eq_false_iff_not, Bool.true_eq_false, Bool.false_eq_true, if_true, if_false, true_and]; try (first | refine Br.d ?_ | refine Br.nd ?_ | refine Br.nb ?_ | refine Br.b ?_))
      refine ⟨_, _, rfl, ?_⟩
      rw [pcsTo_succ, if_neg (by omega)]
  · rintro δ mm ⟨o4, o5, rfl, rfl⟩
    refine ⟨trivial, ?_⟩
    (simp only [↓stk_call, ↓stk_comp, ↓stk_rows, ↓stk_rc, ↓stk_for, ↓stk_whl, ↓stk_said, ↓Br.t, ↓Br.f, Br.t, Br.f, ↓w_var, ↓w_int, ↓w_bool, ↓w_none, ↓w_str, ↓w_glob, ↓w_bin, ↓w_neg, ↓w_not, ↓w_cmp, ↓w_chain, ↓w_and, ↓w_or, ↓w_ife, ↓w_tup, ↓w_lst, ↓w_ix, ↓w_ixR, ↓w_rowc, ↓w_rcomp, ↓w_sl0, ↓w_slL, ↓w_slH, ↓w_slB, ↓w_bi, ↓w_isi, ↓w_op, ↓w_idx, ↓w_sm, isS_s, ↓w_dic, ↓w_me, ↓w_call, ↓w_pick, ↓w_isx, ↓w_comp, ↓w_compI, ↓w_nil, ↓w_cons, ↓w_seq, ↓w_rng1, ↓w_rng2, ↓w_enm, ↓w_zip, ↓w_zip3, ↓s_nil, ↓s_cons, ↓s_set, ↓s_setT, ↓s_setP, ↓s_setI, ↓s_expr, ↓s_ife, ↓s_whl, ↓s_for, ↓s_ret, ↓s_retN, ↓s_pass, ↓s_brk, ↓s_cont, ↓Ok.ok, ↓Ok.bind, Sm.s, Sm.map, Sm.ite, Snap.b, In.i, Bl.b, Rf.r, mk_f, mk_t, ixF_b, ixF_r, ixF_s, pickF_w, isxF_n, isxF_e, biF_len, biF_b, biF_r, opF_w, isL_b, isL_r, Snaps, itSeq_l, itSeq_t, itZip_l, itZip_t, itZip3_w, binP, intBin, cmp_lt, cmp_le, cmp_gt, cmp_ge, cmp_eqi, cmp_nei, cmp_eqb, cmp_neb, cmp_is, cmp_isnot, cmp_isn, cmp_isnotn, isi_int, isi_bool, isi_tup, isi_lst, isi_str, isI, isBo, isTu, isLi, isSt, truth, ixP, slP, biP, owns, own, at_0, at_1, at_2, at_3, set_0, setsD, asgn, asgnT, sets, List.getElem?_cons_zero, List.getElem?_cons_succ, List.set_cons_zero, List.set_cons_succ, List.length_cons, List.length_nil, decide_eq_true_eq, Bool.not_true, Bool.not_false, Bool.not_eq_true', decide_eq_false_iff_not, Bool.true_eq_false, Bool.false_eq_true, if_true, if_false, true_and]; try (first | refine Br.d ?_ | refine Br.nd ?_ | refine Br.nb ?_ | refine Br.b ?_))
    rw [show (numL (List.range P)).length = P by rw [numL_len, List.length_range]]
    refine ⟨_, _, _, rfl, Nat.le_refl _, get_end rfl, take_end rfl, ?_⟩
    cases r <;> simp [pcs]
end LK

namespace LK
open PySem Z
theorem rings_call {k : Nat} {m : Mem} {s : Int} {P : Nat} {cs t : List PyData} (hc : cs.length ≤ 16) (h2 : 2 ≤ P) (hp : P ≤ 1000) (hg : ∀ c ∈ cs, GoodC s P c) (ht : SetP s t) :
    Ok (callF (run G (k + 3)) false "rings_at" [.b (.tuple [.int s, .int P, .tuple cs]), .b (.tuple t)] m) fun d m' => m' = m ∧ d = .b (.int (((shutN cs t).length : Nat) - (P : Int) + ((pcs (edg cs (shutN cs t)) P).length : Nat))) := by
  refine call_b (run_ok g_rings_at ⟨rfl, by decide⟩ ?_)
  rw [show startE b_rings_at.n [.b (.tuple [.int s, .int P, .tuple cs]), .b (.tuple t)] = [some (.b (.tuple [.int s, .int P, .tuple cs])), some (.b (.tuple t))] from rfl]
  unfold b_rings_at
  (simp only [↓stk_call, ↓stk_comp, ↓stk_rows, ↓stk_rc, ↓stk_for, ↓stk_whl, ↓stk_said, ↓Br.t, ↓Br.f, Br.t, Br.f, ↓w_var, ↓w_int, ↓w_bool, ↓w_none, ↓w_str, ↓w_glob, ↓w_bin, ↓w_neg, ↓w_not, ↓w_cmp, ↓w_chain, ↓w_and, ↓w_or, ↓w_ife, ↓w_tup, ↓w_lst, ↓w_ix, ↓w_ixR, ↓w_rowc, ↓w_rcomp, ↓w_sl0, ↓w_slL, ↓w_slH, ↓w_slB, ↓w_bi, ↓w_isi, ↓w_op, ↓w_idx, ↓w_sm, isS_s, ↓w_dic, ↓w_me, ↓w_call, ↓w_pick, ↓w_isx, ↓w_comp, ↓w_compI, ↓w_nil, ↓w_cons, ↓w_seq, ↓w_rng1, ↓w_rng2, ↓w_enm, ↓w_zip, ↓w_zip3, ↓s_nil, ↓s_cons, ↓s_set, ↓s_setT, ↓s_setP, ↓s_setI, ↓s_expr, ↓s_ife, ↓s_whl, ↓s_for, ↓s_ret, ↓s_retN, ↓s_pass, ↓s_brk, ↓s_cont, ↓Ok.ok, ↓Ok.bind, Sm.s, Sm.map, Sm.ite, Snap.b, In.i, Bl.b, Rf.r, mk_f, mk_t, ixF_b, ixF_r, ixF_s, pickF_w, isxF_n, isxF_e, biF_len, biF_b, biF_r, opF_w, isL_b, isL_r, Snaps, itSeq_l, itSeq_t, itZip_l, itZip_t, itZip3_w, binP, intBin, cmp_lt, cmp_le, cmp_gt, cmp_ge, cmp_eqi, cmp_nei, cmp_eqb, cmp_neb, cmp_is, cmp_isnot, cmp_isn, cmp_isnotn, isi_int, isi_bool, isi_tup, isi_lst, isi_str, isI, isBo, isTu, isLi, isSt, truth, ixP, slP, biP, owns, own, at_0, at_1, at_2, at_3, set_0, setsD, asgn, asgnT, sets, List.getElem?_cons_zero, List.getElem?_cons_succ, List.set_cons_zero, List.set_cons_succ, List.length_cons, List.length_nil, decide_eq_true_eq, Bool.not_true, Bool.not_false, Bool.not_eq_true', decide_eq_false_iff_not, Bool.true_eq_false, Bool.false_eq_true, if_true, if_false, true_and]; try (first | refine Br.d ?_ | refine Br.nd ?_ | refine Br.nb ?_ | refine Br.b ?_))
  refine (shutat_call g_shut_at hc hg ht).mono ?_
  rintro _ m ⟨rfl, rfl⟩
  (simp only [↓stk_call, ↓stk_comp, ↓stk_rows, ↓stk_rc, ↓stk_for, ↓stk_whl, ↓stk_said, ↓Br.t, ↓Br.f, Br.t, Br.f, ↓w_var, ↓w_int, ↓w_bool, ↓w_none, ↓w_str, ↓w_glob, ↓w_bin, ↓w_neg, ↓w_not, ↓w_cmp, ↓w_chain, ↓w_and, ↓w_or, ↓w_ife, ↓w_tup, ↓w_lst, ↓w_ix, ↓w_ixR, ↓w_rowc, ↓w_rcomp, ↓w_sl0, ↓w_slL, ↓w_slH, ↓w_slB, ↓w_bi, ↓w_isi, ↓w_op, ↓w_idx, ↓w_sm, isS_s, ↓w_dic, ↓w_me, ↓w_call, ↓w_pick, ↓w_isx, ↓w_comp, ↓w_compI, ↓w_nil, ↓w_cons, ↓w_seq, ↓w_rng1, ↓w_rng2, ↓w_enm, ↓w_zip, ↓w_zip3, ↓s_nil, ↓s_cons, ↓s_set, ↓s_setT, ↓s_setP, ↓s_setI, ↓s_expr, ↓s_ife, ↓s_whl, ↓s_for, ↓s_ret, ↓s_retN, ↓s_pass, ↓s_brk, ↓s_cont, ↓Ok.ok, ↓Ok.bind, Sm.s, Sm.map, Sm.ite, Snap.b, In.i, Bl.b, Rf.r, mk_f, mk_t, ixF_b, ixF_r, ixF_s, pickF_w, isxF_n, isxF_e, biF_len, biF_b, biF_r, opF_w, isL_b, isL_r, Snaps, itSeq_l, itSeq_t, itZip_l, itZip_t, itZip3_w, binP, intBin, cmp_lt, cmp_le, cmp_gt, cmp_ge, cmp_eqi, cmp_nei, cmp_eqb, cmp_neb, cmp_is, cmp_isnot, cmp_isn, cmp_isnotn, isi_int, isi_bool, isi_tup, isi_lst, isi_str, isI, isBo, isTu, isLi, isSt, truth, ixP, slP, biP, owns, own, at_0, at_1, at_2, at_3, set_0, setsD, asgn, asgnT, sets, List.getElem?_cons_zero, List.getElem?_cons_succ, List.set_cons_zero, List.set_cons_succ, List.length_cons, List.length_nil, decide_eq_true_eq, Bool.not_true, Bool.not_false, Bool.not_eq_true', decide_eq_false_iff_not, Bool.true_eq_false, Bool.false_eq_true, if_true, if_false, true_and, biF_b]; try (first | refine Br.d ?_ | refine Br.nd ?_ | refine Br.nb ?_ | refine Br.b ?_))
  refine (pieces_call (k := k) hc h2 hp hg ht).mono ?_
  rintro _ _ ⟨_, h⟩
  obtain ⟨rfl, rfl⟩ := h rfl
  (simp only [↓stk_call, ↓stk_comp, ↓stk_rows, ↓stk_rc, ↓stk_for, ↓stk_whl, ↓stk_said, ↓Br.t, ↓Br.f, Br.t, Br.f, ↓w_var, ↓w_int, ↓w_bool, ↓w_none, ↓w_str, ↓w_glob, ↓w_bin, ↓w_neg, ↓w_not, ↓w_cmp, ↓w_chain, ↓w_and, ↓w_or, ↓w_ife, ↓w_tup, ↓w_lst, ↓w_ix, ↓w_ixR, ↓w_rowc, ↓w_rcomp, ↓w_sl0, ↓w_slL, ↓w_slH, ↓w_slB, ↓w_bi, ↓w_isi, ↓w_op, ↓w_idx, ↓w_sm, isS_s, ↓w_dic, ↓w_me, ↓w_call, ↓w_pick, ↓w_isx, ↓w_comp, ↓w_compI, ↓w_nil, ↓w_cons, ↓w_seq, ↓w_rng1, ↓w_rng2, ↓w_enm, ↓w_zip, ↓w_zip3, ↓s_nil, ↓s_cons, ↓s_set, ↓s_setT, ↓s_setP, ↓s_setI, ↓s_expr, ↓s_ife, ↓s_whl, ↓s_for, ↓s_ret, ↓s_retN, ↓s_pass, ↓s_brk, ↓s_cont, ↓Ok.ok, ↓Ok.bind, Sm.s, Sm.map, Sm.ite, Snap.b, In.i, Bl.b, Rf.r, mk_f, mk_t, ixF_b, ixF_r, ixF_s, pickF_w, isxF_n, isxF_e, biF_len, biF_b, biF_r, opF_w, isL_b, isL_r, Snaps, itSeq_l, itSeq_t, itZip_l, itZip_t, itZip3_w, binP, intBin, cmp_lt, cmp_le, cmp_gt, cmp_ge, cmp_eqi, cmp_nei, cmp_eqb, cmp_neb, cmp_is, cmp_isnot, cmp_isn, cmp_isnotn, isi_int, isi_bool, isi_tup, isi_lst, isi_str, isI, isBo, isTu, isLi, isSt, truth, ixP, slP, biP, owns, own, at_0, at_1, at_2, at_3, set_0, setsD, asgn, asgnT, sets, List.getElem?_cons_zero, List.getElem?_cons_succ, List.set_cons_zero, List.set_cons_succ, List.length_cons, List.length_nil, decide_eq_true_eq, Bool.not_true, Bool.not_false, Bool.not_eq_true', decide_eq_false_iff_not, Bool.true_eq_false, Bool.false_eq_true, if_true, if_false, true_and, biF_b]; try (first | refine Br.d ?_ | refine Br.nd ?_ | refine Br.nb ?_ | refine Br.b ?_))
  rw [(shutN_ok cs t).1, numL_len]
  refine ⟨_, rfl, fun _ => rfl, by rw [List.take_length], rfl⟩
/-! ### the law's pieces -/
def onN (p : Nat → Bool) (x : PyData) : Bool :=
  match x with
  | .int a => p a.toNat
  | _ => false
theorem filter_num (p : Nat → Bool) : ∀ l : List Nat, (numL l).filter (onN p) = numL (l.filter p)
  | [] => rfl
  | a :: l => by
    have ih := filter_num p l
    have e : numL (a :: l) = .int a :: numL l := rfl
    rw [e, List.filter_cons, List.filter_cons, ih]
    have : onN p (.int (a : Nat)) = p a := by show p ((a : Int).toNat) = p a; rw [Int.toNat_natCast]
    rw [this]
    split <;> rfl
def headL (E : List (Nat × Nat)) (P : Nat) : List Nat := (List.range P).filter fun v => decide (fxM E P v = v)
theorem marks_set {E : List (Nat × Nat)} {P : Nat} (hw : Wf E P) : ssetI ((rounds E P (List.range P)).map fun i : Nat => (i : Int)) = (headL E P).map fun i : Nat => (i : Int) := by
  refine rise_eq (ssetI_rise _) (range_rise P _) fun z => ?_
  rw [mem_ssetI, List.mem_map, List.mem_map]
  have hl : (rounds E P (List.range P)).length = P := by rw [rounds_len, List.length_range]
  constructor
  · rintro ⟨a, h, rfl⟩
    refine ⟨a, ?_, rfl⟩
    obtain ⟨v, hv, e⟩ := List.mem_iff_getElem.mp h
    have hv' : v < P := by omega
    have e : fxM E P v = a := by
      show (rounds E P (List.range P)).getD v 1 = a
      rw [List.getD_eq_getElem?_getD, List.getElem?_eq_getElem hv, e]
      rfl
    unfold headL
    rw [List.mem_filter, List.mem_range, decide_eq_true_eq, ← e]
    exact ⟨by have := (marks_le hw hv').1; show mk1 _ _ < P; omega, fxM_idem hw hv'⟩
  · rintro ⟨a, h, rfl⟩
    unfold headL at h
    rw [List.mem_filter, List.mem_range, decide_eq_true_eq] at h
    refine ⟨a, ?_, rfl⟩
    have hv : a < (rounds E P (List.range P)).length := by omega
    have e : fxM E P a = (rounds E P (List.range P))[a] := by
      show (rounds E P (List.range P)).getD a 1 = _
      rw [List.getD_eq_getElem?_getD, List.getElem?_eq_getElem hv]
      rfl
    rw [← h.2, e]
    exact List.getElem_mem _
theorem sset_marks {E : List (Nat × Nat)} {P : Nat} (hw : Wf E P) (hp : P ≤ 60) : opP .sset [.list (numL (rounds E P (List.range P)))] = some (.list (numL (headL E P))) := by
  unfold opP
  simp only [ints_numL]
  rw [if_pos (by rw [List.length_map, rounds_len, List.length_range]; exact hp), marks_set hw]
  rfl
theorem sm_numL (l : List Nat) (h : ∀ x ∈ l, x ≤ 1000) : smPs (numL l) = true ∧ ndPs (numL l) = l.length := by
  induction l with
  | nil => exact ⟨by rw [show numL [] = [] from rfl, smPs], by rw [show numL [] = [] from rfl, ndPs]; rfl⟩
  | cons a l ih =>
    obtain ⟨h1, h2⟩ := ih fun x hx => h x (List.mem_cons_of_mem _ hx)
    have ha := h a (List.mem_cons_self ..)
    have e : numL (a :: l) = .int a :: numL l := rfl
    rw [e, smPs, ndPs, h1, h2]
    refine ⟨?_, by simp [ndP]; omega⟩
    have hb : ((a : Int)).natAbs < 10 ^ 12 := Nat.lt_of_le_of_lt (show ((a : Int)).natAbs ≤ 1000 by omega) (by decide)
    simp [smP, hb]
    try exact hb
theorem sm_pcs (E : List (Nat × Nat)) (P : Nat) (hp : P ≤ 7) : Sm1 (.list (pcs E P)) := by
  have one : ∀ v, smP (.tuple (numL (cmpL E P v))) = true ∧ ndP (.tuple (numL (cmpL E P v))) ≤ 8 := fun v => by
    have hl := cmpL_len E P v
    obtain ⟨h1, h2⟩ := sm_numL (cmpL E P v) fun x hx => by
      unfold cmpL at hx
      have := List.mem_range.mp (List.mem_filter.mp hx).1
      omega
    rw [smP, ndP, h1, h2]
    exact ⟨rfl, by omega⟩
  have hall : ∀ l : List Nat, smPs (l.map fun v => PyData.tuple (numL (cmpL E P v))) = true ∧ ndPs (l.map fun v => PyData.tuple (numL (cmpL E P v))) ≤ 8 * l.length := fun l => by
    induction l with
    | nil => exact ⟨by rw [List.map_nil, smPs], by rw [List.map_nil, ndPs]; exact Nat.zero_le _⟩
    | cons a l ih =>
      rw [List.map_cons, smPs, ndPs, (one a).1, ih.1, List.length_cons]
      exact ⟨rfl, by have := (one a).2; have := ih.2; omega⟩
  have := hall ((List.range P).filter fun v => decide (fxM E P v = v))
  have hl : ((List.range P).filter fun v => decide (fxM E P v = v)).length ≤ P := Nat.le_trans (List.length_filter_le _ _) (by rw [List.length_range]; exact Nat.le_refl _)
  have hd : ∀ l : List Nat, PyData.depthAll (l.map fun v => PyData.tuple (numL (cmpL E P v))) ≤ 2 := fun l => by
    induction l with
    | nil => simp [PyData.depthAll]
    | cons a l ih =>
      have hi : PyData.depthAll (numL (cmpL E P a)) ≤ 1 := depI _
      rw [List.map_cons, PyData.depthAll, PyData.depth]
      omega
  refine ⟨?_, ?_, ?_⟩
  · rw [smP]; exact this.1
  · rw [ndP]; have := this.2; unfold pcs pcsTo; omega
  · have := hd ((List.range P).filter fun v => decide (fxM E P v = v))
    rw [PyData.depth]
    unfold pcs pcsTo
    omega
theorem sm_int {i : Int} (h : i.natAbs ≤ 1000) : Sm1 (.int i) := by
  have hb : i.natAbs < 10 ^ 12 := Nat.lt_of_le_of_lt h (by decide)
  refine ⟨?_, by simp [ndP], by simp [PyData.depth]⟩
  simp [smP, hb]
  try exact hb
theorem law_true : ∀ ns : List Int, ns.length ≤ 63 → ∃ m, run (tabG rows) 24 "law" [.scr ns] [] = .ok (.b (.bool true)) m := by
  intro ns hn
  have main : ∀ q, Ok (run G (q + 8) "law" [.scr ns] []) fun d m => d = .b (.bool true) := by
    intro q
    refine run_ok g_law ⟨rfl, by decide⟩ ?_
    rw [show startE b_law.n [.scr ns] = [some (.scr ns), none, none, none, none, none, none, none, none, none, none, none] from rfl]
    unfold b_law
    (simp only [↓stk_call, ↓stk_comp, ↓stk_rows, ↓stk_rc, ↓stk_for, ↓stk_whl, ↓stk_said, ↓Br.t, ↓Br.f, Br.t, Br.f, ↓w_var, ↓w_int, ↓w_bool, ↓w_none, ↓w_str, ↓w_glob, ↓w_bin, ↓w_neg, ↓w_not, ↓w_cmp, ↓w_chain, ↓w_and, ↓w_or, ↓w_ife, ↓w_tup, ↓w_lst, ↓w_ix, ↓w_ixR, ↓w_rowc, ↓w_rcomp, ↓w_sl0, ↓w_slL, ↓w_slH, ↓w_slB, ↓w_bi, ↓w_isi, ↓w_op, ↓w_idx, ↓w_sm, isS_s, ↓w_dic, ↓w_me, ↓w_call, ↓w_pick, ↓w_isx, ↓w_comp, ↓w_compI, ↓w_nil, ↓w_cons, ↓w_seq, ↓w_rng1, ↓w_rng2, ↓w_enm, ↓w_zip, ↓w_zip3, ↓s_nil, ↓s_cons, ↓s_set, ↓s_setT, ↓s_setP, ↓s_setI, ↓s_expr, ↓s_ife, ↓s_whl, ↓s_for, ↓s_ret, ↓s_retN, ↓s_pass, ↓s_brk, ↓s_cont, ↓Ok.ok, ↓Ok.bind, Sm.s, Sm.map, Sm.ite, Snap.b, In.i, Bl.b, Rf.r, mk_f, mk_t, ixF_b, ixF_r, ixF_s, pickF_w, isxF_n, isxF_e, biF_len, biF_b, biF_r, opF_w, isL_b, isL_r, Snaps, itSeq_l, itSeq_t, itZip_l, itZip_t, itZip3_w, binP, intBin, cmp_lt, cmp_le, cmp_gt, cmp_ge, cmp_eqi, cmp_nei, cmp_eqb, cmp_neb, cmp_is, cmp_isnot, cmp_isn, cmp_isnotn, isi_int, isi_bool, isi_tup, isi_lst, isi_str, isI, isBo, isTu, isLi, isSt, truth, ixP, slP, biP, owns, own, at_0, at_1, at_2, at_3, set_0, setsD, asgn, asgnT, sets, List.getElem?_cons_zero, List.getElem?_cons_succ, List.set_cons_zero, List.set_cons_succ, List.length_cons, List.length_nil, decide_eq_true_eq, Bool.not_true, Bool.not_false, Bool.not_eq_true', decide_eq_false_iff_not, Bool.true_eq_false, Bool.false_eq_true, if_true, if_false, true_and]; try (first | refine Br.d ?_ | refine Br.nd ?_ | refine Br.nb ?_ | refine Br.b ?_))
    refine ⟨by unfold rngOk; exact decide_eq_true (by (repeat' split) <;> omega), ?_⟩
    refine for_ok (fun _ δ _ => ∃ o1 o2 o3 o4 o5 o6 o7 o8 o9 o10 o11, δ = [some (.scr ns), o1, o2, o3, o4, o5, o6, o7, o8, o9, o10, o11]) ⟨_, _, _, _, _, _, _, _, _, _, _, rfl⟩ ?_ ?_
    · rintro i x δ m hx ⟨o1, o2, o3, o4, o5, o6, o7, o8, o9, o10, o11, rfl⟩
      obtain ⟨j, rfl, hj⟩ := rngP_get hx
      refine ⟨trivial, ?_⟩
      (simp only [↓stk_call, ↓stk_comp, ↓stk_rows, ↓stk_rc, ↓stk_for, ↓stk_whl, ↓stk_said, ↓Br.t, ↓Br.f, Br.t, Br.f, ↓w_var, ↓w_int, ↓w_bool, ↓w_none, ↓w_str, ↓w_glob, ↓w_bin, ↓w_neg, ↓w_not, ↓w_cmp, ↓w_chain, ↓w_and, ↓w_or, ↓w_ife, ↓w_tup, ↓w_lst, ↓w_ix, ↓w_ixR, ↓w_rowc, ↓w_rcomp, ↓w_sl0, ↓w_slL, ↓w_slH, ↓w_slB, ↓w_bi, ↓w_isi, ↓w_op, ↓w_idx, ↓w_sm, isS_s, ↓w_dic, ↓w_me, ↓w_call, ↓w_pick, ↓w_isx, ↓w_comp, ↓w_compI, ↓w_nil, ↓w_cons, ↓w_seq, ↓w_rng1, ↓w_rng2, ↓w_enm, ↓w_zip, ↓w_zip3, ↓s_nil, ↓s_cons, ↓s_set, ↓s_setT, ↓s_setP, ↓s_setI, ↓s_expr, ↓s_ife, ↓s_whl, ↓s_for, ↓s_ret, ↓s_retN, ↓s_pass, ↓s_brk, ↓s_cont, ↓Ok.ok, ↓Ok.bind, Sm.s, Sm.map, Sm.ite, Snap.b, In.i, Bl.b, Rf.r, mk_f, mk_t, ixF_b, ixF_r, ixF_s, pickF_w, isxF_n, isxF_e, biF_len, biF_b, biF_r, opF_w, isL_b, isL_r, Snaps, itSeq_l, itSeq_t, itZip_l, itZip_t, itZip3_w, binP, intBin, cmp_lt, cmp_le, cmp_gt, cmp_ge, cmp_eqi, cmp_nei, cmp_eqb, cmp_neb, cmp_is, cmp_isnot, cmp_isn, cmp_isnotn, isi_int, isi_bool, isi_tup, isi_lst, isi_str, isI, isBo, isTu, isLi, isSt, truth, ixP, slP, biP, owns, own, at_0, at_1, at_2, at_3, set_0, setsD, asgn, asgnT, sets, List.getElem?_cons_zero, List.getElem?_cons_succ, List.set_cons_zero, List.set_cons_succ, List.length_cons, List.length_nil, decide_eq_true_eq, Bool.not_true, Bool.not_false, Bool.not_eq_true', decide_eq_false_iff_not, Bool.true_eq_false, Bool.false_eq_true, if_true, if_false, true_and]; try (first | refine Br.d ?_ | refine Br.nd ?_ | refine Br.nb ?_ | refine Br.b ?_))
      refine (state_call (k := q + 5) g_law_state g_law_cell_at (by omega)).mono ?_
      rintro _ m1 ⟨rfl, hs, _⟩
      (simp only [↓stk_call, ↓stk_comp, ↓stk_rows, ↓stk_rc, ↓stk_for, ↓stk_whl, ↓stk_said, ↓Br.t, ↓Br.f, Br.t, Br.f, ↓w_var, ↓w_int, ↓w_bool, ↓w_none, ↓w_str, ↓w_glob, ↓w_bin, ↓w_neg, ↓w_not, ↓w_cmp, ↓w_chain, ↓w_and, ↓w_or, ↓w_ife, ↓w_tup, ↓w_lst, ↓w_ix, ↓w_ixR, ↓w_rowc, ↓w_rcomp, ↓w_sl0, ↓w_slL, ↓w_slH, ↓w_slB, ↓w_bi, ↓w_isi, ↓w_op, ↓w_idx, ↓w_sm, isS_s, ↓w_dic, ↓w_me, ↓w_call, ↓w_pick, ↓w_isx, ↓w_comp, ↓w_compI, ↓w_nil, ↓w_cons, ↓w_seq, ↓w_rng1, ↓w_rng2, ↓w_enm, ↓w_zip, ↓w_zip3, ↓s_nil, ↓s_cons, ↓s_set, ↓s_setT, ↓s_setP, ↓s_setI, ↓s_expr, ↓s_ife, ↓s_whl, ↓s_for, ↓s_ret, ↓s_retN, ↓s_pass, ↓s_brk, ↓s_cont, ↓Ok.ok, ↓Ok.bind, Sm.s, Sm.map, Sm.ite, Snap.b, In.i, Bl.b, Rf.r, mk_f, mk_t, ixF_b, ixF_r, ixF_s, pickF_w, isxF_n, isxF_e, biF_len, biF_b, biF_r, opF_w, isL_b, isL_r, Snaps, itSeq_l, itSeq_t, itZip_l, itZip_t, itZip3_w, binP, intBin, cmp_lt, cmp_le, cmp_gt, cmp_ge, cmp_eqi, cmp_nei, cmp_eqb, cmp_neb, cmp_is, cmp_isnot, cmp_isn, cmp_isnotn, isi_int, isi_bool, isi_tup, isi_lst, isi_str, isI, isBo, isTu, isLi, isSt, truth, ixP, slP, biP, owns, own, at_0, at_1, at_2, at_3, set_0, setsD, asgn, asgnT, sets, List.getElem?_cons_zero, List.getElem?_cons_succ, List.set_cons_zero, List.set_cons_succ, List.length_cons, List.length_nil, decide_eq_true_eq, Bool.not_true, Bool.not_false, Bool.not_eq_true', decide_eq_false_iff_not, Bool.true_eq_false, Bool.false_eq_true, if_true, if_false, true_and]; try (first | refine Br.d ?_ | refine Br.nd ?_ | refine Br.nb ?_ | refine Br.b ?_))
      refine ⟨by decide, ?_⟩
      refine (take_call (k := q + 6) g_law_take hs (by decide) (by decide)).mono ?_
      rintro _ m2 ⟨v, rfl, v0, v1, u1⟩
      obtain ⟨mc, hmc, c0, c1⟩ : ∃ mc : Int, atP [PyData.int 6, .int 10, .int 16] v = some (.int mc) ∧ 0 ≤ mc ∧ mc ≤ 16 := by
        have : v = 0 ∨ v = 1 ∨ v = 2 := by omega
        rcases this with rfl | rfl | rfl
        · exact ⟨6, at_0 _ _, by decide, by decide⟩
        · exact ⟨10, at_1 _ _ _, by decide, by decide⟩
        · exact ⟨16, at_2 _ _ _ _, by decide, by decide⟩
      (simp only [↓stk_call, ↓stk_comp, ↓stk_rows, ↓stk_rc, ↓stk_for, ↓stk_whl, ↓stk_said, ↓Br.t, ↓Br.f, Br.t, Br.f, ↓w_var, ↓w_int, ↓w_bool, ↓w_none, ↓w_str, ↓w_glob, ↓w_bin, ↓w_neg, ↓w_not, ↓w_cmp, ↓w_chain, ↓w_and, ↓w_or, ↓w_ife, ↓w_tup, ↓w_lst, ↓w_ix, ↓w_ixR, ↓w_rowc, ↓w_rcomp, ↓w_sl0, ↓w_slL, ↓w_slH, ↓w_slB, ↓w_bi, ↓w_isi, ↓w_op, ↓w_idx, ↓w_sm, isS_s, ↓w_dic, ↓w_me, ↓w_call, ↓w_pick, ↓w_isx, ↓w_comp, ↓w_compI, ↓w_nil, ↓w_cons, ↓w_seq, ↓w_rng1, ↓w_rng2, ↓w_enm, ↓w_zip, ↓w_zip3, ↓s_nil, ↓s_cons, ↓s_set, ↓s_setT, ↓s_setP, ↓s_setI, ↓s_expr, ↓s_ife, ↓s_whl, ↓s_for, ↓s_ret, ↓s_retN, ↓s_pass, ↓s_brk, ↓s_cont, ↓Ok.ok, ↓Ok.bind, Sm.s, Sm.map, Sm.ite, Snap.b, In.i, Bl.b, Rf.r, mk_f, mk_t, ixF_b, ixF_r, ixF_s, pickF_w, isxF_n, isxF_e, biF_len, biF_b, biF_r, opF_w, isL_b, isL_r, Snaps, itSeq_l, itSeq_t, itZip_l, itZip_t, itZip3_w, binP, intBin, cmp_lt, cmp_le, cmp_gt, cmp_ge, cmp_eqi, cmp_nei, cmp_eqb, cmp_neb, cmp_is, cmp_isnot, cmp_isn, cmp_isnotn, isi_int, isi_bool, isi_tup, isi_lst, isi_str, isI, isBo, isTu, isLi, isSt, truth, ixP, slP, biP, owns, own, at_0, at_1, at_2, at_3, set_0, setsD, asgn, asgnT, sets, List.getElem?_cons_zero, List.getElem?_cons_succ, List.set_cons_zero, List.set_cons_succ, List.length_cons, List.length_nil, decide_eq_true_eq, Bool.not_true, Bool.not_false, Bool.not_eq_true', decide_eq_false_iff_not, Bool.true_eq_false, Bool.false_eq_true, if_true, if_false, true_and, hmc]; try (first | refine Br.d ?_ | refine Br.nd ?_ | refine Br.nb ?_ | refine Br.b ?_))
      refine (net_call (k := q + 4) g_law_net g_law_take g_law_ends u1.ok (by decide) (by decide) (by decide) (by decide) c0 (by omega)).mono ?_
      rintro _ m3 ⟨y, rfl, hy, u2⟩
      obtain ⟨s, p, cs, rfl, s1, s2, p1, p2, hc, hg⟩ := hy
      obtain ⟨n, rfl⟩ : ∃ n : Nat, s = n := ⟨s.toNat, by omega⟩
      obtain ⟨P, rfl⟩ : ∃ P : Nat, p = P := ⟨p.toNat, by omega⟩
      clear hs u1 u2
      have hc : cs.length ≤ 16 := by omega
      (simp only [↓stk_call, ↓stk_comp, ↓stk_rows, ↓stk_rc, ↓stk_for, ↓stk_whl, ↓stk_said, ↓Br.t, ↓Br.f, Br.t, Br.f, ↓w_var, ↓w_int, ↓w_bool, ↓w_none, ↓w_str, ↓w_glob, ↓w_bin, ↓w_neg, ↓w_not, ↓w_cmp, ↓w_chain, ↓w_and, ↓w_or, ↓w_ife, ↓w_tup, ↓w_lst, ↓w_ix, ↓w_ixR, ↓w_rowc, ↓w_rcomp, ↓w_sl0, ↓w_slL, ↓w_slH, ↓w_slB, ↓w_bi, ↓w_isi, ↓w_op, ↓w_idx, ↓w_sm, isS_s, ↓w_dic, ↓w_me, ↓w_call, ↓w_pick, ↓w_isx, ↓w_comp, ↓w_compI, ↓w_nil, ↓w_cons, ↓w_seq, ↓w_rng1, ↓w_rng2, ↓w_enm, ↓w_zip, ↓w_zip3, ↓s_nil, ↓s_cons, ↓s_set, ↓s_setT, ↓s_setP, ↓s_setI, ↓s_expr, ↓s_ife, ↓s_whl, ↓s_for, ↓s_ret, ↓s_retN, ↓s_pass, ↓s_brk, ↓s_cont, ↓Ok.ok, ↓Ok.bind, Sm.s, Sm.map, Sm.ite, Snap.b, In.i, Bl.b, Rf.r, mk_f, mk_t, ixF_b, ixF_r, ixF_s, pickF_w, isxF_n, isxF_e, biF_len, biF_b, biF_r, opF_w, isL_b, isL_r, Snaps, itSeq_l, itSeq_t, itZip_l, itZip_t, itZip3_w, binP, intBin, cmp_lt, cmp_le, cmp_gt, cmp_ge, cmp_eqi, cmp_nei, cmp_eqb, cmp_neb, cmp_is, cmp_isnot, cmp_isn, cmp_isnotn, isi_int, isi_bool, isi_tup, isi_lst, isi_str, isI, isBo, isTu, isLi, isSt, truth, ixP, slP, biP, owns, own, at_0, at_1, at_2, at_3, set_0, setsD, asgn, asgnT, sets, List.getElem?_cons_zero, List.getElem?_cons_succ, List.set_cons_zero, List.set_cons_succ, List.length_cons, List.length_nil, decide_eq_true_eq, Bool.not_true, Bool.not_false, Bool.not_eq_true', decide_eq_false_iff_not, Bool.true_eq_false, Bool.false_eq_true, if_true, if_false, true_and]; try (first | refine Br.d ?_ | refine Br.nd ?_ | refine Br.nb ?_ | refine Br.b ?_))
      refine (lsettings_call (k := q + 6) g_law_settings (n := n) (by omega) (by omega)).mono ?_
      rintro _ _ ⟨rfl, rfl⟩
      (simp only [↓stk_call, ↓stk_comp, ↓stk_rows, ↓stk_rc, ↓stk_for, ↓stk_whl, ↓stk_said, ↓Br.t, ↓Br.f, Br.t, Br.f, ↓w_var, ↓w_int, ↓w_bool, ↓w_none, ↓w_str, ↓w_glob, ↓w_bin, ↓w_neg, ↓w_not, ↓w_cmp, ↓w_chain, ↓w_and, ↓w_or, ↓w_ife, ↓w_tup, ↓w_lst, ↓w_ix, ↓w_ixR, ↓w_rowc, ↓w_rcomp, ↓w_sl0, ↓w_slL, ↓w_slH, ↓w_slB, ↓w_bi, ↓w_isi, ↓w_op, ↓w_idx, ↓w_sm, isS_s, ↓w_dic, ↓w_me, ↓w_call, ↓w_pick, ↓w_isx, ↓w_comp, ↓w_compI, ↓w_nil, ↓w_cons, ↓w_seq, ↓w_rng1, ↓w_rng2, ↓w_enm, ↓w_zip, ↓w_zip3, ↓s_nil, ↓s_cons, ↓s_set, ↓s_setT, ↓s_setP, ↓s_setI, ↓s_expr, ↓s_ife, ↓s_whl, ↓s_for, ↓s_ret, ↓s_retN, ↓s_pass, ↓s_brk, ↓s_cont, ↓Ok.ok, ↓Ok.bind, Sm.s, Sm.map, Sm.ite, Snap.b, In.i, Bl.b, Rf.r, mk_f, mk_t, ixF_b, ixF_r, ixF_s, pickF_w, isxF_n, isxF_e, biF_len, biF_b, biF_r, opF_w, isL_b, isL_r, Snaps, itSeq_l, itSeq_t, itZip_l, itZip_t, itZip3_w, binP, intBin, cmp_lt, cmp_le, cmp_gt, cmp_ge, cmp_eqi, cmp_nei, cmp_eqb, cmp_neb, cmp_is, cmp_isnot, cmp_isn, cmp_isnotn, isi_int, isi_bool, isi_tup, isi_lst, isi_str, isI, isBo, isTu, isLi, isSt, truth, ixP, slP, biP, owns, own, at_0, at_1, at_2, at_3, set_0, setsD, asgn, asgnT, sets, List.getElem?_cons_zero, List.getElem?_cons_succ, List.set_cons_zero, List.set_cons_succ, List.length_cons, List.length_nil, decide_eq_true_eq, Bool.not_true, Bool.not_false, Bool.not_eq_true', decide_eq_false_iff_not, Bool.true_eq_false, Bool.false_eq_true, if_true, if_false, true_and]; try (first | refine Br.d ?_ | refine Br.nd ?_ | refine Br.nb ?_ | refine Br.b ?_))
      refine for_ok (fun _ δ _ => ∃ o4 o5 o6 o7 o8 o9 o10 o11 o2, δ = [some (.scr ns), some (.b (.int j)), o2, some (.b (.tuple [.int n, .int P, .tuple cs])), o4, o5, o6, o7, o8, o9, o10, o11]) ⟨_, _, _, _, _, _, _, _, _, rfl⟩ ?_ ?_
      · rintro a y δ m hy ⟨o4, o5, o6, o7, o8, o9, o10, o11, o2, rfl⟩
        have hy : y ∈ setD n := List.mem_of_getElem? hy
        unfold setD at hy
        obtain ⟨t, ht, rfl⟩ := List.mem_map.mp hy
        have ht := setS_ok n t ht
        refine ⟨trivial, ?_⟩
        (simp only [↓stk_call, ↓stk_comp, ↓stk_rows, ↓stk_rc, ↓stk_for, ↓stk_whl, ↓stk_said, ↓Br.t, ↓Br.f, Br.t, Br.f, ↓w_var, ↓w_int, ↓w_bool, ↓w_none, ↓w_str, ↓w_glob, ↓w_bin, ↓w_neg, ↓w_not, ↓w_cmp, ↓w_chain, ↓w_and, ↓w_or, ↓w_ife, ↓w_tup, ↓w_lst, ↓w_ix, ↓w_ixR, ↓w_rowc, ↓w_rcomp, ↓w_sl0, ↓w_slL, ↓w_slH, ↓w_slB, ↓w_bi, ↓w_isi, ↓w_op, ↓w_idx, ↓w_sm, isS_s, ↓w_dic, ↓w_me, ↓w_call, ↓w_pick, ↓w_isx, ↓w_comp, ↓w_compI, ↓w_nil, ↓w_cons, ↓w_seq, ↓w_rng1, ↓w_rng2, ↓w_enm, ↓w_zip, ↓w_zip3, ↓s_nil, ↓s_cons, ↓s_set, ↓s_setT, ↓s_setP, ↓s_setI, ↓s_expr, ↓s_ife, ↓s_whl, ↓s_for, ↓s_ret, ↓s_retN, ↓s_pass, ↓s_brk, ↓s_cont, ↓Ok.ok, ↓Ok.bind, Sm.s, Sm.map, Sm.ite, Snap.b, In.i, Bl.b, Rf.r, mk_f, mk_t, ixF_b, ixF_r, ixF_s, pickF_w, isxF_n, isxF_e, biF_len, biF_b, biF_r, opF_w, isL_b, isL_r, Snaps, itSeq_l, itSeq_t, itZip_l, itZip_t, itZip3_w, binP, intBin, cmp_lt, cmp_le, cmp_gt, cmp_ge, cmp_eqi, cmp_nei, cmp_eqb, cmp_neb, cmp_is, cmp_isnot, cmp_isn, cmp_isnotn, isi_int, isi_bool, isi_tup, isi_lst, isi_str, isI, isBo, isTu, isLi, isSt, truth, ixP, slP, biP, owns, own, at_0, at_1, at_2, at_3, set_0, setsD, asgn, asgnT, sets, List.getElem?_cons_zero, List.getElem?_cons_succ, List.set_cons_zero, List.set_cons_succ, List.length_cons, List.length_nil, decide_eq_true_eq, Bool.not_true, Bool.not_false, Bool.not_eq_true', decide_eq_false_iff_not, Bool.true_eq_false, Bool.false_eq_true, if_true, if_false, true_and]; try (first | refine Br.d ?_ | refine Br.nd ?_ | refine Br.nb ?_ | refine Br.b ?_))
        refine (lshut_call (k := q + 6) g_law_shut hc hg ht).mono ?_
        rintro _ m ⟨rfl, rfl⟩
        obtain ⟨eS, hS⟩ := shutN_ok cs t
        have pc := fun (m : Mem) => pieces_call (k := q + 5) (m := m) (r := true) hc (by omega) (by omega) hg ht
        have rc := fun (m : Mem) => rings_call (k := q + 4) (m := m) hc (by omega) (by omega) hg ht
        have hlS : (shutN cs t).length ≤ 16 := by
          have h1 : (shutL cs t).length ≤ (pairs (rngP 0 cs.length) cs).length := by
            unfold shutL
            rw [List.length_map]
            exact List.length_filter_le _ _
          rw [eS, numL_len, pairs_length] at h1
          omega
        rw [eS]
        generalize shutN cs t = S at hS pc rc hlS
        have hw := wf_of hg hS
        (simp only [↓stk_call, ↓stk_comp, ↓stk_rows, ↓stk_rc, ↓stk_for, ↓stk_whl, ↓stk_said, ↓Br.t, ↓Br.f, Br.t, Br.f, ↓w_var, ↓w_int, ↓w_bool, ↓w_none, ↓w_str, ↓w_glob, ↓w_bin, ↓w_neg, ↓w_not, ↓w_cmp, ↓w_chain, ↓w_and, ↓w_or, ↓w_ife, ↓w_tup, ↓w_lst, ↓w_ix, ↓w_ixR, ↓w_rowc, ↓w_rcomp, ↓w_sl0, ↓w_slL, ↓w_slH, ↓w_slB, ↓w_bi, ↓w_isi, ↓w_op, ↓w_idx, ↓w_sm, isS_s, ↓w_dic, ↓w_me, ↓w_call, ↓w_pick, ↓w_isx, ↓w_comp, ↓w_compI, ↓w_nil, ↓w_cons, ↓w_seq, ↓w_rng1, ↓w_rng2, ↓w_enm, ↓w_zip, ↓w_zip3, ↓s_nil, ↓s_cons, ↓s_set, ↓s_setT, ↓s_setP, ↓s_setI, ↓s_expr, ↓s_ife, ↓s_whl, ↓s_for, ↓s_ret, ↓s_retN, ↓s_pass, ↓s_brk, ↓s_cont, ↓Ok.ok, ↓Ok.bind, Sm.s, Sm.map, Sm.ite, Snap.b, In.i, Bl.b, Rf.r, mk_f, mk_t, ixF_b, ixF_r, ixF_s, pickF_w, isxF_n, isxF_e, biF_len, biF_b, biF_r, opF_w, isL_b, isL_r, Snaps, itSeq_l, itSeq_t, itZip_l, itZip_t, itZip3_w, binP, intBin, cmp_lt, cmp_le, cmp_gt, cmp_ge, cmp_eqi, cmp_nei, cmp_eqb, cmp_neb, cmp_is, cmp_isnot, cmp_isn, cmp_isnotn, isi_int, isi_bool, isi_tup, isi_lst, isi_str, isI, isBo, isTu, isLi, isSt, truth, ixP, slP, biP, owns, own, at_0, at_1, at_2, at_3, set_0, setsD, asgn, asgnT, sets, List.getElem?_cons_zero, List.getElem?_cons_succ, List.set_cons_zero, List.set_cons_succ, List.length_cons, List.length_nil, decide_eq_true_eq, Bool.not_true, Bool.not_false, Bool.not_eq_true', decide_eq_false_iff_not, Bool.true_eq_false, Bool.false_eq_true, if_true, if_false, true_and]; try (first | refine Br.d ?_ | refine Br.nd ?_ | refine Br.nb ?_ | refine Br.b ?_))
        refine (marks_call (k := q + 6) g_law_marks hc (by omega) (by omega) hg hS).mono ?_
        rintro _ m ⟨rfl, rfl⟩
        rw [show ((P : Int)).toNat = P from Int.toNat_natCast P]
        generalize hE : edg cs S = E at hw pc rc
        (simp only [↓stk_call, ↓stk_comp, ↓stk_rows, ↓stk_rc, ↓stk_for, ↓stk_whl, ↓stk_said, ↓Br.t, ↓Br.f, Br.t, Br.f, ↓w_var, ↓w_int, ↓w_bool, ↓w_none, ↓w_str, ↓w_glob, ↓w_bin, ↓w_neg, ↓w_not, ↓w_cmp, ↓w_chain, ↓w_and, ↓w_or, ↓w_ife, ↓w_tup, ↓w_lst, ↓w_ix, ↓w_ixR, ↓w_rowc, ↓w_rcomp, ↓w_sl0, ↓w_slL, ↓w_slH, ↓w_slB, ↓w_bi, ↓w_isi, ↓w_op, ↓w_idx, ↓w_sm, isS_s, ↓w_dic, ↓w_me, ↓w_call, ↓w_pick, ↓w_isx, ↓w_comp, ↓w_compI, ↓w_nil, ↓w_cons, ↓w_seq, ↓w_rng1, ↓w_rng2, ↓w_enm, ↓w_zip, ↓w_zip3, ↓s_nil, ↓s_cons, ↓s_set, ↓s_setT, ↓s_setP, ↓s_setI, ↓s_expr, ↓s_ife, ↓s_whl, ↓s_for, ↓s_ret, ↓s_retN, ↓s_pass, ↓s_brk, ↓s_cont, ↓Ok.ok, ↓Ok.bind, Sm.s, Sm.map, Sm.ite, Snap.b, In.i, Bl.b, Rf.r, mk_f, mk_t, ixF_b, ixF_r, ixF_s, pickF_w, isxF_n, isxF_e, biF_len, biF_b, biF_r, opF_w, isL_b, isL_r, Snaps, itSeq_l, itSeq_t, itZip_l, itZip_t, itZip3_w, binP, intBin, cmp_lt, cmp_le, cmp_gt, cmp_ge, cmp_eqi, cmp_nei, cmp_eqb, cmp_neb, cmp_is, cmp_isnot, cmp_isn, cmp_isnotn, isi_int, isi_bool, isi_tup, isi_lst, isi_str, isI, isBo, isTu, isLi, isSt, truth, ixP, slP, biP, owns, own, at_0, at_1, at_2, at_3, set_0, setsD, asgn, asgnT, sets, List.getElem?_cons_zero, List.getElem?_cons_succ, List.set_cons_zero, List.set_cons_succ, List.length_cons, List.length_nil, decide_eq_true_eq, Bool.not_true, Bool.not_false, Bool.not_eq_true', decide_eq_false_iff_not, Bool.true_eq_false, Bool.false_eq_true, if_true, if_false, true_and, opF_w, snaps_w, sset_marks hw (show P ≤ 60 by omega)]; try (first | refine Br.d ?_ | refine Br.nd ?_ | refine Br.nb ?_ | refine Br.b ?_))
        refine ⟨by decide, ?_⟩
        refine for_ok (fun i δ mm => ∃ o8 o9 o10 o11, δ = [some (.scr ns), some (.b (.int j)), o2, some (.b (.tuple [.int n, .int P, .tuple cs])), some (.b (.tuple t)), some (.b (.list (numL S))), some (.b (.list (numL (rounds E P (List.range P))))), some (.ref m.length), o8, o9, o10, o11] ∧ mm = m ++ [.lst (((headL E P).take i).map fun v => .tuple (numL (cmpL E P v)))]) ⟨_, _, _, _, rfl, rfl⟩ ?_ ?_
        · rintro i x δ mm hx ⟨o8, o9, o10, o11, rfl, rfl⟩
          obtain ⟨v, rfl, hv⟩ := numL_get hx
          have hvm := List.mem_of_getElem? hv
          unfold headL at hvm
          rw [List.mem_filter, List.mem_range, decide_eq_true_eq] at hvm
          obtain ⟨hvP, hvv⟩ := hvm
          refine ⟨trivial, ?_⟩
          (simp only [↓stk_call, ↓stk_comp, ↓stk_rows, ↓stk_rc, ↓stk_for, ↓stk_whl, ↓stk_said, ↓Br.t, ↓Br.f, Br.t, Br.f, ↓w_var, ↓w_int, ↓w_bool, ↓w_none, ↓w_str, ↓w_glob, ↓w_bin, ↓w_neg, ↓w_not, ↓w_cmp, ↓w_chain, ↓w_and, ↓w_or, ↓w_ife, ↓w_tup, ↓w_lst, ↓w_ix, ↓w_ixR, ↓w_rowc, ↓w_rcomp, ↓w_sl0, ↓w_slL, ↓w_slH, ↓w_slB, ↓w_bi, ↓w_isi, ↓w_op, ↓w_idx, ↓w_sm, isS_s, ↓w_dic, ↓w_me, ↓w_call, ↓w_pick, ↓w_isx, ↓w_comp, ↓w_compI, ↓w_nil, ↓w_cons, ↓w_seq, ↓w_rng1, ↓w_rng2, ↓w_enm, ↓w_zip, ↓w_zip3, ↓s_nil, ↓s_cons, ↓s_set, ↓s_setT, ↓s_setP, ↓s_setI, ↓s_expr, ↓s_ife, ↓s_whl, ↓s_for, ↓s_ret, ↓s_retN, ↓s_pass, ↓s_brk, ↓s_cont, ↓Ok.ok, ↓Ok.bind, Sm.s, Sm.map, Sm.ite, Snap.b, In.i, Bl.b, Rf.r, mk_f, mk_t, ixF_b, ixF_r, ixF_s, pickF_w, isxF_n, isxF_e, biF_len, biF_b, biF_r, opF_w, isL_b, isL_r, Snaps, itSeq_l, itSeq_t, itZip_l, itZip_t, itZip3_w, binP, intBin, cmp_lt, cmp_le, cmp_gt, cmp_ge, cmp_eqi, cmp_nei, cmp_eqb, cmp_neb, cmp_is, cmp_isnot, cmp_isn, cmp_isnotn, isi_int, isi_bool, isi_tup, isi_lst, isi_str, isI, isBo, isTu, isLi, isSt, truth, ixP, slP, biP, owns, own, at_0, at_1, at_2, at_3, set_0, setsD, asgn, asgnT, sets, List.getElem?_cons_zero, List.getElem?_cons_succ, List.set_cons_zero, List.set_cons_succ, List.length_cons, List.length_nil, decide_eq_true_eq, Bool.not_true, Bool.not_false, Bool.not_eq_true', decide_eq_false_iff_not, Bool.true_eq_false, Bool.false_eq_true, if_true, if_false, true_and]; try (first | refine Br.d ?_ | refine Br.nd ?_ | refine Br.nb ?_ | refine Br.b ?_))
          refine ⟨by unfold rngOk; exact decide_eq_true (by omega), ?_⟩
          rw [rng_num]
          refine compI_pure (onN fun x => decide (fxM E P x = fxM E P v)) id (by rw [numL_len, List.length_range]; show _ ≤ 16777216; omega) (fun x hx mm => ?_) ?_
          · obtain ⟨i, hi⟩ := List.mem_iff_getElem?.mp hx
            obtain ⟨u, rfl, hu⟩ := numL_get hi
            have hu : u < P := List.mem_range.mp (List.mem_of_getElem? hu)
            have hat : atP (numL (rounds E P (List.range P))) (u : Nat) = some (.int (fxM E P u : Nat)) := at_num (by omega) (by rw [rounds_len, List.length_range]; omega)
            (simp only [↓stk_call, ↓stk_comp, ↓stk_rows, ↓stk_rc, ↓stk_for, ↓stk_whl, ↓stk_said, ↓Br.t, ↓Br.f, Br.t, Br.f, ↓w_var, ↓w_int, ↓w_bool, ↓w_none, ↓w_str, ↓w_glob, ↓w_bin, ↓w_neg, ↓w_not, ↓w_cmp, ↓w_chain, ↓w_and, ↓w_or, ↓w_ife, ↓w_tup, ↓w_lst, ↓w_ix, ↓w_ixR, ↓w_rowc, ↓w_rcomp, ↓w_sl0, ↓w_slL, ↓w_slH, ↓w_slB, ↓w_bi, ↓w_isi, ↓w_op, ↓w_idx, ↓w_sm, isS_s, ↓w_dic, ↓w_me, ↓w_call, ↓w_pick, ↓w_isx, ↓w_comp, ↓w_compI, ↓w_nil, ↓w_cons, ↓w_seq, ↓w_rng1, ↓w_rng2, ↓w_enm, ↓w_zip, ↓w_zip3, ↓s_nil, ↓s_cons, ↓s_set, ↓s_setT, ↓s_setP, ↓s_setI, ↓s_expr, ↓s_ife, ↓s_whl, ↓s_for, ↓s_ret, ↓s_retN, ↓s_pass, ↓s_brk, ↓s_cont, ↓Ok.ok, ↓Ok.bind, Sm.s, Sm.map, Sm.ite, Snap.b, In.i, Bl.b, Rf.r, mk_f, mk_t, ixF_b, ixF_r, ixF_s, pickF_w, isxF_n, isxF_e, biF_len, biF_b, biF_r, opF_w, isL_b, isL_r, Snaps, itSeq_l, itSeq_t, itZip_l, itZip_t, itZip3_w, binP, intBin, cmp_lt, cmp_le, cmp_gt, cmp_ge, cmp_eqi, cmp_nei, cmp_eqb, cmp_neb, cmp_is, cmp_isnot, cmp_isn, cmp_isnotn, isi_int, isi_bool, isi_tup, isi_lst, isi_str, isI, isBo, isTu, isLi, isSt, truth, ixP, slP, biP, owns, own, at_0, at_1, at_2, at_3, set_0, setsD, asgn, asgnT, sets, List.getElem?_cons_zero, List.getElem?_cons_succ, List.set_cons_zero, List.set_cons_succ, List.length_cons, List.length_nil, decide_eq_true_eq, Bool.not_true, Bool.not_false, Bool.not_eq_true', decide_eq_false_iff_not, Bool.true_eq_false, Bool.false_eq_true, if_true, if_false, true_and, clear, Tg.slots, hat, cmp_eqi, truthD_w]; try (first | refine Br.d ?_ | refine Br.nd ?_ | refine Br.nb ?_ | refine Br.b ?_))
            refine ⟨?_, fun _ => rfl⟩
            show _ = decide (fxM E P ((u : Int).toNat) = fxM E P v)
            rw [hvv, Int.toNat_natCast]
            exact decide_eq_decide.mpr (by omega)
          · have hl := (List.getElem?_eq_some_iff.mp hv).1
            have hh : (headL E P).length ≤ P := Nat.le_trans (List.length_filter_le _ _) (by rw [List.length_range]; exact Nat.le_refl _)
            rw [List.map_id, filter_num]
            (simp only [↓stk_call, ↓stk_comp, ↓stk_rows, ↓stk_rc, ↓stk_for, ↓stk_whl, ↓stk_said, ↓Br.t, ↓Br.f, Br.t, Br.f, ↓w_var, ↓w_int, ↓w_bool, ↓w_none, ↓w_str, ↓w_glob, ↓w_bin, ↓w_neg, ↓w_not, ↓w_cmp, ↓w_chain, ↓w_and, ↓w_or, ↓w_ife, ↓w_tup, ↓w_lst, ↓w_ix, ↓w_ixR, ↓w_rowc, ↓w_rcomp, ↓w_sl0, ↓w_slL, ↓w_slH, ↓w_slB, ↓w_bi, ↓w_isi, ↓w_op, ↓w_idx, ↓w_sm, isS_s, ↓w_dic, ↓w_me, ↓w_call, ↓w_pick, ↓w_isx, ↓w_comp, ↓w_compI, ↓w_nil, ↓w_cons, ↓w_seq, ↓w_rng1, ↓w_rng2, ↓w_enm, ↓w_zip, ↓w_zip3, ↓s_nil, ↓s_cons, ↓s_set, ↓s_setT, ↓s_setP, ↓s_setI, ↓s_expr, ↓s_ife, ↓s_whl, ↓s_for, ↓s_ret, ↓s_retN, ↓s_pass, ↓s_brk, ↓s_cont, ↓Ok.ok, ↓Ok.bind, Sm.s, Sm.map, Sm.ite, Snap.b, In.i, Bl.b, Rf.r, mk_f, mk_t, ixF_b, ixF_r, ixF_s, pickF_w, isxF_n, isxF_e, biF_len, biF_b, biF_r, opF_w, isL_b, isL_r, Snaps, itSeq_l, itSeq_t, itZip_l, itZip_t, itZip3_w, binP, intBin, cmp_lt, cmp_le, cmp_gt, cmp_ge, cmp_eqi, cmp_nei, cmp_eqb, cmp_neb, cmp_is, cmp_isnot, cmp_isn, cmp_isnotn, isi_int, isi_bool, isi_tup, isi_lst, isi_str, isI, isBo, isTu, isLi, isSt, truth, ixP, slP, biP, owns, own, at_0, at_1, at_2, at_3, set_0, setsD, asgn, asgnT, sets, List.getElem?_cons_zero, List.getElem?_cons_succ, List.set_cons_zero, List.set_cons_succ, List.length_cons, List.length_nil, decide_eq_true_eq, Bool.not_true, Bool.not_false, Bool.not_eq_true', decide_eq_false_iff_not, Bool.true_eq_false, Bool.false_eq_true, if_true, if_false, true_and, biF_b, meF_w (get_end (t := []) (o := .lst (((headL E P).take i).map fun v => .tuple (numL (cmpL E P v)))) (m := m) rfl), meA, snaps_w, meL, set_end (m := m) rfl]; try (first | refine Br.d ?_ | refine Br.nd ?_ | refine Br.nb ?_ | refine Br.b ?_))
            refine ⟨?_, _, _, _, _, rfl, ?_⟩
            · show _ < 16777216
              rw [List.length_map, List.length_take]
              omega
            · rw [List.take_add_one, hv, List.map_append]
              rfl
        · rintro δ mm ⟨o8, o9, o10, o11, rfl, rfl⟩
          refine ⟨trivial, ?_⟩
          have e : ((headL E P).take (numL (headL E P)).length).map (fun v => PyData.tuple (numL (cmpL E P v))) = pcs E P := by
            rw [numL_len, List.take_length]
            rfl
          rw [e]
          (simp only [↓stk_call, ↓stk_comp, ↓stk_rows, ↓stk_rc, ↓stk_for, ↓stk_whl, ↓stk_said, ↓Br.t, ↓Br.f, Br.t, Br.f, ↓w_var, ↓w_int, ↓w_bool, ↓w_none, ↓w_str, ↓w_glob, ↓w_bin, ↓w_neg, ↓w_not, ↓w_cmp, ↓w_chain, ↓w_and, ↓w_or, ↓w_ife, ↓w_tup, ↓w_lst, ↓w_ix, ↓w_ixR, ↓w_rowc, ↓w_rcomp, ↓w_sl0, ↓w_slL, ↓w_slH, ↓w_slB, ↓w_bi, ↓w_isi, ↓w_op, ↓w_idx, ↓w_sm, isS_s, ↓w_dic, ↓w_me, ↓w_call, ↓w_pick, ↓w_isx, ↓w_comp, ↓w_compI, ↓w_nil, ↓w_cons, ↓w_seq, ↓w_rng1, ↓w_rng2, ↓w_enm, ↓w_zip, ↓w_zip3, ↓s_nil, ↓s_cons, ↓s_set, ↓s_setT, ↓s_setP, ↓s_setI, ↓s_expr, ↓s_ife, ↓s_whl, ↓s_for, ↓s_ret, ↓s_retN, ↓s_pass, ↓s_brk, ↓s_cont, ↓Ok.ok, ↓Ok.bind, Sm.s, Sm.map, Sm.ite, Snap.b, In.i, Bl.b, Rf.r, mk_f, mk_t, ixF_b, ixF_r, ixF_s, pickF_w, isxF_n, isxF_e, biF_len, biF_b, biF_r, opF_w, isL_b, isL_r, Snaps, itSeq_l, itSeq_t, itZip_l, itZip_t, itZip3_w, binP, intBin, cmp_lt, cmp_le, cmp_gt, cmp_ge, cmp_eqi, cmp_nei, cmp_eqb, cmp_neb, cmp_is, cmp_isnot, cmp_isn, cmp_isnotn, isi_int, isi_bool, isi_tup, isi_lst, isi_str, isI, isBo, isTu, isLi, isSt, truth, ixP, slP, biP, owns, own, at_0, at_1, at_2, at_3, set_0, setsD, asgn, asgnT, sets, List.getElem?_cons_zero, List.getElem?_cons_succ, List.set_cons_zero, List.set_cons_succ, List.length_cons, List.length_nil, decide_eq_true_eq, Bool.not_true, Bool.not_false, Bool.not_eq_true', decide_eq_false_iff_not, Bool.true_eq_false, Bool.false_eq_true, if_true, if_false, true_and]; try (first | refine Br.d ?_ | refine Br.nd ?_ | refine Br.nb ?_ | refine Br.b ?_))
          refine (pc _).mono ?_
          rintro _ _ ⟨h, _⟩
          obtain ⟨rfl, rfl⟩ := h rfl
          have g1 : (m ++ [MO.lst (pcs E P)] ++ [MO.lst (pcs E P)])[m.length]? = some (.lst (pcs E P)) := by
            rw [List.append_assoc]; exact get_end rfl
          have g2 : (m ++ [MO.lst (pcs E P)] ++ [MO.lst (pcs E P)])[(m ++ [MO.lst (pcs E P)]).length]? = some (.lst (pcs E P)) := get_end rfl
          have hlp : (pcs E P).length ≤ P := pcsTo_len E P P
          (simp only [↓stk_call, ↓stk_comp, ↓stk_rows, ↓stk_rc, ↓stk_for, ↓stk_whl, ↓stk_said, ↓Br.t, ↓Br.f, Br.t, Br.f, ↓w_var, ↓w_int, ↓w_bool, ↓w_none, ↓w_str, ↓w_glob, ↓w_bin, ↓w_neg, ↓w_not, ↓w_cmp, ↓w_chain, ↓w_and, ↓w_or, ↓w_ife, ↓w_tup, ↓w_lst, ↓w_ix, ↓w_ixR, ↓w_rowc, ↓w_rcomp, ↓w_sl0, ↓w_slL, ↓w_slH, ↓w_slB, ↓w_bi, ↓w_isi, ↓w_op, ↓w_idx, ↓w_sm, isS_s, ↓w_dic, ↓w_me, ↓w_call, ↓w_pick, ↓w_isx, ↓w_comp, ↓w_compI, ↓w_nil, ↓w_cons, ↓w_seq, ↓w_rng1, ↓w_rng2, ↓w_enm, ↓w_zip, ↓w_zip3, ↓s_nil, ↓s_cons, ↓s_set, ↓s_setT, ↓s_setP, ↓s_setI, ↓s_expr, ↓s_ife, ↓s_whl, ↓s_for, ↓s_ret, ↓s_retN, ↓s_pass, ↓s_brk, ↓s_cont, ↓Ok.ok, ↓Ok.bind, Sm.s, Sm.map, Sm.ite, Snap.b, In.i, Bl.b, Rf.r, mk_f, mk_t, ixF_b, ixF_r, ixF_s, pickF_w, isxF_n, isxF_e, biF_len, biF_b, biF_r, opF_w, isL_b, isL_r, Snaps, itSeq_l, itSeq_t, itZip_l, itZip_t, itZip3_w, binP, intBin, cmp_lt, cmp_le, cmp_gt, cmp_ge, cmp_eqi, cmp_nei, cmp_eqb, cmp_neb, cmp_is, cmp_isnot, cmp_isn, cmp_isnotn, isi_int, isi_bool, isi_tup, isi_lst, isi_str, isI, isBo, isTu, isLi, isSt, truth, ixP, slP, biP, owns, own, at_0, at_1, at_2, at_3, set_0, setsD, asgn, asgnT, sets, List.getElem?_cons_zero, List.getElem?_cons_succ, List.set_cons_zero, List.set_cons_succ, List.length_cons, List.length_nil, decide_eq_true_eq, Bool.not_true, Bool.not_false, Bool.not_eq_true', decide_eq_false_iff_not, Bool.true_eq_false, Bool.false_eq_true, if_true, if_false, true_and, biF_b, biF_r, Snap.ref g1, numL_len]; try (first | refine Br.d ?_ | refine Br.nd ?_ | refine Br.nb ?_ | refine Br.b ?_))
          refine (same_call (k := q + 6) g_law_same (x := .list (pcs E P)) (by unfold Z.snap; simp only [g2]) (by unfold Z.snap; simp only [g1]) (sm_pcs E P (by omega))).mono ?_
          rintro _ _ ⟨rfl, rfl⟩
          (simp only [↓stk_call, ↓stk_comp, ↓stk_rows, ↓stk_rc, ↓stk_for, ↓stk_whl, ↓stk_said, ↓Br.t, ↓Br.f, Br.t, Br.f, ↓w_var, ↓w_int, ↓w_bool, ↓w_none, ↓w_str, ↓w_glob, ↓w_bin, ↓w_neg, ↓w_not, ↓w_cmp, ↓w_chain, ↓w_and, ↓w_or, ↓w_ife, ↓w_tup, ↓w_lst, ↓w_ix, ↓w_ixR, ↓w_rowc, ↓w_rcomp, ↓w_sl0, ↓w_slL, ↓w_slH, ↓w_slB, ↓w_bi, ↓w_isi, ↓w_op, ↓w_idx, ↓w_sm, isS_s, ↓w_dic, ↓w_me, ↓w_call, ↓w_pick, ↓w_isx, ↓w_comp, ↓w_compI, ↓w_nil, ↓w_cons, ↓w_seq, ↓w_rng1, ↓w_rng2, ↓w_enm, ↓w_zip, ↓w_zip3, ↓s_nil, ↓s_cons, ↓s_set, ↓s_setT, ↓s_setP, ↓s_setI, ↓s_expr, ↓s_ife, ↓s_whl, ↓s_for, ↓s_ret, ↓s_retN, ↓s_pass, ↓s_brk, ↓s_cont, ↓Ok.ok, ↓Ok.bind, Sm.s, Sm.map, Sm.ite, Snap.b, In.i, Bl.b, Rf.r, mk_f, mk_t, ixF_b, ixF_r, ixF_s, pickF_w, isxF_n, isxF_e, biF_len, biF_b, biF_r, opF_w, isL_b, isL_r, Snaps, itSeq_l, itSeq_t, itZip_l, itZip_t, itZip3_w, binP, intBin, cmp_lt, cmp_le, cmp_gt, cmp_ge, cmp_eqi, cmp_nei, cmp_eqb, cmp_neb, cmp_is, cmp_isnot, cmp_isn, cmp_isnotn, isi_int, isi_bool, isi_tup, isi_lst, isi_str, isI, isBo, isTu, isLi, isSt, truth, ixP, slP, biP, owns, own, at_0, at_1, at_2, at_3, set_0, setsD, asgn, asgnT, sets, List.getElem?_cons_zero, List.getElem?_cons_succ, List.set_cons_zero, List.set_cons_succ, List.length_cons, List.length_nil, decide_eq_true_eq, Bool.not_true, Bool.not_false, Bool.not_eq_true', decide_eq_false_iff_not, Bool.true_eq_false, Bool.false_eq_true, if_true, if_false, true_and]; try (first | refine Br.d ?_ | refine Br.nd ?_ | refine Br.nb ?_ | refine Br.b ?_))
          refine (rc _).mono ?_
          rintro _ _ ⟨rfl, rfl⟩
          (simp only [↓stk_call, ↓stk_comp, ↓stk_rows, ↓stk_rc, ↓stk_for, ↓stk_whl, ↓stk_said, ↓Br.t, ↓Br.f, Br.t, Br.f, ↓w_var, ↓w_int, ↓w_bool, ↓w_none, ↓w_str, ↓w_glob, ↓w_bin, ↓w_neg, ↓w_not, ↓w_cmp, ↓w_chain, ↓w_and, ↓w_or, ↓w_ife, ↓w_tup, ↓w_lst, ↓w_ix, ↓w_ixR, ↓w_rowc, ↓w_rcomp, ↓w_sl0, ↓w_slL, ↓w_slH, ↓w_slB, ↓w_bi, ↓w_isi, ↓w_op, ↓w_idx, ↓w_sm, isS_s, ↓w_dic, ↓w_me, ↓w_call, ↓w_pick, ↓w_isx, ↓w_comp, ↓w_compI, ↓w_nil, ↓w_cons, ↓w_seq, ↓w_rng1, ↓w_rng2, ↓w_enm, ↓w_zip, ↓w_zip3, ↓s_nil, ↓s_cons, ↓s_set, ↓s_setT, ↓s_setP, ↓s_setI, ↓s_expr, ↓s_ife, ↓s_whl, ↓s_for, ↓s_ret, ↓s_retN, ↓s_pass, ↓s_brk, ↓s_cont, ↓Ok.ok, ↓Ok.bind, Sm.s, Sm.map, Sm.ite, Snap.b, In.i, Bl.b, Rf.r, mk_f, mk_t, ixF_b, ixF_r, ixF_s, pickF_w, isxF_n, isxF_e, biF_len, biF_b, biF_r, opF_w, isL_b, isL_r, Snaps, itSeq_l, itSeq_t, itZip_l, itZip_t, itZip3_w, binP, intBin, cmp_lt, cmp_le, cmp_gt, cmp_ge, cmp_eqi, cmp_nei, cmp_eqb, cmp_neb, cmp_is, cmp_isnot, cmp_isn, cmp_isnotn, isi_int, isi_bool, isi_tup, isi_lst, isi_str, isI, isBo, isTu, isLi, isSt, truth, ixP, slP, biP, owns, own, at_0, at_1, at_2, at_3, set_0, setsD, asgn, asgnT, sets, List.getElem?_cons_zero, List.getElem?_cons_succ, List.set_cons_zero, List.set_cons_succ, List.length_cons, List.length_nil, decide_eq_true_eq, Bool.not_true, Bool.not_false, Bool.not_eq_true', decide_eq_false_iff_not, Bool.true_eq_false, Bool.false_eq_true, if_true, if_false, true_and]; try (first | refine Br.d ?_ | refine Br.nd ?_ | refine Br.nb ?_ | refine Br.b ?_))
          refine (same_call (k := q + 6) g_law_same rfl rfl (sm_int (by omega))).mono ?_
          rintro _ _ ⟨rfl, rfl⟩
          (simp only [↓stk_call, ↓stk_comp, ↓stk_rows, ↓stk_rc, ↓stk_for, ↓stk_whl, ↓stk_said, ↓Br.t, ↓Br.f, Br.t, Br.f, ↓w_var, ↓w_int, ↓w_bool, ↓w_none, ↓w_str, ↓w_glob, ↓w_bin, ↓w_neg, ↓w_not, ↓w_cmp, ↓w_chain, ↓w_and, ↓w_or, ↓w_ife, ↓w_tup, ↓w_lst, ↓w_ix, ↓w_ixR, ↓w_rowc, ↓w_rcomp, ↓w_sl0, ↓w_slL, ↓w_slH, ↓w_slB, ↓w_bi, ↓w_isi, ↓w_op, ↓w_idx, ↓w_sm, isS_s, ↓w_dic, ↓w_me, ↓w_call, ↓w_pick, ↓w_isx, ↓w_comp, ↓w_compI, ↓w_nil, ↓w_cons, ↓w_seq, ↓w_rng1, ↓w_rng2, ↓w_enm, ↓w_zip, ↓w_zip3, ↓s_nil, ↓s_cons, ↓s_set, ↓s_setT, ↓s_setP, ↓s_setI, ↓s_expr, ↓s_ife, ↓s_whl, ↓s_for, ↓s_ret, ↓s_retN, ↓s_pass, ↓s_brk, ↓s_cont, ↓Ok.ok, ↓Ok.bind, Sm.s, Sm.map, Sm.ite, Snap.b, In.i, Bl.b, Rf.r, mk_f, mk_t, ixF_b, ixF_r, ixF_s, pickF_w, isxF_n, isxF_e, biF_len, biF_b, biF_r, opF_w, isL_b, isL_r, Snaps, itSeq_l, itSeq_t, itZip_l, itZip_t, itZip3_w, binP, intBin, cmp_lt, cmp_le, cmp_gt, cmp_ge, cmp_eqi, cmp_nei, cmp_eqb, cmp_neb, cmp_is, cmp_isnot, cmp_isn, cmp_isnotn, isi_int, isi_bool, isi_tup, isi_lst, isi_str, isI, isBo, isTu, isLi, isSt, truth, ixP, slP, biP, owns, own, at_0, at_1, at_2, at_3, set_0, setsD, asgn, asgnT, sets, List.getElem?_cons_zero, List.getElem?_cons_succ, List.set_cons_zero, List.set_cons_succ, List.length_cons, List.length_nil, decide_eq_true_eq, Bool.not_true, Bool.not_false, Bool.not_eq_true', decide_eq_false_iff_not, Bool.true_eq_false, Bool.false_eq_true, if_true, if_false, true_and, meF_w g2, meA, snaps_w, meL]; try (first | refine Br.d ?_ | refine Br.nd ?_ | refine Br.nb ?_ | refine Br.b ?_))
          exact ⟨by decide, by show _ < 16777216; omega, _, _, _, _, _, _, _, _, _, rfl⟩
      · rintro δ m ⟨o4, o5, o6, o7, o8, o9, o10, o11, o2, rfl⟩
        refine ⟨trivial, ?_⟩
        (simp only [↓stk_call, ↓stk_comp, ↓stk_rows, ↓stk_rc, ↓stk_for, ↓stk_whl, ↓stk_said, ↓Br.t, ↓Br.f, Br.t, Br.f, ↓w_var, ↓w_int, ↓w_bool, ↓w_none, ↓w_str, ↓w_glob, ↓w_bin, ↓w_neg, ↓w_not, ↓w_cmp, ↓w_chain, ↓w_and, ↓w_or, ↓w_ife, ↓w_tup, ↓w_lst, ↓w_ix, ↓w_ixR, ↓w_rowc, ↓w_rcomp, ↓w_sl0, ↓w_slL, ↓w_slH, ↓w_slB, ↓w_bi, ↓w_isi, ↓w_op, ↓w_idx, ↓w_sm, isS_s, ↓w_dic, ↓w_me, ↓w_call, ↓w_pick, ↓w_isx, ↓w_comp, ↓w_compI, ↓w_nil, ↓w_cons, ↓w_seq, ↓w_rng1, ↓w_rng2, ↓w_enm, ↓w_zip, ↓w_zip3, ↓s_nil, ↓s_cons, ↓s_set, ↓s_setT, ↓s_setP, ↓s_setI, ↓s_expr, ↓s_ife, ↓s_whl, ↓s_for, ↓s_ret, ↓s_retN, ↓s_pass, ↓s_brk, ↓s_cont, ↓Ok.ok, ↓Ok.bind, Sm.s, Sm.map, Sm.ite, Snap.b, In.i, Bl.b, Rf.r, mk_f, mk_t, ixF_b, ixF_r, ixF_s, pickF_w, isxF_n, isxF_e, biF_len, biF_b, biF_r, opF_w, isL_b, isL_r, Snaps, itSeq_l, itSeq_t, itZip_l, itZip_t, itZip3_w, binP, intBin, cmp_lt, cmp_le, cmp_gt, cmp_ge, cmp_eqi, cmp_nei, cmp_eqb, cmp_neb, cmp_is, cmp_isnot, cmp_isn, cmp_isnotn, isi_int, isi_bool, isi_tup, isi_lst, isi_str, isI, isBo, isTu, isLi, isSt, truth, ixP, slP, biP, owns, own, at_0, at_1, at_2, at_3, set_0, setsD, asgn, asgnT, sets, List.getElem?_cons_zero, List.getElem?_cons_succ, List.set_cons_zero, List.set_cons_succ, List.length_cons, List.length_nil, decide_eq_true_eq, Bool.not_true, Bool.not_false, Bool.not_eq_true', decide_eq_false_iff_not, Bool.true_eq_false, Bool.false_eq_true, if_true, if_false, true_and]; try (first | refine Br.d ?_ | refine Br.nd ?_ | refine Br.nb ?_ | refine Br.b ?_))
        exact ⟨_, _, _, _, _, _, _, _, _, _, _, rfl⟩
    · rintro δ m ⟨o1, o2, o3, o4, o5, o6, o7, o8, o9, o10, o11, rfl⟩
      refine ⟨trivial, ?_⟩
      (simp only [↓stk_call, ↓stk_comp, ↓stk_rows, ↓stk_rc, ↓stk_for, ↓stk_whl, ↓stk_said, ↓Br.t, ↓Br.f, Br.t, Br.f, ↓w_var, ↓w_int, ↓w_bool, ↓w_none, ↓w_str, ↓w_glob, ↓w_bin, ↓w_neg, ↓w_not, ↓w_cmp, ↓w_chain, ↓w_and, ↓w_or, ↓w_ife, ↓w_tup, ↓w_lst, ↓w_ix, ↓w_ixR, ↓w_rowc, ↓w_rcomp, ↓w_sl0, ↓w_slL, ↓w_slH, ↓w_slB, ↓w_bi, ↓w_isi, ↓w_op, ↓w_idx, ↓w_sm, isS_s, ↓w_dic, ↓w_me, ↓w_call, ↓w_pick, ↓w_isx, ↓w_comp, ↓w_compI, ↓w_nil, ↓w_cons, ↓w_seq, ↓w_rng1, ↓w_rng2, ↓w_enm, ↓w_zip, ↓w_zip3, ↓s_nil, ↓s_cons, ↓s_set, ↓s_setT, ↓s_setP, ↓s_setI, ↓s_expr, ↓s_ife, ↓s_whl, ↓s_for, ↓s_ret, ↓s_retN, ↓s_pass, ↓s_brk, ↓s_cont, ↓Ok.ok, ↓Ok.bind, Sm.s, Sm.map, Sm.ite, Snap.b, In.i, Bl.b, Rf.r, mk_f, mk_t, ixF_b, ixF_r, ixF_s, pickF_w, isxF_n, isxF_e, biF_len, biF_b, biF_r, opF_w, isL_b, isL_r, Snaps, itSeq_l, itSeq_t, itZip_l, itZip_t, itZip3_w, binP, intBin, cmp_lt, cmp_le, cmp_gt, cmp_ge, cmp_eqi, cmp_nei, cmp_eqb, cmp_neb, cmp_is, cmp_isnot, cmp_isn, cmp_isnotn, isi_int, isi_bool, isi_tup, isi_lst, isi_str, isI, isBo, isTu, isLi, isSt, truth, ixP, slP, biP, owns, own, at_0, at_1, at_2, at_3, set_0, setsD, asgn, asgnT, sets, List.getElem?_cons_zero, List.getElem?_cons_succ, List.set_cons_zero, List.set_cons_succ, List.length_cons, List.length_nil, decide_eq_true_eq, Bool.not_true, Bool.not_false, Bool.not_eq_true', decide_eq_false_iff_not, Bool.true_eq_false, Bool.false_eq_true, if_true, if_false, true_and]; try (first | refine Br.d ?_ | refine Br.nd ?_ | refine Br.nb ?_ | refine Br.b ?_))
  obtain ⟨d, m, e, rfl⟩ := (main 16).out
  exact ⟨m, e⟩
end LK

namespace LK
open PySem PySem.Spec PyProof.Rows L2 Z
theorem all_mk {P : Program} {w : World} {K : PySem.W.Frag} {h : Heap} {mg : Str → Option Value} {fa : Addr} (KX : K.In h) (Gm : h.Ns mainGlobals mg) (hfa : mg "law" = some (.ref fa))
    {a0 : Addr} {oc0 kV0 dc0 pm0 cd0 ct0 : Value} {od0 an0 : Option Addr} {sl0 : Array (Option Value)}
    {a1 : Addr} {oc1 kV1 dc1 pm1 cd1 ct1 : Value} {od1 an1 : Option Addr} {sl1 : Array (Option Value)}
    {a2 : Addr} {oc2 kV2 dc2 pm2 cd2 ct2 : Value} {od2 an2 : Option Addr} {sl2 : Array (Option Value)}
    {a3 : Addr} {oc3 kV3 dc3 pm3 cd3 ct3 : Value} {od3 an3 : Option Addr} {sl3 : Array (Option Value)}
    {a4 : Addr} {oc4 kV4 dc4 pm4 cd4 ct4 : Value} {od4 an4 : Option Addr} {sl4 : Array (Option Value)}
    {a5 : Addr} {oc5 kV5 dc5 pm5 cd5 ct5 : Value} {od5 an5 : Option Addr} {sl5 : Array (Option Value)}
    {a6 : Addr} {oc6 kV6 dc6 pm6 cd6 ct6 : Value} {od6 an6 : Option Addr} {sl6 : Array (Option Value)}
    {a7 : Addr} {oc7 kV7 dc7 pm7 cd7 ct7 : Value} {od7 an7 : Option Addr} {sl7 : Array (Option Value)}
    {a8 : Addr} {oc8 kV8 dc8 pm8 cd8 ct8 : Value} {od8 an8 : Option Addr} {sl8 : Array (Option Value)}
    {a9 : Addr} {oc9 kV9 dc9 pm9 cd9 ct9 : Value} {od9 an9 : Option Addr} {sl9 : Array (Option Value)}
    {a10 : Addr} {oc10 kV10 dc10 pm10 cd10 ct10 : Value} {od10 an10 : Option Addr} {sl10 : Array (Option Value)}
    {a11 : Addr} {oc11 kV11 dc11 pm11 cd11 ct11 : Value} {od11 an11 : Option Addr} {sl11 : Array (Option Value)}
    {a12 : Addr} {oc12 kV12 dc12 pm12 cd12 ct12 : Value} {od12 an12 : Option Addr} {sl12 : Array (Option Value)}
    {a13 : Addr} {oc13 kV13 dc13 pm13 cd13 ct13 : Value} {od13 an13 : Option Addr} {sl13 : Array (Option Value)}
    (xa0 : PySem.W.nsIn K mainGlobals "shut_at" = some (some (.ref a0)))
    (xl0 : K.lookup a0 = some ⟨oc0, od0, .func (PySem.W.fnOf "shut_at" "shut_at" (defArgs (topS 1)) (defBody (topS 1)) (defScope (topS 1)) .none kV0 dc0 pm0 an0 cd0 ct0), sl0⟩)
    (xc0 : PySem.W.codeIn K cd0 "shut_at" = true) (xk0 : PySem.W.keepIn K (.ref a0) = true)
    (xa1 : PySem.W.nsIn K mainGlobals "reached" = some (some (.ref a1)))
    (xl1 : K.lookup a1 = some ⟨oc1, od1, .func (PySem.W.fnOf "reached" "reached" (defArgs (topS 2)) (defBody (topS 2)) (defScope (topS 2)) .none kV1 dc1 pm1 an1 cd1 ct1), sl1⟩)
    (xc1 : PySem.W.codeIn K cd1 "reached" = true) (xk1 : PySem.W.keepIn K (.ref a1) = true)
    (xa2 : PySem.W.nsIn K mainGlobals "pieces_at" = some (some (.ref a2)))
    (xl2 : K.lookup a2 = some ⟨oc2, od2, .func (PySem.W.fnOf "pieces_at" "pieces_at" (defArgs (topS 4)) (defBody (topS 4)) (defScope (topS 4)) .none kV2 dc2 pm2 an2 cd2 ct2), sl2⟩)
    (xc2 : PySem.W.codeIn K cd2 "pieces_at" = true) (xk2 : PySem.W.keepIn K (.ref a2) = true)
    (xa3 : PySem.W.nsIn K mainGlobals "rings_at" = some (some (.ref a3)))
    (xl3 : K.lookup a3 = some ⟨oc3, od3, .func (PySem.W.fnOf "rings_at" "rings_at" (defArgs (topS 5)) (defBody (topS 5)) (defScope (topS 5)) .none kV3 dc3 pm3 an3 cd3 ct3), sl3⟩)
    (xc3 : PySem.W.codeIn K cd3 "rings_at" = true) (xk3 : PySem.W.keepIn K (.ref a3) = true)
    (xa4 : PySem.W.nsIn K mainGlobals "_law_cell_at" = some (some (.ref a4)))
    (xl4 : K.lookup a4 = some ⟨oc4, od4, .func (PySem.W.fnOf "_law_cell_at" "_law_cell_at" (defArgs (topS 7)) (defBody (topS 7)) (defScope (topS 7)) .none kV4 dc4 pm4 an4 cd4 ct4), sl4⟩)
    (xc4 : PySem.W.codeIn K cd4 "_law_cell_at" = true) (xk4 : PySem.W.keepIn K (.ref a4) = true)
    (xa5 : PySem.W.nsIn K mainGlobals "_law_state" = some (some (.ref a5)))
    (xl5 : K.lookup a5 = some ⟨oc5, od5, .func (PySem.W.fnOf "_law_state" "_law_state" (defArgs (topS 8)) (defBody (topS 8)) (defScope (topS 8)) .none kV5 dc5 pm5 an5 cd5 ct5), sl5⟩)
    (xc5 : PySem.W.codeIn K cd5 "_law_state" = true) (xk5 : PySem.W.keepIn K (.ref a5) = true)
    (xa6 : PySem.W.nsIn K mainGlobals "_law_take" = some (some (.ref a6)))
    (xl6 : K.lookup a6 = some ⟨oc6, od6, .func (PySem.W.fnOf "_law_take" "_law_take" (defArgs (topS 9)) (defBody (topS 9)) (defScope (topS 9)) .none kV6 dc6 pm6 an6 cd6 ct6), sl6⟩)
    (xc6 : PySem.W.codeIn K cd6 "_law_take" = true) (xk6 : PySem.W.keepIn K (.ref a6) = true)
    (xa7 : PySem.W.nsIn K mainGlobals "_law_ends" = some (some (.ref a7)))
    (xl7 : K.lookup a7 = some ⟨oc7, od7, .func (PySem.W.fnOf "_law_ends" "_law_ends" (defArgs (topS 10)) (defBody (topS 10)) (defScope (topS 10)) .none kV7 dc7 pm7 an7 cd7 ct7), sl7⟩)
    (xc7 : PySem.W.codeIn K cd7 "_law_ends" = true) (xk7 : PySem.W.keepIn K (.ref a7) = true)
    (xa8 : PySem.W.nsIn K mainGlobals "_law_net" = some (some (.ref a8)))
    (xl8 : K.lookup a8 = some ⟨oc8, od8, .func (PySem.W.fnOf "_law_net" "_law_net" (defArgs (topS 11)) (defBody (topS 11)) (defScope (topS 11)) .none kV8 dc8 pm8 an8 cd8 ct8), sl8⟩)
    (xc8 : PySem.W.codeIn K cd8 "_law_net" = true) (xk8 : PySem.W.keepIn K (.ref a8) = true)
    (xa9 : PySem.W.nsIn K mainGlobals "_law_settings" = some (some (.ref a9)))
    (xl9 : K.lookup a9 = some ⟨oc9, od9, .func (PySem.W.fnOf "_law_settings" "_law_settings" (defArgs (topS 12)) (defBody (topS 12)) (defScope (topS 12)) .none kV9 dc9 pm9 an9 cd9 ct9), sl9⟩)
    (xc9 : PySem.W.codeIn K cd9 "_law_settings" = true) (xk9 : PySem.W.keepIn K (.ref a9) = true)
    (xa10 : PySem.W.nsIn K mainGlobals "_law_shut" = some (some (.ref a10)))
    (xl10 : K.lookup a10 = some ⟨oc10, od10, .func (PySem.W.fnOf "_law_shut" "_law_shut" (defArgs (topS 13)) (defBody (topS 13)) (defScope (topS 13)) .none kV10 dc10 pm10 an10 cd10 ct10), sl10⟩)
    (xc10 : PySem.W.codeIn K cd10 "_law_shut" = true) (xk10 : PySem.W.keepIn K (.ref a10) = true)
    (xa11 : PySem.W.nsIn K mainGlobals "_law_marks" = some (some (.ref a11)))
    (xl11 : K.lookup a11 = some ⟨oc11, od11, .func (PySem.W.fnOf "_law_marks" "_law_marks" (defArgs (topS 14)) (defBody (topS 14)) (defScope (topS 14)) .none kV11 dc11 pm11 an11 cd11 ct11), sl11⟩)
    (xc11 : PySem.W.codeIn K cd11 "_law_marks" = true) (xk11 : PySem.W.keepIn K (.ref a11) = true)
    (xa12 : PySem.W.nsIn K mainGlobals "_law_same" = some (some (.ref a12)))
    (xl12 : K.lookup a12 = some ⟨oc12, od12, .func (PySem.W.fnOf "_law_same" "_law_same" (defArgs (topS 15)) (defBody (topS 15)) (defScope (topS 15)) .none kV12 dc12 pm12 an12 cd12 ct12), sl12⟩)
    (xc12 : PySem.W.codeIn K cd12 "_law_same" = true) (xk12 : PySem.W.keepIn K (.ref a12) = true)
    (xa13 : PySem.W.nsIn K mainGlobals "law" = some (some (.ref a13)))
    (xl13 : K.lookup a13 = some ⟨oc13, od13, .func (PySem.W.fnOf "law" "law" (defArgs (topS 16)) (defBody (topS 16)) (defScope (topS 16)) .none kV13 dc13 pm13 an13 cd13 ct13), sl13⟩)
    (xc13 : PySem.W.codeIn K cd13 "law" = true) (xk13 : PySem.W.keepIn K (.ref a13) = true)
    (z0 : PySem.W.nsIn K mainGlobals "len" = some none)
    (z1 : PySem.W.nsIn K mainGlobals "int" = some none)
    (z2 : PySem.W.nsIn K mainGlobals "str" = some none)
    (z3 : PySem.W.nsIn K mainGlobals "tuple" = some none)
    (z4 : PySem.W.nsIn K mainGlobals "list" = some none)
    (z5 : PySem.W.nsIn K mainGlobals "sorted" = some none)
    (z6 : PySem.W.nsIn K mainGlobals "all" = some none)
    (z7 : PySem.W.nsIn K mainGlobals "any" = some none)
    (z8 : PySem.W.nsIn K mainGlobals "sum" = some none)
    (z9 : PySem.W.nsIn K mainGlobals "min" = some none)
    (z10 : PySem.W.nsIn K mainGlobals "max" = some none)
    (z11 : PySem.W.nsIn K mainGlobals "range" = some none)
    (z12 : PySem.W.nsIn K mainGlobals "enumerate" = some none)
    (z13 : PySem.W.nsIn K mainGlobals "zip" = some none)
    (z14 : PySem.W.nsIn K mainGlobals "isinstance" = some none)
    (z15 : PySem.W.nsIn K mainGlobals "bool" = some none)
    (z16 : PySem.W.nsIn K mainGlobals "repr" = some none)
    (z17 : PySem.W.nsIn K mainGlobals "set" = some none)
    (z18 : PySem.W.nsIn K mainGlobals "dict" = some none)
    : ∃ (cs : List (Addr × Addr)) (fd : FuncData), (∀ p ∈ cs, h.get? p.2 = some { cls := .none, data := .fields #[] }) ∧ (∀ p ∈ cs, K.lookup p.2 = none) ∧ (∀ p ∈ cs, PySem.W.CodeHd h p.1 p.2) ∧ (∀ (s : Shared) (u : Value), BindsTo s fd ⟨[u], []⟩ [("_law_script", u)]) ∧
      ∀ base : Heap, K.In base → base.Ns mainGlobals mg → (∀ p ∈ cs, LamX.TabB base mg p.1 p.2) → FnG P w K mg base (L2.CX P w) 72 fa fd ["_law_script"] (spLaw cs K) := by
  letI : TabC := ⟨[], fun _ _ => False⟩
  have eT : TabC.T = [] := rfl
  have hr : ∀ r ∈ rows, RowOk K [] gi (tabG rows) r := by
    intro r hr
    simp only [rows, List.mem_cons, List.not_mem_nil, or_false] at hr
    rcases hr with rfl | rfl | rfl | rfl | rfl | rfl | rfl | rfl | rfl | rfl | rfl | rfl | rfl | rfl
    · exact ⟨defAt_mk xa0 xl0 xc0 xk0, k_shut_at, n_shut_at, fun z => absurd z (by decide)⟩
    · exact ⟨defAt_mk xa1 xl1 xc1 xk1, k_reached, n_reached, fun z => absurd z (by decide)⟩
    · exact ⟨defAt_mk xa2 xl2 xc2 xk2, k_pieces_at, n_pieces_at, fun z => absurd z (by decide)⟩
    · exact ⟨defAt_mk xa3 xl3 xc3 xk3, k_rings_at, n_rings_at, fun z => absurd z (by decide)⟩
    · exact ⟨defAt_mk xa4 xl4 xc4 xk4, k_law_cell_at, n_law_cell_at, fun z => absurd z (by decide)⟩
    · exact ⟨defAt_mk xa5 xl5 xc5 xk5, k_law_state, n_law_state, fun z => absurd z (by decide)⟩
    · exact ⟨defAt_mk xa6 xl6 xc6 xk6, k_law_take, n_law_take, fun z => absurd z (by decide)⟩
    · exact ⟨defAt_mk xa7 xl7 xc7 xk7, k_law_ends, n_law_ends, fun z => absurd z (by decide)⟩
    · exact ⟨defAt_mk xa8 xl8 xc8 xk8, k_law_net, n_law_net, fun z => absurd z (by decide)⟩
    · exact ⟨defAt_mk xa9 xl9 xc9 xk9, k_law_settings, n_law_settings, fun z => absurd z (by decide)⟩
    · exact ⟨defAt_mk xa10 xl10 xc10 xk10, k_law_shut, n_law_shut, fun z => absurd z (by decide)⟩
    · exact ⟨defAt_mk xa11 xl11 xc11 xk11, k_law_marks, n_law_marks, fun z => absurd z (by decide)⟩
    · exact ⟨defAt_mk xa12 xl12 xc12 xk12, k_law_same, n_law_same, fun z => absurd z (by decide)⟩
    · exact ⟨defAt_mk xa13 xl13 xc13 xk13, k_law, n_law, fun z => absurd z (by decide)⟩
  have hb : ∀ x ∈ blts, PySem.W.nsIn K mainGlobals x = some none := by
    intro x hx
    simp only [blts, List.mem_cons, List.not_mem_nil, or_false] at hx
    rcases hx with rfl | rfl | rfl | rfl | rfl | rfl | rfl | rfl | rfl | rfl | rfl | rfl | rfl | rfl | rfl | rfl | rfl | rfl | rfl
    · exact z0
    · exact z1
    · exact z2
    · exact z3
    · exact z4
    · exact z5
    · exact z6
    · exact z7
    · exact z8
    · exact z9
    · exact z10
    · exact z11
    · exact z12
    · exact z13
    · exact z14
    · exact z15
    · exact z16
    · exact z17
    · exact z18
  have hg : ∀ x i, gi.nums.lookup x = some i → ∃ t, mg x = some (Value.int i t) := by
    intro x i h
    unfold gi at h
    simp only at h
    cases h
  have hgo : ∀ base : Heap, K.In base → base.Ns mainGlobals mg → GOk P w K mg base gi := by
    intro base KB GB
    refine ⟨?_, ?_, ?_, ?_, ?_⟩
    · intro d tab hl
      unfold gi at hl
      simp only at hl
      cases hl
    · intro d tab hl
      unfold gi at hl
      simp only at hl
      cases hl
    · intro x hx; exact absurd hx (by simp [gi])
    · intro c tab hl; exact absurd hl (by simp [gi])
    · intro g tab hl; exact absurd hl (by simp [gi])
  obtain ⟨fd, q1, q2⟩ := law_fn (P := P) (w := w) (cs := []) (n := 23) KX Gm hfa hr hb hg hgo (by rw [eT]; simp) r_law (by simp [rows]) rfl rfl g_law law_true
  exact ⟨[], fd, fun p hp => absurd hp (by simp), fun p hp => absurd hp (by simp), fun p hp => absurd hp (by simp), q1, q2⟩
end LK
open PySem PySem.W PyProof.Rows
set_option maxHeartbeats 0 in
theorem PySem.Challenge.cw_contactnets_k81_pieces_and_rings_holds : PySem.Challenge.rw_contactnets_k81_pieces_and_rings.Holds := by
  w_on; o_law; k_head; (case hw => w_witness2)
  k_fill
  refine Z.walk_ofGT (l := PySem.Challenge.rw_contactnets_k81_pieces_and_rings) (n := 63) (k := 72) (x := "_law_script") (C := fun w => L2.CX PySem.Challenge.pw_contactnets_k81_pieces_and_rings w) rfl (by decide) (by decide) rfl ⟨rfl, by decide, by decide⟩ (fun w h Y => PySem.W.kIn_of Y) ?F (fun _ _ _ _ _ ⟨_, _, _, _, _, _, _, _, _, _, _, _, z⟩ => z)
  case F =>
    intro w mg fa h Y KX Gm hmg
    refine' LK.all_mk KX Gm hmg ?xa0 ?xl0 ?xc0 ?xk0 ?xa1 ?xl1 ?xc1 ?xk1 ?xa2 ?xl2 ?xc2 ?xk2 ?xa3 ?xl3 ?xc3 ?xk3 ?xa4 ?xl4 ?xc4 ?xk4 ?xa5 ?xl5 ?xc5 ?xk5 ?xa6 ?xl6 ?xc6 ?xk6 ?xa7 ?xl7 ?xc7 ?xk7 ?xa8 ?xl8 ?xc8 ?xk8 ?xa9 ?xl9 ?xc9 ?xk9 ?xa10 ?xl10 ?xc10 ?xk10 ?xa11 ?xl11 ?xc11 ?xk11 ?xa12 ?xl12 ?xc12 ?xk12 ?xa13 ?xl13 ?xc13 ?xk13 ?z0 ?z1 ?z2 ?z3 ?z4 ?z5 ?z6 ?z7 ?z8 ?z9 ?z10 ?z11 ?z12 ?z13 ?z14 ?z15 ?z16 ?z17 ?z18
    (case xa0 => k_is); (case xl0 => k_is); (case xc0 => k_is); (case xk0 => k_is); (case xa1 => k_is); (case xl1 => k_is); (case xc1 => k_is); (case xk1 => k_is); (case xa2 => k_is); (case xl2 => k_is); (case xc2 => k_is); (case xk2 => k_is); (case xa3 => k_is); (case xl3 => k_is); (case xc3 => k_is); (case xk3 => k_is); (case xa4 => k_is); (case xl4 => k_is); (case xc4 => k_is); (case xk4 => k_is); (case xa5 => k_is); (case xl5 => k_is); (case xc5 => k_is); (case xk5 => k_is); (case xa6 => k_is); (case xl6 => k_is); (case xc6 => k_is); (case xk6 => k_is); (case xa7 => k_is); (case xl7 => k_is); (case xc7 => k_is); (case xk7 => k_is); (case xa8 => k_is); (case xl8 => k_is); (case xc8 => k_is); (case xk8 => k_is); (case xa9 => k_is); (case xl9 => k_is); (case xc9 => k_is); (case xk9 => k_is); (case xa10 => k_is); (case xl10 => k_is); (case xc10 => k_is); (case xk10 => k_is); (case xa11 => k_is); (case xl11 => k_is); (case xc11 => k_is); (case xk11 => k_is); (case xa12 => k_is); (case xl12 => k_is); (case xc12 => k_is); (case xk12 => k_is); (case xa13 => k_is); (case xl13 => k_is); (case xc13 => k_is); (case xk13 => k_is); (case z0 => k_is); (case z1 => k_is); (case z2 => k_is); (case z3 => k_is); (case z4 => k_is); (case z5 => k_is); (case z6 => k_is); (case z7 => k_is); (case z8 => k_is); (case z9 => k_is); (case z10 => k_is); (case z11 => k_is); (case z12 => k_is); (case z13 => k_is); (case z14 => k_is); (case z15 => k_is); (case z16 => k_is); (case z17 => k_is); (case z18 => k_is)
